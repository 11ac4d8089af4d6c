import PyProof.Rows.All
import HandS.ForMost
import HandS.Wide
import HandS.Walk
import HandS.Zip
import HandS.Style
import HandS.TupAny
import HandS.IsInst
import HandS.Deep
import HandS.Conv
import HandS.Flow
import KE.KDictKeyed
import HandS.Lambda
import HandS.NoneIn
import KE.DatumIndex
import PyProof.ReprRoads
import HandS.EndBits
import KE.GoesEnum
import KE.GoesMore
import HandS.RaiseMore
import KE.GoesZip
import HandS.SortInts
import KE.DataMinMax
import KE.SortUse
import HandS.TupSets
import PyProof.Rows.IntBool
import PyProof.CallStr
import PyProof.StrLawsRepr
import PyProof.Rows.ReprOcc
import HandS.TupLen
import KE.KDictSum
import KE.SortKeyHeap
import PySem.Challenge.RW_cornerlines_k61_pieces_told
set_option Elab.async false
set_option linter.all false
set_option maxRecDepth 100000
namespace CL
open PySem PySem.Spec L2
set_option autoImplicit false
inductive D where
  | non | bl (b : Bool) | int (i : Int) | str (x : Str) | tup (l : List D) | lst (l : List D) | dct (ks vs : List D) | kdc (ks vs : List D) | ins (c : Str) (ns : List Str) (fs : List D) | scr (l : List Int)
inductive Res (α : Type) where
  | ok (a : α) | exc (d : D) | bad
abbrev Sl := List (Option D)
abbrev M (α : Type) := Sl → Res (α × Sl)
inductive OT where
  | sh | ol (t0 t : OT) | od | dv (t : OT)
inductive Md where
  | pk | ow (t : OT)
abbrev Md.sh : Md := .ow .sh
mutual
def D.nk : D → Option NestedKey
  | .int i => some (.num i)
  | .tup l => (D.nkL l).map .tup
  | _ => none
def D.nkL : List D → Option (List NestedKey)
  | [] => some []
  | d :: ds => match D.nk d, D.nkL ds with | some k, some ks => some (k :: ks) | _, _ => none
end
mutual
def hashK : NestedKey → Int
  | .none => 0
  | .num i => hashInt i
  | .text _ => 0
  | .tup ks => reduceHash (Builtin.Tuple.tupleHashOf (hashKs ks))
def hashKs : List NestedKey → List Int
  | [] => []
  | k :: ks => hashK k :: hashKs ks
end
/-- a key that may stand in a dict -/
def kOk : NestedKey → Bool
  | .tup ks => decide ((NestedKey.tup ks).depth ≤ 8)
  | _ => false
def ents : List (NestedKey × Addr × V) → List Value → List DictEntry
  | x :: xs, u :: us => ⟨hashK x.1, .ref x.2.1, u⟩ :: ents xs us
  | _, _ => []
/-- a dict with such keys: keys, where they stand, values -/
def KdO (a : Addr) (xs : List (NestedKey × Addr × V)) : HO := .ext fun h => xs.length ≤ sizeLine ∧ (a == sysModules) = false ∧ (xs.map (·.1)).Nodup ∧ (xs.all fun x => kOk x.1) = true ∧
  ∃ us : List Value, Vals (xs.map (·.2.2)) us ∧ ∃ o es ep, h.get? a = some o ∧ o.ExactDict ∧ o.data = .dict es ep ∧ es.toList = ents xs us
/-- no table -/
def NT : HO → Prop
  | .tbl _ => False
  | _ => True
/-- what may change -/
def Mut : HO → Prop
  | .lst _ => True
  | .dK _ => True
  | .dT _ => True
  | .ext φ => ∃ a xs, HO.ext φ = KdO a xs
  | _ => False
theorem mutK {a : Addr} {xs : List (NestedKey × Addr × V)} : Mut (KdO a xs) := ⟨a, xs, rfl⟩
theorem Mut.nt {o : HO} (h : Mut o) : NT o := by cases o <;> simp_all [Mut, NT]
/-- a code object never changes -/
theorem codeO_fix {c : Addr} {q : Str} : ¬ Mut (LamX.CodeO c q) := by
  rintro ⟨a, xs, e⟩
  unfold KdO at e
  have e := HO.ext.inj e
  obtain ⟨ob, hob⟩ : ∃ ob : Obj, ob = { cls := .none, data := .fields #[.none, .str q default] } := ⟨_, rfl⟩
  obtain ⟨h, hh⟩ : ∃ h : Heap, h = { objs := Array.replicate ((a : Nat) + c + 1) ob } := ⟨_, rfl⟩
  have g : ∀ b : Nat, b ≤ (a : Nat) + c → h.get? b = some ob := fun b hb => by
    subst hh
    unfold Heap.get?
    have : (Array.replicate ((a : Nat) + c + 1) ob)[b]? = some ob := by
      rw [Array.getElem?_replicate, if_pos (Nat.lt_succ_of_le hb)]
    simp only [this]
    subst hob
    rfl
  have p := congrFun e h
  have p1 : ∃ (oc : Obj) (vs : Array Value) (t : Tok), h.get? c = some oc ∧ oc.data = .fields vs ∧ vs[1]? = some (.str q t) := ⟨ob, _, _, g c (Nat.le_add_left _ _), by rw [hob], rfl⟩
  rw [show _ = _ from p] at p1
  obtain ⟨_, _, _, _, us, _, o, es, ep, e1, _, e3, _⟩ := p1
  rw [g a (Nat.le_add_right _ _)] at e1
  cases e1
  rw [hob] at e3
  cases e3
/-- what a table tells -/
def TabE (H : Hp) (ps : Array Value) (q : Str) : Prop := TriplesOk ps.toList ∧ ∀ (pos : Pos) (cv : Value), codeAmong pos ps.toList = some cv → ∃ c, cv = .ref c ∧ H c = some (LamX.CodeO c q)
/-- the tables that a law has -/
class Tb where
  l : List (Addr × Str)
def TbOk [Tb] (H : Hp) : Prop := ∀ p ∈ Tb.l, ∃ ps, H p.1 = some (.tbl ps) ∧ TabE H ps p.2
/-- tables stay tables -/
def TK [Tb] (H H' : Hp) : Prop := TbOk H → TbOk H'
theorem TK.refl [Tb] {H : Hp} : TK H H := fun t => t
theorem TK.trans [Tb] {H H1 H2 : Hp} (a : TK H H1) (b : TK H1 H2) : TK H H2 := fun t => b (a t)
theorem TK.of [Tb] {H H' : Hp} (h : ∀ a o, H a = some o → ¬ Mut o → H' a = some o) : TK H H' := fun t p hp => by
  obtain ⟨ps, e, t⟩ := t p hp
  refine ⟨ps, h _ _ e (fun m => m), t.1, fun pos cv hc => ?_⟩
  obtain ⟨c, e1, e2⟩ := t.2 pos cv hc
  exact ⟨c, e1, h _ _ e2 codeO_fix⟩
theorem TK.ok [Tb] {H H' : Hp} (h : TK H H') (t : TbOk H) : TbOk H' := h t
/-- what never changes stands -/
abbrev NL (H H' : Hp) : Prop := ∀ a o, H a = some o → ¬ Mut o → NT o → H' a = some o
/-- a list of the module's own -/
def KL (K : PySem.W.Frag) (a : Addr) (xs : List V) : Prop := ∀ H : Hp, SqL K H a xs
section
variable (K : PySem.W.Frag) (Z : Addr → Prop) (H : Hp)
mutual
def RSh : D → V → Prop
  | .non, v => v = .non
  | .bl b, v => v = .bl b
  | .int i, v => v = .int i
  | .str x, v => v = .str x
  | .tup l, v => ∃ a xs, v = .ref a ∧ SqT K H a xs ∧ RShL l xs
  | .lst l, v => ∃ a xs, v = .ref a ∧ Z a ∧ H a = some (.lst xs) ∧ RShL l xs
  | .scr ns, v => ∃ a, v = .ref a ∧ (Z a ∨ KL K a (ns.map V.int)) ∧ SqL K H a (ns.map V.int)
  | .dct ks vs, v => ∃ a kvs, v = .ref a ∧ Z a ∧ H a = some (.dK kvs) ∧ RShL ks (kvs.map fun p => kV p.1) ∧ RShL vs (kvs.map (·.2))
  | .kdc ks vs, v => ∃ a xs, v = .ref a ∧ Z a ∧ H a = some (KdO a xs) ∧ D.nkL ks = some (xs.map (·.1)) ∧ RShL ks (xs.map fun x => .ref x.2.1) ∧ RShL vs (xs.map (·.2.2))
  | .ins c ns fs, v => ∃ C a dx xs, v = .ref a ∧ PySem.W.nsIn K mainGlobals c = some (some (.ref C)) ∧ Cls K C ∧ (∀ f ∈ ns, NoAttr K C f) ∧ H a = some (.ins C dx (ns.zip xs)) ∧ ns.length = xs.length ∧ RShL fs xs
def RShL : List D → List V → Prop
  | [], vs => vs = []
  | d :: ds, vs => ∃ w ws, vs = w :: ws ∧ RSh d w ∧ RShL ds ws
end
def R : OT → D → V → (Addr → Prop) → Prop
  | .sh, d, v, _ => RSh K Z H d v
  | .ol t0 t, d, v, S => ∃ (l : List D) (a : Addr) (xs : List V) (ow : Addr → Option Nat), d = .lst l ∧ v = .ref a ∧ H a = some (.lst xs) ∧ S a ∧ ow a = none ∧ l.length = xs.length ∧
      (∀ d v, l[0]? = some d → xs[0]? = some v → R t0 d v (fun b => S b ∧ ow b = some 0)) ∧
      ∀ k d v, l[k + 1]? = some d → xs[k + 1]? = some v → R t d v (fun b => S b ∧ ow b = some (k + 1))
  | .od, d, v, S => ∃ ks vs a xs, d = .kdc ks vs ∧ v = .ref a ∧ H a = some (KdO a xs) ∧ S a ∧ D.nkL ks = some (xs.map (·.1)) ∧ RShL K Z H ks (xs.map fun x => .ref x.2.1) ∧ RShL K Z H vs (xs.map (·.2.2))
  | .dv t, d, v, S => ∃ (ks vs : List D) (a : Addr) (xs : List (NestedKey × Addr × V)) (ow : Addr → Option Nat), d = .kdc ks vs ∧ v = .ref a ∧ H a = some (KdO a xs) ∧ S a ∧ ow a = none ∧ D.nkL ks = some (xs.map (·.1)) ∧ RShL K Z H ks (xs.map fun x => .ref x.2.1) ∧ vs.length = xs.length ∧
      ∀ k d x, vs[k]? = some d → xs[k]? = some x → R t d x.2.2 (fun b => S b ∧ ow b = some k)
end
section
variable {K : PySem.W.Frag} {Z Z' : Addr → Prop} {H H' : Hp}
theorem RShL.len : ∀ {ds : List D} {vs : List V}, RShL K Z H ds vs → ds.length = vs.length
  | [], _, h => by simp only [RShL] at h; subst h; rfl
  | d :: ds, _, h => by
    simp only [RShL] at h
    obtain ⟨w, ws, rfl, _, h2⟩ := h
    simp [RShL.len h2]
theorem RShL.get : ∀ {ds : List D} {vs : List V} {i : Nat} {d : D}, RShL K Z H ds vs → ds[i]? = some d → ∃ v, vs[i]? = some v ∧ RSh K Z H d v
  | [], _, _, _, _, e => by simp at e
  | d :: ds, _, 0, d', h, e => by
    simp only [RShL] at h
    obtain ⟨w, ws, rfl, h1, h2⟩ := h
    simp at e; subst e
    exact ⟨w, by simp, h1⟩
  | d :: ds, _, i + 1, d', h, e => by
    simp only [RShL] at h
    obtain ⟨w, ws, rfl, h1, h2⟩ := h
    obtain ⟨v, e1, e2⟩ := RShL.get (i := i) h2 (by simpa using e)
    exact ⟨v, by simpa using e1, e2⟩
theorem RShL.getV : ∀ {ds : List D} {vs : List V} {i : Nat} {v : V}, RShL K Z H ds vs → vs[i]? = some v → ∃ d, ds[i]? = some d ∧ RSh K Z H d v
  | [], _, _, _, h, e => by simp only [RShL] at h; subst h; simp at e
  | d :: ds, _, 0, d', h, e => by
    simp only [RShL] at h
    obtain ⟨w, ws, rfl, h1, h2⟩ := h
    simp at e; subst e
    exact ⟨d, by simp, h1⟩
  | d :: ds, _, i + 1, d', h, e => by
    simp only [RShL] at h
    obtain ⟨w, ws, rfl, h1, h2⟩ := h
    obtain ⟨v, e1, e2⟩ := RShL.getV (i := i) h2 (by simpa using e)
    exact ⟨v, by simpa using e1, e2⟩
theorem RShL.of_get : ∀ {ds : List D} {vs : List V}, ds.length = vs.length → (∀ (i : Nat) d v, ds[i]? = some d → vs[i]? = some v → RSh K Z H d v) → RShL K Z H ds vs
  | [], vs, hl, _ => by
    simp only [RShL]
    exact List.eq_nil_of_length_eq_zero (by simpa using hl.symm)
  | d :: ds, [], hl, _ => by simp at hl
  | d :: ds, v :: vs, hl, h => by
    simp only [RShL]
    exact ⟨v, vs, rfl, h 0 d v (by simp) (by simp), RShL.of_get (by simpa using hl) fun i a b e1 e2 => h (i + 1) a b (by simpa using e1) (by simpa using e2)⟩
theorem RShL.append : ∀ {ds es : List D} {vs ws : List V}, RShL K Z H ds vs → RShL K Z H es ws → RShL K Z H (ds ++ es) (vs ++ ws)
  | [], _, _, _, h, g => by simp only [RShL] at h; subst h; simpa using g
  | d :: ds, es, _, ws, h, g => by
    simp only [RShL] at h
    obtain ⟨w, us, rfl, h1, h2⟩ := h
    simp only [List.cons_append, RShL]
    exact ⟨w, us ++ ws, rfl, h1, RShL.append h2 g⟩
theorem RShL.one {d : D} {v : V} (h : RSh K Z H d v) : RShL K Z H [d] [v] := by simp only [RShL]; exact ⟨v, [], rfl, h, rfl⟩
theorem RShL.take {ds : List D} {vs : List V} (n : Nat) (h : RShL K Z H ds vs) : RShL K Z H (ds.take n) (vs.take n) :=
  .of_get (by simp [h.len]) fun i d v e1 e2 => by
    rw [List.getElem?_take] at e1 e2
    split at e1
    · rename_i hi
      rw [if_pos hi] at e2
      obtain ⟨w, a, b⟩ := h.get e1
      rw [e2] at a; cases a; exact b
    · cases e1
theorem RShL.drop {ds : List D} {vs : List V} (n : Nat) (h : RShL K Z H ds vs) : RShL K Z H (ds.drop n) (vs.drop n) :=
  .of_get (by simp [h.len]) fun i d v e1 e2 => by
    rw [List.getElem?_drop] at e1 e2
    obtain ⟨w, a, b⟩ := h.get e1
    rw [e2] at a; cases a; exact b
theorem RShL.reverse {ds : List D} {vs : List V} (h : RShL K Z H ds vs) : RShL K Z H ds.reverse vs.reverse :=
  .of_get (by simp [h.len]) fun i d v e1 e2 => by
    have hl := h.len
    have hi : i < ds.length := by
      have := (List.getElem?_eq_some_iff.mp e1).1
      simpa using this
    rw [List.getElem?_reverse hi] at e1
    rw [List.getElem?_reverse (by omega)] at e2
    obtain ⟨w, a, b⟩ := h.get e1
    rw [← hl, a] at e2; cases e2; exact b
theorem sqL_keep {a : Addr} {xs : List V} (h : ∀ o, H a = some o → NT o → H' a = some o) (q : SqL K H a xs) : SqL K H' a xs := by
  rcases q with (q | ⟨o, q⟩) | q
  · exact .inl (.inl (h _ q True.intro))
  · exact .inl (.inr ⟨o, h _ q True.intro⟩)
  · exact .inr q
theorem NL.sqT (h : NL H H') {a : Addr} {xs : List V} (s : SqT K H a xs) : SqT K H' a xs := by
  rcases s with (s | ⟨o, s⟩) | s
  · exact .inl (.inl (h a _ s (by simp [Mut]) True.intro))
  · exact .inl (.inr ⟨o, h a _ s (by simp [Mut]) True.intro⟩)
  · exact .inr s
mutual
theorem RSh.pres (h1 : ∀ a, Z a → Z' a) (h2 : NL H H') (h3 : ∀ a o, Z a → H a = some o → NT o → H' a = some o) : ∀ (d : D) (v : V), RSh K Z H d v → RSh K Z' H' d v
  | .non, _, h => by simpa only [RSh] using h
  | .bl _, _, h => by simpa only [RSh] using h
  | .int _, _, h => by simpa only [RSh] using h
  | .str _, _, h => by simpa only [RSh] using h
  | .tup l, _, h => by
    simp only [RSh] at h ⊢
    obtain ⟨a, xs, e, q, r⟩ := h
    exact ⟨a, xs, e, NL.sqT h2 q, RShL.pres h1 h2 h3 l xs r⟩
  | .lst l, _, h => by
    simp only [RSh] at h ⊢
    obtain ⟨a, xs, e, z, q, r⟩ := h
    exact ⟨a, xs, e, h1 a z, h3 a _ z q True.intro, RShL.pres h1 h2 h3 l xs r⟩
  | .scr ns, _, h => by
    simp only [RSh] at h ⊢
    obtain ⟨a, e, z, q⟩ := h
    exact ⟨a, e, z.imp (h1 a) id, z.elim (fun z => sqL_keep (fun o e n => h3 a o z e n) q) (fun z => z H')⟩
  | .dct ks vs, _, h => by
    simp only [RSh] at h ⊢
    obtain ⟨a, kvs, e, z, q, r1, r2⟩ := h
    exact ⟨a, kvs, e, h1 a z, h3 a _ z q True.intro, RShL.pres h1 h2 h3 ks _ r1, RShL.pres h1 h2 h3 vs _ r2⟩
  | .kdc ks vs, _, h => by
    simp only [RSh] at h ⊢
    obtain ⟨a, xs, e, z, q, n, r1, r2⟩ := h
    exact ⟨a, xs, e, h1 a z, h3 a _ z q True.intro, n, RShL.pres h1 h2 h3 ks _ r1, RShL.pres h1 h2 h3 vs _ r2⟩
  | .ins c ns fs, _, h => by
    simp only [RSh] at h ⊢
    obtain ⟨C, a, dx, xs, e, k1, k2, k3, q, l, r⟩ := h
    exact ⟨C, a, dx, xs, e, k1, k2, k3, h2 a _ q (by simp [Mut]) True.intro, l, RShL.pres h1 h2 h3 fs xs r⟩
theorem RShL.pres (h1 : ∀ a, Z a → Z' a) (h2 : NL H H') (h3 : ∀ a o, Z a → H a = some o → NT o → H' a = some o) : ∀ (ds : List D) (vs : List V), RShL K Z H ds vs → RShL K Z' H' ds vs
  | [], _, h => by simpa only [RShL] using h
  | d :: ds, _, h => by
    simp only [RShL] at h ⊢
    obtain ⟨w, ws, e, a, b⟩ := h
    exact ⟨w, ws, e, RSh.pres h1 h2 h3 d w a, RShL.pres h1 h2 h3 ds ws b⟩
end
theorem RSh.monoZ {d : D} {v : V} (h1 : ∀ a, Z a → Z' a) (h : RSh K Z H d v) : RSh K Z' H d v := RSh.pres h1 (fun _ _ q _ _ => q) (fun _ _ _ q _ => q) d v h
theorem RShL.monoZ {d : List D} {v : List V} (h1 : ∀ a, Z a → Z' a) (h : RShL K Z H d v) : RShL K Z' H d v := RShL.pres h1 (fun _ _ q _ _ => q) (fun _ _ _ q _ => q) d v h
theorem R.mono : ∀ {t : OT} {d : D} {v : V} {S S' : Addr → Prop}, R K Z H t d v S → (∀ a, S a → S' a) → R K Z H t d v S'
  | .sh, _, _, _, _, h, _ => h
  | .ol t0 t, _, _, _, _, h, m => by
    obtain ⟨l, a, xs, ow, e1, e2, e3, e4, e5, e6, e7, e8⟩ := h
    exact ⟨l, a, xs, ow, e1, e2, e3, m a e4, e5, e6, fun d v p q => R.mono (e7 d v p q) fun b hb => ⟨m b hb.1, hb.2⟩, fun k d v p q => R.mono (e8 k d v p q) fun b hb => ⟨m b hb.1, hb.2⟩⟩
  | .od, _, _, _, _, h, m => by
    obtain ⟨ks, vs, a, xs, e1, e2, e3, e4, e5⟩ := h
    exact ⟨ks, vs, a, xs, e1, e2, e3, m a e4, e5⟩
  | .dv t, _, _, _, _, h, m => by
    obtain ⟨ks, vs, a, xs, ow, e1, e2, e3, e4, e5, e6, e7, e8, e9⟩ := h
    exact ⟨ks, vs, a, xs, ow, e1, e2, e3, m a e4, e5, e6, e7, e8, fun k d x p q => R.mono (e9 k d x p q) fun b hb => ⟨m b hb.1, hb.2⟩⟩
theorem R.pres (h1 : ∀ a, Z a → Z' a) (h2 : NL H H') (h3 : ∀ a o, Z a → H a = some o → NT o → H' a = some o) :
    ∀ {t : OT} {d : D} {v : V} {S : Addr → Prop}, (∀ a o, S a → H a = some o → NT o → H' a = some o) → R K Z H t d v S → R K Z' H' t d v S
  | .sh, d, v, _, _, h => RSh.pres h1 h2 h3 d v h
  | .ol t0 t, _, _, S, m, h => by
    obtain ⟨l, a, xs, ow, e1, e2, e3, e4, e5, e6, e7, e8⟩ := h
    exact ⟨l, a, xs, ow, e1, e2, m a _ e4 e3 True.intro, e4, e5, e6, fun d v p q => R.pres h1 h2 h3 (fun b ys hb e n => m b ys hb.1 e n) (e7 d v p q), fun k d v p q => R.pres h1 h2 h3 (fun b ys hb e n => m b ys hb.1 e n) (e8 k d v p q)⟩
  | .od, _, _, S, m, h => by
    obtain ⟨ks, vs, a, xs, e1, e2, e3, e4, e5, e6, e7⟩ := h
    exact ⟨ks, vs, a, xs, e1, e2, m a _ e4 e3 True.intro, e4, e5, RShL.pres h1 h2 h3 ks _ e6, RShL.pres h1 h2 h3 vs _ e7⟩
  | .dv t, _, _, S, m, h => by
    obtain ⟨ks, vs, a, xs, ow, e1, e2, e3, e4, e5, e6, e7, e8, e9⟩ := h
    exact ⟨ks, vs, a, xs, ow, e1, e2, m a _ e4 e3 True.intro, e4, e5, e6, RShL.pres h1 h2 h3 ks _ e7, e8, fun k d x p q => R.pres h1 h2 h3 (fun b ys hb e n => m b ys hb.1 e n) (e9 k d x p q)⟩
/-- what is owned may be shared from now on -/
theorem R.freeze : ∀ {t : OT} {d : D} {v : V} {S : Addr → Prop}, R K Z H t d v S → RSh K (fun a => Z a ∨ S a) H d v
  | .sh, d, v, _, h => RSh.monoZ (fun _ z => .inl z) h
  | .ol t0 t, _, _, S, h => by
    obtain ⟨l, a, xs, ow, rfl, rfl, e3, e4, e5, e6, e7, e8⟩ := h
    simp only [RSh]
    refine ⟨a, xs, rfl, .inr e4, e3, .of_get e6 fun i d v p q => ?_⟩
    cases i with
    | zero => exact RSh.monoZ (fun b z => z.elim .inl fun z => .inr z.1) (R.freeze (e7 d v p q))
    | succ k => exact RSh.monoZ (fun b z => z.elim .inl fun z => .inr z.1) (R.freeze (e8 k d v p q))
  | .od, _, _, S, h => by
    obtain ⟨ks, vs, a, xs, rfl, rfl, e3, e4, e5, e6, e7⟩ := h
    simp only [RSh]
    exact ⟨a, xs, rfl, .inr e4, e3, e5, RShL.monoZ (fun _ z => .inl z) e6, RShL.monoZ (fun _ z => .inl z) e7⟩
  | .dv t, _, _, S, h => by
    obtain ⟨ks, vs, a, xs, ow, rfl, rfl, e3, e4, e5, e6, e7, e8, e9⟩ := h
    simp only [RSh]
    refine ⟨a, xs, rfl, .inr e4, e3, e6, RShL.monoZ (fun _ z => .inl z) e7, .of_get (by simpa using e8) fun k d v p q => ?_⟩
    rw [List.getElem?_map] at q
    obtain ⟨x, hx, e⟩ := Option.map_eq_some_iff.mp q
    subst e
    exact RSh.monoZ (fun b z => z.elim .inl fun z => .inr z.1) (R.freeze (e9 k d x p hx))
end
structure RS [Tb] (K : PySem.W.Frag) (τ : Nat → OT) (Z : Addr → Prop) (own : Addr → Option Nat) (H : Hp) (ρ : Sl) (σ : St) : Prop where
  sl : ∀ i d, ρ[i]? = some (some d) → ∃ v, σ[i]? = some (some v) ∧ R K Z H (τ i) d v (fun a => own a = some i)
  ls : ∀ a i, own a = some i → ∃ o, H a = some o ∧ Mut o
  dz : ∀ a i, own a = some i → ¬ Z a
  zt : ∀ a, Z a → H a ≠ none
  len : ρ.length ≤ σ.length
  tb : TbOk H
/-- a step: what was shared is shared, what stood stands but for what is owned; fx tells the slots that may not be given up -/
structure ExtF [Tb] (fx : Nat → Bool) (q : Bool) (Z : Addr → Prop) (own : Addr → Option Nat) (H : Hp) (Z' : Addr → Prop) (own' : Addr → Option Nat) (H' : Hp) : Prop where
  z : ∀ a, Z a → Z' a
  zn : ∀ a, Z' a → Z a ∨ H a = none ∨ ∃ i, own a = some i ∧ fx i = false
  on : ∀ a i, own' a = some i → own a = some i ∨ H a = none
  keep : ∀ a o, H a = some o → (own a = none ∨ q = true) → (n : NT o := by first | exact True.intro | assumption | exact Mut.nt (by assumption)) → H' a = some o
  live : ∀ a, H a ≠ none → H' a ≠ none
  tk : TK H H'
abbrev fxT : Nat → Bool := fun _ => true
abbrev Ext [Tb] (q : Bool) (Z : Addr → Prop) (own : Addr → Option Nat) (H : Hp) (Z' : Addr → Prop) (own' : Addr → Option Nat) (H' : Hp) : Prop := ExtF fxT q Z own H Z' own' H'
section
variable [Tb] {K : PySem.W.Frag} {τ : Nat → OT} {Z Z1 Z2 : Addr → Prop} {own own1 own2 : Addr → Option Nat} {H H1 H2 : Hp} {ρ : Sl} {σ : St} {q q1 q2 : Bool} {fx : Nat → Bool}
theorem ExtF.kp (x : ExtF fx q Z own H Z1 own1 H1) : ∀ a o, H a = some o → (own a = none ∨ q = true) → NT o → H1 a = some o := fun a o e h n => x.keep a o e h n
theorem ExtF.refl : ExtF fx q Z own H Z own H := ⟨fun _ z => z, fun _ z => .inl z, fun _ _ z => .inl z, fun _ _ e _ _ => e, fun _ e => e, .refl⟩
theorem ExtF.back (a : ExtF fx q Z own H Z1 own1 H1) {c : Addr} (e : H1 c = none) : H c = none := Classical.byContradiction fun n => a.live c n e
theorem ExtF.trans (a : ExtF fx q1 Z own H Z1 own1 H1) (b : ExtF fx q2 Z1 own1 H1 Z2 own2 H2) : ExtF fx (q1 && q2) Z own H Z2 own2 H2 where
  z := fun c h => b.z c (a.z c h)
  zn := fun c h => by
    rcases b.zn c h with h | h | ⟨i, h, hf⟩
    · exact a.zn c h
    · exact .inr (.inl (a.back h))
    · exact (a.on c i h).elim (fun z => .inr (.inr ⟨i, z, hf⟩)) fun z => .inr (.inl z)
  on := fun c i h => (b.on c i h).elim (a.on c i) fun e => .inr (a.back e)
  keep := fun c o e h n => by
    rcases h with h | h
    · refine b.keep c o (a.keep c o e (.inl h)) (.inl (Classical.byContradiction fun n => ?_))
      cases ho : own1 c with
      | none => exact n ho
      | some i =>
        rcases a.on c i ho with z | z
        · rw [h] at z; cases z
        · rw [e] at z; cases z
    · simp only [Bool.and_eq_true] at h
      exact b.keep c o (a.keep c o e (.inr h.1)) (.inr h.2)
  live := fun c h => b.live c (a.live c h)
  tk := a.tk.trans b.tk
theorem ExtF.weak (a : ExtF fx q Z own H Z1 own1 H1) : ExtF fx false Z own H Z1 own1 H1 := ⟨a.z, a.zn, a.on, fun c o e h n => a.keep c o e (h.elim .inl fun z => nomatch z), a.live, a.tk⟩
theorem ExtF.transF (a : ExtF fx q1 Z own H Z1 own1 H1) (b : ExtF fx q2 Z1 own1 H1 Z2 own2 H2) : ExtF fx false Z own H Z2 own2 H2 := (a.trans b).weak
theorem ExtF.any (a : Ext q Z own H Z1 own1 H1) : ExtF fx q Z own H Z1 own1 H1 := ⟨a.z, fun c h => (a.zn c h).elim .inl (fun h => h.elim (fun z => .inr (.inl z)) (fun ⟨_, _, z⟩ => absurd z (by simp))), a.on, fun c o e h n => a.keep c o e h n, a.live, a.tk⟩
theorem RS.nl (h : RS K τ Z own H ρ σ) (e : ExtF fx q Z own H Z1 own1 H1) : NL H H1 := fun a u hu hn n => e.keep a u hu (.inl (by
    cases ho : own a with
    | none => rfl
    | some i =>
      obtain ⟨ys, hy, hm⟩ := h.ls a i ho
      rw [hu] at hy
      cases hy
      exact absurd hm hn))
theorem RS.sqT (h : RS K τ Z own H ρ σ) (e : ExtF fx q Z own H Z1 own1 H1) {a : Addr} {xs : List V} (s : SqT K H a xs) : SqT K H1 a xs := NL.sqT (h.nl e) s
theorem RS.kz (h : RS K τ Z own H ρ σ) (e : ExtF fx q Z own H Z1 own1 H1) {a : Addr} {u : HO} (z : Z a ∨ q = true) (hu : H a = some u) (n : NT u := by first | exact True.intro | assumption | exact Mut.nt (by assumption)) : H1 a = some u := e.keep a u hu (z.elim (fun z => .inl (by
    cases ho : own a with
    | none => rfl
    | some i => exact absurd z (h.dz a i ho))) .inr)
theorem RS.sh (h : RS K τ Z own H ρ σ) (e : ExtF fx q Z own H Z1 own1 H1) {d : D} {v : V} (r : RSh K Z H d v) : RSh K Z1 H1 d v :=
  RSh.pres e.z (h.nl e) (fun _ _ z s n => h.kz e (.inl z) s) d v r
theorem RS.shL (h : RS K τ Z own H ρ σ) (e : ExtF fx q Z own H Z1 own1 H1) {d : List D} {v : List V} (r : RShL K Z H d v) : RShL K Z1 H1 d v :=
  RShL.pres e.z (h.nl e) (fun _ _ z s n => h.kz e (.inl z) s) d v r
/-- a value that is owned by none of the slots -/
theorem RS.apart (h : RS K τ Z own H ρ σ) (e : ExtF fx q Z own H Z1 own1 H1) {t : OT} {d : D} {v : V} {S : Addr → Prop} (hS : ∀ a, S a → own a = none) (r : R K Z H t d v S) : R K Z1 H1 t d v S :=
  R.pres e.z (h.nl e) (fun _ _ z s n => h.kz e (.inl z) s) (fun a xs s hx n => e.keep a _ hx (.inl (hS a s))) r
end
/-- a value at hand: shared, or a list that a slot owns whose items are shared -/
def RPk (K : PySem.W.Frag) (Z : Addr → Prop) (own : Addr → Option Nat) (H : Hp) (d : D) (v : V) : Prop :=
  RSh K Z H d v ∨ ∃ l a xs, d = .lst l ∧ v = .ref a ∧ H a = some (.lst xs) ∧ own a ≠ none ∧ RShL K Z H l xs
/-- what is known of a value just told -/
def Rm (K : PySem.W.Frag) (Z : Addr → Prop) (own : Addr → Option Nat) (H : Hp) : Md → D → V → (Addr → Prop) → Prop
  | .pk, d, v, _ => RPk K Z own H d v
  | .ow t, d, v, S => R K Z H t d v S
/-- a region of new lists -/
def NewR (H : Hp) (Z' : Addr → Prop) (own' : Addr → Option Nat) (H' : Hp) (S : Addr → Prop) : Prop := ∀ a, S a → H a = none ∧ own' a = none ∧ ¬ Z' a ∧ ∃ o, H' a = some o ∧ Mut o
def tE [Tb] (K : PySem.W.Frag) (τ : Nat → OT) (q : Bool) (md : Md) (m : M D) : TE := fun σ H Q => ∃ Z own ρ d ρ', RS K τ Z own H ρ σ ∧ m ρ = .ok (d, ρ') ∧
  ∀ v Z' own' H' S, RS K τ Z' own' H' ρ' σ → Rm K Z' own' H' md d v S → NewR H Z' own' H' S → Ext q Z own H Z' own' H' → Q v H'
theorem _root_.L2.PE.mono {X : Cx} {e : Expr} {t t' : TE} (h : PE X e t) (f : ∀ σ H Q, t' σ H Q → t σ H Q) : PE X e t' := ⟨fun pins s σ H Q I hw => h.run pins s σ H Q I (f σ H Q hw)⟩
theorem _root_.L2.PT.mono {X : Cx} {e : Expr} {t t' : TT} (h : PT X e t) (f : ∀ σ H Q, t' σ H Q → t σ H Q) : PT X e t' := ⟨fun pins s σ H Q I hw => h.run pins s σ H Q I (f σ H Q hw)⟩
theorem _root_.L2.PA.mono {X : Cx} {e : List Expr} {t t' : TA} (h : PA X e t) (f : ∀ σ H Q, t' σ H Q → t σ H Q) : PA X e t' := ⟨fun pins n s σ H Q I hw => h.run pins n s σ H Q I (f σ H Q hw)⟩
theorem _root_.L2.PS.mono {X : Cx} {e : Stmt} {t t' : TS} (h : PS X e t) (f : ∀ D σ H, t' D σ H → t D σ H) : PS X e t' := ⟨fun pins s σ H Q I hw => h.run pins s σ H Q I (f Q σ H hw)⟩
theorem _root_.L2.PSs.mono {X : Cx} {e : List Stmt} {t t' : TS} (h : PSs X e t) (f : ∀ D σ H, t' D σ H → t D σ H) : PSs X e t' := ⟨fun pins s σ H Q I hw => h.run pins s σ H Q I (f Q σ H hw)⟩
theorem _root_.L2.PI.mono {X : Cx} {tg e : Expr} {t t' : TI} (h : PI X tg e t) (f : ∀ σ H Q, t' σ H Q → t σ H Q) : PI X tg e t' := ⟨fun pins s σ H Q I hw => h.run pins s σ H Q I (f σ H Q hw)⟩
end CL
namespace CL
open PySem PySem.Spec L2
set_option autoImplicit false
def bind {α β : Type} (m : M α) (f : α → M β) : M β := fun ρ => match m ρ with | .ok (a, ρ') => f a ρ' | .exc e => .exc e | .bad => .bad
def ofO (o : Option D) : M D := fun ρ => match o with | some d => .ok (d, ρ) | none => .bad
def mC (d : D) : M D := fun ρ => .ok (d, ρ)
def mV (i : Nat) : M D := fun ρ => match ρ[i]? with | some (some d) => .ok (d, ρ) | _ => .bad
def m1 (f : D → Option D) (a : M D) : M D := bind a fun x => ofO (f x)
def m2 (f : D → D → Option D) (a b : M D) : M D := bind a fun x => bind b fun y => ofO (f x y)
def mNil : M (List D) := fun ρ => .ok ([], ρ)
def mCons (a : M D) (r : M (List D)) : M (List D) := bind a fun x => bind r fun xs => fun ρ => .ok (x :: xs, ρ)
def mN (f : List D → Option D) (as : M (List D)) : M D := bind as fun xs => ofO (f xs)
theorem bind_ok {α β : Type} {m : M α} {f : α → M β} {ρ ρ'' : Sl} {b : β} (h : bind m f ρ = .ok (b, ρ'')) : ∃ a ρ', m ρ = .ok (a, ρ') ∧ f a ρ' = .ok (b, ρ'') := by
  unfold bind at h
  split at h
  · rename_i a ρ' e; exact ⟨a, ρ', e, h⟩
  · cases h
  · cases h
theorem bind_of {α β : Type} {m : M α} {f : α → M β} {ρ ρ' : Sl} {a : α} (h : m ρ = .ok (a, ρ')) : bind m f ρ = f a ρ' := by unfold bind; rw [h]
theorem ofO_ok {o : Option D} {ρ ρ' : Sl} {d : D} (h : ofO o ρ = .ok (d, ρ')) : o = some d ∧ ρ' = ρ := by
  unfold ofO at h
  split at h
  · cases h; exact ⟨rfl, rfl⟩
  · cases h
/-- a value at hand, whoever owns it -/
def Pk0 (K : PySem.W.Frag) (Z : Addr → Prop) (H : Hp) (d : D) (v : V) : Prop :=
  RSh K Z H d v ∨ ∃ l a xs, d = .lst l ∧ v = .ref a ∧ H a = some (.lst xs) ∧ RShL K Z H l xs
def Pk0L (K : PySem.W.Frag) (Z : Addr → Prop) (H : Hp) : List D → List V → Prop
  | [], vs => vs = []
  | d :: ds, vs => ∃ w ws, vs = w :: ws ∧ Pk0 K Z H d w ∧ Pk0L K Z H ds ws
structure Grow [Tb] (H H' : Hp) : Prop where
  at_ : ∀ a o, H a = some o → NT o → H' a = some o
  tk : TK H H'
  live : ∀ a, H a ≠ none → H' a ≠ none
theorem Grow.of [Tb] {H H' : Hp} (h : ∀ a o, H a = some o → H' a = some o) : Grow H H' := ⟨fun a o e _ => h a o e, .of fun a o e _ => h a o e, fun a n z => by
  cases e : H a with
  | none => exact n e
  | some o => rw [h a o e] at z; cases z⟩
def NewS (H H' : Hp) (S : Addr → Prop) : Prop := ∀ a, S a → H a = none ∧ ∃ o, H' a = some o ∧ Mut o
/-- a shared value, or a new list of shared ones -/
def RF (K : PySem.W.Frag) (Z : Addr → Prop) (H : Hp) (d : D) (v : V) (S : Addr → Prop) : Prop := RSh K Z H d v ∨ R K Z H (.ol .sh .sh) d v S
def rF1 [Tb] (K : PySem.W.Frag) (f : D → Option D) : V → Hp → VK → Prop := fun x H Q => ∃ Z a d, Pk0 K Z H a x ∧ f a = some d ∧ ∀ v H' S, Grow H H' → RF K Z H' d v S → NewS H H' S → Q v H'
def rF2 [Tb] (K : PySem.W.Frag) (f : D → D → Option D) : R2 := fun x y H Q => ∃ Z a b d, Pk0 K Z H a x ∧ Pk0 K Z H b y ∧ f a b = some d ∧ ∀ v H' S, Grow H H' → RF K Z H' d v S → NewS H H' S → Q v H'
def rFn [Tb] (K : PySem.W.Frag) (f : List D → Option D) : List V → Hp → VK → Prop := fun xs H Q => ∃ Z ds d, Pk0L K Z H ds xs ∧ f ds = some d ∧ ∀ v H' S, Grow H H' → RF K Z H' d v S → NewS H H' S → Q v H'
theorem Grow.refl [Tb] {H : Hp} : Grow H H := ⟨fun _ _ e _ => e, .refl, fun _ e => e⟩
theorem Grow.trans [Tb] {H H1 H2 : Hp} (a : Grow H H1) (b : Grow H1 H2) : Grow H H2 := ⟨fun c o e n => b.at_ c o (a.at_ c o e n) n, a.tk.trans b.tk, fun c e => b.live c (a.live c e)⟩
theorem Grow.new [Tb] {H : Hp} {p : Addr} {o : HO} (h : H p = none) : Grow H (upd H p o) := .of fun a u e => by rw [upd_ne (ne_of_none e h)]; exact e
theorem NewS.none [Tb] {H H' : Hp} : NewS H H' fun _ => False := fun _ h => h.elim
theorem NewS.one [Tb] {H : Hp} {p : Addr} {o : HO} (hm : Mut o) (h : H p = .none) : NewS H (upd H p o) (fun a => a = p) := fun a e => by subst e; exact ⟨h, o, upd_same, hm⟩
section
variable [Tb] {K : PySem.W.Frag} {τ : Nat → OT} {Z Z1 Z2 : Addr → Prop} {own own1 own2 : Addr → Option Nat} {H H' H1 H2 : Hp} {ρ : Sl} {σ : St} {q q1 q2 : Bool} {S : Addr → Prop}
theorem Grow.sqT (g : Grow H H') {a : Addr} {xs : List V} (s : SqT K H a xs) : SqT K H' a xs := by
  rcases s with (s | ⟨o, s⟩) | s
  · exact .inl (.inl (g.at_ _ _ s True.intro))
  · exact .inl (.inr ⟨o, g.at_ _ _ s True.intro⟩)
  · exact .inr s
theorem Grow.sh (g : Grow H H') {d : D} {v : V} (h : RSh K Z H d v) : RSh K Z H' d v := RSh.pres (fun _ z => z) (fun a o e _ n => g.at_ a o e n) (fun a o _ e n => g.at_ a o e n) d v h
theorem Grow.shL (g : Grow H H') {d : List D} {v : List V} (h : RShL K Z H d v) : RShL K Z H' d v := RShL.pres (fun _ z => z) (fun a o e _ n => g.at_ a o e n) (fun a o _ e n => g.at_ a o e n) d v h
theorem Grow.r (g : Grow H H') {t : OT} {d : D} {v : V} (h : R K Z H t d v S) : R K Z H' t d v S := R.pres (fun _ z => z) (fun a o e _ n => g.at_ a o e n) (fun a o _ e n => g.at_ a o e n) (fun a xs _ e n => g.at_ a _ e n) h
theorem RF.freeze {d : D} {v : V} (h : RF K Z H d v S) : RSh K (fun a => Z a ∨ S a) H d v := h.elim (RSh.monoZ fun _ => .inl) R.freeze
theorem RF.list {l : List D} {p : Addr} {xs : List V} (h : RShL K Z H l xs) (e : H p = some (.lst xs)) : RF K Z H (.lst l) (.ref p) (fun a => a = p) :=
  .inr ⟨l, p, xs, fun a => if a = p then Option.none else some 0, rfl, rfl, e, rfl, by simp, h.len, fun d v e1 e2 => by
    obtain ⟨w, a, b⟩ := h.get e1
    rw [e2] at a; cases a; exact b, fun k d v e1 e2 => by
    obtain ⟨w, a, b⟩ := h.get e1
    rw [e2] at a; cases a; exact b⟩
theorem RF.tup {l : List D} {p : Addr} {xs : List V} (h : RShL K Z H l xs) (e : SqT K H p xs) : RF K Z H (.tup l) (.ref p) (fun _ => False) := .inl (by simp only [RSh]; exact ⟨p, xs, rfl, e, h⟩)
theorem RPk.pk0 {d : D} {v : V} (h : RPk K Z own H d v) : Pk0 K Z H d v := h.elim .inl fun ⟨l, a, xs, e1, e2, e3, _, e5⟩ => .inr ⟨l, a, xs, e1, e2, e3, e5⟩
theorem RS.grow (h : RS K τ Z own H ρ σ) (g : Grow H H') (n : NewS H H' S) : RS K τ (fun a => Z a ∨ S a) own H' ρ σ where
  sl := fun i d e => by
    obtain ⟨v, e1, e2⟩ := h.sl i d e
    exact ⟨v, e1, R.pres (fun _ z => .inl z) (fun a o e _ n => g.at_ a o e n) (fun a o _ e n => g.at_ a o e n) (fun a xs _ e n => g.at_ a _ e n) e2⟩
  ls := fun a i e => by
    obtain ⟨xs, hx, hm⟩ := h.ls a i e
    exact ⟨xs, g.at_ a _ hx hm.nt, hm⟩
  dz := fun a i e z => by
    rcases z with z | z
    · exact h.dz a i e z
    · obtain ⟨xs, hx, _⟩ := h.ls a i e
      rw [(n a z).1] at hx; cases hx
  zt := fun a z => z.elim (fun z e => g.live a (h.zt a z) e) fun z e => by obtain ⟨xs, hx, _⟩ := (n a z).2; rw [hx] at e; cases e
  len := h.len
  tb := g.tk.ok h.tb
theorem ExtF.grow {fx : Nat → Bool} (g : Grow H H') (n : NewS H H' S) : ExtF fx q Z own H (fun a => Z a ∨ S a) own H' :=
  ⟨fun _ z => .inl z, fun a z => z.elim .inl fun z => .inr (.inl (n a z).1), fun _ _ z => .inl z, fun a o e _ n => g.at_ a o e n, fun a e z => g.live a e z, g.tk⟩
theorem ExtF.growO {fx : Nat → Bool} (g : Grow H H') : ExtF fx q Z own H Z own H' :=
  ⟨fun _ z => z, fun a z => .inl z, fun _ _ z => .inl z, fun a o e _ n => g.at_ a o e n, fun a e z => g.live a e z, g.tk⟩
theorem RS.growO (h : RS K τ Z own H ρ σ) (g : Grow H H') : RS K τ Z own H' ρ σ where
  sl := fun i d e => by
    obtain ⟨v, e1, e2⟩ := h.sl i d e
    exact ⟨v, e1, R.pres (fun _ z => z) (fun a o e _ n => g.at_ a o e n) (fun a o _ e n => g.at_ a o e n) (fun a xs _ e n => g.at_ a _ e n) e2⟩
  ls := fun a i e => by
    obtain ⟨xs, hx, hm⟩ := h.ls a i e
    exact ⟨xs, g.at_ a _ hx hm.nt, hm⟩
  dz := h.dz
  zt := fun a z e => by
    exact g.live a (h.zt a z) e
  len := h.len
  tb := g.tk.ok h.tb
/-- what is at hand stays at hand -/
def Hand : Md → Prop
  | .pk => True
  | .ow .sh => True
  | .ow (.ol _ _) => False
  | .ow .od => False
  | .ow (.dv _) => False
theorem Rm.pk0 {md : Md} {d : D} {v : V} (hm : Hand md) (h : Rm K Z own H md d v S) : Pk0 K Z H d v := by
  cases md with
  | pk => exact RPk.pk0 h
  | ow t =>
    cases t with
    | sh => exact .inl h
    | ol _ _ => exact hm.elim
    | od => exact hm.elim
    | dv _ => exact hm.elim
/-- at hand, behind another step -/
theorem RS.pk0 {fx : Nat → Bool} (h : RS K τ Z own H ρ σ) (e : ExtF fx q Z own H Z1 own1 H1) {md : Md} {d : D} {v : V} (hm : Hand md) (hq : md = .sh ∨ q = true) (r : Rm K Z own H md d v S) : Pk0 K Z1 H1 d v := by
  cases md with
  | pk =>
    rcases r with r | ⟨l, a, xs, e1, e2, e3, e4, e5⟩
    · exact .inl (h.sh e r)
    · exact .inr ⟨l, a, xs, e1, e2, e.keep a _ e3 (.inr (hq.elim (fun z => nomatch z) fun z => z)), h.shL e e5⟩
  | ow t =>
    cases t with
    | sh => exact .inl (h.sh e r)
    | ol _ _ => exact hm.elim
    | od => exact hm.elim
    | dv _ => exact hm.elim
end
/-- arguments from the left -/
def tA [Tb] (K : PySem.W.Frag) (τ : Nat → OT) (q : Bool) (m : M (List D)) : TA := fun σ H Q => ∃ Z own ρ ds ρ', RS K τ Z own H ρ σ ∧ m ρ = .ok (ds, ρ') ∧
  ∀ vs Z' own' H', RS K τ Z' own' H' ρ' σ → Pk0L K Z' H' ds vs → Ext q Z own H Z' own' H' → Q vs H'
/-- .. all of them shared -/
def tAs [Tb] (K : PySem.W.Frag) (τ : Nat → OT) (q : Bool) (m : M (List D)) : TA := fun σ H Q => ∃ Z own ρ ds ρ', RS K τ Z own H ρ σ ∧ m ρ = .ok (ds, ρ') ∧
  ∀ vs Z' own' H', RS K τ Z' own' H' ρ' σ → RShL K Z' H' ds vs → Ext q Z own H Z' own' H' → Q vs H'
section
variable [Tb] {X : Cx} {τ : Nat → OT} {q q1 q2 : Bool} {md md1 md2 : Md} {a b c e : Expr} {es : List Expr} {ma mb : M D} {ms : M (List D)} {pos : Pos}
/-- shared, so at hand -/
theorem e_pk (h : PE X a (tE X.K τ q .sh ma)) : PE X a (tE X.K τ q .pk ma) := h.mono fun σ H Q ⟨Z, own, ρ, d, ρ', rs, e, k⟩ =>
  ⟨Z, own, ρ, d, ρ', rs, e, fun v Z' own' H' S r1 r2 r3 r4 => k v Z' own' H' S r1 (.inl r2) r3 r4⟩
/-- a new list, from now on shared -/
theorem e_sh {t : OT} (h : PE X a (tE X.K τ q (.ow t) ma)) : PE X a (tE X.K τ q .sh ma) := h.mono fun σ H Q ⟨Z, own, ρ, d, ρ', rs, e, k⟩ =>
  ⟨Z, own, ρ, d, ρ', rs, e, fun v Z' own' H' S r1 r2 r3 r4 => by
    refine k v (fun a => Z' a ∨ S a) own' H' (fun _ => False) ⟨fun i d e => ?_, r1.ls, fun a i e z => ?_, fun a z => z.elim (r1.zt a) (fun z e => by obtain ⟨xs, hx, _⟩ := (r3 a z).2.2.2; rw [hx] at e; cases e), r1.len, r1.tb⟩ (R.freeze r2) (fun _ z => z.elim) ⟨fun a z => .inl (r4.z a z), fun a z => z.elim (r4.zn a) fun z => .inr (.inl (r3 a z).1), r4.on, r4.kp, r4.live, r4.tk⟩
    · obtain ⟨v, e1, e2⟩ := r1.sl i d e
      exact ⟨v, e1, R.pres (fun _ z => .inl z) (fun _ _ s _ _ => s) (fun _ _ _ s _ => s) (fun _ _ _ e _ => e) e2⟩
    · rcases z with z | z
      · exact r1.dz a i e z
      · rw [(r3 a z).2.1] at e; cases e⟩
/-- the end of an operation: shared -/
theorem fin_sh {K : PySem.W.Frag} {Z Z1 : Addr → Prop} {own own1 : Addr → Option Nat} {H H1 H2 : Hp} {ρ1 : Sl} {σ : St} {d : D} {v : V} {S : Addr → Prop} {Q : VK} (rs : RS K τ Z1 own1 H1 ρ1 σ) (x : Ext q Z own H Z1 own1 H1) (g : Grow H1 H2) (r : RF K Z1 H2 d v S) (n : NewS H1 H2 S)
    (k : ∀ v Z' own' H' S, RS K τ Z' own' H' ρ1 σ → Rm K Z' own' H' .sh d v S → NewR H Z' own' H' S → Ext q Z own H Z' own' H' → Q v H') : Q v H2 :=
  k v _ own1 H2 (fun _ => False) (rs.grow g n) r.freeze (fun _ z => z.elim) (by have := x.trans (ExtF.grow (q := q) (Z := Z1) (own := own1) g n); rwa [Bool.and_self] at this)
/-- .. a new list of one's own -/
theorem fin_ol {K : PySem.W.Frag} {Z Z1 : Addr → Prop} {own own1 : Addr → Option Nat} {H H1 : Hp} {ρ1 : Sl} {σ : St} {l : List D} {vs : List V} {p : Addr} {Q : VK} (rs : RS K τ Z1 own1 H1 ρ1 σ) (x : Ext q Z own H Z1 own1 H1) (hp : H1 p = none) (rl : RShL K Z1 (upd H1 p (.lst vs)) l vs)
    (k : ∀ v Z' own' H' S, RS K τ Z' own' H' ρ1 σ → Rm K Z' own' H' (.ow (.ol .sh .sh)) (.lst l) v S → NewR H Z' own' H' S → Ext q Z own H Z' own' H' → Q v H') : Q (.ref p) (upd H1 p (.lst vs)) := by
  have g : Grow H1 (upd H1 p (.lst vs)) := Grow.new hp
  have nl : H p = none := Classical.byContradiction fun n => x.live p n hp
  refine k _ Z1 own1 _ (fun a => a = p) (rs.growO g) ?_ (fun a e => ?_) (by have := x.trans (ExtF.growO (q := q) (Z := Z1) (own := own1) g); rwa [Bool.and_self] at this)
  · refine ⟨l, p, vs, fun a => if a = p then Option.none else some 0, rfl, rfl, upd_same, rfl, by simp, rl.len, fun d v e1 e2 => ?_, fun k d v e1 e2 => ?_⟩
    · obtain ⟨w, a, b⟩ := rl.get e1
      rw [e2] at a; cases a; exact b
    · obtain ⟨w, a, b⟩ := rl.get e1
      rw [e2] at a; cases a; exact b
  · subst e
    refine ⟨nl, Classical.byContradiction fun n => ?_, fun z => rs.zt a z hp, _, upd_same, trivial⟩
    cases ho : own1 a with
    | none => exact n ho
    | some i => obtain ⟨ys, hy, _⟩ := rs.ls a i ho; rw [hp] at hy; cases hy
theorem e_1 {f : D → Option D} {op : UnaryOp} (ho : UnR X (unaryOp op) (rF1 X.K f)) (ha : PE X a (tE X.K τ q md ma)) (hm : Hand md := by trivial) : PE X (.UnaryOp op a pos) (tE X.K τ q .sh (m1 f ma)) :=
  (pe_un ho ha).mono fun σ H Q ⟨Z, own, ρ, d, ρ', rs, e, k⟩ => by
    obtain ⟨x, ρ1, e1, e⟩ := bind_ok e
    obtain ⟨e3, rfl⟩ := ofO_ok e
    exact ⟨Z, own, ρ, x, ρ', rs, e1, fun v Z1 own1 H1 S1 rs1 rm1 _ x1 => ⟨Z1, x, d, rm1.pk0 hm, e3, fun w H2 S g r n => fin_sh rs1 x1 g r n k⟩⟩
theorem two {f : D → D → Option D} (hm1 : Hand md1) (hm2 : Hand md2) (hq : md1 = .sh ∨ q2 = true) : ∀ σ H Q, tE X.K τ (q1 && q2) .sh (m2 f ma mb) σ H Q → tOp (rF2 X.K f) (tE X.K τ q1 md1 ma) (tE X.K τ q2 md2 mb) σ H Q := fun σ H Q ⟨Z, own, ρ, d, ρ', rs, e, k⟩ => by
  obtain ⟨x, ρ1, e1, e⟩ := bind_ok e
  obtain ⟨y, ρ2, e2, e⟩ := bind_ok e
  obtain ⟨e3, rfl⟩ := ofO_ok e
  exact ⟨Z, own, ρ, x, ρ1, rs, e1, fun v Z1 own1 H1 S1 rs1 rm1 _ x1 => ⟨Z1, own1, ρ1, y, ρ', rs1, e2, fun w Z2 own2 H2 S2 rs2 rm2 _ x2 =>
    ⟨Z2, x, y, d, rs1.pk0 x2 hm1 hq rm1, rm2.pk0 hm2, e3, fun u H3 S g r n => fin_sh rs2 (x1.trans x2) g r n k⟩⟩⟩
theorem e_2 {f : D → D → Option D} {op : Operator} (ho : OpR X (binaryOp op) (rF2 X.K f)) (ha : PE X a (tE X.K τ q1 md1 ma)) (hb : PE X b (tE X.K τ q2 md2 mb)) (hm1 : Hand md1 := by trivial) (hm2 : Hand md2 := by trivial) (hq : md1 = .sh ∨ q2 = true := by first | exact .inl rfl | exact .inr rfl) :
    PE X (.BinOp a op b pos) (tE X.K τ (q1 && q2) .sh (m2 f ma mb)) := (pe_op ho ha hb).mono (two hm1 hm2 hq)
theorem e_cmp {f : D → D → Option D} {op : CmpOp} (ho : OpR X (compareOp op) (rF2 X.K f)) (ha : PE X a (tE X.K τ q1 md1 ma)) (hb : PE X b (tE X.K τ q2 md2 mb)) (hm1 : Hand md1 := by trivial) (hm2 : Hand md2 := by trivial) (hq : md1 = .sh ∨ q2 = true := by first | exact .inl rfl | exact .inr rfl) (hm : behindInMarks op b = false := by first | exact nomark _ | rfl) :
    PE X (.Compare a [op] [b] pos) (tE X.K τ (q1 && q2) .sh (m2 f ma mb)) := (pe_cmpR ho ha hb hm).mono (two hm1 hm2 hq)
theorem e_ix {f : D → D → Option D} (hr : IxR X (rF2 X.K f)) (ha : PE X a (tE X.K τ q1 md1 ma)) (hb : PE X b (tE X.K τ q2 md2 mb)) (hm1 : Hand md1 := by trivial) (hm2 : Hand md2 := by trivial) (hq : md1 = .sh ∨ q2 = true := by first | exact .inl rfl | exact .inr rfl) (hs : PlainIx b := by exact fun _ _ => rfl) :
    PE X (.Subscript a b pos) (tE X.K τ (q1 && q2) .sh (m2 f ma mb)) := (pe_ix hr ha hb hs).mono (two hm1 hm2 hq)
theorem Pk0L.len {K : PySem.W.Frag} {Z : Addr → Prop} {H : Hp} : ∀ {ds : List D} {vs : List V}, Pk0L K Z H ds vs → ds.length = vs.length
  | [], _, h => by simp only [Pk0L] at h; subst h; rfl
  | d :: ds, _, h => by
    obtain ⟨w, ws, rfl, _, h2⟩ := h
    simp [Pk0L.len h2]
theorem a_nil : PA X [] (tA X.K τ true mNil) := pa_nil.mono fun σ H Q ⟨Z, own, ρ, ds, ρ', rs, e, k⟩ => by
  have e := e
  unfold mNil at e
  cases e
  exact k [] Z own H rs rfl ExtF.refl
theorem a_cons (ha : PE X a (tE X.K τ q1 md1 ma)) (hr : PA X es (tA X.K τ q2 ms)) (hm1 : Hand md1 := by trivial) (hq : md1 = .sh ∨ q2 = true := by first | exact .inl rfl | exact .inr rfl) (hs : starEach (a :: es) X.env = (false, eval a X.env) :: starEach es X.env := by rfl) :
    PA X (a :: es) (tA X.K τ (q1 && q2) (mCons ma ms)) := (pa_cons ha hr hs).mono fun σ H Q ⟨Z, own, ρ, ds, ρ', rs, e, k⟩ => by
  obtain ⟨x, ρ1, e1, e⟩ := bind_ok e
  obtain ⟨xs, ρ2, e2, e⟩ := bind_ok e
  cases e
  exact ⟨Z, own, ρ, x, ρ1, rs, e1, fun v Z1 own1 H1 S1 rs1 rm1 _ x1 => ⟨Z1, own1, ρ1, xs, ρ', rs1, e2, fun ws Z2 own2 H2 rs2 rl x2 =>
    k (v :: ws) Z2 own2 H2 rs2 ⟨v, ws, rfl, rs1.pk0 x2 hm1 hq rm1, rl⟩ (x1.trans x2)⟩⟩
theorem as_nil : PA X [] (tAs X.K τ true mNil) := pa_nil.mono fun σ H Q ⟨Z, own, ρ, ds, ρ', rs, e, k⟩ => by
  have e := e
  unfold mNil at e
  cases e
  exact k [] Z own H rs (by simp only [RShL]) ExtF.refl
theorem as_cons (ha : PE X a (tE X.K τ q1 .sh ma)) (hr : PA X es (tAs X.K τ q2 ms)) (hs : starEach (a :: es) X.env = (false, eval a X.env) :: starEach es X.env := by rfl) :
    PA X (a :: es) (tAs X.K τ (q1 && q2) (mCons ma ms)) := (pa_cons ha hr hs).mono fun σ H Q ⟨Z, own, ρ, ds, ρ', rs, e, k⟩ => by
  obtain ⟨x, ρ1, e1, e⟩ := bind_ok e
  obtain ⟨xs, ρ2, e2, e⟩ := bind_ok e
  cases e
  exact ⟨Z, own, ρ, x, ρ1, rs, e1, fun v Z1 own1 H1 S1 rs1 rm1 _ x1 => ⟨Z1, own1, ρ1, xs, ρ', rs1, e2, fun ws Z2 own2 H2 rs2 rl x2 =>
    k (v :: ws) Z2 own2 H2 rs2 (by simp only [RShL]; exact ⟨v, ws, rfl, rs1.sh x2 rm1, rl⟩) (x1.trans x2)⟩⟩
theorem nary {f : List D → Option D} : ∀ σ H Q, tE X.K τ q .sh (mN f ms) σ H Q → tCB (rFn X.K f) (tA X.K τ q ms) σ H Q := fun σ H Q ⟨Z, own, ρ, d, ρ', rs, e, k⟩ => by
  obtain ⟨xs, ρ1, e1, e⟩ := bind_ok e
  obtain ⟨e3, rfl⟩ := ofO_ok e
  exact ⟨Z, own, ρ, xs, ρ', rs, e1, fun vs Z1 own1 H1 rs1 rl x1 => ⟨Z1, xs, d, rl, e3, fun u H3 S g r n => fin_sh rs1 x1 g r n k⟩⟩
theorem e_callB {f : List D → Option D} {x : Str} {id : String} {p : Pos} (hc : CallR X (.builtin id) (rFn X.K f)) (ha : PA X (e :: es) (tA X.K τ q ms)) (hg : Gl X x := by rfl) (hm : X.mg x = none := by assumption) (hv : bootBuiltins x = some (.builtin id) := by decide +kernel) (hn : x ≠ "__name__" := by decide) (hdb : (x == ("__debug__" : Str)) = false := by decide) (hst : starEach (e :: es) X.env = (false, eval e X.env) :: starEach es X.env := by rfl) (hpl : (backTo pos (starEach es X.env)).any (·.1) = false := by rfl) :
    PE X (.Call (.Name x p) (e :: es) [] pos) (tE X.K τ q .sh (mN f ms)) := (pe_callB hc hg hm hv ha hn hdb hst hpl).mono nary
theorem e_callTy {f : List D → Option D} {x : Str} {T : String} {p : Pos} (hc : CallR X (.type T) (rFn X.K f)) (ha : PA X (e :: es) (tA X.K τ q ms)) (hg : Gl X x := by rfl) (hm : X.mg x = none := by assumption) (hv : bootBuiltins x = some (.type T) := by decide +kernel) (hn : x ≠ "__name__" := by decide) (hdb : (x == ("__debug__" : Str)) = false := by decide) (hst : starEach (e :: es) X.env = (false, eval e X.env) :: starEach es X.env := by rfl) (hpl : (backTo pos (starEach es X.env)).any (·.1) = false := by rfl) :
    PE X (.Call (.Name x p) (e :: es) [] pos) (tE X.K τ q .sh (mN f ms)) := (pe_callTy hc hg hm hv ha hn hdb hst hpl).mono nary
theorem e_int {i : Int} {j : Nat} : PE X (.Constant (.int i) j pos) (tE X.K τ true .sh (mC (.int i))) := pe_int.mono fun σ H Q ⟨Z, own, ρ, d, ρ', rs, e, k⟩ => by
  unfold mC at e; cases e
  exact k _ Z own H (fun _ => False) rs (by simp only [Rm, R, RSh]) (fun _ z => z.elim) ExtF.refl
theorem e_bl {i : Bool} {j : Nat} : PE X (.Constant (.bool i) j pos) (tE X.K τ true .sh (mC (.bl i))) := pe_bl.mono fun σ H Q ⟨Z, own, ρ, d, ρ', rs, e, k⟩ => by
  unfold mC at e; cases e
  exact k _ Z own H (fun _ => False) rs (by simp only [Rm, R, RSh]) (fun _ z => z.elim) ExtF.refl
theorem e_non {j : Nat} : PE X (.Constant .none j pos) (tE X.K τ true .sh (mC .non)) := pe_non.mono fun σ H Q ⟨Z, own, ρ, d, ρ', rs, e, k⟩ => by
  unfold mC at e; cases e
  exact k _ Z own H (fun _ => False) rs (by simp only [Rm, R, RSh]) (fun _ z => z.elim) ExtF.refl
omit [Tb] in
theorem mV_ok {i : Nat} {ρ ρ' : Sl} {d : D} (h : mV i ρ = .ok (d, ρ')) : ρ[i]? = some (some d) ∧ ρ' = ρ := by
  unfold mV at h
  split at h
  · rename_i e; cases h; exact ⟨e, rfl⟩
  · cases h
theorem e_v (i : Nat) {x : Str} (ht : τ i = .sh := by rfl) (hN : X.N[i]? = some x := by rfl) (hv : Vis X.env.scope x := by first | exact Or.inl rfl | exact Or.inr (Or.inl rfl) | exact Or.inr (Or.inr rfl)) (hd : (x == ("__debug__" : Str)) = false := by decide)
    (hcd : (x == ("__classdict__" : Str)) = false := by decide) : PE X (.Name x pos) (tE X.K τ true .sh (mV i)) := (pv i hN hv hd hcd).mono fun σ H Q ⟨Z, own, ρ, d, ρ', rs, e, k⟩ => by
  obtain ⟨e, rfl⟩ := mV_ok e
  obtain ⟨v, e1, e2⟩ := rs.sl i d e
  rw [ht] at e2
  exact ⟨v, e1, k v Z own H (fun _ => False) rs e2 (fun _ z => z.elim) ExtF.refl⟩
/-- a slot's own list, at hand -/
theorem e_vp (i : Nat) {x : Str} (ht : τ i = .ol .sh .sh := by rfl) (hN : X.N[i]? = some x := by rfl) (hv : Vis X.env.scope x := by first | exact Or.inl rfl | exact Or.inr (Or.inl rfl) | exact Or.inr (Or.inr rfl)) (hd : (x == ("__debug__" : Str)) = false := by decide)
    (hcd : (x == ("__classdict__" : Str)) = false := by decide) : PE X (.Name x pos) (tE X.K τ true .pk (mV i)) := (pv i hN hv hd hcd).mono fun σ H Q ⟨Z, own, ρ, d, ρ', rs, e, k⟩ => by
  obtain ⟨e, rfl⟩ := mV_ok e
  obtain ⟨v, e1, e2⟩ := rs.sl i d e
  rw [ht] at e2
  obtain ⟨l, a, xs, ow, e1', e2', e3, e4, e5, e6, e7, e8⟩ := e2
  exact ⟨v, e1, k v Z own H (fun _ => False) rs (.inr ⟨l, a, xs, e1', e2', e3, by rw [e4]; simp, .of_get e6 fun i d v p q => by
    cases i with
    | zero => exact e7 d v p q
    | succ n => exact e8 n d v p q⟩) (fun _ z => z.elim) ExtF.refl⟩
theorem szl {m n : Nat} (h : m ≤ 16777216) (e : m = n) : n ≤ sizeLine := by
  have : sizeLine = 16777216 := by decide
  omega
def bTup (l : List D) : Option D := if l.length ≤ 16777216 then some (.tup l) else none
def bLst (l : List D) : Option D := if l.length ≤ 16777216 then some (.lst l) else none
theorem e_tup {x1 : Nat} (h : PA X es (tAs X.K τ q ms)) : PE X (.Tuple es x1 pos) (tE X.K τ q .sh (mN bTup ms)) := (pe_tup h).mono fun σ H Q ⟨Z, own, ρ, d, ρ', rs, e, k⟩ => by
  obtain ⟨xs, ρ1, e1, e⟩ := bind_ok e
  obtain ⟨e3, rfl⟩ := ofO_ok e
  unfold bTup at e3
  split at e3
  · rename_i hl
    cases e3
    refine ⟨Z, own, ρ, xs, ρ', rs, e1, fun vs Z1 own1 H1 rs1 rl x1 => ⟨szl hl rl.len, fun p hp => ?_⟩⟩
    have g : Grow H1 (upd H1 p (.tup vs)) := Grow.new hp
    exact fin_sh rs1 x1 g (RF.tup (g.shL rl) (SqT.of upd_same)) NewS.none k
  · cases e3
theorem e_lstO (h : PA X es (tAs X.K τ q ms)) : PE X (.List es pos) (tE X.K τ q (.ow (.ol .sh .sh)) (mN bLst ms)) := (pe_lst h).mono fun σ H Q ⟨Z, own, ρ, d, ρ', rs, e, k⟩ => by
  obtain ⟨xs, ρ1, e1, e⟩ := bind_ok e
  obtain ⟨e3, rfl⟩ := ofO_ok e
  unfold bLst at e3
  split at e3
  · rename_i hl
    cases e3
    refine ⟨Z, own, ρ, xs, ρ', rs, e1, fun vs Z1 own1 H1 rs1 rl x1 => ⟨szl hl rl.len, fun p hp => ?_⟩⟩
    have g : Grow H1 (upd H1 p (.lst vs)) := Grow.new hp
    exact fin_ol rs1 x1 hp (g.shL rl) k
  · cases e3
end
end CL
namespace CL
open PySem PySem.Spec L2
set_option autoImplicit false
def tT [Tb] (K : PySem.W.Frag) (τ : Nat → OT) (q : Bool) (m : M D) : TT := fun σ H Q => ∃ Z own ρ b ρ', RS K τ Z own H ρ σ ∧ m ρ = .ok (.bl b, ρ') ∧
  ∀ Z' own' H', RS K τ Z' own' H' ρ' σ → Ext q Z own H Z' own' H' → Q b H'
def mAnd (a b : M D) : M D := bind a fun x => match x with | .bl true => b | .bl false => mC (.bl false) | _ => fun _ => .bad
def mOr (a b : M D) : M D := bind a fun x => match x with | .bl true => mC (.bl true) | .bl false => b | _ => fun _ => .bad
def bNot : D → Option D
  | .bl b => some (.bl (!b))
  | _ => none
def mIf (c a b : M D) : M D := bind c fun x => match x with | .bl true => a | .bl false => b | _ => fun _ => .bad
def mChain (f g : D → D → Option D) (a b c : M D) : M D := bind a fun x => bind b fun y => bind (ofO (f x y)) fun z => match z with
  | .bl true => bind c fun w => ofO (g y w) | .bl false => mC (.bl false) | _ => fun _ => .bad
theorem Pk0.bl {K : PySem.W.Frag} {Z : Addr → Prop} {H : Hp} {b : Bool} {v : V} (h : Pk0 K Z H (.bl b) v) : v = .bl b := by
  rcases h with h | ⟨l, a, xs, e, _⟩
  · simpa only [RSh] using h
  · cases e
theorem Rm.bl {K : PySem.W.Frag} {Z : Addr → Prop} {own : Addr → Option Nat} {H : Hp} {S : Addr → Prop} {b : Bool} {v : V} (h : Rm K Z own H .sh (.bl b) v S) : v = .bl b := by simpa only [Rm, R, RSh] using h
section
variable [Tb] {X : Cx} {τ : Nat → OT} {q q1 q2 q3 : Bool} {md md1 md2 : Md} {a b c e : Expr} {es : List Expr} {ma mb mc : M D} {ms : M (List D)} {pos : Pos}
theorem tT_of : ∀ σ H Q, tT X.K τ q ma σ H Q → tTest (tE X.K τ q .sh ma) σ H Q := fun σ H Q ⟨Z, own, ρ, d, ρ', rs, e, k⟩ =>
  ⟨Z, own, ρ, .bl d, ρ', rs, e, fun v Z1 own1 H1 S1 rs1 rm1 _ x1 => ⟨d, rm1.bl, k Z1 own1 H1 rs1 x1⟩⟩
theorem t_val (h : PE X e (tE X.K τ q .sh ma)) (he : ∀ whole, isTrue e X.env whole = (do let v ← whole; standAt e.pos; holding [v] (truthy v)) := by intro _; rfl) : PT X e (tT X.K τ q ma) := (pt_val h he).mono tT_of
theorem t_cmp {f : D → D → Option D} {op : CmpOp} (ho : OpR X (compareOp op) (rF2 X.K f)) (ha : PE X a (tE X.K τ q1 md1 ma)) (hb : PE X b (tE X.K τ q2 md2 mb)) (hm1 : Hand md1 := by trivial) (hm2 : Hand md2 := by trivial) (hq : md1 = .sh ∨ q2 = true := by first | exact .inl rfl | exact .inr rfl) (hm : behindInMarks op b = false := by first | exact nomark _ | rfl) :
    PT X (.Compare a [op] [b] pos) (tT X.K τ (q1 && q2) (m2 f ma mb)) := (pt_cmpR ho ha hb hm).mono fun σ H Q h => two hm1 hm2 hq σ H _ (tT_of σ H Q h)
theorem t_not (ha : PT X a (tT X.K τ q ma)) : PT X (.UnaryOp .Not a pos) (tT X.K τ q (m1 bNot ma)) := (pt_not ha).mono fun σ H Q ⟨Z, own, ρ, d, ρ', rs, e, k⟩ => by
  obtain ⟨x, ρ1, e1, e⟩ := bind_ok e
  obtain ⟨e3, rfl⟩ := ofO_ok e
  cases x with
  | bl c =>
    cases e3
    exact ⟨Z, own, ρ, c, ρ', rs, e1, k⟩
  | _ => cases e3
theorem ExtF.trans' [Tb] {fx : Nat → Bool} {Z Z1 Z2 : Addr → Prop} {own own1 own2 : Addr → Option Nat} {H H1 H2 : Hp} {q q1 q2 : Bool} (hq : q = true → q1 = true ∧ q2 = true) (a : ExtF fx q1 Z own H Z1 own1 H1) (b : ExtF fx q2 Z1 own1 H1 Z2 own2 H2) : ExtF fx q Z own H Z2 own2 H2 := by
  have x := a.trans b
  exact ⟨x.z, x.zn, x.on, fun c o e h _ => x.keep c o e (h.elim .inl fun z => .inr (by have := hq z; simp [this.1, this.2])), x.live, x.tk⟩
theorem ExtF.of [Tb] {fx : Nat → Bool} {Z Z1 : Addr → Prop} {own own1 : Addr → Option Nat} {H H1 : Hp} {q q1 : Bool} (hq : q = true → q1 = true) (a : ExtF fx q1 Z own H Z1 own1 H1) : ExtF fx q Z own H Z1 own1 H1 :=
  ⟨a.z, a.zn, a.on, fun c o e h _ => a.keep c o e (h.elim .inl fun z => .inr (hq z)), a.live, a.tk⟩
theorem and1 {a b : Bool} (h : (a && b) = true) : a = true := by cases a <;> simp_all
theorem and2 {a b : Bool} (h : (a && b) = true) : a = true ∧ b = true := by cases a <;> simp_all
theorem tAnd_of : ∀ σ H Q, tT X.K τ (q1 && q2) (mAnd ma mb) σ H Q → tAnd (tT X.K τ q1 ma) (tT X.K τ q2 mb) σ H Q := fun σ H Q ⟨Z, own, ρ, d, ρ', rs, e, k⟩ => by
  obtain ⟨x, ρ1, e1, e⟩ := bind_ok e
  match x, e1, e with
  | .bl true, e1, e => exact ⟨Z, own, ρ, true, ρ1, rs, e1, fun Z1 own1 H1 rs1 x1 => iteT ⟨Z1, own1, ρ1, d, ρ', rs1, e, fun Z2 own2 H2 rs2 x2 => k Z2 own2 H2 rs2 (x1.trans x2)⟩⟩
  | .bl false, e1, e =>
    unfold mC at e; cases e
    exact ⟨Z, own, ρ, false, _, rs, e1, fun Z1 own1 H1 rs1 x1 => iteF (k Z1 own1 H1 rs1 (x1.of and1))⟩
theorem tOr_of : ∀ σ H Q, tT X.K τ (q1 && q2) (mOr ma mb) σ H Q → tOr (tT X.K τ q1 ma) (tT X.K τ q2 mb) σ H Q := fun σ H Q ⟨Z, own, ρ, d, ρ', rs, e, k⟩ => by
  obtain ⟨x, ρ1, e1, e⟩ := bind_ok e
  match x, e1, e with
  | .bl false, e1, e => exact ⟨Z, own, ρ, false, ρ1, rs, e1, fun Z1 own1 H1 rs1 x1 => iteF ⟨Z1, own1, ρ1, d, ρ', rs1, e, fun Z2 own2 H2 rs2 x2 => k Z2 own2 H2 rs2 (x1.trans x2)⟩⟩
  | .bl true, e1, e =>
    unfold mC at e; cases e
    exact ⟨Z, own, ρ, true, _, rs, e1, fun Z1 own1 H1 rs1 x1 => iteT (k Z1 own1 H1 rs1 (x1.of and1))⟩
theorem _root_.L2.PW.mono {X : Cx} {e : Expr} {t t' : TT} (h : PW X e t) (f : ∀ σ H Q, t' σ H Q → t σ H Q) : PW X e t' := ⟨fun w pins s σ H Q I hw => h.run w pins s σ H Q I (f σ H Q hw)⟩
theorem w_and1 (ha : PT X a (tT X.K τ q ma)) : PW X (.BoolOp .And [a] pos) (tT X.K τ q ma) := pw_and1 ha
theorem w_or1 (ha : PT X a (tT X.K τ q ma)) : PW X (.BoolOp .Or [a] pos) (tT X.K τ q ma) := pw_or1 ha
theorem w_and (ha : PT X a (tT X.K τ q1 ma)) (hb : PW X (.BoolOp .And (b :: es) pos) (tT X.K τ q2 mb)) : PW X (.BoolOp .And (a :: b :: es) pos) (tT X.K τ (q1 && q2) (mAnd ma mb)) := (pw_and ha hb).mono tAnd_of
theorem w_or (ha : PT X a (tT X.K τ q1 ma)) (hb : PW X (.BoolOp .Or (b :: es) pos) (tT X.K τ q2 mb)) : PW X (.BoolOp .Or (a :: b :: es) pos) (tT X.K τ (q1 && q2) (mOr ma mb)) := (pw_or ha hb).mono tOr_of
theorem e_one {op : BoolOp} (h : PE X a (tE X.K τ q md ma)) : PE X (.BoolOp op [a] pos) (tE X.K τ q md ma) := pe_one h
theorem e_and (ha : PE X a (tE X.K τ q1 .sh ma)) (hb : PE X (.BoolOp .And (b :: es) pos) (tE X.K τ q2 .sh mb)) : PE X (.BoolOp .And (a :: b :: es) pos) (tE X.K τ (q1 && q2) .sh (mAnd ma mb)) := (pe_and ha hb).mono fun σ H Q ⟨Z, own, ρ, d, ρ', rs, e, k⟩ => by
  obtain ⟨x, ρ1, e1, e⟩ := bind_ok e
  match x, e1, e with
  | .bl true, e1, e => exact ⟨Z, own, ρ, _, ρ1, rs, e1, fun v Z1 own1 H1 S1 rs1 rm1 _ x1 => ⟨true, rm1.bl, iteT ⟨Z1, own1, ρ1, d, ρ', rs1, e, fun v Z2 own2 H2 S2 rs2 rm2 n2 x2 => k v Z2 own2 H2 S2 rs2 rm2 (fun a z => ⟨Classical.byContradiction fun n => x1.live a n (n2 a z).1, (n2 a z).2⟩) (x1.trans x2)⟩⟩⟩
  | .bl false, e1, e =>
    unfold mC at e; cases e
    exact ⟨Z, own, ρ, _, _, rs, e1, fun v Z1 own1 H1 S1 rs1 rm1 n1 x1 => ⟨false, rm1.bl, iteF (k _ Z1 own1 H1 S1 rs1 (by simp only [Rm, R, RSh]) n1 (x1.of and1))⟩⟩
theorem chain_of {f g : D → D → Option D} : ∀ σ H Q, tE X.K τ (q1 && (q2 && q3)) .sh (mChain f g ma mb mc) σ H Q → tChain (rF2 X.K f) (rF2 X.K g) (tE X.K τ q1 .sh ma) (tE X.K τ q2 .sh mb) (tE X.K τ q3 .sh mc) σ H Q := fun σ H Q h => by
  obtain ⟨Z, own, ρ, d, ρ', rs, e, k⟩ := h
  obtain ⟨x, ρ1, e1, e⟩ := bind_ok e
  obtain ⟨y, ρ2, e2, e⟩ := bind_ok e
  obtain ⟨z, ρ3, e0, e⟩ := bind_ok e
  obtain ⟨e3, rfl⟩ := ofO_ok e0
  unfold tChain
  refine ⟨Z, own, ρ, x, ρ1, rs, e1, ?_⟩
  intro v Z1 own1 H1 S1 rs1 rm1 _ x1
  refine ⟨Z1, own1, ρ1, y, ρ3, rs1, e2, ?_⟩
  intro w Z2 own2 H2 S2 rs2 rm2 _ x2
  refine ⟨Z2, x, y, z, .inl (rs1.sh x2 rm1), .inl rm2, e3, ?_⟩
  intro u H3 S g3 r n3
  have rs3 := rs2.grow g3 n3
  have x3 : Ext true Z2 own2 H2 (fun a => Z2 a ∨ S a) own2 H3 := ExtF.grow g3 n3
  have x13 : Ext (q1 && (q2 && q3)) Z own H (fun a => Z2 a ∨ S a) own2 H3 := (x1.trans' (q := q1 && (q2 && q3)) (fun z => ⟨and1 z, and1 (and2 z).2⟩) x2).trans' (fun z => ⟨z, rfl⟩) x3
  cases z with
  | bl c =>
    have ru : u = .bl c := by have := r.freeze; simpa only [RSh] using this
    refine ⟨c, ru, ?_⟩
    cases c with
    | true =>
      obtain ⟨w3, ρ4, e4, e⟩ := bind_ok e
      obtain ⟨e5, rfl⟩ := ofO_ok e
      rw [if_pos rfl]
      refine ⟨_, own2, ρ3, w3, ρ', rs3, e4, ?_⟩
      intro v4 Z4 own4 H4 S4 rs4 rm4 _ x4
      refine ⟨Z4, y, w3, d, .inl (rs3.sh x4 (rs2.sh x3 rm2)), .inl rm4, e5, ?_⟩
      intro u H5 S5 g5 r5 n5
      exact fin_sh rs4 (x13.trans' (fun z => ⟨z, (and2 (and2 z).2).2⟩) x4) g5 r5 n5 k
    | false =>
      cases e
      rw [if_neg Bool.false_ne_true]
      exact k _ _ own2 H3 (fun _ => False) rs3 (by simp only [Rm, R, RSh]) (fun _ z => z.elim) x13
  | _ => cases e
theorem e_chain {f g : D → D → Option D} {op op' : CmpOp} (ho : OpR X (compareOp op) (rF2 X.K f)) (ho' : OpR X (compareOp op') (rF2 X.K g)) (ha : PE X a (tE X.K τ q1 .sh ma)) (hb : PE X b (tE X.K τ q2 .sh mb)) (hc : PE X c (tE X.K τ q3 .sh mc))
    (h1 : lastMarks [op, op'] [b, c] = false := by with_unfolding_all rfl) : PE X (.Compare a [op, op'] [b, c] pos) (tE X.K τ (q1 && (q2 && q3)) .sh (mChain f g ma mb mc)) := (pe_chain ho ho' ha hb hc h1).mono chain_of
theorem t_chain {f g : D → D → Option D} {op op' : CmpOp} (ho : OpR X (compareOp op) (rF2 X.K f)) (ho' : OpR X (compareOp op') (rF2 X.K g)) (ha : PE X a (tE X.K τ q1 .sh ma)) (hb : PE X b (tE X.K τ q2 .sh mb)) (hc : PE X c (tE X.K τ q3 .sh mc))
    (h1 : lastMarks [op, op'] [b, c] = false := by with_unfolding_all rfl) : PT X (.Compare a [op, op'] [b, c] pos) (tT X.K τ (q1 && (q2 && q3)) (mChain f g ma mb mc)) := (pt_chain ho ho' ha hb hc h1).mono fun σ H Q h => chain_of σ H _ (tT_of σ H Q h)
end
inductive Fl where
  | nx | ret (d : D) | brk | cnt
abbrev MS := M Fl
def Fix (fx : Nat → Bool) (σ σ' : St) : Prop := σ'.length = σ.length ∧ ∀ k, fx k = true → σ'[k]? = σ[k]?
theorem Fix.refl {fx : Nat → Bool} {σ : St} : Fix fx σ σ := ⟨rfl, fun _ _ => rfl⟩
theorem Fix.trans {fx : Nat → Bool} {σ σ1 σ2 : St} (a : Fix fx σ σ1) (b : Fix fx σ1 σ2) : Fix fx σ σ2 := ⟨b.1.trans a.1, fun k h => (b.2 k h).trans (a.2 k h)⟩
structure Fr where
  τ : Nat → OT
  fx : Nat → Bool
  rt : OT
/-- what is handed back: new, or given up by a slot -/
def GivR (fx : Nat → Bool) (own : Addr → Option Nat) (H : Hp) (Z' : Addr → Prop) (own' : Addr → Option Nat) (H' : Hp) (S : Addr → Prop) : Prop :=
  ∀ a, S a → (H a = none ∨ ∃ i, own a = some i ∧ fx i = false) ∧ own' a = none ∧ ¬ Z' a ∧ ∃ o, H' a = some o ∧ Mut o
def Out [Tb] (K : PySem.W.Frag) (F : Fr) (Z : Addr → Prop) (own : Addr → Option Nat) (H : Hp) (σ : St) (ρ' : Sl) (E : Ends) : Fl → Prop
  | .nx => ∀ σ' Z' own' H', RS K F.τ Z' own' H' ρ' σ' → Fix F.fx σ σ' → ExtF F.fx false Z own H Z' own' H' → E.nx σ' H'
  | .brk => ∀ σ' Z' own' H', RS K F.τ Z' own' H' ρ' σ' → Fix F.fx σ σ' → ExtF F.fx false Z own H Z' own' H' → E.bk σ' H'
  | .cnt => ∀ σ' Z' own' H', RS K F.τ Z' own' H' ρ' σ' → Fix F.fx σ σ' → ExtF F.fx false Z own H Z' own' H' → E.ct σ' H'
  | .ret d => ∀ v σ' Z' own' H' S, RS K F.τ Z' own' H' ρ' σ' → Fix F.fx σ σ' → R K Z' H' F.rt d v S → GivR F.fx own H Z' own' H' S → ExtF F.fx false Z own H Z' own' H' → E.rt v H'
def tS [Tb] (K : PySem.W.Frag) (F : Fr) (m : MS) : TS := fun E σ H => ∃ Z own ρ f ρ', RS K F.τ Z own H ρ σ ∧ m ρ = .ok (f, ρ') ∧ Out K F Z own H σ ρ' E f
def sK (f : Fl) : MS := fun ρ => .ok (f, ρ)
def sSeq (a b : MS) : MS := bind a fun f => match f with | .nx => b | f => sK f
def sIf (c : M D) (a b : MS) : MS := bind c fun x => match x with | .bl true => a | .bl false => b | _ => fun _ => .bad
def sRet (e : M D) : MS := bind e fun d => sK (.ret d)
def sExp (e : M D) : MS := bind e fun _ => sK .nx
abbrev Pt := D → Sl → Option Sl
def pN (i : Nat) : Pt := fun d ρ => some (ρ.set i (some d))
abbrev Pts := List D → Sl → Option Sl
def psN : Pts := fun l ρ => match l with | [] => some ρ | _ => none
def psC (p : Pt) (r : Pts) : Pts := fun l ρ => match l with | d :: ds => (p d ρ).bind (r ds) | [] => none
def pT (n : Nat) (ps : Pts) : Pt := fun d ρ => match d with | .tup l => if l.length = n then ps l ρ else none | .lst l => if l.length = n then ps l ρ else none | _ => none
def sAsg (p : Pt) (e : M D) : MS := bind e fun d => fun ρ => match p d ρ with | some ρ' => .ok (.nx, ρ') | none => .bad
def sPar (i j : Nat) (es : M (List D)) : MS := bind es fun vs => fun ρ => match vs with | [v, w] => .ok (.nx, (ρ.set i (some v)).set j (some w)) | _ => .bad
section
variable [Tb] {K : PySem.W.Frag} {τ : Nat → OT} {Z Z1 Z2 : Addr → Prop} {own own1 own2 : Addr → Option Nat} {H H1 H2 : Hp} {ρ : Sl} {σ : St} {S : Addr → Prop}
theorem NewR.back {fx : Nat → Bool} {q : Bool} (x : ExtF fx q Z own H Z1 own1 H1) (n : NewR H1 Z2 own2 H2 S) : NewR H Z2 own2 H2 S := fun a z => ⟨x.back (n a z).1, (n a z).2⟩
theorem NewR.giv {fx : Nat → Bool} (n : NewR H Z2 own2 H2 S) : GivR fx own H Z2 own2 H2 S := fun a z => ⟨.inl (n a z).1, (n a z).2⟩
theorem GivR.back {fx : Nat → Bool} {q : Bool} (x : ExtF fx q Z own H Z1 own1 H1) (n : GivR fx own1 H1 Z2 own2 H2 S) : GivR fx own H Z2 own2 H2 S := fun a z => by
  refine ⟨?_, (n a z).2⟩
  rcases (n a z).1 with h | ⟨i, h, hf⟩
  · exact .inl (x.back h)
  · exact (x.on a i h).elim (fun z => .inr ⟨i, z, hf⟩) .inl
theorem Out.back {F : Fr} {σ1 : St} {ρ' : Sl} {E : Ends} {q : Bool} (x : ExtF F.fx q Z own H Z1 own1 H1) (fx : Fix F.fx σ σ1) {f : Fl} (o : Out K F Z own H σ ρ' E f) : Out K F Z1 own1 H1 σ1 ρ' E f := by
  cases f with
  | nx => exact fun σ' Z' own' H' r1 r2 r3 => o σ' Z' own' H' r1 (fx.trans r2) (x.transF r3)
  | brk => exact fun σ' Z' own' H' r1 r2 r3 => o σ' Z' own' H' r1 (fx.trans r2) (x.transF r3)
  | cnt => exact fun σ' Z' own' H' r1 r2 r3 => o σ' Z' own' H' r1 (fx.trans r2) (x.transF r3)
  | ret d => exact fun v σ' Z' own' H' S r1 r2 r3 r4 r5 => o v σ' Z' own' H' S r1 (fx.trans r2) r3 (r4.back x) (x.transF r5)
/-- a slot's shared value -/
theorem RS.set (h : RS K τ Z own H ρ σ) {i : Nat} {d : D} {v : V} (ht : τ i = .sh) (r : RSh K Z H d v) : RS K τ Z own H (ρ.set i (some d)) (σ.set i (some v)) where
  sl := fun j d' e => by
    by_cases hij : i = j
    · subst hij
      rw [List.getElem?_set] at e
      split at e
      · split at e
        · rename_i hl
          cases e
          refine ⟨v, ?_, by rw [ht]; exact r⟩
          rw [List.getElem?_set]
          have := h.len
          simp; omega
        · cases e
      · rename_i n; exact absurd rfl n
    · rw [List.getElem?_set_ne hij] at e
      obtain ⟨w, e1, e2⟩ := h.sl j d' e
      exact ⟨w, by rw [List.getElem?_set_ne hij]; exact e1, e2⟩
  ls := h.ls
  dz := h.dz
  zt := h.zt
  len := by simpa using h.len
  tb := h.tb
/-- a slot's own new list -/
theorem RS.setO (h : RS K τ Z own H ρ σ) {i : Nat} {d : D} {v : V} {t1 : OT} (ht : τ i = t1) (r : R K Z H t1 d v S) (hS : ∀ a, S a → own a = none ∧ ¬ Z a ∧ ∃ o, H a = some o ∧ Mut o) :
    ∃ own', RS K τ Z own' H (ρ.set i (some d)) (σ.set i (some v)) ∧ ∀ a j, own' a = some j → own a = some j ∨ S a := by
  classical
  refine ⟨fun a => if S a then some i else if own a = some i then none else own a, ⟨fun j d' e => ?_, fun a j e => ?_, fun a j e => ?_, h.zt, by simpa using h.len, h.tb⟩, fun a j e => ?_⟩
  · by_cases hij : i = j
    · subst hij
      rw [List.getElem?_set] at e
      split at e
      · split at e
        · rename_i hl
          cases e
          refine ⟨v, ?_, by rw [ht]; exact R.mono r fun a s => if_pos s⟩
          rw [List.getElem?_set]
          have := h.len
          simp; omega
        · cases e
      · rename_i n; exact absurd rfl n
    · rw [List.getElem?_set_ne hij] at e
      obtain ⟨w, e1, e2⟩ := h.sl j d' e
      refine ⟨w, by rw [List.getElem?_set_ne hij]; exact e1, R.mono e2 fun a ha => ?_⟩
      have n1 : ¬ S a := fun s => by rw [(hS a s).1] at ha; cases ha
      have n2 : ¬ own a = some i := fun z => by rw [ha] at z; cases z; exact hij rfl
      show (if S a then some i else if own a = some i then none else own a) = some j
      rw [if_neg n1, if_neg n2]; exact ha
  · by_cases s : S a
    · exact (hS a s).2.2
    · rw [if_neg s] at e
      split at e
      · cases e
      · exact h.ls a j e
  · by_cases s : S a
    · exact (hS a s).2.1
    · rw [if_neg s] at e
      split at e
      · cases e
      · exact h.dz a j e
  · by_cases s : S a
    · exact .inr s
    · dsimp only at e
      rw [if_neg s] at e
      split at e
      · cases e
      · exact .inl e
end
/-- a target -/
def tG [Tb] (K : PySem.W.Frag) (τ : Nat → OT) (fx : Nat → Bool) (p : Pt) : TG := fun v σ H Q => ∃ Z own ρ d ρ', RS K τ Z own H ρ σ ∧ RSh K Z H d v ∧ p d ρ = some ρ' ∧ ∀ σ', RS K τ Z own H ρ' σ' → Fix fx σ σ' → Q σ' H
def tGs [Tb] (K : PySem.W.Frag) (τ : Nat → OT) (fx : Nat → Bool) (p : Pts) : TGs := fun vs σ H Q => ∃ Z own ρ ds ρ', RS K τ Z own H ρ σ ∧ RShL K Z H ds vs ∧ p ds ρ = some ρ' ∧ ∀ σ', RS K τ Z own H ρ' σ' → Fix fx σ σ' → Q σ' H
theorem _root_.L2.PG.mono {X : Cx} {tg : Expr} {t t' : TG} (h : PG X tg t) (f : ∀ v σ H Q, t' v σ H Q → t v σ H Q) : PG X tg t' := ⟨fun pins s σ H v u Q I r hw => h.run pins s σ H v u Q I r (f v σ H Q hw)⟩
theorem _root_.L2.PGs.mono {X : Cx} {tg : List Expr} {t t' : TGs} (h : PGs X tg t) (f : ∀ v σ H Q, t' v σ H Q → t v σ H Q) : PGs X tg t' := ⟨fun pins s σ H v u Q I r hw => h.run pins s σ H v u Q I r (f v σ H Q hw)⟩
theorem Fix.set {fx : Nat → Bool} {σ : St} {i : Nat} {v : Option V} (h : fx i = false) : Fix fx σ (σ.set i v) := ⟨by simp, fun k hk => by
  rw [List.getElem?_set_ne]
  rintro rfl
  rw [h] at hk; cases hk⟩
section
variable [Tb] {X : Cx} {τ : Nat → OT} {fx : Nat → Bool} {tg e : Expr} {tgs : List Expr} {pos : Pos} {p : Pt} {ps : Pts}
theorem g_n (i : Nat) {x : Str} (hN : X.N.Nodup) (ht : τ i = .sh := by rfl) (hfx : fx i = false := by rfl) (hi : X.N[i]? = some x := by rfl) (hx : Loc X.env.scope x := by first | exact Or.inl rfl | exact Or.inr rfl) (hf : X.fn x = true ∨ X.env.scope.names.lookup x = some .local := by first | exact .inl rfl | exact .inr rfl | assumption) :
    PG X (.Name x pos) (tG X.K τ fx (pN i)) := (pg_name hN hi hx hf).mono fun v σ H Q ⟨Z, own, ρ, d, ρ', rs, r, e, k⟩ => by
  unfold pN at e; cases e
  exact k _ (rs.set ht r) (.set hfx)
theorem gs_nil : PGs X [] (tGs X.K τ fx psN) := pgs_nil.mono fun vs σ H Q ⟨Z, own, ρ, ds, ρ', rs, r, e, k⟩ => by
  cases ds with
  | nil => simp only [RShL] at r; unfold psN at e; cases e; exact ⟨r, k σ rs Fix.refl⟩
  | cons _ _ => unfold psN at e; cases e
theorem tGs_cons : ∀ v σ H Q, tGs X.K τ fx (psC p ps) v σ H Q → gCons (tG X.K τ fx p) (tGs X.K τ fx ps) v σ H Q := fun vs σ H Q ⟨Z, own, ρ, ds, ρ', rs, r, e, k⟩ => by
  cases ds with
  | nil => unfold psC at e; cases e
  | cons d ds =>
    simp only [RShL] at r
    obtain ⟨w, ws, rfl, r1, r2⟩ := r
    have e : (p d ρ).bind (ps ds) = some ρ' := e
    obtain ⟨ρ1, e1, e2⟩ := Option.bind_eq_some_iff.mp e
    exact ⟨w, ws, rfl, Z, own, ρ, d, ρ1, rs, r1, e1, fun σ1 rs1 f1 => ⟨Z, own, ρ1, ds, ρ', rs1, r2, e2, fun σ2 rs2 f2 => k σ2 rs2 (f1.trans f2)⟩⟩
end
end CL
namespace CL
open PySem PySem.Spec L2
set_option autoImplicit false
section
variable [Tb] {X : Cx} {F : Fr} {q q1 q2 q3 : Bool} {md md1 md2 : Md} {a b c e tg : Expr} {es tgs : List Expr} {ma mb mc : M D} {ms : M (List D)} {pos : Pos} {st : Stmt} {sts sts2 : List Stmt} {sa sb : MS} {p : Pt} {ps : Pts} {τ : Nat → OT} {fx : Nat → Bool}
theorem gs_cons (h1 : PG X e (tG X.K τ fx p)) (h2 : PGs X es (tGs X.K τ fx ps)) (hs : (assignEach (e :: es) X.env).map (·.2) = assign e X.env :: (assignEach es X.env).map (·.2) := by rfl) : PGs X (e :: es) (tGs X.K τ fx (psC p ps)) := (pgs_cons h1 h2 hs).mono tGs_cons
theorem g_t {n k : Nat} (h : PGs X es (tGs X.K τ fx ps)) (hc : X.calm = true := by rfl) (hn : (assignEach es X.env).length = n := by rfl) (hst : (assignEach es X.env).findIdx? (·.1) = none := by rfl) : PG X (.Tuple es k pos) (tG X.K τ fx (pT n ps)) := by
  refine ⟨fun pins s σ H v u Q I rv ⟨Z, own, ρ, d, ρ', rs, r, e, k⟩ => ?_⟩
  cases d with
  | tup l =>
    have e : (if l.length = n then ps l ρ else none) = some ρ' := e
    split at e
    · rename_i hl
      simp only [RSh] at r
      obtain ⟨a, xs, rfl, s1, rl⟩ := r
      exact (pg_tup hc h hn hst).run pins s σ H _ u Q I rv ⟨a, xs, rfl, s1, by rw [← rl.len]; exact hl, Z, own, ρ, l, ρ', rs, rl, e, k⟩
    · cases e
  | lst l =>
    have e : (if l.length = n then ps l ρ else none) = some ρ' := e
    split at e
    · rename_i hl
      simp only [RSh] at r
      obtain ⟨a, xs, rfl, z, s1, rl⟩ := r
      exact (pg_unl hc h hn hst).run pins s σ H _ u Q I rv ⟨a, xs, rfl, SqL.of s1, by rw [← rl.len]; exact hl, Z, own, ρ, l, ρ', rs, rl, e, k⟩
    · cases e
  | _ => cases e
theorem ss_nil : PSs X [] (tS X.K F (sK .nx)) := pss_nil.mono fun E σ H ⟨Z, own, ρ, f, ρ', rs, e, o⟩ => by
  unfold sK at e; cases e
  exact o σ Z own H rs Fix.refl ExtF.refl
theorem ss_one (h : PS X st (tS X.K F sa)) : PSs X [st] (tS X.K F sa) := pss_one h
theorem ss_cons (h : PS X st (tS X.K F sa)) (hr : PSs X sts (tS X.K F sb)) : PSs X (st :: sts) (tS X.K F (sSeq sa sb)) := (pss_cons h hr).mono fun E σ H ⟨Z, own, ρ, f, ρ', rs, e, o⟩ => by
  obtain ⟨f1, ρ1, e1, e⟩ := bind_ok e
  cases f1 with
  | nx => exact ⟨Z, own, ρ, .nx, ρ1, rs, e1, fun σ1 Z1 own1 H1 rs1 f1 x1 => ⟨Z1, own1, ρ1, f, ρ', rs1, e, o.back x1 f1⟩⟩
  | ret d => cases e; exact ⟨Z, own, ρ, _, _, rs, e1, o⟩
  | brk => cases e; exact ⟨Z, own, ρ, _, _, rs, e1, o⟩
  | cnt => cases e; exact ⟨Z, own, ρ, _, _, rs, e1, o⟩
theorem s_if (hc : PT X c (tT X.K F.τ q mc)) (ha : PSs X sts (tS X.K F sa)) (hb : PSs X sts2 (tS X.K F sb)) : PS X (.If c sts sts2 pos) (tS X.K F (sIf mc sa sb)) := (ps_if hc ha hb).mono fun E σ H ⟨Z, own, ρ, f, ρ', rs, e, o⟩ => by
  obtain ⟨x, ρ1, e1, e⟩ := bind_ok e
  cases x with
  | bl b =>
    cases b with
    | true => exact ⟨Z, own, ρ, true, ρ1, rs, e1, fun Z1 own1 H1 rs1 x1 => iteT ⟨Z1, own1, ρ1, f, ρ', rs1, e, o.back x1.any Fix.refl⟩⟩
    | false => exact ⟨Z, own, ρ, false, ρ1, rs, e1, fun Z1 own1 H1 rs1 x1 => iteF ⟨Z1, own1, ρ1, f, ρ', rs1, e, o.back x1.any Fix.refl⟩⟩
  | _ => cases e
theorem s_ret (he : PE X e (tE X.K F.τ q (.ow F.rt) ma)) : PS X (.Return (some e) pos) (tS X.K F (sRet ma)) := (ps_ret he).mono fun E σ H ⟨Z, own, ρ, f, ρ', rs, e, o⟩ => by
  obtain ⟨x, ρ1, e1, e⟩ := bind_ok e
  cases e
  exact ⟨Z, own, ρ, x, _, rs, e1, fun v Z1 own1 H1 S rs1 rm n x1 => o v σ Z1 own1 H1 S rs1 Fix.refl rm n.giv x1.weak.any⟩
theorem s_exp (he : PE X e (tE X.K F.τ q .pk ma)) (hs : swapsWith e none pos.line X.env = pure false := by rfl) : PS X (.Expr e pos) (tS X.K F (sExp ma)) := (ps_expr he hs).mono fun E σ H ⟨Z, own, ρ, f, ρ', rs, e, o⟩ => by
  obtain ⟨x, ρ1, e1, e⟩ := bind_ok e
  cases e
  exact ⟨Z, own, ρ, x, _, rs, e1, fun v Z1 own1 H1 S rs1 rm n x1 => o σ Z1 own1 H1 rs1 Fix.refl x1.weak.any⟩
theorem asg_of : ∀ E σ H, tS X.K F (sAsg p ma) E σ H → tAsg (tE X.K F.τ q .sh ma) (tG X.K F.τ F.fx p) E σ H := fun E σ H ⟨Z, own, ρ, f, ρ', rs, e, o⟩ => by
  obtain ⟨x, ρ1, e1, e⟩ := bind_ok e
  split at e
  · rename_i ρ2 e2
    cases e
    exact ⟨Z, own, ρ, x, ρ1, rs, e1, fun v Z1 own1 H1 S rs1 rm n x1 => ⟨Z1, own1, ρ1, x, ρ', rs1, rm, e2, fun σ' rs' fx' => o σ' Z1 own1 H1 rs' fx' x1.weak.any⟩⟩
  · cases e
theorem s_asg (he : PE X e (tE X.K F.τ q .sh ma)) (hg : PG X tg (tG X.K F.τ F.fx p)) (hs : swapsWithSole [tg] e pos.line X.env = pure false := by rfl) (hw : swappedStores [tg] e X.env = pure none := by rfl)
    (h1 : (assignEach [tg] X.env).map (·.2) = [assign tg X.env] := by rfl) : PS X (.Assign [tg] e pos) (tS X.K F (sAsg p ma)) := (ps_asg he hg hs hw h1).mono asg_of
theorem name_of {i : Nat} (ht : F.τ i = .sh) (hfx : F.fx i = false) : ∀ E σ H, tS X.K F (sAsg (pN i) ma) E σ H → tAsg (tE X.K F.τ q .sh ma) (gName i) E σ H := fun E σ H ⟨Z, own, ρ, f, ρ', rs, e, o⟩ => by
  obtain ⟨x, ρ1, e1, e⟩ := bind_ok e
  cases e
  exact ⟨Z, own, ρ, x, ρ1, rs, e1, fun v Z1 own1 H1 S rs1 rm n x1 => o _ Z1 own1 H1 (rs1.set ht rm) (.set hfx) x1.weak.any⟩
theorem nameO_of {i : Nat} {t1 : OT} (ht : F.τ i = t1) (hfx : F.fx i = false) : ∀ E σ H, tS X.K F (sAsg (pN i) ma) E σ H → tAsg (tE X.K F.τ q (.ow t1) ma) (gName i) E σ H := fun E σ H ⟨Z, own, ρ, f, ρ', rs, e, o⟩ => by
  obtain ⟨x, ρ1, e1, e⟩ := bind_ok e
  cases e
  refine ⟨Z, own, ρ, x, ρ1, rs, e1, fun v Z1 own1 H1 S rs1 rm n x1 => ?_⟩
  obtain ⟨own2, rs2, h2⟩ := rs1.setO ht rm fun a s => (n a s).2
  refine o _ Z1 own2 H1 rs2 (.set hfx) ⟨x1.z, fun a z => (ExtF.any (fx := F.fx) x1).zn a z, fun a j e => ?_, fun a o e h n => x1.weak.keep a o e h n, x1.live, x1.tk⟩
  rcases h2 a j e with h | h
  · exact x1.on a j h
  · exact .inr (n a h).1
/-- name = e -/
theorem s_set (i : Nat) {x : Str} {pos' : Pos} (hN : X.N.Nodup) (he : PE X e (tE X.K F.τ q .sh ma)) (ht : F.τ i = .sh := by rfl) (hfx : F.fx i = false := by rfl) (hi : X.N[i]? = some x := by rfl) (hx : Loc X.env.scope x := by first | exact Or.inl rfl | exact Or.inr rfl) (hs : swapsWith e (some (.Name x pos')) pos.line X.env = pure false := by rfl)
    (hf : X.fn x = true ∨ X.env.scope.names.lookup x = some .local := by first | exact .inl rfl | exact .inr rfl | assumption) : PS X (.Assign [.Name x pos'] e pos) (tS X.K F (sAsg (pN i) ma)) := (ps_set hN hi hx he hs hf).mono (name_of ht hfx)
/-- name = a new list of its own -/
theorem s_setO (i : Nat) {t1 : OT} {x : Str} {pos' : Pos} (hN : X.N.Nodup) (he : PE X e (tE X.K F.τ q (.ow t1) ma)) (ht : F.τ i = t1 := by rfl) (hfx : F.fx i = false := by rfl) (hi : X.N[i]? = some x := by rfl) (hx : Loc X.env.scope x := by first | exact Or.inl rfl | exact Or.inr rfl) (hs : swapsWith e (some (.Name x pos')) pos.line X.env = pure false := by rfl)
    (hf : X.fn x = true ∨ X.env.scope.names.lookup x = some .local := by first | exact .inl rfl | exact .inr rfl | assumption) : PS X (.Assign [.Name x pos'] e pos) (tS X.K F (sAsg (pN i) ma)) := (ps_set hN hi hx he hs hf).mono (nameO_of ht hfx)
/-- a, b = e1, e2 -/
theorem s_par (i j : Nat) {x y : Str} {px py pt pt2 : Pos} {kt k2 : Nat} (hN : X.N.Nodup) (ha : PA X [a, b] (tAs X.K F.τ q ms)) (hti : F.τ i = .sh := by rfl) (htj : F.τ j = .sh := by rfl) (hfi : F.fx i = false := by rfl) (hfj : F.fx j = false := by rfl) (hi : X.N[i]? = some x := by rfl) (hj : X.N[j]? = some y := by rfl) (hij : i ≠ j := by decide)
    (hx : X.env.scope.names.lookup x = some .local := by rfl) (hy : X.env.scope.names.lookup y = some .local := by rfl) (hc : X.calm = true := by rfl)
    (hw : swappedStores [.Tuple [.Name x px, .Name y py] kt pt] (.Tuple [a, b] k2 pt2) X.env = pure (some [x, y]) := by rfl)
    (hs : swapsWithSole [.Tuple [.Name x px, .Name y py] kt pt] (.Tuple [a, b] k2 pt2) pos.line X.env = pure false := by rfl) :
    PS X (.Assign [.Tuple [.Name x px, .Name y py] kt pt] (.Tuple [a, b] k2 pt2) pos) (tS X.K F (sPar i j ms)) := (ps_par hc hN hi hj hij hx hy ha hw hs).mono fun E σ H ⟨Z, own, ρ, f, ρ', rs, e, o⟩ => by
  obtain ⟨xs, ρ1, e1, e⟩ := bind_ok e
  match xs, e1, e with
  | [v, w], e1, e =>
    cases e
    refine ⟨Z, own, ρ, _, ρ1, rs, e1, fun vs Z1 own1 H1 rs1 rl x1 => ?_⟩
    simp only [RShL] at rl
    obtain ⟨v1, w1, rfl, r1, v2, w2, rfl, r2, rfl⟩ := rl
    exact ⟨v1, v2, rfl, o _ Z1 own1 H1 ((rs1.set hti r1).set htj r2) ((Fix.set hfi).trans (Fix.set hfj)) x1.weak.any⟩
def sFz (i : Nat) (m : MS) : MS := fun ρ => match m ρ with | .ok (f, ρ') => .ok (f, ρ'.set i none) | .exc e => .exc e | .bad => .bad
def Fr.fz (F : Fr) (i : Nat) : Fr := { F with τ := fun j => if j = i then .sh else F.τ j }
theorem RS.forget {K : PySem.W.Frag} {τ τ' : Nat → OT} {Z : Addr → Prop} {own : Addr → Option Nat} {H : Hp} {ρ : Sl} {σ : St} {i : Nat} (h : RS K τ Z own H ρ σ) (ht : ∀ j, j ≠ i → τ' j = τ j) : RS K τ' Z own H (ρ.set i none) σ where
  sl := fun j d e => by
    by_cases hij : i = j
    · subst hij
      rw [List.getElem?_set] at e
      split at e
      · split at e <;> cases e
      · rename_i n; exact absurd rfl n
    · rw [List.getElem?_set_ne hij] at e
      obtain ⟨w, e1, e2⟩ := h.sl j d e
      exact ⟨w, e1, by rw [ht j (Ne.symm hij)]; exact e2⟩
  ls := h.ls
  dz := h.dz
  zt := h.zt
  len := by simpa using h.len
  tb := h.tb
theorem ss_fz (i : Nat) (hfx : F.fx i = false := by rfl) (hr : PSs X sts (tS X.K (F.fz i) sa)) : PSs X sts (tS X.K F (sFz i sa)) := hr.mono fun E σ H ⟨Z, own, ρ, f, ρ', rs, e, o⟩ => by
  unfold sFz at e
  split at e
  · rename_i f1 ρ1 e1
    cases e
    classical
    have rs' : RS X.K (F.fz i).τ (fun a => Z a ∨ own a = some i) (fun a => if own a = some i then none else own a) H ρ σ := by
      refine ⟨fun j d e => ?_, fun a j e => ?_, fun a j e z => ?_, fun a z => z.elim (rs.zt a) fun z e => ?_, rs.len, rs.tb⟩
      · obtain ⟨v, h1, h2⟩ := rs.sl j d e
        refine ⟨v, h1, ?_⟩
        show R X.K _ H (if j = i then .sh else F.τ j) d v _
        by_cases hij : j = i
        · rw [if_pos hij]; subst hij; exact R.freeze h2
        · rw [if_neg hij]
          refine R.pres (fun _ z => .inl z) (fun _ _ s _ _ => s) (fun _ _ _ s _ => s) (fun _ _ _ e _ => e) (R.mono h2 fun a ha => ?_)
          show (if own a = some i then none else own a) = some j
          rw [if_neg (fun z => by rw [ha] at z; cases z; exact hij rfl)]; exact ha
      · split at e
        · cases e
        · exact rs.ls a j e
      · split at e
        · cases e
        · rename_i n
          rcases z with z | z
          · exact rs.dz a j e z
          · exact n z
      · obtain ⟨xs, hx, _⟩ := rs.ls a i z
        rw [hx] at e; cases e
    have x0 : ExtF F.fx true Z own H (fun a => Z a ∨ own a = some i) (fun a => if own a = some i then none else own a) H :=
      ⟨fun _ z => .inl z, fun a z => z.elim .inl fun z => .inr (.inr ⟨i, z, hfx⟩), fun a j e => by
        split at e
        · cases e
        · exact .inl e, fun _ _ e _ _ => e, fun _ e => e, .refl⟩
    have ht : ∀ j, j ≠ i → F.τ j = (F.fz i).τ j := fun j hj => (if_neg hj).symm
    refine ⟨_, _, ρ, f, ρ1, rs', e1, ?_⟩
    cases f with
    | nx => exact fun σ' Z' own' H' r1 r2 r3 => o σ' Z' own' H' (r1.forget ht) r2 (x0.transF r3)
    | brk => exact fun σ' Z' own' H' r1 r2 r3 => o σ' Z' own' H' (r1.forget ht) r2 (x0.transF r3)
    | cnt => exact fun σ' Z' own' H' r1 r2 r3 => o σ' Z' own' H' (r1.forget ht) r2 (x0.transF r3)
    | ret d => exact fun v σ' Z' own' H' S r1 r2 r3 r4 r5 => o v σ' Z' own' H' S (r1.forget ht) r2 r3 (r4.back x0) (x0.transF r5)
  · cases e
  · cases e
end
def LaterH [Tb] (K : PySem.W.Frag) (Z : Addr → Prop) (H : Hp) (Z1 : Addr → Prop) (H1 : Hp) : Prop := (∀ a, Z a → Z1 a) ∧ NL H H1 ∧ (∀ a o, Z a → H a = some o → NT o → H1 a = some o)
structure WalkD [Tb] (K : PySem.W.Frag) (Z : Addr → Prop) (H : Hp) (J : It) (ds : List D) : Prop where
  go : ∀ Z1 H1, LaterH K Z H Z1 H1 → ∀ i, i < ds.length → J.go i H1
  yl : ∀ Z1 H1, LaterH K Z H Z1 H1 → ∀ i d, ds[i]? = some d → ∀ x H2, J.yld i H1 x H2 → Grow H1 H2 ∧ RSh K Z1 H2 d x
  st : ∀ Z1 H1, LaterH K Z H Z1 H1 → J.stop ds.length H1
  sz : ds.length ≤ sizeLine
def tI [Tb] (K : PySem.W.Frag) (τ : Nat → OT) (q : Bool) (m : M (List D)) : TI := fun σ H R => ∃ Z own ρ ds ρ', RS K τ Z own H ρ σ ∧ m ρ = .ok (ds, ρ') ∧
  ∀ J Z' own' H', RS K τ Z' own' H' ρ' σ → WalkD K Z' H' J ds → Ext q Z own H Z' own' H' → R J H'
theorem RS.later [Tb] {K : PySem.W.Frag} {τ : Nat → OT} {Z Z1 : Addr → Prop} {own own1 : Addr → Option Nat} {H H1 : Hp} {ρ : Sl} {σ : St} {q : Bool} {fx : Nat → Bool} (h : RS K τ Z own H ρ σ) (e : ExtF fx q Z own H Z1 own1 H1) : LaterH K Z H Z1 H1 := ⟨e.z, h.nl e, fun _ _ z s n => h.kz e (.inl z) s⟩
def forL (p : Pt) (b : MS) : List D → MS
  | [] => sK .nx
  | x :: xs => fun ρ => match p x ρ with
    | none => .bad
    | some ρ1 => match b ρ1 with
      | .ok (.nx, ρ2) => forL p b xs ρ2
      | .ok (.cnt, ρ2) => forL p b xs ρ2
      | .ok (.brk, ρ2) => .ok (.nx, ρ2)
      | .ok (.ret d, ρ2) => .ok (.ret d, ρ2)
      | .exc e => .exc e
      | .bad => .bad
def sFor (p : Pt) (it : M (List D)) (b : MS) : MS := bind it fun xs => forL p b xs
def whileN : Nat → M D → MS → MS
  | 0, _, _ => fun _ => .bad
  | n + 1, c, b => fun ρ => match c ρ with
    | .ok (.bl true, ρ1) => (match b ρ1 with
      | .ok (.nx, ρ2) => whileN n c b ρ2
      | .ok (.cnt, ρ2) => whileN n c b ρ2
      | .ok (.brk, ρ2) => .ok (.nx, ρ2)
      | .ok (.ret d, ρ2) => .ok (.ret d, ρ2)
      | .exc e => .exc e
      | .bad => .bad)
    | .ok (.bl false, ρ1) => .ok (.nx, ρ1)
    | .exc e => .exc e
    | _ => .bad
section
variable [Tb] {X : Cx} {F : Fr} {q q1 q2 q3 : Bool} {c iter tg : Expr} {mc : M D} {mi : M (List D)} {pos : Pos} {sts : List Stmt} {sb : MS} {p : Pt}
theorem s_for (hi : PI X tg iter (tI X.K F.τ q mi)) (hg : PG X tg (tG X.K F.τ F.fx p)) (hb : PSs X sts (tS X.K F sb)) (hp : PassesOwn (model X.prog X.w) X.A X.env X.xe := by exact PassesOwn.never) (hc : X.calm = true := by rfl)
    (hs : ∀ x, foldedSetIterable iter X.env x = pure x := by intro _; rfl) : PS X (.For tg iter sts [] pos) (tS X.K F (sFor p mi sb)) := (ps_for hp hc hi hg hb hs).mono fun E σ H ⟨Z, own, ρ, f, ρ', rs, e, o⟩ => by
  obtain ⟨ds, ρ0, e0, e⟩ := bind_ok e
  refine ⟨Z, own, ρ, ds, ρ0, rs, e0, fun J Z1 own1 H1 rs1 w x1 => ?_⟩
  refine ⟨fun i m σ' H' => m = ds.length - i ∧ i ≤ ds.length ∧ ∃ Z2 own2 ρ2, RS X.K F.τ Z2 own2 H' ρ2 σ' ∧ Fix F.fx σ σ' ∧ ExtF F.fx false Z1 own1 H1 Z2 own2 H' ∧ forL p sb (ds.drop i) ρ2 = .ok (f, ρ'),
    ⟨ds.length, by simp, Nat.zero_le _, Z1, own1, ρ0, rs1, Fix.refl, ExtF.refl, by simpa using e⟩, ?_⟩
  rintro i m σ2 H2 ⟨rfl, hi, Z2, own2, ρ2, rs2, f2, x2, e2⟩
  have lt := rs1.later x2
  by_cases hlt : i < ds.length
  · refine .inr ⟨w.go Z2 H2 lt i hlt, fun σ' H' => ∃ Z3 own3 ρ3, RS X.K F.τ Z3 own3 H' ρ3 σ' ∧ Fix F.fx σ σ' ∧ ExtF F.fx false Z1 own1 H1 Z3 own3 H' ∧ forL p sb (ds.drop (i + 1)) ρ3 = .ok (f, ρ'),
      fun σ' H' h => ⟨ds.length - (i + 1), by omega, rfl, hlt, h⟩, fun x H3 y => ?_⟩
    obtain ⟨d, hd⟩ : ∃ d, ds[i]? = some d := ⟨ds[i], by simp [hlt]⟩
    obtain ⟨g, r⟩ := w.yl Z2 H2 lt i d hd x H3 y
    have ed : ds.drop i = d :: ds.drop (i + 1) := by
      rw [List.drop_eq_getElem_cons hlt]
      have : ds[i] = d := by
        have := List.getElem?_eq_getElem hlt
        rw [hd] at this; exact (Option.some.inj this).symm
      rw [this]
    rw [ed] at e2
    unfold forL at e2
    split at e2
    · cases e2
    · rename_i ρ4 e4
      have rs3 := rs2.growO g
      have x3 : ExtF F.fx false Z1 own1 H1 Z2 own2 H3 := x2.transF (ExtF.growO (q := false) g)
      refine ⟨Z2, own2, ρ2, d, ρ4, rs3, r, e4, fun σ4 rs4 f4 => ?_⟩
      split at e2
      · rename_i ρ5 e5
        exact ⟨Z2, own2, ρ4, .nx, ρ5, rs4, e5, fun σ5 Z5 own5 H5 rs5 f5 x5 => ⟨Z5, own5, ρ5, rs5, (f2.trans f4).trans f5, x3.transF x5, e2⟩⟩
      · rename_i ρ5 e5
        exact ⟨Z2, own2, ρ4, .cnt, ρ5, rs4, e5, fun σ5 Z5 own5 H5 rs5 f5 x5 => ⟨Z5, own5, ρ5, rs5, (f2.trans f4).trans f5, x3.transF x5, e2⟩⟩
      · rename_i ρ5 e5
        cases e2
        exact ⟨Z2, own2, ρ4, .brk, _, rs4, e5, fun σ5 Z5 own5 H5 rs5 f5 x5 => o σ5 Z5 own5 H5 rs5 ((f2.trans f4).trans f5) ((x1.any).transF (x3.transF x5))⟩
      · rename_i d' ρ5 e5
        cases e2
        exact ⟨Z2, own2, ρ4, .ret d', _, rs4, e5, (o.back (x1.any) Fix.refl).back (x3) (f2.trans f4)⟩
      · cases e2
      · cases e2
  · have ei : i = ds.length := by omega
    subst ei
    refine .inl ⟨w.st Z2 H2 lt, ?_⟩
    rw [List.drop_length] at e2
    unfold forL sK at e2
    cases e2
    exact o σ2 Z2 own2 H2 rs2 f2 ((x1.any).transF x2)
theorem s_while {n : Nat} (hc : PT X c (tT X.K F.τ q mc)) (hb : PSs X sts (tS X.K F sb)) (hp : PassesOwn (model X.prog X.w) X.A X.env X.xe := by exact PassesOwn.never) : PS X (.While c sts [] pos) (tS X.K F (whileN n mc sb)) := (ps_while hp hc hb).mono fun E σ H ⟨Z, own, ρ, f, ρ', rs, e, o⟩ => by
  refine ⟨fun m σ' H' => ∃ Z2 own2 ρ2, RS X.K F.τ Z2 own2 H' ρ2 σ' ∧ Fix F.fx σ σ' ∧ ExtF F.fx false Z own H Z2 own2 H' ∧ whileN m mc sb ρ2 = .ok (f, ρ'),
    ⟨n, Z, own, ρ, rs, Fix.refl, ExtF.refl, e⟩, ?_⟩
  rintro m σ2 H2 ⟨Z2, own2, ρ2, rs2, f2, x2, e2⟩
  cases m with
  | zero => unfold whileN at e2; cases e2
  | succ m =>
    unfold whileN at e2
    split at e2
    · rename_i ρ3 e3
      refine ⟨Z2, own2, ρ2, true, ρ3, rs2, e3, fun Z3 own3 H3 rs3 x3 => iteT ⟨fun σ' H' => ∃ Z4 own4 ρ4, RS X.K F.τ Z4 own4 H' ρ4 σ' ∧ Fix F.fx σ σ' ∧ ExtF F.fx false Z own H Z4 own4 H' ∧ whileN m mc sb ρ4 = .ok (f, ρ'), fun σ' H' h => ⟨m, Nat.lt_succ_self _, h⟩, ?_⟩⟩
      have x3' : ExtF F.fx false Z own H Z3 own3 H3 := x2.transF x3.any
      split at e2
      · rename_i ρ5 e5
        exact ⟨Z3, own3, ρ3, .nx, ρ5, rs3, e5, fun σ5 Z5 own5 H5 rs5 f5 x5 => ⟨Z5, own5, ρ5, rs5, f2.trans f5, x3'.transF x5, e2⟩⟩
      · rename_i ρ5 e5
        exact ⟨Z3, own3, ρ3, .cnt, ρ5, rs3, e5, fun σ5 Z5 own5 H5 rs5 f5 x5 => ⟨Z5, own5, ρ5, rs5, f2.trans f5, x3'.transF x5, e2⟩⟩
      · rename_i ρ5 e5
        cases e2
        exact ⟨Z3, own3, ρ3, .brk, _, rs3, e5, fun σ5 Z5 own5 H5 rs5 f5 x5 => o σ5 Z5 own5 H5 rs5 (f2.trans f5) (x3'.transF x5)⟩
      · rename_i d' ρ5 e5
        cases e2
        exact ⟨Z3, own3, ρ3, .ret d', _, rs3, e5, o.back x3' f2⟩
      · cases e2
      · cases e2
    · rename_i ρ3 e3
      cases e2
      exact ⟨Z2, own2, ρ2, false, _, rs2, e3, fun Z3 own3 H3 rs3 x3 => iteF (o σ2 Z3 own3 H3 rs3 f2 (x2.transF x3.any))⟩
    · cases e2
    · cases e2
end
end CL
namespace CL
open PySem PySem.Spec L2
set_option autoImplicit false
theorem ints_rel {K : PySem.W.Frag} {Z : Addr → Prop} {H : Hp} : ∀ ns : List Int, RShL K Z H (ns.map D.int) (ns.map V.int)
  | [] => by simp only [List.map_nil, RShL]
  | n :: ns => by simp only [List.map_cons, RShL]; exact ⟨_, _, rfl, by simp only [RSh], ints_rel ns⟩
def signs (z : Str) : List D := z.cps.toList.map fun c => .str ⟨#[c]⟩
def itemsOf : D → Option (List D)
  | .tup l => some l
  | .lst l => some l
  | .scr ns => some (ns.map D.int)
  | .str z => if z.cps.size ≤ 16777216 then some (signs z) else none
  | _ => none
def ofL (o : Option (List D)) : M (List D) := fun ρ => match o with | some d => .ok (d, ρ) | none => .bad
theorem ofL_ok {o : Option (List D)} {ρ ρ' : Sl} {d : List D} (h : ofL o ρ = .ok (d, ρ')) : o = some d ∧ ρ' = ρ := by
  unfold ofL at h
  split at h
  · cases h; exact ⟨rfl, rfl⟩
  · cases h
def mIt (m : M D) : M (List D) := bind m fun d => ofL (itemsOf d)
def rangeL (a b : Int) : List D := (List.range (b - a).toNat).map fun i => .int (a + (i : Nat))
def range1 : List D → Option (List D)
  | [.int b] => if b ≤ 16777216 ∧ -(2 ^ 62) ≤ b then some (rangeL 0 b) else none
  | _ => none
def mItN (f : List D → Option (List D)) (m : M (List D)) : M (List D) := bind m fun ds => ofL (f ds)
theorem szL : sizeLine = 16777216 := by decide
section
variable [Tb] {X : Cx} {τ : Nat → OT} {q : Bool} {tg e a b : Expr} {es : List Expr} {m : M D} {ms : M (List D)} {pos : Pos}
/-- a list, a tuple or a text that is walked -/
theorem pi_any {te : TE} (he : PE X e te) : PI X tg e (fun σ H Rk => te σ H fun x H1 => (∃ l xs, x = .ref l ∧ SqL X.K H1 l xs ∧ (xs.length ≤ sizeLine → Rk (Itl X.K l) H1)) ∨
    (∃ l xs, x = .ref l ∧ SqT X.K H1 l xs ∧ (xs.length ≤ sizeLine → Rk (Itt X.K l) H1)) ∨ ∃ z, x = .str z ∧ Rk (Its z) H1) := by
  constructor
  intro pins s0 σ H Rk I0 hw
  apply thn (he.run pins s0 σ H _ I0 hw)
  rintro val s2 ⟨x, H2, I2, rel, hx⟩
  rcases hx with ⟨l, xs, rfl, hs, k⟩ | ⟨l, xs, rfl, hs, k⟩ | ⟨z, rfl, k⟩
  · cases rel
    obtain ⟨vals, rvs, pl, sz⟩ := I2.list hs
    exact wpAny_pyIter_list pl.isList (pi_one (tk := s2.toks) I2 _ (turn_list l _) ⟨_, Heap.get?_push_size _ rfl, rfl, rfl⟩ (k sz))
  · cases rel
    obtain ⟨vals, rvs, pl, sz⟩ := I2.tuple hs
    exact wpAny_pyIter_tuple (show s2.heap.IsTuple l vals.toArray from pl) (pi_one (tk := s2.toks) I2 _ (turn_tuple l _) ⟨_, Heap.get?_push_size _ rfl, rfl, rfl⟩ (k sz))
  · obtain ⟨tok, rfl⟩ := rel
    cases hall : z.cps.all (· < 128) with
    | false => exact wpAny_pyIter_wide hall (pi_one (tk := s2.toks) I2 _ (turn_str _ z tok "str_iterator" (Or.inr rfl)) ⟨_, Heap.get?_push_size _ rfl, rfl, rfl⟩ k)
    | true => exact wpAny_pyIter_ascii hall (pi_one (tk := s2.toks) I2 _ (turn_str _ z tok "str_ascii_iterator" (Or.inl rfl)) ⟨_, Heap.get?_push_size _ rfl, rfl, rfl⟩ k)
theorem WalkD.list {K : PySem.W.Frag} {Z : Addr → Prop} {H : Hp} {l : Addr} {ds : List D} {xs : List V} (z : Z l ∨ KL K l xs) (s : SqL K H l xs) (r : RShL K Z H ds xs) (sz : xs.length ≤ sizeLine) : WalkD K Z H (Itl K l) ds where
  go := fun Z1 H1 lt i hi => ⟨xs, xs[i]'(by rw [← r.len]; exact hi), z.elim (fun z => sqL_keep (fun o => lt.2.2 l o z) s) (fun z => z _), List.getElem?_eq_getElem _⟩
  yl := fun Z1 H1 lt i d hd x H2 y => by
    obtain ⟨v, hv, rv⟩ := r.get hd
    obtain ⟨rfl, hy⟩ := y
    have := hy xs (z.elim (fun z => sqL_keep (fun o => lt.2.2 l o z) s) (fun z => z _))
    rw [hv] at this; cases this
    exact ⟨Grow.refl, RSh.pres lt.1 lt.2.1 lt.2.2 d _ rv⟩
  st := fun Z1 H1 lt => ⟨xs, z.elim (fun z => sqL_keep (fun o => lt.2.2 l o z) s) (fun z => z _), by rw [r.len]; exact Nat.le_refl _⟩
  sz := by rw [r.len]; exact sz
theorem WalkD.tuple {K : PySem.W.Frag} {Z : Addr → Prop} {H : Hp} {l : Addr} {ds : List D} {xs : List V} (s : SqT K H l xs) (r : RShL K Z H ds xs) (sz : xs.length ≤ sizeLine) : WalkD K Z H (Itt K l) ds where
  go := fun Z1 H1 lt i hi => ⟨xs, xs[i]'(by rw [← r.len]; exact hi), NL.sqT lt.2.1 s, List.getElem?_eq_getElem _⟩
  yl := fun Z1 H1 lt i d hd x H2 y => by
    obtain ⟨v, hv, rv⟩ := r.get hd
    obtain ⟨rfl, hy⟩ := y
    have := hy xs (NL.sqT lt.2.1 s)
    rw [hv] at this; cases this
    exact ⟨Grow.refl, RSh.pres lt.1 lt.2.1 lt.2.2 d _ rv⟩
  st := fun Z1 H1 lt => ⟨xs, NL.sqT lt.2.1 s, by rw [r.len]; exact Nat.le_refl _⟩
  sz := by rw [r.len]; exact sz
theorem i_any (he : PE X e (tE X.K τ q .sh m)) : PI X tg e (tI X.K τ q (mIt m)) := (pi_any he).mono fun σ H Rk ⟨Z, own, ρ, ds, ρ', rs, e, k⟩ => by
  obtain ⟨d, ρ1, e1, e⟩ := bind_ok e
  obtain ⟨e3, rfl⟩ := ofL_ok e
  refine ⟨Z, own, ρ, d, ρ', rs, e1, fun v Z1 own1 H1 S rs1 rm n x1 => ?_⟩
  cases d with
  | tup l =>
    cases e3
    simp only [Rm, R, RSh] at rm
    obtain ⟨a, xs, rfl, s, rl⟩ := rm
    exact .inr (.inl ⟨a, xs, rfl, s, fun sz => k _ Z1 own1 H1 rs1 (.tuple s rl sz) x1⟩)
  | lst l =>
    cases e3
    simp only [Rm, R, RSh] at rm
    obtain ⟨a, xs, rfl, z, s, rl⟩ := rm
    exact .inl ⟨a, xs, rfl, SqL.of s, fun sz => k _ Z1 own1 H1 rs1 (.list (.inl z) (SqL.of s) rl sz) x1⟩
  | scr ns =>
    cases e3
    simp only [Rm, R, RSh] at rm
    obtain ⟨a, rfl, z, s⟩ := rm
    exact .inl ⟨a, _, rfl, s, fun sz => k _ Z1 own1 H1 rs1 (.list z s (ints_rel ns) sz) x1⟩
  | str z =>
    simp only [itemsOf] at e3
    split at e3
    · rename_i hz
      cases e3
      simp only [Rm, R, RSh] at rm
      subst rm
      refine .inr (.inr ⟨z, rfl, k _ Z1 own1 H1 rs1 ⟨fun Z2 H2 lt i hi => ?_, fun Z2 H2 lt i d hd x H3 y => ?_, fun Z2 H2 lt => ?_, ?_⟩ x1⟩)
      · show i < z.cps.size
        simpa [signs] using hi
      · obtain ⟨rfl, c, hc, rfl⟩ := y
        refine ⟨Grow.refl, ?_⟩
        simp only [signs, List.getElem?_map, Array.getElem?_toList] at hd
        rw [hc] at hd
        cases hd
        simp only [RSh]
      · show z.cps.size ≤ (signs z).length
        simp [signs]
      · rw [szL]; simpa [signs] using hz
    · cases e3
  | _ => cases e3
theorem WalkD.range {K : PySem.W.Frag} {Z : Addr → Prop} {H : Hp} {a b : Int} (h : b - a ≤ 16777216) : WalkD K Z H (Itr a (b - a).toNat) (rangeL a b) where
  go := fun Z1 H1 lt i hi => by show i < (b - a).toNat; simpa [rangeL] using hi
  yl := fun Z1 H1 lt i d hd x H2 y => by
    obtain ⟨rfl, rfl⟩ := y
    refine ⟨Grow.refl, ?_⟩
    simp only [rangeL, List.getElem?_map] at hd
    obtain ⟨j, hj, rfl⟩ := Option.map_eq_some_iff.mp hd
    rw [List.getElem?_range (by
      have := (List.getElem?_eq_some_iff.mp hj).1
      simpa using this)] at hj
    cases hj
    simp only [RSh]
  st := fun Z1 H1 lt => by show (b - a).toNat ≤ _; simp [rangeL]
  sz := by rw [szL]; simp [rangeL]; omega
theorem Pk0.int {K : PySem.W.Frag} {Z : Addr → Prop} {H : Hp} {i : Int} {v : V} (h : Pk0 K Z H (.int i) v) : v = .int i := by
  rcases h with h | ⟨l, a, xs, e, _⟩
  · simpa only [RSh] using h
  · cases e
theorem i_range1 {p : Pos} (ha : PA X [a] (tA X.K τ q ms)) (hg : Gl X "range" := by rfl) (hm : X.mg "range" = none := by assumption) (hs : starEach [a] X.env = [(false, eval a X.env)] := by rfl) : PI X tg (.Call (.Name "range" p) [a] [] pos) (tI X.K τ q (mItN range1 ms)) := (pi_range1 hg hm ha hs).mono fun σ H Rk ⟨Z, own, ρ, ds, ρ', rs, e, k⟩ => by
  obtain ⟨d, ρ1, e1, e⟩ := bind_ok e
  obtain ⟨e3, rfl⟩ := ofL_ok e
  refine ⟨Z, own, ρ, d, ρ', rs, e1, fun vs Z1 own1 H1 rs1 rl x1 => ?_⟩
  unfold range1 at e3
  split at e3
  · rename_i b
    split at e3
    · rename_i hb
      cases e3
      obtain ⟨w, ws, rfl, r1, r2⟩ := rl
      have r2 : ws = [] := r2
      subst r2
      rw [r1.int]
      refine ⟨b, rfl, hb.2, by omega, ?_⟩
      have := k (Itr 0 (b - 0).toNat) Z1 own1 H1 rs1 (.range (by omega)) x1
      simpa using this
    · cases e3
  · cases e3
end
def wipeD (ρ : Sl) : List Nat → Sl
  | [] => ρ
  | v :: vs => (wipeD ρ vs).set v none
def compL (vs : List Nat) (p : Pt) (c e : M D) : List D → M (List D)
  | [] => fun ρ => .ok ([], ρ)
  | x :: xs => fun ρ => match p x ρ with
    | none => .bad
    | some ρ1 => match c ρ1 with
      | .ok (.bl true, ρ2) => (match e ρ2 with
        | .ok (d, ρ3) => (match compL vs p c e xs (wipeD ρ3 vs) with
          | .ok (ds, ρ4) => .ok (d :: ds, ρ4)
          | .exc x => .exc x
          | .bad => .bad)
        | .exc x => .exc x
        | .bad => .bad)
      | .ok (.bl false, ρ2) => compL vs p c e xs (wipeD ρ2 vs)
      | .exc x => .exc x
      | _ => .bad
def mComp (vs : List Nat) (p : Pt) (it : M (List D)) (c e : M D) : M D := bind it fun xs => fun ρ => match compL vs p c e xs (wipeD ρ vs) with
  | .ok (ds, ρ') => .ok (.lst ds, ρ')
  | .exc x => .exc x
  | .bad => .bad
def gxOf (vs : List Nat) : Nat → Bool := fun k => !vs.contains k
theorem wipeD_some {ρ : Sl} {i : Nat} {x : D} : ∀ {vs : List Nat}, (wipeD ρ vs)[i]? = some (some x) → ρ[i]? = some (some x) ∧ i ∉ vs
  | [], h => ⟨h, by simp⟩
  | v :: vs, h => by
    unfold wipeD at h
    by_cases hi : v = i
    · subst hi
      rw [List.getElem?_set] at h
      split at h
      · split at h <;> cases h
      · rename_i n; exact absurd rfl n
    · rw [List.getElem?_set_ne hi] at h
      obtain ⟨a1, a2⟩ := wipeD_some h
      exact ⟨a1, by simp only [List.mem_cons, not_or]; exact ⟨fun e => hi e.symm, a2⟩⟩
theorem wipeD_len (ρ : Sl) : ∀ vs : List Nat, (wipeD ρ vs).length = ρ.length
  | [] => rfl
  | v :: vs => by unfold wipeD; rw [List.length_set]; exact wipeD_len ρ vs
theorem wipe_at (σ : St) (k : Nat) : ∀ vs : List Nat, (wipe σ vs)[k]? = if k ∈ vs then (if k < σ.length then some none else none) else σ[k]?
  | [] => by simp [wipe]
  | v :: vs => by
    unfold wipe
    by_cases hi : v = k
    · subst hi
      rw [List.getElem?_set, wipe_length]
      simp
    · rw [List.getElem?_set_ne hi, wipe_at σ k vs]
      have : (k ∈ v :: vs) ↔ k ∈ vs := by simp [List.mem_cons, Ne.symm hi]
      simp only [this]
theorem wipe_fix {σ σ2 : St} {vs : List Nat} (h : Fix (gxOf vs) (wipe σ vs) σ2) : wipe σ2 vs = wipe σ vs := by
  apply List.ext_getElem?
  intro k
  rw [wipe_at, wipe_at]
  have hl : σ2.length = σ.length := by rw [h.1, wipe_length]
  rw [hl]
  by_cases hk : k ∈ vs
  · rw [if_pos hk, if_pos hk]
  · rw [if_neg hk, if_neg hk]
    have := h.2 k (by simp [gxOf, hk])
    rw [this, wipe_at, if_neg hk]
section
variable [Tb] {K : PySem.W.Frag} {τ : Nat → OT} {Z Z1 : Addr → Prop} {own own1 : Addr → Option Nat} {H H1 : Hp} {ρ : Sl} {σ : St} {q : Bool}
theorem RS.wipe (h : RS K τ Z own H ρ σ) (vs : List Nat) : RS K τ Z own H (wipeD ρ vs) (L2.wipe σ vs) where
  sl := fun i d e => by
    obtain ⟨e1, n⟩ := wipeD_some e
    obtain ⟨v, a1, a2⟩ := h.sl i d e1
    exact ⟨v, by rw [wipe_at, if_neg n]; exact a1, a2⟩
  ls := h.ls
  dz := h.dz
  zt := h.zt
  len := by rw [wipeD_len, wipe_length]; exact h.len
  tb := h.tb
theorem RS.unwipe {vs : List Nat} (h : RS K τ Z own H ρ (L2.wipe σ vs)) : RS K τ Z own H ρ σ where
  sl := fun i d e => by
    obtain ⟨v, a1, a2⟩ := h.sl i d e
    exact ⟨v, (wipe_some a1).1, a2⟩
  ls := h.ls
  dz := h.dz
  zt := h.zt
  len := by have := h.len; rwa [wipe_length] at this
  tb := h.tb
/-- a list that nothing owns and nothing shares is changed -/
theorem upd_nl {H : Hp} {p : Addr} {o o' : HO} (hp : H p = some o) (hm : Mut o) : NL H (upd H p o') := fun a u hu hn _ => by
  rw [upd_ne (fun e => by subst e; rw [hp] at hu; cases hu; exact hn hm)]; exact hu
theorem upd_tk [Tb] {H : Hp} {p : Addr} {o o' : HO} (hp : H p = some o) (hm : Mut o) : TK H (upd H p o') := .of fun a u hu hn => by
  rw [upd_ne (fun e => by subst e; rw [hp] at hu; cases hu; exact hn hm)]; exact hu
theorem RS.updD {p : Addr} {xs ys : List V} (h : RS K τ Z own H ρ σ) (hp : H p = some (.lst xs)) (ho : own p = none) (hz : ¬ Z p) : RS K τ Z own (upd H p (.lst ys)) ρ σ := by
  have ht : NL H (upd H p (.lst ys)) := upd_nl hp trivial
  have hl : ∀ a o, Z a → H a = some o → NT o → upd H p (.lst ys) a = some o := fun a o z s _ => by
    rw [upd_ne (fun e => by subst e; exact hz z)]; exact s
  refine ⟨fun i d e => ?_, fun a i e => ?_, h.dz, fun a z e => ?_, h.len, (upd_tk hp trivial).ok h.tb⟩
  · obtain ⟨v, a1, a2⟩ := h.sl i d e
    refine ⟨v, a1, R.pres (fun _ z => z) ht hl (fun a zs s e _ => ?_) a2⟩
    rw [upd_ne (fun z => by subst z; rw [ho] at s; cases s)]; exact e
  · obtain ⟨zs, hx, hm⟩ := h.ls a i e
    exact ⟨zs, by rw [upd_ne (fun z => by subst z; rw [ho] at e; cases e)]; exact hx, hm⟩
  · rw [upd_ne (fun w => by subst w; exact hz z)] at e
    exact h.zt a z e
theorem RS.updShL {p : Addr} {xs ys : List V} {ds : List D} {vs : List V} (hp : H p = some (.lst xs)) (hz : ¬ Z p) (r : RShL K Z H ds vs) : RShL K Z (upd H p (.lst ys)) ds vs := by
  refine RShL.pres (fun _ z => z) (upd_nl hp trivial) (fun a zs z s _ => ?_) ds vs r
  rw [upd_ne (fun e => by subst e; exact hz z)]; exact s
theorem ExtF.updN [Tb] {fx : Nat → Bool} {p : Addr} {o o1 : HO} (x : ExtF fx q Z own H Z1 own1 H1) (hp : H p = none) (h1 : H1 p = some o1) (hm : Mut o1) : ExtF fx q Z own H Z1 own1 (upd H1 p o) :=
  ⟨x.z, x.zn, x.on, fun a u e h n => by rw [upd_ne (ne_of_none e hp)]; exact x.keep a u e h, fun a e n => by
    have ne : a ≠ p := fun z => by subst z; exact e hp
    rw [upd_ne ne] at n; exact x.live a e n, x.tk.trans (upd_tk h1 hm)⟩
end
def mYes : M D := mC (.bl true)
theorem _root_.L2.PTs.mono {X : Cx} {ifs : List Expr} {t t' : TT} (h : PTs X ifs t) (f : ∀ σ H Q, t' σ H Q → t σ H Q) : PTs X ifs t' := ⟨fun pins s σ H Q I hw => h.run pins s σ H Q I (f σ H Q hw)⟩
section
variable [Tb] {X : Cx} {τ : Nat → OT} {q q1 q2 : Bool} {elt tg iter c : Expr} {ifs : List Expr} {pos : Pos} {mi : M (List D)} {mc me : M D} {p : Pt}
theorem ts_nil : PTs X [] (tT X.K τ true mYes) := pts_nil.mono fun σ H Q ⟨Z, own, ρ, b, ρ', rs, e, k⟩ => by
  unfold mYes mC at e; cases e
  exact k Z own H rs ExtF.refl
theorem ts_one (h : PT X c (tT X.K τ q mc)) : PTs X [c] (tT X.K τ q mc) := pts_one h
/-- [elt for tg in iter if ..] -/
theorem lc_of {own' : List (Str × Nat)} {vs : List Nat} {qi : Bool} (hv : own'.map (·.2) = vs) : ∀ σ H Q, tE X.K τ (qi && (q1 && q2)) (.ow (.ol .sh .sh)) (mComp vs p mi mc me) σ H Q →
    tLc (tI X.K τ qi mi) (tG X.K τ (gxOf vs) p) (tT X.K τ q1 mc) (tE X.K τ q2 .sh me) (own'.map (·.2)) σ H Q := fun σ H Q ⟨Z, own, ρ, d, ρ', rs, e, k⟩ => by
  rw [hv]
  obtain ⟨ds, ρ0, e0, e⟩ := bind_ok e
  split at e
  case h_2 => cases e
  case h_3 => cases e
  rename_i out ρe ee
  cases e
  refine ⟨Z, own, ρ, ds, ρ0, rs, e0, fun J Z1 own1 H1 rs1 w x1 L hL => ?_⟩
  have hLo : own1 L = none := by
    cases ho : own1 L with
    | none => rfl
    | some i => obtain ⟨ys, hy, _⟩ := rs1.ls L i ho; rw [hL] at hy; cases hy
  have hLz : ¬ Z1 L := fun z => rs1.zt L z hL
  refine ⟨fun i m H' => m = ds.length - i ∧ i ≤ ds.length ∧ ∃ Z2 own2 ρ2 acc dacc rest, RS X.K τ Z2 own2 H' ρ2 (wipe σ vs) ∧ Ext (q1 && q2) Z1 own1 H1 Z2 own2 H' ∧ H' L = some (.lst acc) ∧ own2 L = none ∧ ¬ Z2 L ∧ RShL X.K Z2 H' dacc acc ∧ acc.length ≤ i ∧
      compL vs p mc me (ds.drop i) ρ2 = .ok (rest, ρ') ∧ dacc ++ rest = out,
    ⟨ds.length, by simp, Nat.zero_le _, Z1, own1, wipeD ρ0 vs, [], [], out, (rs1.growO (Grow.new hL)).wipe vs, ExtF.growO (Grow.new hL), upd_same, hLo, hLz, by simp only [RShL], Nat.zero_le _, by simpa using ee, rfl⟩, ?_⟩
  rintro i m H2 ⟨rfl, hi, Z2, own2, ρ2, acc, dacc, rest, rs2, x2, hacc, ho2, hz2, rl, hal, ec, eo⟩
  have lt := rs1.later x2
  by_cases hlt : i < ds.length
  · refine .inr ⟨w.go Z2 H2 lt i hlt, fun H' => ∃ Z3 own3 ρ3 acc3 dacc3 rest3, RS X.K τ Z3 own3 H' ρ3 (wipe σ vs) ∧ Ext (q1 && q2) Z1 own1 H1 Z3 own3 H' ∧ H' L = some (.lst acc3) ∧ own3 L = none ∧ ¬ Z3 L ∧ RShL X.K Z3 H' dacc3 acc3 ∧ acc3.length ≤ i + 1 ∧
      compL vs p mc me (ds.drop (i + 1)) ρ3 = .ok (rest3, ρ') ∧ dacc3 ++ rest3 = out, fun H' h => ⟨ds.length - (i + 1), by omega, rfl, hlt, h⟩, fun x H3 y => ?_⟩
    obtain ⟨d, hd⟩ : ∃ d, ds[i]? = some d := ⟨ds[i], by simp [hlt]⟩
    obtain ⟨g, r⟩ := w.yl Z2 H2 lt i d hd x H3 y
    have ed : ds.drop i = d :: ds.drop (i + 1) := by
      rw [List.drop_eq_getElem_cons hlt]
      have : ds[i] = d := by
        have := List.getElem?_eq_getElem hlt
        rw [hd] at this; exact (Option.some.inj this).symm
      rw [this]
    rw [ed] at ec
    unfold compL at ec
    split at ec
    · cases ec
    · rename_i ρ4 e4
      have rs3 : RS X.K τ Z2 own2 H3 ρ2 (wipe σ vs) := rs2.growO g
      have x3 : Ext (q1 && q2) Z1 own1 H1 Z2 own2 H3 := by have := x2.trans (ExtF.growO (q := q1 && q2) (Z := Z2) (own := own2) g); rwa [Bool.and_self] at this
      have hacc3 := g.at_ L _ hacc True.intro
      have rl3 := g.shL rl
      refine ⟨Z2, own2, ρ2, d, ρ4, rs3, r, e4, fun σ4 rs4 f4 => ⟨wipe_fix f4, ?_⟩⟩
      have hw := wipe_fix f4
      split at ec
      · rename_i ρ5 e5
        refine ⟨Z2, own2, ρ4, true, ρ5, rs4, e5, fun Z5 own5 H5 rs5 x5 => iteT ?_⟩
        split at ec
        · rename_i d6 ρ6 e6
          split at ec
          · rename_i ds7 ρ7 e7
            cases ec
            refine ⟨Z5, own5, ρ5, d6, ρ6, rs5, e6, fun v Z6 own6 H6 S6 rs6 rm6 n6 x6 => ?_⟩
            have x56 : ExtF fxT false Z2 own2 H3 Z6 own6 H6 := x5.transF x6
            have hL6 : H6 L = some (.lst acc) := x56.keep L _ hacc3 (.inl ho2)
            have ho6 : own6 L = none := by
              cases h : own6 L with
              | none => rfl
              | some j =>
                rcases x56.on L j h with z | z
                · rw [ho2] at z; cases z
                · rw [hacc3] at z; cases z
            have hz6 : ¬ Z6 L := fun z => by
              rcases x56.zn L z with z | z | ⟨j, z, _⟩
              · exact hz2 z
              · rw [hacc3] at z; cases z
              · rw [ho2] at z; cases z
            have rl6 : RShL X.K Z6 H6 dacc acc := rs4.shL x56 rl3
            refine ⟨acc, hL6, by have := w.sz; omega, Z6, own6, wipeD ρ6 vs, acc ++ [v], dacc ++ [d6], ds7, ?_, ?_, upd_same, ho6, hz6, ?_, by simp; omega, e7, by rw [← eo]; simp⟩
            · have := (rs6.updD (ys := acc ++ [v]) hL6 ho6 hz6).wipe vs
              rwa [hw] at this
            · have x : Ext (q1 && q2) Z1 own1 H1 Z6 own6 H6 := x3.trans' (fun z => ⟨z, z⟩) (x5.trans x6)
              exact x.updN hL hL6 trivial
            · exact RS.updShL hL6 hz6 (rl6.append (.one rm6))
          · cases ec
          · cases ec
        · cases ec
        · cases ec
      · rename_i ρ5 e5
        refine ⟨Z2, own2, ρ4, false, ρ5, rs4, e5, fun Z5 own5 H5 rs5 x5 => iteF ?_⟩
        have hL6 : H5 L = some (.lst acc) := x5.keep L _ hacc3 (.inl ho2)
        have ho6 : own5 L = none := by
          cases h : own5 L with
          | none => rfl
          | some j =>
            rcases x5.on L j h with z | z
            · rw [ho2] at z; cases z
            · rw [hacc3] at z; cases z
        have hz6 : ¬ Z5 L := fun z => by
          rcases x5.zn L z with z | z | ⟨j, z, _⟩
          · exact hz2 z
          · rw [hacc3] at z; cases z
          · rw [ho2] at z; cases z
        refine ⟨Z5, own5, wipeD ρ5 vs, acc, dacc, rest, ?_, x3.trans' (fun z => ⟨z, and1 z⟩) x5, hL6, ho6, hz6, rs4.shL x5 rl3, by omega, ec, eo⟩
        have := rs5.wipe vs
        rwa [hw] at this
      · cases ec
      · cases ec
  · have ei : i = ds.length := by omega
    subst ei
    refine .inl ⟨w.st Z2 H2 lt, ?_⟩
    rw [List.drop_length] at ec
    unfold compL at ec
    cases ec
    have eo' : dacc = out := by simpa using eo
    subst eo'
    refine k _ Z2 own2 H2 (fun a => a = L) rs2.unwipe ?_ (fun a e => ?_) (x1.trans x2)
    · refine ⟨dacc, L, acc, fun a => if a = L then none else some 0, rfl, rfl, hacc, rfl, by simp, rl.len, fun d v e1 e2 => ?_, fun k d v e1 e2 => ?_⟩
      · obtain ⟨w, a, b⟩ := rl.get e1
        rw [e2] at a; cases a; exact b
      · obtain ⟨w, a, b⟩ := rl.get e1
        rw [e2] at a; cases a; exact b
    · subst e
      exact ⟨x1.back hL, ho2, hz2, _, hacc, trivial⟩
end
end CL
namespace CL
open PySem PySem.Spec L2
set_option autoImplicit false
section
variable [Tb] {X : Cx} {τ : Nat → OT} {q q1 q2 : Bool} {elt tg iter c : Expr} {ifs : List Expr} {pos : Pos} {mi : M (List D)} {mc me : M D} {p : Pt}
theorem e_lcO {own' : List (Str × Nat)} {vs : List Nat} {qi : Bool} {scope : Scope} (hN : X.N.Nodup) (ok : BlkOk X.N X.env.scope scope own') (hi : PI X tg iter (tI X.K τ qi mi))
    (hg : ∀ (s : Shared) (H : Hp) (C : Addr) (cl : List (Str × Addr)) (fp : List Addr), PG (X.blk s H scope (compEnvC scope cl C X.env) fp) tg (tG X.K τ (gxOf vs) p)) (ht : ∀ (s : Shared) (H : Hp) (C : Addr) (cl : List (Str × Addr)) (fp : List Addr), PTs (X.blk s H scope (compEnvC scope cl C X.env) fp) ifs (tT X.K τ q1 mc))
    (he : ∀ (s : Shared) (H : Hp) (C : Addr) (cl : List (Str × Addr)) (fp : List Addr), PE (X.blk s H scope (compEnvC scope cl C X.env) fp) elt (tE X.K τ q2 .sh me)) (hv : own'.map (·.2) = vs := by rfl) (hc : X.calm = true := by rfl) (hs : ∀ x, foldedSetIterable iter X.env x = pure x := by intro _; rfl) :
    PE X (.ListComp elt [⟨tg, iter, ifs, 0⟩] scope pos) (tE X.K τ (qi && (q1 && q2)) (.ow (.ol .sh .sh)) (mComp vs p mi mc me)) := (pe_lc hc hN hi ok hg ht he hs).mono (lc_of hv)
/-- name = [..] on one line -/
theorem s_lc {F : Fr} (i : Nat) {y : Str} {py spos : Pos} {own' : List (Str × Nat)} {vs : List Nat} {qi : Bool} {scope : Scope} (hN : X.N.Nodup) (ok : BlkOk X.N X.env.scope scope own') (hi : PI X tg iter (tI X.K F.τ qi mi))
    (hg : ∀ (s : Shared) (H : Hp) (C : Addr) (cl : List (Str × Addr)) (fp : List Addr), PG (X.blk s H scope (compEnvC scope cl C X.env) fp) tg (tG X.K F.τ (gxOf vs) p)) (ht : ∀ (s : Shared) (H : Hp) (C : Addr) (cl : List (Str × Addr)) (fp : List Addr), PTs (X.blk s H scope (compEnvC scope cl C X.env) fp) ifs (tT X.K F.τ q1 mc))
    (he : ∀ (s : Shared) (H : Hp) (C : Addr) (cl : List (Str × Addr)) (fp : List Addr), PE (X.blk s H scope (compEnvC scope cl C X.env) fp) elt (tE X.K F.τ q2 .sh me))
    (hsw : swapsWith (.ListComp elt [⟨tg, iter, ifs, 0⟩] scope pos) (some (.Name y py)) spos.line X.env = pure true) (ht' : F.τ i = .sh ∨ F.τ i = .ol .sh .sh := by first | exact .inl rfl | exact .inr rfl) (hfx : F.fx i = false := by rfl) (hy : X.N[i]? = some y := by rfl) (hyl : X.env.scope.names.lookup y = some .local := by rfl)
    (hv : own'.map (·.2) = vs := by rfl) (hc : X.calm = true := by rfl) (hs : ∀ x, foldedSetIterable iter X.env x = pure x := by intro _; rfl) :
    PS X (.Assign [.Name y py] (.ListComp elt [⟨tg, iter, ifs, 0⟩] scope pos) spos) (tS X.K F (sAsg (pN i) (mComp vs p mi mc me))) := (ps_setLc (i := i) hc hN hy hyl hsw hi ok hg ht he hs).mono fun E σ H h => by
  rcases ht' with t | t
  · obtain ⟨Z, own, ρ, f, ρ', rs, e, o⟩ := h
    obtain ⟨x, ρ1, e1, e⟩ := bind_ok e
    cases e
    refine lc_of hv σ H _ ⟨Z, own, ρ, x, ρ1, rs, e1, fun v Z1 own1 H1 S rs1 rm n x1 => ?_⟩
    have rs2 : RS X.K F.τ (fun a => Z1 a ∨ S a) own1 H1 ρ1 σ := by
      refine ⟨fun i d e => ?_, rs1.ls, fun a i e z => ?_, fun a z => z.elim (rs1.zt a) fun z e => ?_, rs1.len, rs1.tb⟩
      · obtain ⟨v, a1, a2⟩ := rs1.sl i d e
        exact ⟨v, a1, R.pres (fun _ z => .inl z) (fun _ _ s _ _ => s) (fun _ _ _ s _ => s) (fun _ _ _ e _ => e) a2⟩
      · rcases z with z | z
        · exact rs1.dz a i e z
        · rw [(n a z).2.1] at e; cases e
      · obtain ⟨xs, hx, _⟩ := (n a z).2.2.2
        rw [hx] at e; cases e
    exact o _ _ own1 H1 (rs2.set t (R.freeze rm)) (.set hfx) ⟨fun a z => .inl (x1.z a z), fun a z => z.elim ((ExtF.any (fx := F.fx) x1).zn a) fun z => .inr (.inl (n a z).1), x1.on, fun a o e h n => x1.weak.keep a o e h n, x1.live, x1.tk⟩
  · have := nameO_of (X := X) (q := qi && (q1 && q2)) (ma := mComp vs p mi mc me) t hfx E σ H h
    exact lc_of hv σ H _ this
end
/-- a def keeps its promise where no repr is under way -/
structure FnG (P : Program) (w : World) (K : PySem.W.Frag) (mg : Str → Option Value) (base : Heap) (k : Nat) (f : Addr) (fd : FuncData) (ps : List Str) (sp : Sp) : Prop where
  len : ∀ vs H Q E, sp vs H Q E → vs.length = ps.length
  run : ∀ (A : Around) (outer : List Env) (s0 : Shared) (H : Hp) (ar : Args) (us : List Value) (vs : List V) (Q : VK) (E : XK), Room k A → A.guards = some [] → Env0 P w K mg base A outer s0 H → BindsTo s0 fd ar (ps.zip us) → Vals vs us → sp vs H Q E →
    codeAny (model P w) A (.call (.ref f) ar) (CR CX0 outer P w H s0 Q E) s0
theorem FnG.mono {P : Program} {w : World} {K : PySem.W.Frag} {mg : Str → Option Value} {base : Heap} {j k : Nat} {f : Addr} {fd : FuncData} {ps : List Str} {sp : Sp} (F : FnG P w K mg base j f fd ps sp) (h : j ≤ k) : FnG P w K mg base k f fd ps sp := ⟨F.len, fun A o s0 H ar us vs Q E r => F.run A o s0 H ar us vs Q E (r.mono h)⟩
section
variable [Tb] {P : Program} {w : World} {K : PySem.W.Frag} {mg : Str → Option Value} {base : Heap}
theorem fng_ok {x qual : Str} {st : Stmt} {f : Addr} {fd : FuncData} {N ps : List Str} {k : Nat} {sp : Sp} (Fu : Fun K x qual st f fd) (Sc : FnScope N ps (defScope st)) (len : ∀ vs H Q E, sp vs H Q E → vs.length = ps.length)
    (hbody : ∀ (cdv : Value) (A : Around) (outer : List Env) (s0 : Shared) (H : Hp) (vs : List V) (Q : VK) (E : XK), Room k (A.deeper (PyProof.Rows.envOfC qual (defScope st) s0.heap.objs.size f cdv)) → A.guards = some [] → fd.code = cdv → sp vs H Q E →
      ∃ t, PSs (cxOf CX0 P w K mg base N qual (defScope st) f cdv A outer s0 H E).nox (defBody st) t ∧ t { nx := fun _ H' => Q .non H', rt := Q } (L2.start N vs) H) : FnG P w K mg base (k + 1) f fd ps sp := by
  obtain ⟨oc, od, kV, doc, pm, an, cdv, ct, osl, rfl, lk, hcd⟩ := Fu.ex
  constructor
  · exact len
  intro A outer s0 H ar us vs Q E room hgu e0 hbd rel hsp
  have KIn : K.In s0.heap := e0.mod.kin.keeps fun c ob ec => (e0.bs c ob ec).1
  have limit : s0.heap.NoLimit := e0.mod.nolimit.keeps fun c ob ec => (e0.bs c ob ec).1
  apply codeAny_call_function room.depth (KIn _ _ lk) rfl Sc.co Sc.gen rfl (PySem.W.codeRec_of KIn hcd)
  apply hbd
  apply wpAny_newFunctionEnv_cells Sc.kind
  · rintro ⟨nm, vl⟩ hm
    rcases Sc.par nm (List.of_mem_zip hm).1 with lc | lc
    · exact Or.inl lc
    · exact Or.inr ⟨lc, PySem.W.cellsFrom_some _ _ _ (Or.inl lc)⟩
  · intro env he s1 ic
    subst he
    refine ⟨limit.keeps ic.toInCall.keep, codeAny_func ?_⟩
    obtain ⟨t, ht, hq⟩ := hbody cdv A outer s0 H vs Q E (room.deeper _) hgu rfl hsp
    have I0 : Inv (cxOf CX0 P w K mg base N qual (defScope st) f cdv A outer s0 H E) [] (L2.start N vs) H s1 := inv_start Sc room.hd e0 (len _ _ _ _ hsp) rel ic
    apply wpAny_mono (ht.nox.run [] s1 (L2.start N vs) H _ I0 hq)
    · intro fl s2 hs
      cases fl with
      | ret u =>
        obtain ⟨v, σ2, H2, J, rv, hv⟩ := hs
        exact ⟨v, H2, J.os, J.bare, J.base, J.hok, rv, hv⟩
      | next =>
        obtain ⟨σ2, H2, J, hv⟩ := hs
        exact ⟨V.non, H2, J.os, J.bare, J.base, J.hok, rfl, hv⟩
      | brk => obtain ⟨_, _, _, hv⟩ := hs; exact hv.elim
      | cont => obtain ⟨_, _, _, hv⟩ := hs; exact hv.elim
    · exact fun _ _ hs => hs
end
section
variable [Tb] {X : Cx} {k : Nat} {f : Addr} {fd : FuncData} {ps : List Str} {sp : Sp} {x : Str} {p pos : Pos} {e : Expr} {es : List Expr} {t : TA}
theorem pe_callG (F : FnG X.prog X.w X.K X.mg X.base k f fd ps sp) (hr : Room k X.A) (hgu : X.A.guards = some []) (hg : Gl X x) (hm : X.mg x = some (.ref f)) (hk : PySem.W.keepIn X.K (.ref f) = true) (hb : Binds X.K fd ps [])
    (ha : PA X (e :: es) t) (hdb : (x == ("__debug__" : Str)) = false := by decide) (he : starEach (e :: es) X.env = (false, eval e X.env) :: starEach es X.env := by rfl) (hpl : (backTo pos (starEach es X.env)).any (·.1) = false := by rfl) :
    PE X (.Call (.Name x p) (e :: es) [] pos) (fun σ H Q => t σ H fun vs H1 => sp vs H1 Q E0) := by
  constructor
  intro pins s0 σ H Q I0 hw
  apply wpAny_Call_Name_kw (ld_glob I0 hg hm _ hdb)
  apply PySem.W.callWith_K (h₀ := X.base) I0.ok.mod.kin hk _ he hpl
  apply thn (ha.run pos pins s0 σ H _ I0 hw)
  rintro us s1 ⟨vs, H1, I1, rel, hsp⟩
  refine ⟨I1.kIn, ?_⟩
  have hl : (us ++ []).length = ps.length := by rw [List.append_nil, ← rel.length]; exact F.len _ _ _ _ hsp
  have hbd := hb s1 us I1.kIn hl
  rw [List.append_nil] at hbd
  apply wpAny_call
  apply codeAny_mono (F.run X.A X.stack s1 H1 ⟨us, []⟩ us vs Q E0 hr hgu I1.env0 hbd rel hsp)
  intro res s2 hres
  cases res with
  | error er => exact hres.elim
  | ok fl =>
    cases fl with
    | ret u => exact I1.after hres
    | next => exact hres.elim
    | brk => exact hres.elim
    | cont => exact hres.elim
end
abbrev Fn := List D → Res (D × List D)
inductive Ag where
  | e (m : M D) | io (i : Nat)
def evA : List Ag → M (List D)
  | [] => mNil
  | .e m :: r => mCons m (evA r)
  | .io i :: r => mCons (mV i) (evA r)
def fillA : List Ag → List D → Sl → Option (List D)
  | [], [], _ => some []
  | .e _ :: r, d :: ds, ρ => (fillA r ds ρ).map (d :: ·)
  | .io i :: r, _ :: ds, ρ => match ρ[i]? with | some (some d) => (fillA r ds ρ).map (d :: ·) | _ => none
  | _, _, _ => none
def backA : List Ag → List D → Sl → Sl
  | .io i :: r, d :: ds, ρ => backA r ds (ρ.set i (some d))
  | .e _ :: r, _ :: ds, ρ => backA r ds ρ
  | _, _, ρ => ρ
def mCall (F : Fn) (as : List Ag) : M D := bind (evA as) fun ds => fun ρ => match fillA as ds ρ with
  | none => .bad
  | some full => match F full with
    | .ok (d, out) => .ok (d, backA as out ρ)
    | .exc e => .exc e
    | .bad => .bad
def mCallP (F : List D → Res D) (ms : M (List D)) : M D := bind ms fun ds => fun ρ => match F ds with
  | .ok d => .ok (d, ρ)
  | .exc e => .exc e
  | .bad => .bad
/-- what a def that changes nothing promises -/
def spP [Tb] (K : PySem.W.Frag) (n : Nat) (rt : OT) (F : List D → Res D) : Sp := fun vs H Q _ => ∃ Z ds d, vs.length = n ∧ RShL K Z H ds vs ∧ (∀ a, Z a → H a ≠ none) ∧ TbOk H ∧ F ds = .ok d ∧
  ∀ v Z' H' S, (∀ a, Z a → Z' a) → (∀ a, Z' a → Z a ∨ H a = none) → (∀ a, Z' a → H' a ≠ none) → Grow H H' → R K Z' H' rt d v S → (∀ a, S a → H a = none ∧ ¬ Z' a ∧ ∃ o, H' a = some o ∧ Mut o) → Q v H'
def runP (nl : Nat) (b : MS) : List D → Res D := fun ds => match b (ds.map some ++ List.replicate nl none) with
  | .ok (.ret d, _) => .ok d
  | .ok (.nx, _) => .ok .non
  | .exc e => .exc e
  | _ => .bad
def ioOf (ts : List OT) : Nat → Bool := fun k => match ts[k]? with | some (.ol _ _) => true | some .od => true | some (.dv _) => true | _ => false
def τOf (ts : List OT) : Nat → OT := fun k => (ts[k]?).getD .sh
/-- what a def promises that may change the lists that are handed in -/
def spD [Tb] (K : PySem.W.Frag) (ts : List OT) (rt : OT) (F : Fn) : Sp := fun vs H Q _ => ∃ Z own ds d out, vs.length = ts.length ∧ ds.length = ts.length ∧ RS K (τOf ts) Z own H (ds.map some) (vs.map some) ∧ (∀ a i, own a = some i → ioOf ts i = true) ∧ F ds = .ok (d, out) ∧
  ∀ v Z' own' H' S, RS K (τOf ts) Z' own' H' (out.map some) (vs.map some) → (∀ a i, own' a = some i → ioOf ts i = true) → R K Z' H' rt d v S → NewR H Z' own' H' S → Ext false Z own H Z' own' H' → Q v H'
/-- the lists that were handed in, as they are now -/
def outs : List OT → List D → Sl → Option (List D)
  | [], [], _ => some []
  | .sh :: ts, d :: ds, ρ => (outs ts ds ρ.tail).map (d :: ·)
  | .ol _ _ :: ts, _ :: ds, ρ => match ρ.head? with | some (some d) => (outs ts ds ρ.tail).map (d :: ·) | _ => none
  | .od :: ts, _ :: ds, ρ => match ρ.head? with | some (some d) => (outs ts ds ρ.tail).map (d :: ·) | _ => none
  | .dv _ :: ts, _ :: ds, ρ => match ρ.head? with | some (some d) => (outs ts ds ρ.tail).map (d :: ·) | _ => none
  | _, _, _ => none
def runF (ts : List OT) (nl : Nat) (b : MS) : Fn := fun ds => match b (ds.map some ++ List.replicate nl none) with
  | .ok (.ret d, ρ) => (match outs ts ds ρ with | some out => .ok (d, out) | none => .bad)
  | .ok (.nx, ρ) => (match outs ts ds ρ with | some out => .ok (.non, out) | none => .bad)
  | .exc e => .exc e
  | _ => .bad
theorem getElem?_app {ds : List D} {nl i : Nat} {d : D} (h : (ds.map some ++ List.replicate nl none : Sl)[i]? = some (some d)) : ds[i]? = some d := by
  rw [List.getElem?_append] at h
  split at h
  · rw [List.getElem?_map] at h
    obtain ⟨x, hx, e⟩ := Option.map_eq_some_iff.mp h
    cases e; exact hx
  · rw [List.getElem?_replicate] at h
    split at h <;> cases h
theorem start_get {N : List Str} {vs : List V} {i : Nat} {v : V} (h : vs[i]? = some v) : (L2.start N vs)[i]? = some (some v) := by
  unfold L2.start
  rw [List.getElem?_append_left (by
    have := (List.getElem?_eq_some_iff.mp h).1
    simpa using this), List.getElem?_map, h]
  rfl
theorem start_len {N : List Str} {vs : List V} (h : vs.length ≤ N.length) : (L2.start N vs).length = N.length := by
  unfold L2.start
  simp; omega
section
variable [Tb] {P : Program} {w : World} {K : PySem.W.Frag} {mg : Str → Option Value} {base : Heap}
/-- a def that changes nothing keeps its promise -/
theorem ok_p {x qual : Str} {st : Stmt} {f : Addr} {fd : FuncData} {N ps : List Str} {k n nl : Nat} {F : Fr} {b : MS} (Fu : Fun K x qual st f fd) (S : FnScope N ps (defScope st)) (hF : ∀ i, i < n → F.τ i = .sh) (hn : ps.length = n) (hl : n + nl = N.length) (hrt : F.rt = .sh ∨ ∀ (ds : List D) (ρ : Sl), b (ds.map some ++ List.replicate nl none) ≠ .ok (.nx, ρ))
    (hb : ∀ (cdv : Value) (A : Around) (outer : List Env) (s : Shared) (H : Hp) (E : XK), Room k (A.deeper (PyProof.Rows.envOfC qual (defScope st) s.heap.objs.size f cdv)) → A.guards = some [] → fd.code = cdv → PSs (cxOf CX0 P w K mg base N qual (defScope st) f cdv A outer s H E).nox (defBody st) (tS K F b)) :
    FnG P w K mg base (k + 1) f fd ps (spP K n F.rt (runP nl b)) := by
  refine fng_ok Fu S (fun vs H Q E h => ?_) (fun cdv A outer s H vs Q E hr hgu hcd h => ?_)
  · obtain ⟨Z, ds, d, h1, _⟩ := h
    rw [h1, hn]
  · obtain ⟨Z, ds, d, h1, rl, zt, tb, e, kk⟩ := h
    refine ⟨_, hb cdv A outer s H E hr hgu hcd, ?_⟩
    have hlen := rl.len
    have hvl : vs.length ≤ N.length := by omega
    have rs : RS K F.τ Z (fun _ => none) H (ds.map some ++ List.replicate nl none) (L2.start N vs) := by
      refine ⟨fun i d e => ?_, fun a i e => (by cases e), fun a i e => (by cases e), zt, by rw [start_len hvl]; simp; omega, tb⟩
      have e := getElem?_app e
      obtain ⟨v, hv, r⟩ := rl.get e
      refine ⟨v, start_get hv, ?_⟩
      rw [hF i (by have := (List.getElem?_eq_some_iff.mp e).1; omega)]
      exact r
    unfold runP at e
    split at e
    · rename_i d' ρ' e'
      cases e
      refine ⟨Z, fun _ => none, _, _, ρ', rs, e', fun v σ' Z' own' H' S rs' fx r gv x => kk v Z' H' S x.z (fun a z => ?_) rs'.zt ⟨fun a o e n => x.keep a o e (.inl rfl), x.tk, x.live⟩ r fun a s => ?_⟩
      · rcases x.zn a z with z | z | ⟨i, z, _⟩
        · exact .inl z
        · exact .inr z
        · cases z
      · obtain ⟨g1, g2, g3, g4⟩ := gv a s
        refine ⟨?_, g3, g4⟩
        rcases g1 with g | ⟨i, g, _⟩
        · exact g
        · cases g
    · rename_i ρ' e'
      cases e
      rcases hrt with hrt | hrt
      · refine ⟨Z, fun _ => none, _, _, ρ', rs, e', fun σ' Z' own' H' rs' fx x => kk .non Z' H' (fun _ => False) x.z (fun a z => ?_) rs'.zt ⟨fun a o e n => x.keep a o e (.inl rfl), x.tk, x.live⟩ (by rw [hrt]; simp only [R, RSh]) fun a s => s.elim⟩
        rcases x.zn a z with z | z | ⟨i, z, _⟩
        · exact .inl z
        · exact .inr z
        · cases z
      · exact absurd e' (hrt ds ρ')
    · cases e
    · cases e
end
section
variable [Tb] {X : Cx} {τ : Nat → OT} {q : Bool} {CX : CXT} {k : Nat} {f : Addr} {fd : FuncData} {ps : List Str} {x : Str} {p pos : Pos} {e : Expr} {es : List Expr} {ms : M (List D)} {rt : OT} {n : Nat} {G : List D → Res D}
theorem callP_of : ∀ σ H Q, tE X.K τ q (.ow rt) (mCallP G ms) σ H Q → (∀ ds (d : D) ρ ρ', ms ρ = .ok (ds, ρ') → ds.length = n) → tAs X.K τ q ms σ H fun vs H1 => spP X.K n rt G vs H1 Q E0 := fun σ H Q ⟨Z, own, ρ, d, ρ', rs, e, kk⟩ hn => by
  obtain ⟨ds, ρ1, e1, e⟩ := bind_ok e
  split at e
  · rename_i d' e2
    cases e
    refine ⟨Z, own, ρ, ds, _, rs, e1, fun vs Z1 own1 H1 rs1 rl x1 => ?_⟩
    refine ⟨Z1, ds, _, by rw [← rl.len]; exact hn ds d ρ _ e1, rl, rs1.zt, rs1.tb, e2, fun v Z2 H2 S h1 h2 h3 g r hS => ?_⟩
    have ow : ∀ a, H1 a = none → own1 a = none := fun a e => by
      cases ho : own1 a with
      | none => rfl
      | some i => obtain ⟨ys, hy, _⟩ := rs1.ls a i ho; rw [e] at hy; cases hy
    refine kk v Z2 own1 H2 S ⟨fun i d e => ?_, fun a i e => ?_, fun a i e z => ?_, h3, rs1.len, g.tk.ok rs1.tb⟩ r (fun a s => ⟨x1.back (hS a s).1, ow a (hS a s).1, (hS a s).2⟩)
      (x1.trans' (fun z => ⟨z, rfl⟩) (⟨h1, fun a z => (h2 a z).elim .inl fun z => .inr (.inl z), fun a i z => .inl z, fun a o e _ n => g.at_ a o e n, g.live, g.tk⟩ : ExtF fxT true Z1 own1 H1 Z2 own1 H2))
    · obtain ⟨w, a1, a2⟩ := rs1.sl i d e
      exact ⟨w, a1, R.pres h1 (fun a o e _ n => g.at_ a o e n) (fun a o _ e n => g.at_ a o e n) (fun a xs _ e n => g.at_ a _ e n) a2⟩
    · obtain ⟨xs, hx, hm⟩ := rs1.ls a i e
      exact ⟨xs, g.at_ a _ hx hm.nt, hm⟩
    · rcases h2 a z with z | z
      · exact rs1.dz a i e z
      · obtain ⟨xs, hx, _⟩ := rs1.ls a i e
        rw [z] at hx; cases hx
  · cases e
  · cases e
theorem e_call (Fu : FnG X.prog X.w X.K X.mg X.base k f fd ps (spP X.K n rt G)) (hk : PySem.W.keepIn X.K (.ref f) = true) (hb : Binds X.K fd ps []) (hr : Room k X.A) (hgu : X.A.guards = some []) (hm : X.mg x = some (.ref f)) (ha : PA X (e :: es) (tAs X.K τ q ms)) (hn : ∀ ds (d : D) ρ ρ', ms ρ = .ok (ds, ρ') → ds.length = n) (hg : Gl X x := by rfl)
    (hdb : (x == ("__debug__" : Str)) = false := by decide) (he : starEach (e :: es) X.env = (false, eval e X.env) :: starEach es X.env := by rfl) (hpl : (backTo pos (starEach es X.env)).any (·.1) = false := by rfl) :
    PE X (.Call (.Name x p) (e :: es) [] pos) (tE X.K τ q (.ow rt) (mCallP G ms)) := (pe_callG Fu hr hgu hg hm hk hb ha hdb he hpl).mono fun σ H Q h => callP_of σ H Q h hn
end
theorem len_nil : ∀ ds (d : D) ρ ρ', mNil ρ = .ok (ds, ρ') → ds.length = 0 := fun ds d ρ ρ' e => by unfold mNil at e; cases e; rfl
theorem len_cons {m : M D} {ms : M (List D)} {n : Nat} (h : ∀ ds (d : D) ρ ρ', ms ρ = .ok (ds, ρ') → ds.length = n) : ∀ ds (d : D) ρ ρ', mCons m ms ρ = .ok (ds, ρ') → ds.length = n + 1 := fun ds d ρ ρ' e => by
  obtain ⟨x, ρ1, e1, e⟩ := bind_ok e
  obtain ⟨xs, ρ2, e2, e⟩ := bind_ok e
  cases e
  simp [h xs d _ _ e2]
end CL
namespace CL
open PySem PySem.Spec L2
set_option autoImplicit false
theorem outs_get : ∀ {ts : List OT} {ds : List D} {ρ : Sl} {out : List D}, outs ts ds ρ = some out → out.length = ts.length ∧ ∀ (k : Nat) (t : OT), ts[k]? = some t → (t = OT.sh → out[k]? = ds[k]?) ∧ (t ≠ OT.sh → ∃ d, ρ[k]? = some (some d) ∧ out[k]? = some d)
  | [], [], ρ, out, h => by simp only [outs] at h; cases h; exact ⟨rfl, fun k t e => by simp at e⟩
  | [], _ :: _, ρ, out, h => by simp [outs] at h
  | .sh :: ts, [], ρ, out, h => by simp [outs] at h
  | .ol _ _ :: ts, [], ρ, out, h => by simp [outs] at h
  | .od :: ts, [], ρ, out, h => by simp [outs] at h
  | .dv _ :: ts, [], ρ, out, h => by simp [outs] at h
  | .sh :: ts, d :: ds, ρ, out, h => by
    simp only [outs] at h
    obtain ⟨o, ho, rfl⟩ := Option.map_eq_some_iff.mp h
    obtain ⟨h1, h2⟩ := outs_get ho
    refine ⟨by simp [h1], fun k t e => ?_⟩
    cases k with
    | zero => simp at e; subst e; exact ⟨fun _ => by simp, fun n => absurd rfl n⟩
    | succ k =>
      have e' : ts[k]? = some t := by simpa using e
      obtain ⟨a, b⟩ := h2 k t e'
      refine ⟨fun z => by simpa using a z, fun z => ?_⟩
      obtain ⟨d', b1, b2⟩ := b z
      exact ⟨d', by simpa using b1, by simpa using b2⟩
  | .ol t0 t1 :: ts, d :: ds, ρ, out, h => by
    simp only [outs] at h
    split at h
    · rename_i d' hd
      obtain ⟨o, ho, rfl⟩ := Option.map_eq_some_iff.mp h
      obtain ⟨h1, h2⟩ := outs_get ho
      refine ⟨by simp [h1], fun k t e => ?_⟩
      cases k with
      | zero =>
        simp at e; subst e
        refine ⟨fun z => (by cases z), fun _ => ⟨d', ?_, by simp⟩⟩
        cases ρ with
        | nil => simp at hd
        | cons x r => simpa using hd
      | succ k =>
        have e' : ts[k]? = some t := by simpa using e
        obtain ⟨a, b⟩ := h2 k t e'
        refine ⟨fun z => by simpa using a z, fun z => ?_⟩
        obtain ⟨d'', b1, b2⟩ := b z
        exact ⟨d'', by simpa using b1, by simpa using b2⟩
    · cases h
  | .od :: ts, d :: ds, ρ, out, h => by
    simp only [outs] at h
    split at h
    · rename_i d' hd
      obtain ⟨o, ho, rfl⟩ := Option.map_eq_some_iff.mp h
      obtain ⟨h1, h2⟩ := outs_get ho
      refine ⟨by simp [h1], fun k t e => ?_⟩
      cases k with
      | zero =>
        simp at e; subst e
        refine ⟨fun z => (by cases z), fun _ => ⟨d', ?_, by simp⟩⟩
        cases ρ with
        | nil => simp at hd
        | cons x r => simpa using hd
      | succ k =>
        have e' : ts[k]? = some t := by simpa using e
        obtain ⟨a, b⟩ := h2 k t e'
        refine ⟨fun z => by simpa using a z, fun z => ?_⟩
        obtain ⟨d'', b1, b2⟩ := b z
        exact ⟨d'', by simpa using b1, by simpa using b2⟩
    · cases h
  | .dv _ :: ts, d :: ds, ρ, out, h => by
    simp only [outs] at h
    split at h
    · rename_i d' hd
      obtain ⟨o, ho, rfl⟩ := Option.map_eq_some_iff.mp h
      obtain ⟨h1, h2⟩ := outs_get ho
      refine ⟨by simp [h1], fun k t e => ?_⟩
      cases k with
      | zero =>
        simp at e; subst e
        refine ⟨fun z => (by cases z), fun _ => ⟨d', ?_, by simp⟩⟩
        cases ρ with
        | nil => simp at hd
        | cons x r => simpa using hd
      | succ k =>
        have e' : ts[k]? = some t := by simpa using e
        obtain ⟨a, b⟩ := h2 k t e'
        refine ⟨fun z => by simpa using a z, fun z => ?_⟩
        obtain ⟨d'', b1, b2⟩ := b z
        exact ⟨d'', by simpa using b1, by simpa using b2⟩
    · cases h
section
variable [Tb] {P : Program} {w : World} {K : PySem.W.Frag} {mg : Str → Option Value} {base : Heap}
/-- a def that may change what is handed in keeps its promise -/
theorem ok_d {x qual : Str} {st : Stmt} {f : Addr} {fd : FuncData} {N ps : List Str} {k nl : Nat} {ts : List OT} {F : Fr} {b : MS} (Fu : Fun K x qual st f fd) (S : FnScope N ps (defScope st)) (hF : ∀ i, i < ts.length → F.τ i = τOf ts i) (hfx : ∀ i, ioOf ts i = true → F.fx i = true) (hn : ps.length = ts.length) (hl : ts.length + nl = N.length)
    (hrt : F.rt = .sh ∨ ∀ (ds : List D) (ρ : Sl), b (ds.map some ++ List.replicate nl none) ≠ .ok (.nx, ρ))
    (hb : ∀ (cdv : Value) (A : Around) (outer : List Env) (s : Shared) (H : Hp) (E : XK), Room k (A.deeper (PyProof.Rows.envOfC qual (defScope st) s.heap.objs.size f cdv)) → A.guards = some [] → fd.code = cdv → PSs (cxOf CX0 P w K mg base N qual (defScope st) f cdv A outer s H E).nox (defBody st) (tS K F b)) :
    FnG P w K mg base (k + 1) f fd ps (spD K ts F.rt (runF ts nl b)) := by
  refine fng_ok Fu S (fun vs H Q E h => ?_) (fun cdv A outer s H vs Q E hr hgu hcd h => ?_)
  · obtain ⟨Z, own, ds, d, out, h1, _⟩ := h
    rw [h1, hn]
  · obtain ⟨Z, own, ds, d, out, h1, hd, rs0, hio, e, kk⟩ := h
    refine ⟨_, hb cdv A outer s H E hr hgu hcd, ?_⟩
    have hvl : vs.length ≤ N.length := by omega
    have rs : RS K F.τ Z own H (ds.map some ++ List.replicate nl none) (L2.start N vs) := by
      refine ⟨fun i d e => ?_, rs0.ls, rs0.dz, rs0.zt, by rw [start_len hvl]; simp; omega, rs0.tb⟩
      have e := getElem?_app e
      have hi : i < ts.length := by have := (List.getElem?_eq_some_iff.mp e).1; omega
      obtain ⟨v, hv, r⟩ := rs0.sl i d (by rw [List.getElem?_map, e]; rfl)
      rw [List.getElem?_map] at hv
      obtain ⟨v', hv', ev⟩ := Option.map_eq_some_iff.mp hv
      cases ev
      exact ⟨v, start_get hv', by rw [hF i hi]; exact r⟩
    have fin : ∀ {ρ' : Sl} {d : D} {v : V} {σ' : St} {Z' : Addr → Prop} {own' : Addr → Option Nat} {H' : Hp} {S : Addr → Prop} {out : List D}, outs ts ds ρ' = some out →
        (∀ v Z' own' H' S, RS K (τOf ts) Z' own' H' (out.map some) (vs.map some) → (∀ a i, own' a = some i → ioOf ts i = true) → R K Z' H' F.rt d v S → NewR H Z' own' H' S → Ext false Z own H Z' own' H' → Q v H') →
        RS K F.τ Z' own' H' ρ' σ' → Fix F.fx (L2.start N vs) σ' → R K Z' H' F.rt d v S → GivR F.fx own H Z' own' H' S → ExtF F.fx false Z own H Z' own' H' → Q v H' := fun {ρ' d v σ' Z' own' H' S out} ho kk rs' fx r gv x => by
      obtain ⟨o1, o2⟩ := outs_get ho
      have nofx : ∀ a i, own a = some i → F.fx i = false → False := fun a i h hf => by
        have := hfx i (hio a i h)
        rw [hf] at this; cases this
      refine kk v Z' (fun a => match own' a with | some i => if ioOf ts i = true then some i else none | none => none) H' S ⟨fun i d' e => ?_, fun a i e => ?_, fun a i e => ?_, rs'.zt, by simp [o1, h1], rs'.tb⟩ (fun a i e => ?_) r (fun a s => ?_) ⟨x.z, fun a z => ?_, fun a i e => ?_, x.kp, x.live, x.tk⟩
      · rw [List.getElem?_map] at e
        obtain ⟨d'', e', ed⟩ := Option.map_eq_some_iff.mp e
        cases ed
        have hi : i < ts.length := by have := (List.getElem?_eq_some_iff.mp e').1; omega
        obtain ⟨a1, a2⟩ := o2 i ts[i] (List.getElem?_eq_getElem hi)
        have hτ : τOf ts i = ts[i] := by simp [τOf, hi]
        cases ht : ts[i] with
        | sh =>
          rw [a1 ht] at e'
          obtain ⟨v', hv', r'⟩ := rs.sl i d' (by
            rw [List.getElem?_append_left (by simp; omega), List.getElem?_map, e']; rfl)
          rw [hF i hi, hτ, ht] at r'
          have hvv : (vs.map some)[i]? = some (some v') := by
            have hl2 : i < vs.length := by omega
            have := start_get (N := N) (List.getElem?_eq_getElem hl2)
            rw [this] at hv'
            rw [List.getElem?_map, List.getElem?_eq_getElem hl2]
            simpa using hv'
          refine ⟨v', hvv, ?_⟩
          rw [hτ, ht]
          exact rs.sh x r'
        | ol t0 t1 =>
          obtain ⟨d3, b1, b2⟩ := a2 (by rw [ht]; exact fun z => nomatch z)
          rw [b2] at e'; cases e'
          have hio' : ioOf ts i = true := by
            unfold ioOf
            rw [List.getElem?_eq_getElem hi, ht]
          obtain ⟨v', hv', r'⟩ := rs'.sl i d' b1
          rw [fx.2 i (hfx i hio')] at hv'
          have hvv : (vs.map some)[i]? = some (some v') := by
            have hl2 : i < vs.length := by omega
            have := start_get (N := N) (List.getElem?_eq_getElem hl2)
            rw [this] at hv'
            rw [List.getElem?_map, List.getElem?_eq_getElem hl2]
            simpa using hv'
          refine ⟨v', hvv, ?_⟩
          rw [← hF i hi]
          refine R.mono r' fun a ha => ?_
          show (match own' a with | some i => if ioOf ts i = true then some i else none | none => none) = some i
          rw [ha]
          exact if_pos hio'
        | od =>
          obtain ⟨d3, b1, b2⟩ := a2 (by rw [ht]; exact fun z => nomatch z)
          rw [b2] at e'; cases e'
          have hio' : ioOf ts i = true := by
            unfold ioOf
            rw [List.getElem?_eq_getElem hi, ht]
          obtain ⟨v', hv', r'⟩ := rs'.sl i d' b1
          rw [fx.2 i (hfx i hio')] at hv'
          have hvv : (vs.map some)[i]? = some (some v') := by
            have hl2 : i < vs.length := by omega
            have := start_get (N := N) (List.getElem?_eq_getElem hl2)
            rw [this] at hv'
            rw [List.getElem?_map, List.getElem?_eq_getElem hl2]
            simpa using hv'
          refine ⟨v', hvv, ?_⟩
          rw [← hF i hi]
          refine R.mono r' fun a ha => ?_
          show (match own' a with | some i => if ioOf ts i = true then some i else none | none => none) = some i
          rw [ha]
          exact if_pos hio'
        | dv t2 =>
          obtain ⟨d3, b1, b2⟩ := a2 (by rw [ht]; exact fun z => nomatch z)
          rw [b2] at e'; cases e'
          have hio' : ioOf ts i = true := by
            unfold ioOf
            rw [List.getElem?_eq_getElem hi, ht]
          obtain ⟨v', hv', r'⟩ := rs'.sl i d' b1
          rw [fx.2 i (hfx i hio')] at hv'
          have hvv : (vs.map some)[i]? = some (some v') := by
            have hl2 : i < vs.length := by omega
            have := start_get (N := N) (List.getElem?_eq_getElem hl2)
            rw [this] at hv'
            rw [List.getElem?_map, List.getElem?_eq_getElem hl2]
            simpa using hv'
          refine ⟨v', hvv, ?_⟩
          rw [← hF i hi]
          refine R.mono r' fun a ha => ?_
          show (match own' a with | some i => if ioOf ts i = true then some i else none | none => none) = some i
          rw [ha]
          exact if_pos hio'
      · split at e
        · split at e
          · cases e; rename_i hh _; exact rs'.ls a i hh
          · cases e
        · cases e
      · split at e
        · split at e
          · cases e; rename_i hh _; exact rs'.dz a i hh
          · cases e
        · cases e
      · split at e
        · split at e
          · cases e; assumption
          · cases e
        · cases e
      · obtain ⟨g1, g2, g3, g4⟩ := gv a s
        refine ⟨?_, ?_, g3, g4⟩
        · rcases g1 with g | ⟨i, g, gf⟩
          · exact g
          · exact (nofx a i g gf).elim
        · show (match own' a with | some i => if ioOf ts i = true then some i else none | none => none) = none
          rw [g2]
      · rcases x.zn a z with z | z | ⟨i, z, zf⟩
        · exact .inl z
        · exact .inr (.inl z)
        · exact (nofx a i z zf).elim
      · have e : (match own' a with | some i => if ioOf ts i = true then some i else none | none => none) = some i := e
        split at e
        · split at e
          · cases e; rename_i hh _; exact x.on a i hh
          · cases e
        · cases e
    unfold runF at e
    split at e
    · rename_i d' ρ' e'
      split at e
      · rename_i out' ho
        cases e
        exact ⟨Z, own, _, _, ρ', rs, e', fun v σ' Z' own' H' S rs' fx r gv x => fin ho kk rs' fx r gv x⟩
      · cases e
    · rename_i ρ' e'
      split at e
      · rename_i out' ho
        cases e
        rcases hrt with hrt | hrt
        · exact ⟨Z, own, _, _, ρ', rs, e', fun σ' Z' own' H' rs' fx x => fin (S := fun _ => False) ho kk rs' fx (by rw [hrt]; simp only [R, RSh]) (fun _ z => z.elim) x⟩
        · exact absurd e' (hrt ds ρ')
      · cases e
    · cases e
    · cases e
end
def AgR [Tb] (K : PySem.W.Frag) (Z : Addr → Prop) (H : Hp) (σ : St) : List Ag → List D → List V → Prop
  | [], ds, vs => ds = [] ∧ vs = []
  | .e _ :: r, ds, vs => ∃ d ds' v vs', ds = d :: ds' ∧ vs = v :: vs' ∧ RSh K Z H d v ∧ AgR K Z H σ r ds' vs'
  | .io i :: r, ds, vs => ∃ d ds' v vs', ds = d :: ds' ∧ vs = v :: vs' ∧ σ[i]? = some (some v) ∧ AgR K Z H σ r ds' vs'
def tAg [Tb] (K : PySem.W.Frag) (τ : Nat → OT) (q : Bool) (as : List Ag) : TA := fun σ H Q => ∃ Z own ρ ds ρ', RS K τ Z own H ρ σ ∧ evA as ρ = .ok (ds, ρ') ∧
  ∀ vs Z' own' H', RS K τ Z' own' H' ρ' σ → AgR K Z' H' σ as ds vs → Ext q Z own H Z' own' H' → Q vs H'
theorem AgR.pres [Tb] {K : PySem.W.Frag} {τ : Nat → OT} {Z Z1 : Addr → Prop} {own own1 : Addr → Option Nat} {H H1 : Hp} {ρ : Sl} {σ σ0 : St} {q : Bool} {fx : Nat → Bool} (h : RS K τ Z own H ρ σ0) (x : ExtF fx q Z own H Z1 own1 H1) : ∀ {as : List Ag} {ds : List D} {vs : List V}, AgR K Z H σ as ds vs → AgR K Z1 H1 σ as ds vs
  | [], _, _, a => a
  | .e _ :: r, _, _, ⟨d, ds', v, vs', e1, e2, r1, r2⟩ => ⟨d, ds', v, vs', e1, e2, h.sh x r1, AgR.pres h x r2⟩
  | .io i :: r, _, _, ⟨d, ds', v, vs', e1, e2, r1, r2⟩ => ⟨d, ds', v, vs', e1, e2, r1, AgR.pres h x r2⟩
section
variable [Tb] {X : Cx} {τ : Nat → OT} {q q1 q2 : Bool} {a : Expr} {es : List Expr} {ma : M D} {as : List Ag} {pos : Pos}
theorem ag_nil : PA X [] (tAg X.K τ true []) := pa_nil.mono fun σ H Q ⟨Z, own, ρ, ds, ρ', rs, e, k⟩ => by
  have e : Res.ok (([] : List D), ρ) = .ok (ds, ρ') := e
  cases e
  exact k [] Z own H rs ⟨rfl, rfl⟩ ExtF.refl
theorem ag_e (ha : PE X a (tE X.K τ q1 .sh ma)) (hr : PA X es (tAg X.K τ q2 as)) (hs : starEach (a :: es) X.env = (false, eval a X.env) :: starEach es X.env := by rfl) : PA X (a :: es) (tAg X.K τ (q1 && q2) (.e ma :: as)) := (pa_cons ha hr hs).mono fun σ H Q ⟨Z, own, ρ, ds, ρ', rs, e, k⟩ => by
  have e : mCons ma (evA as) ρ = .ok (ds, ρ') := e
  obtain ⟨x, ρ1, e1, e⟩ := bind_ok e
  obtain ⟨xs, ρ2, e2, e⟩ := bind_ok e
  cases e
  exact ⟨Z, own, ρ, x, ρ1, rs, e1, fun v Z1 own1 H1 S1 rs1 rm1 _ x1 => ⟨Z1, own1, ρ1, xs, ρ', rs1, e2, fun ws Z2 own2 H2 rs2 rl x2 =>
    k (v :: ws) Z2 own2 H2 rs2 ⟨x, xs, v, ws, rfl, rfl, rs1.sh x2 rm1, rl⟩ (x1.trans x2)⟩⟩
theorem ag_io (i : Nat) {x : Str} {p : Pos} (hr : PA X es (tAg X.K τ q as)) (hN : X.N[i]? = some x := by rfl) (hv : Vis X.env.scope x := by first | exact Or.inl rfl | exact Or.inr (Or.inl rfl) | exact Or.inr (Or.inr rfl)) (hd : (x == ("__debug__" : Str)) = false := by decide)
    (hcd : (x == ("__classdict__" : Str)) = false := by decide) (hs : starEach (.Name x p :: es) X.env = (false, eval (.Name x p) X.env) :: starEach es X.env := by rfl) : PA X (.Name x p :: es) (tAg X.K τ q (.io i :: as)) := (pa_cons (pv i hN hv hd hcd) hr hs).mono fun σ H Q ⟨Z, own, ρ, ds, ρ', rs, e, k⟩ => by
  have e : mCons (mV i) (evA as) ρ = .ok (ds, ρ') := e
  obtain ⟨d, ρ1, e1, e⟩ := bind_ok e
  obtain ⟨xs, ρ2, e2, e⟩ := bind_ok e
  cases e
  obtain ⟨e1, rfl⟩ := mV_ok e1
  obtain ⟨v, h1, _⟩ := rs.sl i d e1
  exact ⟨v, h1, Z, own, ρ1, xs, ρ', rs, e2, fun ws Z2 own2 H2 rs2 rl x2 => k (v :: ws) Z2 own2 H2 rs2 ⟨d, xs, v, ws, rfl, rfl, h1, rl⟩ x2⟩
end
def posIo : List Ag → Nat → Option Nat
  | [], _ => none
  | .e _ :: r, i => (posIo r i).map (· + 1)
  | .io j :: r, i => if j = i then some 0 else (posIo r i).map (· + 1)
def ioIx : List Ag → List Nat
  | [] => []
  | .e _ :: r => ioIx r
  | .io j :: r => j :: ioIx r
def tysOf (τ : Nat → OT) : List Ag → List OT
  | [] => []
  | .e _ :: r => .sh :: tysOf τ r
  | .io j :: r => τ j :: tysOf τ r
def isOl : OT → Bool
  | .ol _ _ => true
  | .od => true
  | .dv _ => true
  | .sh => false
/-- the i-th argument is slot j's own list -/
def IsIo (as : List Ag) (k j : Nat) : Prop := as[k]? = some (.io j)
theorem posIo_of : ∀ {as : List Ag} {i k : Nat}, posIo as i = some k → IsIo as k i
  | [], _, _, h => by simp [posIo] at h
  | .e _ :: r, i, k, h => by
    simp only [posIo] at h
    obtain ⟨j, hj, rfl⟩ := Option.map_eq_some_iff.mp h
    have := posIo_of hj
    unfold IsIo at *
    simpa using this
  | .io j :: r, i, k, h => by
    simp only [posIo] at h
    split at h
    · rename_i e; subst e; cases h; simp [IsIo]
    · obtain ⟨j, hj, rfl⟩ := Option.map_eq_some_iff.mp h
      have := posIo_of hj
      unfold IsIo at *
      simpa using this
theorem mem_ioIx : ∀ {as : List Ag} {i k : Nat}, IsIo as k i → i ∈ ioIx as
  | [], _, _, h => by simp [IsIo] at h
  | .e _ :: r, i, 0, h => by simp [IsIo] at h
  | .e _ :: r, i, k + 1, h => by
    have : IsIo r k i := by simpa [IsIo] using h
    simpa [ioIx] using mem_ioIx this
  | .io j :: r, i, 0, h => by
    have : j = i := by simpa [IsIo] using h
    simp [ioIx, this]
  | .io j :: r, i, k + 1, h => by
    have : IsIo r k i := by simpa [IsIo] using h
    simp [ioIx, mem_ioIx this]
theorem posIo_is : ∀ {as : List Ag} {i k : Nat}, (ioIx as).Nodup → IsIo as k i → posIo as i = some k
  | [], _, _, _, h => by simp [IsIo] at h
  | .e _ :: r, i, 0, _, h => by simp [IsIo] at h
  | .e _ :: r, i, k + 1, n, h => by
    have h' : IsIo r k i := by simpa [IsIo] using h
    simp [posIo, posIo_is (by simpa [ioIx] using n) h']
  | .io j :: r, i, 0, n, h => by
    have : j = i := by simpa [IsIo] using h
    simp [posIo, this]
  | .io j :: r, i, k + 1, n, h => by
    have h' : IsIo r k i := by simpa [IsIo] using h
    have n' : j ∉ ioIx r ∧ (ioIx r).Nodup := by simpa [ioIx] using n
    have : j ≠ i := fun e => n'.1 (e ▸ mem_ioIx h')
    simp [posIo, this, posIo_is n'.2 h']
/-- what is handed in, by places -/
theorem fill_get [Tb] {K : PySem.W.Frag} {Z : Addr → Prop} {H : Hp} {σ : St} {τ : Nat → OT} {ρ : Sl} : ∀ {as : List Ag} {ds full : List D} {vs : List V}, fillA as ds ρ = some full → AgR K Z H σ as ds vs →
    full.length = as.length ∧ vs.length = as.length ∧ (tysOf τ as).length = as.length ∧ ∀ k d, full[k]? = some d → ∃ v, vs[k]? = some v ∧
      (((tysOf τ as)[k]? = some OT.sh ∧ (∀ i, ¬ IsIo as k i) ∧ RSh K Z H d v) ∨ ∃ i, IsIo as k i ∧ (tysOf τ as)[k]? = some (τ i) ∧ ρ[i]? = some (some d) ∧ σ[i]? = some (some v))
  | [], _, full, _, e, ⟨e1, e2⟩ => by
    subst e1 e2
    simp only [fillA] at e
    cases e
    exact ⟨rfl, rfl, rfl, fun k d h => by simp at h⟩
  | .e m :: r, _, full, _, e, ⟨d, ds', v, vs', e1, e2, r1, r2⟩ => by
    subst e1 e2
    simp only [fillA] at e
    obtain ⟨o, ho, rfl⟩ := Option.map_eq_some_iff.mp e
    obtain ⟨a1, a2, a3, a4⟩ := fill_get (τ := τ) ho r2
    refine ⟨by simp [a1], by simp [a2], by simp [tysOf, a3], fun k d' h => ?_⟩
    cases k with
    | zero => simp at h; subst h; exact ⟨v, by simp, .inl ⟨by simp [tysOf], fun i z => by simp [IsIo] at z, r1⟩⟩
    | succ k =>
      obtain ⟨w, b1, b2⟩ := a4 k d' (by simpa using h)
      refine ⟨w, by simpa using b1, ?_⟩
      rcases b2 with ⟨c1, c2, c3⟩ | ⟨i, c1, c2, c3⟩
      · exact .inl ⟨by simpa [tysOf] using c1, fun i z => c2 i (by simpa [IsIo] using z), c3⟩
      · exact .inr ⟨i, by simpa [IsIo] using c1, by simpa [tysOf] using c2, c3⟩
  | .io j :: r, _, full, _, e, ⟨d, ds', v, vs', e1, e2, r1, r2⟩ => by
    subst e1 e2
    simp only [fillA] at e
    split at e
    · rename_i d0 hd0
      obtain ⟨o, ho, rfl⟩ := Option.map_eq_some_iff.mp e
      obtain ⟨a1, a2, a3, a4⟩ := fill_get (τ := τ) ho r2
      refine ⟨by simp [a1], by simp [a2], by simp [tysOf, a3], fun k d' h => ?_⟩
      cases k with
      | zero => simp at h; subst h; exact ⟨v, by simp, .inr ⟨j, by simp [IsIo], by simp [tysOf], hd0, r1⟩⟩
      | succ k =>
        obtain ⟨w, b1, b2⟩ := a4 k d' (by simpa using h)
        refine ⟨w, by simpa using b1, ?_⟩
        rcases b2 with ⟨c1, c2, c3⟩ | ⟨i, c1, c2, c3⟩
        · exact .inl ⟨by simpa [tysOf] using c1, fun i z => c2 i (by simpa [IsIo] using z), c3⟩
        · exact .inr ⟨i, by simpa [IsIo] using c1, by simpa [tysOf] using c2, c3⟩
    · cases e
/-- what stands in the slots behind the call -/
theorem back_get : ∀ {as : List Ag} {out : List D} {ρ : Sl} {i : Nat} {d : D}, (ioIx as).Nodup → out.length = as.length → (backA as out ρ)[i]? = some (some d) → (∃ k, IsIo as k i ∧ out[k]? = some d) ∨ ((∀ k, ¬ IsIo as k i) ∧ ρ[i]? = some (some d))
  | [], out, ρ, i, d, _, _, h => .inr ⟨fun k z => by simp [IsIo] at z, by simpa [backA] using h⟩
  | .e m :: r, [], ρ, i, d, _, hl, h => by simp at hl
  | .io j :: r, [], ρ, i, d, _, hl, h => by simp at hl
  | .e m :: r, o :: out, ρ, i, d, n, hl, h => by
    simp only [backA] at h
    rcases back_get (by simpa [ioIx] using n) (by simpa using hl) h with ⟨k, a, b⟩ | ⟨a, b⟩
    · exact .inl ⟨k + 1, by simpa [IsIo] using a, by simpa using b⟩
    · refine .inr ⟨fun k z => ?_, b⟩
      cases k with
      | zero => simp [IsIo] at z
      | succ k => exact a k (by simpa [IsIo] using z)
  | .io j :: r, o :: out, ρ, i, d, n, hl, h => by
    simp only [backA] at h
    have n' : j ∉ ioIx r ∧ (ioIx r).Nodup := by simpa [ioIx] using n
    rcases back_get n'.2 (by simpa using hl) h with ⟨k, a, b⟩ | ⟨a, b⟩
    · exact .inl ⟨k + 1, by simpa [IsIo] using a, by simpa using b⟩
    · by_cases hij : j = i
      · subst hij
        rw [List.getElem?_set] at b
        split at b
        · split at b
          · cases b; exact .inl ⟨0, by simp [IsIo], by simp⟩
          · cases b
        · rename_i z; exact absurd rfl z
      · rw [List.getElem?_set_ne hij] at b
        refine .inr ⟨fun k z => ?_, b⟩
        cases k with
        | zero => exact hij (by simpa [IsIo] using z)
        | succ k => exact a k (by simpa [IsIo] using z)
theorem back_len : ∀ (as : List Ag) (out : List D) (ρ : Sl), (backA as out ρ).length = ρ.length
  | [], _, _ => by simp [backA]
  | .e _ :: r, [], _ => by simp [backA]
  | .io _ :: r, [], _ => by simp [backA]
  | .e _ :: r, _ :: o, ρ => by simp only [backA]; exact back_len r o ρ
  | .io i :: r, d :: o, ρ => by simp only [backA]; rw [back_len r o]; simp
section
variable [Tb] {X : Cx} {τ : Nat → OT} {q : Bool} {k : Nat} {f : Addr} {fd : FuncData} {ps : List Str} {x : Str} {p pos : Pos} {e : Expr} {es : List Expr} {as : List Ag} {rt : OT} {G : Fn}
theorem callF_of (hnd : (ioIx as).Nodup) (hol : ∀ i, i ∈ ioIx as → isOl (τ i) = true) (hG : ∀ ds d out, G ds = .ok (d, out) → out.length = (tysOf τ as).length) : ∀ σ H Q, tE X.K τ false (.ow rt) (mCall G as) σ H Q → tAg X.K τ q as σ H fun vs H1 => spD X.K (tysOf τ as) rt G vs H1 Q E0 := fun σ H Q ⟨Z, own, ρ, d, ρ', rs, e, kk⟩ => by
  obtain ⟨ds, ρ1, e1, e⟩ := bind_ok e
  split at e
  case h_1 => cases e
  rename_i full ef
  split at e
  case h_2 => cases e
  case h_3 => cases e
  rename_i d' out eg
  cases e
  refine ⟨Z, own, ρ, ds, ρ1, rs, e1, fun vs Z1 own1 H1 rs1 rl x1 => ?_⟩
  obtain ⟨l1, l2, l3, hf⟩ := fill_get (τ := τ) ef rl
  have lo : out.length = as.length := by rw [hG _ _ _ eg, l3]
  have ioT : ∀ k i, IsIo as k i → (tysOf τ as)[k]? = some (τ i) ∧ ioOf (tysOf τ as) k = true := fun k i h => by
    have hk : k < full.length := by
      have := (List.getElem?_eq_some_iff.mp h).1
      omega
    obtain ⟨v, _, c⟩ := hf k full[k] (List.getElem?_eq_getElem hk)
    rcases c with ⟨c1, c2, c3⟩ | ⟨j, c1, c2, _⟩
    · exact absurd h (c2 i)
    · have : j = i := by
        unfold IsIo at h c1
        rw [h] at c1; cases c1; rfl
      subst this
      refine ⟨c2, ?_⟩
      have := hol j (mem_ioIx h)
      unfold ioOf
      rw [c2]
      revert this
      cases τ j <;> simp [isOl]
  let oc : Addr → Option Nat := fun a => (own1 a).bind (posIo as)
  have hoc : ∀ a k, oc a = some k → ∃ i, own1 a = some i ∧ IsIo as k i := fun a k h => by
    obtain ⟨i, h1, h2⟩ := Option.bind_eq_some_iff.mp h
    exact ⟨i, h1, posIo_of h2⟩
  have rsc : RS X.K (τOf (tysOf τ as)) Z1 oc H1 (full.map some) (vs.map some) := by
    refine ⟨fun k d e => ?_, fun a k h => ?_, fun a k h => ?_, rs1.zt, by simp [l1, l2], rs1.tb⟩
    · rw [List.getElem?_map] at e
      obtain ⟨d', e', ed⟩ := Option.map_eq_some_iff.mp e
      cases ed
      obtain ⟨v, hv, c⟩ := hf k d e'
      refine ⟨v, by rw [List.getElem?_map, hv]; rfl, ?_⟩
      rcases c with ⟨c1, c2, c3⟩ | ⟨i, c1, c2, c3, c4⟩
      · have : τOf (tysOf τ as) k = .sh := by simp [τOf, c1]
        rw [this]; exact c3
      · have : τOf (tysOf τ as) k = τ i := by simp [τOf, c2]
        rw [this]
        obtain ⟨v', hv', r'⟩ := rs1.sl i d c3
        rw [c4] at hv'; cases hv'
        refine R.mono r' fun a ha => ?_
        show (own1 a).bind (posIo as) = some k
        rw [ha]
        exact posIo_is hnd c1
    · obtain ⟨i, h1, _⟩ := hoc a k h
      exact rs1.ls a i h1
    · obtain ⟨i, h1, _⟩ := hoc a k h
      exact rs1.dz a i h1
  refine ⟨Z1, oc, full, _, out, by rw [l2, l3], by rw [l1, l3], rsc, fun a k h => ?_, eg, fun v Z2 oc2 H2 S rs2 h2 r hS x2 => ?_⟩
  · obtain ⟨i, _, h2⟩ := hoc a k h
    exact (ioT k i h2).2
  · let ow2 : Addr → Option Nat := fun a => match oc2 a with
      | some k => (match as[k]? with | some (.io i) => some i | _ => none)
      | none => (match own1 a with | some i => if posIo as i = none then some i else none | none => none)
    have hio2 : ∀ a i, ow2 a = some i → (∃ k, oc2 a = some k ∧ IsIo as k i) ∨ (oc2 a = none ∧ own1 a = some i ∧ posIo as i = none) := fun a i h => by
      have h : (match oc2 a with
        | some k => (match as[k]? with | some (.io i) => some i | _ => none)
        | none => (match own1 a with | some i => if posIo as i = none then some i else none | none => none)) = some i := h
      split at h
      · rename_i k hk
        split at h
        · rename_i j hj
          cases h
          exact .inl ⟨k, hk, hj⟩
        · cases h
      · rename_i hk
        split at h
        · rename_i j hj
          split at h
          · cases h; exact .inr ⟨hk, hj, by assumption⟩
          · cases h
        · cases h
    refine kk v Z2 ow2 H2 S ⟨fun i d0 e => ?_, fun a i h => ?_, fun a i h => ?_, rs2.zt, by rw [back_len]; exact rs1.len, rs2.tb⟩ r (fun a s => ?_) (x1.trans' (q2 := false) (fun z => nomatch z) (⟨x2.z, fun a z => (x2.zn a z).elim .inl (fun z => z.elim (fun z => .inr (.inl z)) (fun ⟨_, _, z⟩ => absurd z (by simp))), fun a i h => ?_, fun a o e h n => ?_, x2.live, x2.tk⟩ : ExtF fxT false Z1 own1 H1 Z2 ow2 H2))
    · rcases back_get hnd lo e with ⟨k, c1, c2⟩ | ⟨c1, c2⟩
      · obtain ⟨w, hw, rw'⟩ := rs2.sl k d0 (by rw [List.getElem?_map, c2]; rfl)
        have hk : k < full.length := by
          have := (List.getElem?_eq_some_iff.mp c1).1
          omega
        obtain ⟨v0, hv0, c⟩ := hf k full[k] (List.getElem?_eq_getElem hk)
        have c4 : σ[i]? = some (some v0) := by
          rcases c with ⟨_, c, _⟩ | ⟨j, d1, _, _, d4⟩
          · exact absurd c1 (c i)
          · have : j = i := by
              unfold IsIo at c1 d1
              rw [c1] at d1; cases d1; rfl
            subst this; exact d4
        rw [List.getElem?_map, hv0] at hw
        cases hw
        refine ⟨_, c4, ?_⟩
        have : τOf (tysOf τ as) k = τ i := by simp [τOf, (ioT k i c1).1]
        rw [this] at rw'
        refine R.mono rw' fun a ha => ?_
        show (match oc2 a with
          | some k => (match as[k]? with | some (.io i) => some i | _ => none)
          | none => (match own1 a with | some i => if posIo as i = none then some i else none | none => none)) = some i
        rw [ha]
        show (match as[k]? with | some (.io i) => some i | _ => none) = some i
        rw [show as[k]? = some (.io i) from c1]
      · obtain ⟨w, hw, rw'⟩ := rs1.sl i d0 c2
        refine ⟨w, hw, ?_⟩
        have np : posIo as i = none := by
          cases h : posIo as i with
          | none => rfl
          | some k => exact absurd (posIo_of h) (c1 k)
        have ocn : ∀ a, own1 a = some i → oc a = none := fun a h => by
          show (own1 a).bind (posIo as) = none
          rw [h]; exact np
        refine R.mono (R.pres x2.z (rsc.nl x2) (fun _ _ z s _ => rsc.kz x2 (.inl z) s) (fun a xs s hx _ => x2.keep a _ hx (.inl (ocn a s))) rw') fun a ha => ?_
        have oc2n : oc2 a = none := by
          cases h : oc2 a with
          | none => rfl
          | some k =>
            rcases x2.on a k h with z | z
            · rw [ocn a ha] at z; cases z
            · obtain ⟨xs, hx, _⟩ := rs1.ls a i ha
              rw [hx] at z; cases z
        show (match oc2 a with
          | some k => (match as[k]? with | some (.io i) => some i | _ => none)
          | none => (match own1 a with | some i => if posIo as i = none then some i else none | none => none)) = some i
        rw [oc2n, ha]
        exact if_pos np
    · rcases hio2 a i h with ⟨k, h1, _⟩ | ⟨h1, h2', h3⟩
      · exact rs2.ls a k h1
      · obtain ⟨xs, hx, hm⟩ := rs1.ls a i h2'
        have ocn : oc a = none := by
          show (own1 a).bind (posIo as) = none
          rw [h2']; exact h3
        exact ⟨xs, x2.keep a _ hx (.inl ocn), hm⟩
    · rcases hio2 a i h with ⟨k, h1, _⟩ | ⟨h1, h2', h3⟩
      · exact rs2.dz a k h1
      · intro z
        rcases x2.zn a z with z | z | ⟨j, z, zf⟩
        · exact rs1.dz a i h2' z
        · obtain ⟨xs, hx, _⟩ := rs1.ls a i h2'
          rw [hx] at z; cases z
        · cases zf
    · obtain ⟨s1, s2, s3, s4⟩ := hS a s
      refine ⟨x1.back s1, ?_, s3, s4⟩
      show (match oc2 a with
        | some k => (match as[k]? with | some (.io i) => some i | _ => none)
        | none => (match own1 a with | some i => if posIo as i = none then some i else none | none => none)) = none
      rw [s2]
      cases ho : own1 a with
      | none => rfl
      | some i => obtain ⟨xs, hx, _⟩ := rs1.ls a i ho; rw [s1] at hx; cases hx
    · rcases hio2 a i h with ⟨k, h1, h2'⟩ | ⟨h1, h2', h3⟩
      · rcases x2.on a k h1 with z | z
        · obtain ⟨j, z1, z2⟩ := hoc a k z
          have : j = i := by
            unfold IsIo at h2' z2
            rw [h2'] at z2; cases z2; rfl
          subst this
          exact .inl z1
        · exact .inr z
      · exact .inl h2'
    · rcases h with h | h
      · exact x2.keep a o e (.inl (by show (own1 a).bind (posIo as) = none; rw [h]; rfl))
      · cases h
theorem e_callF (Fu : FnG X.prog X.w X.K X.mg X.base k f fd ps (spD X.K (tysOf τ as) rt G)) (hk : PySem.W.keepIn X.K (.ref f) = true) (hb : Binds X.K fd ps []) (hr : Room k X.A) (hgu : X.A.guards = some []) (hm : X.mg x = some (.ref f)) (ha : PA X (e :: es) (tAg X.K τ q as)) (hG : ∀ ds d out, G ds = .ok (d, out) → out.length = (tysOf τ as).length) (hnd : (ioIx as).Nodup := by simp [ioIx]) (hol : ∀ i, i ∈ ioIx as → isOl (τ i) = true := by simp [ioIx, isOl]) (hg : Gl X x := by rfl)
    (hdb : (x == ("__debug__" : Str)) = false := by decide) (he : starEach (e :: es) X.env = (false, eval e X.env) :: starEach es X.env := by rfl) (hpl : (backTo pos (starEach es X.env)).any (·.1) = false := by rfl) :
    PE X (.Call (.Name x p) (e :: es) [] pos) (tE X.K τ false (.ow rt) (mCall G as)) := (pe_callG Fu hr hgu hg hm hk hb ha hdb he hpl).mono (callF_of hnd hol hG)
end
theorem runF_len {ts : List OT} {nl : Nat} {b : MS} : ∀ ds d out, runF ts nl b ds = .ok (d, out) → out.length = ts.length := fun ds d out e => by
  unfold runF at e
  split at e
  · split at e
    · rename_i ho; cases e; exact (outs_get ho).1
    · cases e
  · split at e
    · rename_i ho; cases e; exact (outs_get ho).1
    · cases e
  · cases e
  · cases e
end CL
namespace CL
open PySem PySem.Spec L2
set_option autoImplicit false
section
variable [Tb] {K : PySem.W.Frag} {τ : Nat → OT} {Z : Addr → Prop} {own : Addr → Option Nat} {H : Hp} {ρ : Sl} {σ : St} {i : Nat}
theorem upd_sqL {a : Addr} {ys : List V} (hz : ¬ Z a) : ∀ b o, Z b → H b = some o → NT o → upd H a (.lst ys) b = some o := fun b o z s _ => by
  rw [upd_ne (fun e => by subst e; exact hz z)]; exact s
/-- a slot's own list is changed -/
theorem RS.updOwn {a : Addr} {xs ys : List V} {v : V} {d : D} (h : RS K τ Z own H ρ σ) (ho : own a = some i) (ha : H a = some (.lst xs)) (hv : σ[i]? = some (some v)) (hn : R K Z (upd H a (.lst ys)) (τ i) d v (fun b => own b = some i)) :
    RS K τ Z own (upd H a (.lst ys)) (ρ.set i (some d)) σ ∧ Ext false Z own H Z own (upd H a (.lst ys)) := by
  have hz := h.dz a i ho
  refine ⟨⟨fun j d' e => ?_, fun b j e => ?_, h.dz, fun b z e => ?_, by simpa using h.len, (upd_tk ha trivial).ok h.tb⟩, fun _ z => z, fun _ z => .inl z, fun _ _ z => .inl z, fun b o e hb _ => ?_, fun b e n => ?_, upd_tk ha trivial⟩
  · by_cases hij : i = j
    · subst hij
      rw [List.getElem?_set] at e
      split at e
      · split at e
        · cases e; exact ⟨v, hv, hn⟩
        · cases e
      · rename_i n; exact absurd rfl n
    · rw [List.getElem?_set_ne hij] at e
      obtain ⟨w, e1, e2⟩ := h.sl j d' e
      refine ⟨w, e1, R.pres (fun _ z => z) (upd_nl ha trivial) (upd_sqL hz) (fun b zs s hb _ => ?_) e2⟩
      rw [upd_ne (fun e => by subst e; rw [ho] at s; cases s; exact hij rfl)]; exact hb
  · by_cases hb : b = a
    · subst hb; exact ⟨_, upd_same, trivial⟩
    · obtain ⟨zs, hx, hm⟩ := h.ls b j e
      exact ⟨zs, by rw [upd_ne hb]; exact hx, hm⟩
  · rw [upd_ne (fun w => by subst w; exact hz z)] at e
    exact h.zt b z e
  · rcases hb with hb | hb
    · rw [upd_ne (fun w => by subst w; rw [ho] at hb; cases hb)]; exact e
    · cases hb
  · by_cases hb : b = a
    · subst hb; rw [upd_same] at n; cases n
    · rw [upd_ne hb] at n; exact e n
theorem RS.own1 {l : List D} (h : RS K τ Z own H ρ σ) (ht : τ i = .ol .sh .sh) (hi : ρ[i]? = some (some (.lst l))) : ∃ a xs, σ[i]? = some (some (.ref a)) ∧ H a = some (.lst xs) ∧ own a = some i ∧ RShL K Z H l xs ∧
    ∀ l' ys, RShL K Z H l' ys → RS K τ Z own (upd H a (.lst ys)) (ρ.set i (some (.lst l'))) σ ∧ Ext false Z own H Z own (upd H a (.lst ys)) := by
  obtain ⟨v, hv, r⟩ := h.sl i _ hi
  rw [ht] at r
  obtain ⟨l0, a, xs, ow, e1, rfl, e3, e4, e5, e6, e7, e8⟩ := r
  cases e1
  refine ⟨a, xs, hv, e3, e4, .of_get e6 fun n d v p q => ?_, fun l' ys r' => h.updOwn e4 e3 hv ?_⟩
  · cases n with
    | zero => exact e7 d v p q
    | succ n => exact e8 n d v p q
  · rw [ht]
    have rr : RShL K Z (upd H a (.lst ys)) l' ys := RShL.pres (fun _ z => z) (upd_nl e3 trivial) (upd_sqL (h.dz a i e4)) _ _ r'
    refine ⟨l', a, ys, ow, rfl, rfl, upd_same, e4, e5, rr.len, fun d v p q => ?_, fun n d v p q => ?_⟩
    · obtain ⟨w, x, y⟩ := rr.get p
      rw [q] at x; cases x; exact y
    · obtain ⟨w, x, y⟩ := rr.get p
      rw [q] at x; cases x; exact y
theorem RS.own0 {l r : List D} {t : OT} (h : RS K τ Z own H ρ σ) (ht : τ i = .ol (.ol .sh .sh) t) (hi : ρ[i]? = some (some (.lst (.lst l :: r)))) : ∃ a b xs ys, σ[i]? = some (some (.ref a)) ∧ H a = some (.lst (.ref b :: xs)) ∧ H b = some (.lst ys) ∧ own b = some i ∧ RShL K Z H l ys ∧
    ∀ l' ys', RShL K Z H l' ys' → RS K τ Z own (upd H b (.lst ys')) (ρ.set i (some (.lst (.lst l' :: r)))) σ ∧ Ext false Z own H Z own (upd H b (.lst ys')) := by
  obtain ⟨v, hv, rr⟩ := h.sl i _ hi
  rw [ht] at rr
  obtain ⟨l0, a, xs0, ow, e1, rfl, e3, e4, e5, e6, e7, e8⟩ := rr
  cases e1
  cases xs0 with
  | nil => simp at e6
  | cons v0 xs =>
    obtain ⟨l1, b, ys, ow', f1, rfl, f3, f4, f5, f6, f7, f8⟩ := e7 (.lst l) v0 (by simp) (by simp)
    cases f1
    have hz := h.dz b i f4.1
    have nab : a ≠ b := fun e => by subst e; rw [e5] at f4; cases f4.2
    refine ⟨a, b, xs, ys, hv, e3, f3, f4.1, .of_get f6 fun n d v p q => ?_, fun l' ys' r' => h.updOwn f4.1 f3 hv ?_⟩
    · cases n with
      | zero => exact f7 d v p q
      | succ n => exact f8 n d v p q
    · rw [ht]
      have rl : RShL K Z (upd H b (.lst ys')) l' ys' := RShL.pres (fun _ z => z) (upd_nl f3 trivial) (upd_sqL hz) _ _ r'
      refine ⟨.lst l' :: r, a, .ref b :: xs, ow, rfl, rfl, by rw [upd_ne nab]; exact e3, e4, e5, by simpa using e6, fun d v p q => ?_, fun n d v p q => ?_⟩
      · simp at p q
        subst p q
        refine ⟨l', b, ys', ow', rfl, rfl, upd_same, f4, f5, rl.len, fun d v p q => ?_, fun n d v p q => ?_⟩
        · obtain ⟨w, x, y⟩ := rl.get p
          rw [q] at x; cases x; exact y
        · obtain ⟨w, x, y⟩ := rl.get p
          rw [q] at x; cases x; exact y
      · refine R.pres (fun _ z => z) (upd_nl f3 trivial) (upd_sqL hz) (fun c zs s hc _ => ?_) (e8 n d v (by simpa using p) (by simpa using q))
        rw [upd_ne (fun e => by subst e; rw [f4.2] at s; cases s.2)]; exact hc
theorem RS.ownS {l : List D} {t0 : OT} (h : RS K τ Z own H ρ σ) (ht : τ i = .ol t0 .sh) (hi : ρ[i]? = some (some (.lst l))) : ∃ a xs, σ[i]? = some (some (.ref a)) ∧ H a = some (.lst xs) ∧ l.length = xs.length ∧ (∀ k d, l[k + 1]? = some d → ∃ v, xs[k + 1]? = some v ∧ RSh K Z H d v) ∧
    ∀ k d v, RSh K Z H d v → RS K τ Z own (upd H a (.lst (xs.set (k + 1) v))) (ρ.set i (some (.lst (l.set (k + 1) d)))) σ ∧ Ext false Z own H Z own (upd H a (.lst (xs.set (k + 1) v))) := by
  obtain ⟨v, hv, rr⟩ := h.sl i _ hi
  rw [ht] at rr
  obtain ⟨l0, a, xs, ow, e1, rfl, e3, e4, e5, e6, e7, e8⟩ := rr
  cases e1
  have hz := h.dz a i e4
  refine ⟨a, xs, hv, e3, e6, fun k d e => ?_, fun k d v r => h.updOwn e4 e3 hv ?_⟩
  · have hk : k + 1 < xs.length := by rw [← e6]; exact (List.getElem?_eq_some_iff.mp e).1
    exact ⟨_, List.getElem?_eq_getElem hk, e8 k d _ e (List.getElem?_eq_getElem hk)⟩
  · rw [ht]
    have rn : RSh K Z (upd H a (.lst (xs.set (k + 1) v))) d v := RSh.pres (fun _ z => z) (upd_nl e3 trivial) (upd_sqL hz) _ _ r
    refine ⟨l.set (k + 1) d, a, _, ow, rfl, rfl, upd_same, e4, e5, by simpa using e6, fun d' v' p q => ?_, fun n d' v' p q => ?_⟩
    · rw [List.getElem?_set_ne (by omega)] at p q
      refine R.pres (fun _ z => z) (upd_nl e3 trivial) (upd_sqL hz) (fun c zs s hc _ => ?_) (e7 d' v' p q)
      rw [upd_ne (fun e => by subst e; rw [e5] at s; cases s.2)]; exact hc
    · by_cases hn : k = n
      · subst hn
        rw [List.getElem?_set] at p q
        simp only [if_true] at p q
        split at p
        · split at q
          · cases p; cases q; exact rn
          · cases q
        · cases p
      · rw [List.getElem?_set_ne (by omega)] at p q
        exact RSh.pres (fun _ z => z) (upd_nl e3 trivial) (upd_sqL hz) _ _ (e8 n d' v' p q)
end
def mApp (i : Nat) (m : M D) : M D := bind (mV i) fun _ => bind m fun d => fun ρ => match ρ[i]? with
  | some (some (.lst l)) => if l.length < 16777216 then .ok (.non, ρ.set i (some (.lst (l ++ [d])))) else .bad
  | _ => .bad
def mIx0 (i : Nat) : M D := fun ρ => match ρ[i]? with
  | some (some (.lst (.lst l :: _))) => .ok (.lst l, ρ)
  | _ => .bad
def mApp0 (i : Nat) (m : M D) : M D := bind (mIx0 i) fun _ => bind m fun d => fun ρ => match ρ[i]? with
  | some (some (.lst (.lst l :: r))) => if l.length < 16777216 then .ok (.non, ρ.set i (some (.lst (.lst (l ++ [d]) :: r)))) else .bad
  | _ => .bad
def mPop0 (i : Nat) : M D := fun ρ => match ρ[i]? with
  | some (some (.lst (.lst l :: r))) => (match l[l.length - 1]? with | some d => .ok (d, ρ.set i (some (.lst (.lst l.dropLast :: r)))) | none => .bad)
  | _ => .bad
def mIxS (i k : Nat) : M D := fun ρ => match ρ[i]? with
  | some (some (.lst l)) => (match l[k + 1]? with | some d => .ok (d, ρ) | none => .bad)
  | _ => .bad
def sSto (i k : Nat) (m : M D) : MS := bind m fun d => fun ρ => match ρ[i]? with
  | some (some (.lst l)) => if k + 1 < l.length then .ok (.nx, ρ.set i (some (.lst (l.set (k + 1) d)))) else .bad
  | _ => .bad
theorem RShL.dropLast {K : PySem.W.Frag} {Z : Addr → Prop} {H : Hp} {ds : List D} {vs : List V} (h : RShL K Z H ds vs) : RShL K Z H ds.dropLast vs.dropLast := by
  rw [List.dropLast_eq_take, List.dropLast_eq_take, h.len]
  exact h.take _
section
variable [Tb] {X : Cx} {τ : Nat → OT} {q : Bool} {e : Expr} {ma : M D} {pos apos p1 p2 : Pos} {x : Str} {kk : Nat}
theorem e_app (i : Nat) (he : PA X [e] (tAs X.K τ q (mCons ma mNil))) (ht : τ i = .ol .sh .sh := by rfl) (hN : X.N[i]? = some x := by rfl) (hv : Vis X.env.scope x := by first | exact Or.inl rfl | exact Or.inr (Or.inl rfl) | exact Or.inr (Or.inr rfl)) (hd : (x == ("__debug__" : Str)) = false := by decide)
    (hcd : (x == ("__classdict__" : Str)) = false := by decide) (hbase : attributeBase (.Name x p1) "append" X.env (eval (.Name x p1) X.env) = eval (.Name x p1) X.env := by rfl)
    (hfew : ((backTo pos (starEach [e] X.env)).all (fun x => !x.1) && (backToKw pos (keywordEach [] X.env)).all (fun x => x.1.isSome) && decide ([e].length + ([] : List Keyword).length + (if ([] : List Keyword).isEmpty then 0 else 1) < 30)) = true := by rfl)
    (hline : (apos.endLine == pos.line) = true := by rfl) (hs : starEach [e] X.env = (false, eval e X.env) :: starEach [] X.env := by rfl) (hplain : (backTo pos (starEach [] X.env)).any (·.1) = false := by rfl) :
    PE X (.Call (.Attribute (.Name x p1) "append" apos) [e] [] pos) (tE X.K τ false .sh (mApp i ma)) :=
  (pe_bm PySem.F.plainAttrs_list PySem.F.slot_list_append PySem.F.type_list_append mt_append (pv i hN hv hd hcd) he hbase hfew hline hs hplain).mono fun σ H Q ⟨Z, own, ρ, d, ρ', rs, e, k⟩ => by
    obtain ⟨y, ρ1, e1, f1⟩ := bind_ok e
    obtain ⟨e1, rfl⟩ := mV_ok e1
    obtain ⟨d1, ρ2, e2, f2⟩ := bind_ok f1
    split at f2
    · rename_i l hl
      split at f2
      · rename_i hll
        cases f2
        obtain ⟨v, hv1, hr⟩ := rs.sl i y e1
        rw [ht] at hr
        obtain ⟨l0, a, xs, ow, h1, rfl, h3, h4, h5, h6, h7, h8⟩ := hr
        refine ⟨.ref a, hv1, .inl ⟨rfl, xs, SqL.of h3⟩, Z, own, ρ1, [d1], ρ2, rs, by unfold mCons; rw [bind_of e2]; rfl, fun vs Z1 own1 H1 rs1 rl x1 => ?_⟩
        simp only [RShL] at rl
        obtain ⟨w, ws, rfl, r1, rfl⟩ := rl
        obtain ⟨a', xs', g1, g2, g3, g4, g5⟩ := rs1.own1 ht hl
        rw [hv1] at g1; cases g1
        obtain ⟨rs2, x2⟩ := g5 (l ++ [d1]) (xs' ++ [w]) (g4.append (.one r1))
        refine ⟨a, xs', w, rfl, rfl, g2, by rw [← g4.len, szL]; exact hll, k _ Z1 own1 _ (fun _ => False) rs2 (by simp only [Rm, R, RSh]) (fun _ z => z.elim) ((x1.weak).transF x2)⟩
      · cases f2
    · cases f2
theorem e_ix0 (i : Nat) {t : OT} (ht : τ i = .ol (.ol .sh .sh) t := by rfl) (hN : X.N[i]? = some x := by rfl) (hv : Vis X.env.scope x := by first | exact Or.inl rfl | exact Or.inr (Or.inl rfl) | exact Or.inr (Or.inr rfl)) (hd : (x == ("__debug__" : Str)) = false := by decide)
    (hcd : (x == ("__classdict__" : Str)) = false := by decide) : PE X (.Subscript (.Name x p1) (.Constant (.int 0) kk p2) pos) (tE X.K τ true .pk (mIx0 i)) :=
  (pe_ix ix_list (pv i hN hv hd hcd) pe_int (fun _ _ => rfl)).mono fun σ H Q ⟨Z, own, ρ, d, ρ', rs, e, k⟩ => by
    unfold mIx0 at e
    split at e
    · rename_i l r hl
      cases e
      obtain ⟨a, b, xs, ys, g1, g2, g3, g4, g5, g6⟩ := rs.own0 ht hl
      exact ⟨.ref a, g1, a, .ref b :: xs, 0, .ref b, rfl, rfl, SqL.of g2, atI_nat (j := 0) rfl, k _ Z own H (fun _ => False) rs (.inr ⟨l, b, ys, rfl, rfl, g3, by rw [g4]; simp, g5⟩) (fun _ z => z.elim) ExtF.refl⟩
    · cases e
theorem e_ixS (i k : Nat) {t0 : OT} {j : Int} (ht : τ i = .ol t0 .sh := by rfl) (hj : j = ((k + 1 : Nat) : Int) := by rfl) (hN : X.N[i]? = some x := by rfl) (hv : Vis X.env.scope x := by first | exact Or.inl rfl | exact Or.inr (Or.inl rfl) | exact Or.inr (Or.inr rfl)) (hd : (x == ("__debug__" : Str)) = false := by decide)
    (hcd : (x == ("__classdict__" : Str)) = false := by decide) : PE X (.Subscript (.Name x p1) (.Constant (.int j) kk p2) pos) (tE X.K τ true .sh (mIxS i k)) :=
  (pe_ix ix_list (pv i hN hv hd hcd) pe_int (fun _ _ => rfl)).mono fun σ H Q ⟨Z, own, ρ, d, ρ', rs, e, kq⟩ => by
    unfold mIxS at e
    split at e
    · rename_i l hl
      split at e
      · rename_i d1 hd1
        cases e
        obtain ⟨a, xs, g1, g2, g3, g4, g5⟩ := rs.ownS ht hl
        obtain ⟨v, hv1, rv⟩ := g4 k d hd1
        exact ⟨.ref a, g1, a, xs, j, v, rfl, rfl, SqL.of g2, by rw [hj]; exact atI_nat hv1, kq v Z own H (fun _ => False) rs rv (fun _ z => z.elim) ExtF.refl⟩
      · cases e
    · cases e
theorem e_pop0 (i : Nat) {t : OT} (ht : τ i = .ol (.ol .sh .sh) t := by rfl) (hN : X.N[i]? = some x := by rfl) (hv : Vis X.env.scope x := by first | exact Or.inl rfl | exact Or.inr (Or.inl rfl) | exact Or.inr (Or.inr rfl)) (hd : (x == ("__debug__" : Str)) = false := by decide)
    (hcd : (x == ("__classdict__" : Str)) = false := by decide) {p0 : Pos} (hbase : attributeBase (.Subscript (.Name x p1) (.Constant (.int 0) kk p2) p0) "pop" X.env (eval (.Subscript (.Name x p1) (.Constant (.int 0) kk p2) p0) X.env) = eval (.Subscript (.Name x p1) (.Constant (.int 0) kk p2) p0) X.env := by rfl) (hline : (apos.endLine == pos.line) = true := by rfl) :
    PE X (.Call (.Attribute (.Subscript (.Name x p1) (.Constant (.int 0) kk p2) p0) "pop" apos) [] [] pos) (tE X.K τ false .sh (mPop0 i)) :=
  (pe_bm0 PySem.F.plainAttrs_list PySem.F.slot_list_pop PySem.F.type_list_pop mt_pop (pe_ix ix_list (pv i hN hv hd hcd) pe_int (fun _ _ => rfl)) hbase hline).mono fun σ H Q ⟨Z, own, ρ, d, ρ', rs, e, k⟩ => by
    unfold mPop0 at e
    split at e
    · rename_i l r hl
      split at e
      · rename_i d1 hd1
        cases e
        obtain ⟨a, b, xs, ys, g1, g2, g3, g4, g5, g6⟩ := rs.own0 ht hl
        obtain ⟨rs2, x2⟩ := g6 l.dropLast ys.dropLast g5.dropLast
        obtain ⟨v, hv1, rv⟩ := g5.get hd1
        rw [g5.len] at hv1
        exact ⟨.ref a, g1, a, .ref b :: xs, 0, .ref b, rfl, rfl, SqL.of g2, atI_nat (j := 0) rfl, .inl ⟨rfl, ys, SqL.of g3⟩, b, ys, v, rfl, rfl, g3, hv1, k v Z own _ (fun _ => False) rs2 (rs.sh x2 rv) (fun _ z => z.elim) x2⟩
      · cases e
    · cases e
theorem e_app0 (i : Nat) {t : OT} (he : PA X [e] (tAs X.K τ true (mCons ma mNil))) (ht : τ i = .ol (.ol .sh .sh) t := by rfl) (hN : X.N[i]? = some x := by rfl) (hv : Vis X.env.scope x := by first | exact Or.inl rfl | exact Or.inr (Or.inl rfl) | exact Or.inr (Or.inr rfl)) (hd : (x == ("__debug__" : Str)) = false := by decide)
    (hcd : (x == ("__classdict__" : Str)) = false := by decide) {p0 : Pos} (hbase : attributeBase (.Subscript (.Name x p1) (.Constant (.int 0) kk p2) p0) "append" X.env (eval (.Subscript (.Name x p1) (.Constant (.int 0) kk p2) p0) X.env) = eval (.Subscript (.Name x p1) (.Constant (.int 0) kk p2) p0) X.env := by rfl)
    (hfew : ((backTo pos (starEach [e] X.env)).all (fun x => !x.1) && (backToKw pos (keywordEach [] X.env)).all (fun x => x.1.isSome) && decide ([e].length + ([] : List Keyword).length + (if ([] : List Keyword).isEmpty then 0 else 1) < 30)) = true := by rfl)
    (hline : (apos.endLine == pos.line) = true := by rfl) (hs : starEach [e] X.env = (false, eval e X.env) :: starEach [] X.env := by rfl) (hplain : (backTo pos (starEach [] X.env)).any (·.1) = false := by rfl) :
    PE X (.Call (.Attribute (.Subscript (.Name x p1) (.Constant (.int 0) kk p2) p0) "append" apos) [e] [] pos) (tE X.K τ false .sh (mApp0 i ma)) :=
  (pe_bm PySem.F.plainAttrs_list PySem.F.slot_list_append PySem.F.type_list_append mt_append (pe_ix ix_list (pv i hN hv hd hcd) pe_int (fun _ _ => rfl)) he hbase hfew hline hs hplain).mono fun σ H Q ⟨Z, own, ρ, d, ρ', rs, e, k⟩ => by
    obtain ⟨y, ρ1, e1, f1⟩ := bind_ok e
    obtain ⟨d1, ρ2, e2, f2⟩ := bind_ok f1
    unfold mIx0 at e1
    split at e1
    · rename_i l1 r1 hl1
      cases e1
      split at f2
      · rename_i l r hl
        split at f2
        · rename_i hll
          cases f2
          obtain ⟨a, b, xs, ys, g1, g2, g3, g4, g5, g6⟩ := rs.own0 ht hl1
          refine ⟨.ref a, g1, a, .ref b :: xs, 0, .ref b, rfl, rfl, SqL.of g2, atI_nat (j := 0) rfl, .inl ⟨rfl, ys, SqL.of g3⟩, Z, own, _, [d1], ρ2, rs, by unfold mCons; rw [bind_of e2]; rfl, fun vs Z1 own1 H1 rs1 rl x1 => ?_⟩
          simp only [RShL] at rl
          obtain ⟨w, ws, rfl, rw1, rfl⟩ := rl
          obtain ⟨a', b', xs', ys', f1, f2, f3, f4, f5, f6⟩ := rs1.own0 ht hl
          rw [g1] at f1; cases f1
          rw [x1.keep a _ g2 (.inr rfl)] at f2; cases f2
          obtain ⟨rs2, x2⟩ := f6 (l ++ [d1]) (ys' ++ [w]) (f5.append (.one rw1))
          exact ⟨b, ys', w, rfl, rfl, f3, by rw [← f5.len, szL]; exact hll, k _ Z1 own1 _ (fun _ => False) rs2 (by simp only [Rm, R, RSh]) (fun _ z => z.elim) ((x1.weak).transF x2)⟩
        · cases f2
      · cases f2
    · cases e1
/-- slot[k + 1] = e -/
theorem s_sto {F : Fr} {j : Int} {t0 : OT} (i k : Nat) (he : PE X e (tE X.K F.τ q .sh ma)) (ht : F.τ i = .ol t0 .sh := by rfl) (hj : j = ((k + 1 : Nat) : Int) := by rfl) (hN : X.N[i]? = some x := by rfl) (hv : Vis X.env.scope x := by first | exact Or.inl rfl | exact Or.inr (Or.inl rfl) | exact Or.inr (Or.inr rfl)) (hd : (x == ("__debug__" : Str)) = false := by decide)
    (hcd : (x == ("__classdict__" : Str)) = false := by decide) {p0 : Pos} (hs : swapsWithSole [.Subscript (.Name x p1) (.Constant (.int j) kk p2) p0] e pos.line X.env = pure false := by rfl) (hw : swappedStores [.Subscript (.Name x p1) (.Constant (.int j) kk p2) p0] e X.env = pure none := by rfl) :
    PS X (.Assign [.Subscript (.Name x p1) (.Constant (.int j) kk p2) p0] e pos) (tS X.K F (sSto i k ma)) := (ps_asg he (pg_sub (pv i hN hv hd hcd) pe_int set_list) hs hw).mono fun E σ H ⟨Z, own, ρ, f, ρ', rs, e, o⟩ => by
  obtain ⟨d1, ρ1, e1, f1⟩ := bind_ok e
  split at f1
  · rename_i l hl
    split at f1
    · rename_i hk
      cases f1
      refine ⟨Z, own, ρ, d1, ρ1, rs, e1, fun v Z1 own1 H1 S rs1 rm n x1 => ?_⟩
      obtain ⟨a, xs, g1, g2, g3, g4, g5⟩ := rs1.ownS ht hl
      obtain ⟨rs2, x2⟩ := g5 k d1 v rm
      refine ⟨.ref a, g1, a, xs, j, k + 1, rfl, rfl, g2, ?_, o σ Z1 own1 _ rs2 Fix.refl ((x1.weak.any).transF x2.any)⟩
      rw [hj, ← g3]
      unfold ixN
      rw [if_pos (by omega), if_pos (by omega)]
      simp
    · cases f1
  · cases f1
/-- [e, ..], the first one a new list of its own -/
theorem e_lstH {es : List Expr} {q2 : Bool} {ms : M (List D)} {t : OT} (ha : PE X e (tE X.K τ q (.ow t) ma)) (hr : PA X es (tAs X.K τ q2 ms)) (hs : starEach (e :: es) X.env = (false, eval e X.env) :: starEach es X.env := by rfl) :
    PE X (.List (e :: es) pos) (tE X.K τ (q && q2) (.ow (.ol t .sh)) (mN bLst (mCons ma ms))) := (pe_lst (pa_cons ha hr hs)).mono fun σ H Q ⟨Z, own, ρ, d, ρ', rs, e, k⟩ => by
  obtain ⟨xs0, ρ1, e1, f1⟩ := bind_ok e
  obtain ⟨d0, ρ2, e2, f2⟩ := bind_ok e1
  obtain ⟨ds, ρ3, e3, f3⟩ := bind_ok f2
  cases f3
  obtain ⟨f4, rfl⟩ := ofO_ok f1
  unfold bLst at f4
  split at f4
  · rename_i hl
    cases f4
    refine ⟨Z, own, ρ, d0, ρ2, rs, e2, fun v Z1 own1 H1 S1 rs1 rm1 n1 x1 => ⟨Z1, own1, ρ2, ds, ρ', rs1, e3, fun vs Z2 own2 H2 rs2 rl x2 => ⟨szl hl (by simp [rl.len]), fun p hp => ?_⟩⟩⟩
    have g : Grow H2 (upd H2 p (.lst (v :: vs))) := Grow.new hp
    have rm2 : R X.K Z2 H2 t d0 v S1 := rs1.apart x2 (fun a s => (n1 a s).2.1) rm1
    have n2 : ∀ a, S1 a → H a = none ∧ own2 a = none ∧ ¬ Z2 a ∧ ∃ o, H2 a = some o ∧ Mut o := fun a s => by
      obtain ⟨m1, m2, m3, xs, m4, m5⟩ := n1 a s
      refine ⟨m1, ?_, fun z => ?_, xs, x2.keep a _ m4 (.inl m2), m5⟩
      · cases h : own2 a with
        | none => rfl
        | some i =>
          rcases x2.on a i h with z | z
          · rw [m2] at z; cases z
          · rw [m4] at z; cases z
      · rcases x2.zn a z with z | z | ⟨i, z, _⟩
        · exact m3 z
        · rw [m4] at z; cases z
        · rw [m2] at z; cases z
    have np : ∀ a, S1 a → a ≠ p := fun a s e => by
      subst e
      obtain ⟨_, _, _, xs, m, _⟩ := n2 a s
      rw [hp] at m; cases m
    have pf : H p = none := (x1.transF x2).back hp
    classical
    refine k _ Z2 own2 _ (fun a => a = p ∨ S1 a) (rs2.growO g) ⟨d0 :: ds, p, v :: vs, fun a => if a = p then none else some 0, rfl, rfl, upd_same, .inl rfl, if_pos rfl, by simp [rl.len], fun d w h1 h2 => ?_, fun n d w h1 h2 => ?_⟩ (fun a s => ?_) ((x1.trans x2).trans' (fun z => ⟨z, rfl⟩) (ExtF.growO (q := true) g))
    · simp at h1 h2
      subst h1 h2
      exact R.mono (g.r rm2) fun a s => ⟨.inr s, if_neg (np a s)⟩
    · obtain ⟨w', y1, y2⟩ := rl.get (i := n) (d := d) (by simpa using h1)
      have : vs[n]? = some w := by simpa using h2
      rw [this] at y1; cases y1
      exact g.sh y2
    · rcases s with rfl | s
      · refine ⟨pf, ?_, fun z => rs2.zt a z hp, _, upd_same, trivial⟩
        cases h : own2 a with
        | none => rfl
        | some i => obtain ⟨xs, hx, _⟩ := rs2.ls a i h; rw [hp] at hx; cases hx
      · obtain ⟨m1, m2, m3, xs, m4, m5⟩ := n2 a s
        exact ⟨m1, m2, m3, xs, g.at_ a _ m4 m5.nt, m5⟩
  · cases f4
end
end CL
namespace CL
open PySem PySem.Spec L2
set_option autoImplicit false
def big : Nat := 2 ^ 400000
def bigD : Nat := 2 ^ 8000
def bAdd : D → D → Option D
  | .int a, .int b => some (.int (a + b))
  | .str a, .str b => if a.length + b.length ≤ 16777216 then some (.str (a ++ b)) else none
  | .tup a, .tup b => if a.length + b.length ≤ 16777216 then some (.tup (a ++ b)) else none
  | .lst a, .lst b => if a.length + b.length ≤ 16777216 then some (.lst (a ++ b)) else none
  | _, _ => none
def bSub : D → D → Option D
  | .int a, .int b => some (.int (a - b))
  | _, _ => none
def bMul : D → D → Option D
  | .int a, .int b => if a.natAbs < 2 ^ 64 ∨ b.natAbs < 2 ^ 64 ∨ (a.natAbs < big ∧ b.natAbs < big) then some (.int (a * b)) else none
  | _, _ => none
def bDiv : D → D → Option D
  | .int a, .int b => if b ≠ 0 ∧ b.natAbs < bigD then some (.int (a.fdiv b)) else none
  | _, _ => none
def bMod : D → D → Option D
  | .int a, .int b => if b ≠ 0 then some (.int (a.fmod b)) else none
  | _, _ => none
def bPow : D → D → Option D
  | .int a, .int b => if 0 ≤ b ∧ b ≤ 1000000 ∧ a.natAbs < 2 ^ 64 then some (.int (a ^ b.toNat)) else none
  | _, _ => none
def bNeg : D → Option D
  | .int a => some (.int (-a))
  | _ => none
def bLt : D → D → Option D
  | .int a, .int b => some (.bl (decide (a < b)))
  | _, _ => none
def bLe : D → D → Option D
  | .int a, .int b => some (.bl (decide (a ≤ b)))
  | _, _ => none
def bGt : D → D → Option D
  | .int a, .int b => some (.bl (decide (b < a)))
  | _, _ => none
def bGe : D → D → Option D
  | .int a, .int b => some (.bl (decide (b ≤ a)))
  | _, _ => none
theorem big_log {a : Int} (h : a.natAbs < big) : a.natAbs.log2 < 400000 := by
  by_cases z : a.natAbs = 0
  · rw [z]; decide
  · exact (Nat.log2_lt z).mpr h
theorem bigD_log {a : Int} (h : a.natAbs < bigD) : a.natAbs.log2 < 9000 := by
  by_cases z : a.natAbs = 0
  · rw [z]; decide
  · exact Nat.lt_trans ((Nat.log2_lt z).mpr h) (by decide)
section
variable [Tb] {K : PySem.W.Frag} {Z : Addr → Prop} {H : Hp} {v : V}
theorem Pk0.str {x : Str} (h : Pk0 K Z H (.str x) v) : v = .str x := by
  rcases h with h | ⟨l, a, xs, e, _⟩
  · simpa only [RSh] using h
  · cases e
theorem Pk0.non (h : Pk0 K Z H .non v) : v = .non := by
  rcases h with h | ⟨l, a, xs, e, _⟩
  · simpa only [RSh] using h
  · cases e
theorem Pk0.tup {l : List D} (h : Pk0 K Z H (.tup l) v) : ∃ a xs, v = .ref a ∧ SqT K H a xs ∧ RShL K Z H l xs := by
  rcases h with h | ⟨l, a, xs, e, _⟩
  · simpa only [RSh] using h
  · cases e
theorem Pk0.lst {l : List D} (h : Pk0 K Z H (.lst l) v) : ∃ a xs, v = .ref a ∧ H a = some (.lst xs) ∧ RShL K Z H l xs := by
  rcases h with h | ⟨l, a, xs, e, e1, e2, e3⟩
  · simp only [RSh] at h
    obtain ⟨a, xs, e, z, h1, h2⟩ := h
    exact ⟨a, xs, e, h1, h2⟩
  · cases e; exact ⟨a, xs, e1, e2, e3⟩
theorem Pk0.scr {l : List Int} (h : Pk0 K Z H (.scr l) v) : ∃ a, v = .ref a ∧ SqL K H a (l.map V.int) := by
  rcases h with h | ⟨l, a, xs, e, e1, e2, e3⟩
  · simp only [RSh] at h
    obtain ⟨a, e, z, h1⟩ := h
    exact ⟨a, e, h1⟩
  · cases e
end
/-- the end of an operation that lays nothing -/
theorem fin0 [Tb] {K : PySem.W.Frag} {Z : Addr → Prop} {H : Hp} {d : D} {v : V} {Q : VK} (r : RSh K Z H d v) (k : ∀ v H' S, Grow H H' → RF K Z H' d v S → NewS H H' S → Q v H') : Q v H := k v H (fun _ => False) Grow.refl (.inl r) NewS.none
theorem finT [Tb] {K : PySem.W.Frag} {Z : Addr → Prop} {H : Hp} {l : List D} {xs : List V} {p : Addr} {Q : VK} (hp : H p = none) (r : RShL K Z H l xs) (k : ∀ v H' S, Grow H H' → RF K Z H' (.tup l) v S → NewS H H' S → Q v H') : Q (.ref p) (upd H p (.tup xs)) :=
  k _ _ (fun _ => False) (Grow.new hp) (RF.tup ((Grow.new hp).shL r) (SqT.of upd_same)) NewS.none
theorem finL [Tb] {K : PySem.W.Frag} {Z : Addr → Prop} {H : Hp} {l : List D} {xs : List V} {p : Addr} {Q : VK} (hp : H p = none) (r : RShL K Z H l xs) (k : ∀ v H' S, Grow H H' → RF K Z H' (.lst l) v S → NewS H H' S → Q v H') : Q (.ref p) (upd H p (.lst xs)) :=
  k _ _ (fun a => a = p) (Grow.new hp) (RF.list ((Grow.new hp).shL r) upd_same) (NewS.one trivial hp)
section
variable [Tb] {X : Cx}
/-- a rule for two ints -/
theorem o_ii {f : Value → Value → Sem Value} {g : D → D → Option D} {r : R2} (ho : OpR X f r) (hg : ∀ a b d, g a b = some d → ∃ i j, a = .int i ∧ b = .int j ∧ ∀ K Z H Q, (∀ v H' S, Grow H H' → RF K Z H' d v S → NewS H H' S → Q v H') → r (.int i) (.int j) H Q) : OpR X f (rF2 X.K g) := by
  intro pins s σ H x y v u Q I r1 r2 h
  obtain ⟨Z, a, b, d, p1, p2, e, k⟩ := h
  obtain ⟨i, j, rfl, rfl, h⟩ := hg a b d e
  rw [p1.int] at r1
  rw [p2.int] at r2
  exact ho pins s σ H _ _ v u Q I r1 r2 (h X.K Z H Q k)
theorem o_sub : OpR X (binaryOp .Sub) (rF2 X.K bSub) := o_ii op_sub fun a b d e => by
  unfold bSub at e
  split at e
  · rename_i i j; cases e; exact ⟨i, j, rfl, rfl, fun K Z H Q k => ⟨i, j, rfl, rfl, fin0 (by simp only [RSh]) k⟩⟩
  · cases e
def CMulX (i j : Int) : Prop := i.natAbs < 2 ^ 64 ∨ j.natAbs < 2 ^ 64 ∨ (i.natAbs < big ∧ j.natAbs < big)
theorem op_mulX : OpR X (binaryOp .Mult) (rI CMulX fun i j => .int (i * j)) := by
  intro pins s σ H x y v u Q I r1 r2 ⟨i, j, e1, e2, c, k⟩
  rcases c with c | c | c
  · exact op_mul pins s σ H x y v u Q I r1 r2 ⟨i, j, e1, e2, .inl (by omega), k⟩
  · exact op_mul pins s σ H x y v u Q I r1 r2 ⟨i, j, e1, e2, .inr (by omega), k⟩
  · refine op_mulW pins s σ H x y v u Q I r1 r2 ⟨i, j, e1, e2, ?_, k⟩
    have h1 := big_log c.1
    have h2 := big_log c.2
    unfold CMulW
    omega
theorem o_mul : OpR X (binaryOp .Mult) (rF2 X.K bMul) := o_ii op_mulX fun a b d e => by
  unfold bMul at e
  split at e
  · rename_i i j
    split at e
    · rename_i hb
      cases e
      exact ⟨i, j, rfl, rfl, fun K Z H Q k => ⟨i, j, rfl, rfl, hb, fin0 (by simp only [RSh]) k⟩⟩
    · cases e
  · cases e
def CDivX (_ j : Int) : Prop := j ≠ 0 ∧ j.natAbs.log2 < 9000
theorem op_divX : OpR X (binaryOp .FloorDiv) (rI CDivX fun i j => .int (i.fdiv j)) := by
  intro pins s σ H x y v u Q I r1 r2 ⟨i, j, e1, e2, c, k⟩
  subst e1 e2
  obtain ⟨t, rfl⟩ := r1
  obtain ⟨t', rfl⟩ := r2
  exact PyProof.Rows.floordiv_int c.1 ⟨.int _, H, I.tok _, ⟨_, rfl⟩, k⟩ (.inl (PyProof.noPylong_of_log2 c.2))
theorem o_div : OpR X (binaryOp .FloorDiv) (rF2 X.K bDiv) := o_ii op_divX fun a b d e => by
  unfold bDiv at e
  split at e
  · rename_i i j
    split at e
    · rename_i hb
      cases e
      exact ⟨i, j, rfl, rfl, fun K Z H Q k => ⟨i, j, rfl, rfl, ⟨hb.1, bigD_log hb.2⟩, fin0 (by simp only [RSh]) k⟩⟩
    · cases e
  · cases e
theorem o_mod : OpR X (binaryOp .Mod) (rF2 X.K bMod) := o_ii op_modN fun a b d e => by
  unfold bMod at e
  split at e
  · rename_i i j
    split at e
    · rename_i hb
      cases e
      exact ⟨i, j, rfl, rfl, fun K Z H Q k => ⟨i, j, rfl, rfl, hb, fin0 (by simp only [RSh]) k⟩⟩
    · cases e
  · cases e
theorem o_pow : OpR X (binaryOp .Pow) (rF2 X.K bPow) := o_ii op_pow fun a b d e => by
  unfold bPow at e
  split at e
  · rename_i i j
    split at e
    · rename_i hb
      cases e
      exact ⟨i, j, rfl, rfl, fun K Z H Q k => ⟨i, j, rfl, rfl, hb, fin0 (by simp only [RSh]) k⟩⟩
    · cases e
  · cases e
theorem o_lt : OpR X (compareOp .Lt) (rF2 X.K bLt) := o_ii op_lt fun a b d e => by
  unfold bLt at e
  split at e
  · rename_i i j; cases e; exact ⟨i, j, rfl, rfl, fun K Z H Q k => ⟨i, j, rfl, rfl, fin0 (by simp only [RSh]) k⟩⟩
  · cases e
theorem o_le : OpR X (compareOp .LtE) (rF2 X.K bLe) := o_ii op_le fun a b d e => by
  unfold bLe at e
  split at e
  · rename_i i j; cases e; exact ⟨i, j, rfl, rfl, fun K Z H Q k => ⟨i, j, rfl, rfl, fin0 (by simp only [RSh]) k⟩⟩
  · cases e
theorem o_gt : OpR X (compareOp .Gt) (rF2 X.K bGt) := o_ii op_gt fun a b d e => by
  unfold bGt at e
  split at e
  · rename_i i j; cases e; exact ⟨i, j, rfl, rfl, fun K Z H Q k => ⟨i, j, rfl, rfl, fin0 (by simp only [RSh]) k⟩⟩
  · cases e
theorem o_ge : OpR X (compareOp .GtE) (rF2 X.K bGe) := o_ii op_ge fun a b d e => by
  unfold bGe at e
  split at e
  · rename_i i j; cases e; exact ⟨i, j, rfl, rfl, fun K Z H Q k => ⟨i, j, rfl, rfl, fin0 (by simp only [RSh]) k⟩⟩
  · cases e
theorem u_neg : UnR X (unaryOp .USub) (rF1 X.K bNeg) := by
  intro pins s σ H x v Q I r1 h
  obtain ⟨Z, a, d, p1, e, k⟩ := h
  unfold bNeg at e
  split at e
  · rename_i i
    cases e
    rw [p1.int] at r1
    exact un_neg pins s σ H _ v Q I r1 ⟨i, rfl, fin0 (by simp only [RSh]) k⟩
  · cases e
theorem sum_le {m n : Nat} {a b : Nat} (h : m + n ≤ 16777216) (e1 : m = a) (e2 : n = b) : a + b ≤ sizeLine := by rw [szL]; omega
theorem o_add : OpR X (binaryOp .Add) (rF2 X.K bAdd) := by
  intro pins s σ H x y v u Q I r1 r2 h
  obtain ⟨Z, a, b, d, p1, p2, e, k⟩ := h
  unfold bAdd at e
  split at e
  · rename_i i j
    cases e
    rw [p1.int] at r1
    rw [p2.int] at r2
    exact op_add pins s σ H _ _ v u Q I r1 r2 ⟨i, j, rfl, rfl, fin0 (by simp only [RSh]) k⟩
  · rename_i i j
    split at e
    · rename_i hl
      cases e
      rw [p1.str] at r1
      rw [p2.str] at r2
      exact op_add_str pins s σ H _ _ v u Q I r1 r2 ⟨i, j, rfl, rfl, by rw [szL]; exact hl, fin0 (by simp only [RSh]) k⟩
    · cases e
  · rename_i l m
    split at e
    · rename_i hl
      cases e
      obtain ⟨a, xs, rfl, s1, l1⟩ := p1.tup
      obtain ⟨b, ys, rfl, s2, l2⟩ := p2.tup
      refine op_catA pins s σ H _ _ v u Q I r1 r2 ⟨a, b, xs, ys, rfl, rfl, s1, s2, sum_le hl l1.len l2.len, fun e => ?_, fun e1 e2 => ?_, fun _ _ p hp => finT hp (l1.append l2) k⟩
      · have : l = [] := List.eq_nil_of_length_eq_zero (by rw [l1.len, e]; rfl)
        subst this
        exact fin0 (by simp only [List.nil_append, RSh]; exact ⟨b, ys, rfl, s2, l2⟩) k
      · have : m = [] := List.eq_nil_of_length_eq_zero (by rw [l2.len, e2]; rfl)
        subst this
        exact fin0 (by simp only [List.append_nil, RSh]; exact ⟨a, xs, rfl, s1, l1⟩) k
    · cases e
  · rename_i l m
    split at e
    · rename_i hl
      cases e
      obtain ⟨a, xs, rfl, s1, l1⟩ := p1.lst
      obtain ⟨b, ys, rfl, s2, l2⟩ := p2.lst
      exact op_cat pins s σ H _ _ v u Q I r1 r2 ⟨a, b, xs, ys, rfl, rfl, s1, s2, sum_le hl l1.len l2.len, fun p hp => finL hp (l1.append l2) k⟩
    · cases e
  · cases e
end
section
variable [Tb] {X : Cx}
end
end CL
namespace CL
open PySem PySem.Spec L2
set_option autoImplicit false
mutual
def D.py : D → PyData
  | .non => .none
  | .bl b => .bool b
  | .int i => .int i
  | .str x => .str x
  | .tup l => .tuple (D.pyL l)
  | .lst l => .list (D.pyL l)
  | .scr l => .list (l.map .int)
  | .dct _ _ => .none
  | .kdc _ _ => .none
  | .ins _ _ _ => .none
def D.pyL : List D → List PyData
  | [] => []
  | d :: ds => D.py d :: D.pyL ds
end
mutual
/-- plain data, at most so deep -/
def D.okB : Nat → D → Bool
  | _, .non => true
  | _, .bl _ => true
  | _, .int _ => true
  | _, .str x => x.cps.all (· < 0x110000)
  | n + 1, .tup l => D.okL n l
  | n + 1, .lst l => D.okL n l
  | _, _ => false
def D.okL : Nat → List D → Bool
  | _, [] => true
  | n, d :: ds => D.okB n d && D.okL n ds
end
section
variable [Tb] {K : PySem.W.Frag} {Z : Addr → Prop} {H : Hp}
mutual
theorem RSh.dp : ∀ (n : Nat) (d : D) (v : V), D.okB n d = true → RSh K Z H d v → Dp K H v d.py
  | _, .non, v, _, h => by simp only [RSh] at h; subst h; simp only [D.py]; exact .non
  | _, .bl b, v, _, h => by simp only [RSh] at h; subst h; simp only [D.py]; exact .bl b
  | _, .int i, v, _, h => by simp only [RSh] at h; subst h; simp only [D.py]; exact .int i
  | _, .str x, v, _, h => by simp only [RSh] at h; subst h; simp only [D.py]; exact .str x
  | n + 1, .tup l, v, o, h => by
    simp only [D.okB] at o
    simp only [RSh] at h
    obtain ⟨a, xs, rfl, s, r⟩ := h
    simp only [D.py]
    exact .tup s (RShL.dp n l xs o r)
  | n + 1, .lst l, v, o, h => by
    simp only [D.okB] at o
    simp only [RSh] at h
    obtain ⟨a, xs, rfl, z, s, r⟩ := h
    simp only [D.py]
    exact .lst (SqL.of s) (RShL.dp n l xs o r)
  | 0, .tup l, v, o, h => by simp [D.okB] at o
  | 0, .lst l, v, o, h => by simp [D.okB] at o
  | _, .dct _ _, v, o, h => by simp [D.okB] at o
  | _, .kdc _ _, v, o, h => by simp [D.okB] at o
  | _, .ins _ _ _, v, o, h => by simp [D.okB] at o
  | _, .scr _, v, o, h => by simp [D.okB] at o
theorem RShL.dp : ∀ (n : Nat) (l : List D) (xs : List V), D.okL n l = true → RShL K Z H l xs → DpAll K H xs (D.pyL l)
  | _, [], xs, _, h => by simp only [RShL] at h; subst h; simp only [D.pyL]; exact .nil
  | n, d :: ds, xs, o, h => by
    simp only [D.okL, Bool.and_eq_true] at o
    simp only [RShL] at h
    obtain ⟨w, ws, rfl, r1, r2⟩ := h
    simp only [D.pyL]
    exact .cons (RSh.dp n d w o.1 r1) (RShL.dp n ds ws o.2 r2)
end
end
theorem Pk0.dp [Tb] {K : PySem.W.Frag} {Z : Addr → Prop} {H : Hp} {n : Nat} {d : D} {v : V} (o : D.okB n d = true) (h : Pk0 K Z H d v) : Dp K H v d.py := by
  rcases h with h | ⟨l, a, xs, rfl, rfl, s, r⟩
  · exact RSh.dp n d v o h
  · cases n with
    | zero => simp [D.okB] at o
    | succ n =>
      simp only [D.okB] at o
      simp only [D.py]
      exact .lst (SqL.of s) (RShL.dp n l xs o r)
mutual
theorem ok_lay : ∀ (n : Nat) (d : D), D.okB n d = true → d.py.canLay0 = true ∧ d.py.depth ≤ n
  | _, .non, _ => by simp only [D.py, PyData.canLay0, PyData.depth]; exact ⟨trivial, Nat.zero_le _⟩
  | _, .bl _, _ => by simp only [D.py, PyData.canLay0, PyData.depth]; exact ⟨trivial, Nat.zero_le _⟩
  | _, .int _, _ => by simp only [D.py, PyData.canLay0, PyData.depth]; exact ⟨trivial, Nat.zero_le _⟩
  | _, .str x, o => by
    simp only [D.okB] at o
    simp only [D.py, PyData.canLay0, PyData.depth]
    exact ⟨o, Nat.zero_le _⟩
  | n + 1, .tup l, o => by
    simp only [D.okB] at o
    simp only [D.py, PyData.canLay0, PyData.depth]
    obtain ⟨a, b⟩ := ok_layL n l o
    exact ⟨a, by omega⟩
  | n + 1, .lst l, o => by
    simp only [D.okB] at o
    simp only [D.py, PyData.canLay0, PyData.depth]
    obtain ⟨a, b⟩ := ok_layL n l o
    exact ⟨a, by omega⟩
  | 0, .tup l, o => by simp [D.okB] at o
  | 0, .lst l, o => by simp [D.okB] at o
  | _, .dct _ _, o => by simp [D.okB] at o
  | _, .kdc _ _, o => by simp [D.okB] at o
  | _, .ins _ _ _, o => by simp [D.okB] at o
  | _, .scr _, o => by simp [D.okB] at o
theorem ok_layL : ∀ (n : Nat) (l : List D), D.okL n l = true → PyData.canLayAll0 (D.pyL l) = true ∧ PyData.depthAll (D.pyL l) ≤ n
  | _, [], _ => by simp only [D.pyL, PyData.canLayAll0, PyData.depthAll]; exact ⟨trivial, Nat.zero_le _⟩
  | n, d :: ds, o => by
    simp only [D.okL, Bool.and_eq_true] at o
    obtain ⟨a, b⟩ := ok_lay n d o.1
    obtain ⟨c, e⟩ := ok_layL n ds o.2
    simp only [D.pyL, PyData.canLayAll0, PyData.depthAll, a, c, Bool.and_self]
    exact ⟨trivial, by omega⟩
end
theorem ok_shaped {d : D} (h : D.okB 60 d = true) : SeqAt.shaped d.py = true := by
  obtain ⟨a, b⟩ := ok_lay 60 d h
  unfold SeqAt.shaped
  rw [a, Bool.true_and]
  exact decide_eq_true (by omega)
def D.eqv (a b : D) : Bool := PyData.eqv a.py b.py
def bEq : D → D → Option D
  | .str a, .str b => some (.bl (decide (a = b)))
  | .lst l, .lst [] => some (.bl (l.isEmpty))
  | .tup l, .tup [] => some (.bl (l.isEmpty))
  | a, b => if D.okB 60 a = true ∧ D.okB 60 b = true then some (.bl (a.eqv b)) else none
def bNe : D → D → Option D
  | .str a, .str b => some (.bl (!decide (a = b)))
  | .lst l, .lst [] => some (.bl (!l.isEmpty))
  | .tup l, .tup [] => some (.bl (!l.isEmpty))
  | a, b => if D.okB 60 a = true ∧ D.okB 60 b = true then some (.bl (!a.eqv b)) else none
theorem dec_strD (i j : Str) : decide (V.str i = V.str j) = decide (i = j) := by simp
def D.isNon : D → Bool
  | .non => true
  | _ => false
def bNotN (a b : D) : Option D := match b with | .non => some (.bl (!a.isNon)) | _ => none
section
variable [Tb] {X : Cx}
theorem o_eq (hu : X.A.units + 64 < cLine) : OpR X (compareOp .Eq) (rF2 X.K bEq) := by
  intro pins s σ H x y v u Q I r1 r2 h
  obtain ⟨Z, a, b, d, p1, p2, e, k⟩ := h
  unfold bEq at e
  split at e
  · cases e
    rw [p1.str] at r1
    rw [p2.str] at r2
    exact op_eq pins s σ H _ _ v u Q I r1 r2 ⟨rfl, fin0 (by simp only [RSh, dec_strD]) k⟩
  · rename_i l
    cases e
    cases l with
    | nil => exact op_eqD hu pins s σ H _ _ v u Q I r1 r2 ⟨D.py (.lst []), D.py (.lst []), p1.dp (n := 60) rfl, p2.dp (n := 60) rfl, ok_shaped rfl, ok_shaped rfl, fin0 (d := .bl true) (by simp only [RSh]; rfl) k⟩
    | cons z l =>
      obtain ⟨a1, xs, rfl, s1, l1⟩ := p1.lst
      obtain ⟨a2, ys, rfl, s2, l2⟩ := p2.lst
      cases r1
      cases r2
      obtain ⟨i1, e1, t1, _⟩ := I.list (SqL.of s1)
      obtain ⟨i2, e2, t2, _⟩ := I.list (SqL.of s2)
      have n1 := l1.len
      have n2 := l2.len
      have m1 := e1.length
      have m2 := e2.length
      simp at n1 n2
      exact SeqAt.RcAt.lists_lengths t1.isList t2.isList (by simp; omega) (by omega) _ _ _ _ ⟨.bl false, H, I, rfl, fin0 (d := .bl false) (by simp only [RSh]) k⟩
  · rename_i l
    cases e
    obtain ⟨a1, xs, rfl, s1, l1⟩ := p1.tup
    obtain ⟨a2, ys, rfl, s2, l2⟩ := p2.tup
    cases r1
    cases r2
    obtain ⟨i1, e1, t1, _⟩ := I.tuple s1
    obtain ⟨i2, e2, t2, _⟩ := I.tuple s2
    have n1 := l1.len
    have n2 := l2.len
    have m1 := e1.length
    have m2 := e2.length
    simp at n2
    have z2 : i2 = [] := List.eq_nil_of_length_eq_zero (by omega)
    subst z2
    refine SeqAt.RcAt.tuples (e := fun _ => true) t1 t2 (by omega) (fun j h1 h2 => by simp at h2) _ _ _ _ ⟨.bl (l.isEmpty), H, I, ?_, fin0 (by simp only [RSh]) k⟩
    have : l.isEmpty = (i1.toArray.size == 0) := by
      cases l with
      | nil => have : i1 = [] := List.eq_nil_of_length_eq_zero (by simp at n1; omega)
               subst this; rfl
      | cons z l => cases i1 with
        | nil => simp at m1; subst m1; simp at n1
        | cons _ _ => simp
    rw [this]
    simp [RelV]
  · split at e
    · rename_i ho
      cases e
      exact op_eqD hu pins s σ H _ _ v u Q I r1 r2 ⟨a.py, b.py, p1.dp ho.1, p2.dp ho.2, ok_shaped ho.1, ok_shaped ho.2, fin0 (by simp only [RSh, D.eqv]) k⟩
    · cases e
theorem o_ne (hu : X.A.units + 64 < cLine) : OpR X (compareOp .NotEq) (rF2 X.K bNe) := by
  intro pins s σ H x y v u Q I r1 r2 h
  obtain ⟨Z, a, b, d, p1, p2, e, k⟩ := h
  unfold bNe at e
  split at e
  · cases e
    rw [p1.str] at r1
    rw [p2.str] at r2
    exact op_ne pins s σ H _ _ v u Q I r1 r2 ⟨rfl, fin0 (by simp only [RSh, dec_strD]) k⟩
  · rename_i l
    cases e
    cases l with
    | nil => exact op_neD hu pins s σ H _ _ v u Q I r1 r2 ⟨D.py (.lst []), D.py (.lst []), p1.dp (n := 60) rfl, p2.dp (n := 60) rfl, ok_shaped rfl, ok_shaped rfl, fin0 (d := .bl false) (by simp only [RSh]; rfl) k⟩
    | cons z l =>
      obtain ⟨a1, xs, rfl, s1, l1⟩ := p1.lst
      obtain ⟨a2, ys, rfl, s2, l2⟩ := p2.lst
      cases r1
      cases r2
      obtain ⟨i1, e1, t1, _⟩ := I.list (SqL.of s1)
      obtain ⟨i2, e2, t2, _⟩ := I.list (SqL.of s2)
      have n1 := l1.len
      have n2 := l2.len
      have m1 := e1.length
      have m2 := e2.length
      simp at n1 n2
      exact SeqAt.RcNeAt.lists_lengths t1.isList t2.isList (by simp; omega) (by omega) _ _ _ _ ⟨.bl true, H, I, rfl, fin0 (d := .bl true) (by simp only [RSh]) k⟩
  · rename_i l
    cases e
    obtain ⟨a1, xs, rfl, s1, l1⟩ := p1.tup
    obtain ⟨a2, ys, rfl, s2, l2⟩ := p2.tup
    cases r1
    cases r2
    obtain ⟨i1, e1, t1, _⟩ := I.tuple s1
    obtain ⟨i2, e2, t2, _⟩ := I.tuple s2
    have n1 := l1.len
    have n2 := l2.len
    have m1 := e1.length
    have m2 := e2.length
    simp at n2
    have z2 : i2 = [] := List.eq_nil_of_length_eq_zero (by omega)
    subst z2
    refine SeqAt.RcNeAt.tuples (e := fun _ => true) t1 t2 (by omega) (fun j h1 h2 => by simp at h2) _ _ _ _ ⟨.bl (!l.isEmpty), H, I, ?_, fin0 (by simp only [RSh]) k⟩
    have : l.isEmpty = (i1.toArray.size == 0) := by
      cases l with
      | nil => have : i1 = [] := List.eq_nil_of_length_eq_zero (by simp at n1; omega)
               subst this; rfl
      | cons z l => cases i1 with
        | nil => simp at m1; subst m1; simp at n1
        | cons _ _ => simp
    rw [this]
    simp [RelV]
  · split at e
    · rename_i ho
      cases e
      exact op_neD hu pins s σ H _ _ v u Q I r1 r2 ⟨a.py, b.py, p1.dp ho.1, p2.dp ho.2, ok_shaped ho.1, ok_shaped ho.2, fin0 (by simp only [RSh, D.eqv]) k⟩
    · cases e
theorem Pk0.notnon [Tb] {K : PySem.W.Frag} {Z : Addr → Prop} {H : Hp} {d : D} {v : V} (h : Pk0 K Z H d v) : decide (v = .non) = d.isNon := by
  cases d with
  | non => rw [h.non]; rfl
  | bl b => rw [h.bl]; rfl
  | int b => rw [h.int]; rfl
  | str b => rw [h.str]; rfl
  | tup b => obtain ⟨a, xs, rfl, _⟩ := h.tup; rfl
  | lst b => obtain ⟨a, xs, rfl, _⟩ := h.lst; rfl
  | scr b => obtain ⟨a, rfl, _⟩ := h.scr; rfl
  | dct _ _ => rcases h with h | ⟨_, _, _, e, _⟩; (simp only [RSh] at h; obtain ⟨a, _, rfl, _⟩ := h; simp [D.isNon]); cases e
  | ins _ _ _ => rcases h with h | ⟨_, _, _, e, _⟩; (simp only [RSh] at h; obtain ⟨_, a, _, _, rfl, _⟩ := h; simp [D.isNon]); cases e
  | kdc _ _ => rcases h with h | ⟨_, _, _, e, _⟩; (simp only [RSh] at h; obtain ⟨a, _, rfl, _⟩ := h; simp [D.isNon]); cases e
theorem o_isnt : OpR X (compareOp .IsNot) (rF2 X.K bNotN) := by
  intro pins s σ H x y v u Q I r1 r2 h
  obtain ⟨Z, a, b, d, p1, p2, e, k⟩ := h
  unfold bNotN at e
  split at e
  · cases e
    refine op_notN pins s σ H _ _ v u Q I r1 r2 ⟨p2.non, fin0 (by simp only [RSh]; rw [p1.notnon]) k⟩
  · cases e
end
def bIx : D → D → Option D
  | .tup l, .int i => atI l i
  | .lst l, .int i => atI l i
  | .scr l, .int i => (atI l i).map .int
  | .str z, .int i => if z.length ≤ 16777216 then (atI z.cps.toList i).map fun c => .str ⟨#[c]⟩ else none
  | _, _ => none
theorem atI_rel [Tb] {K : PySem.W.Frag} {Z : Addr → Prop} {H : Hp} {l : List D} {xs : List V} {i : Int} {d : D} (r : RShL K Z H l xs) (h : atI l i = some d) : ∃ v, atI xs i = some v ∧ RSh K Z H d v := by
  unfold atI at h ⊢
  obtain ⟨j, h1, h2⟩ := Option.bind_eq_some_iff.mp h
  obtain ⟨v, h3, h4⟩ := r.get h2
  rw [r.len] at h1
  exact ⟨v, by rw [h1]; exact h3, h4⟩
section
variable [Tb] {X : Cx}
theorem x_ix : IxR X (rF2 X.K bIx) := by
  intro val sli pins s σ H x y v u Q I r1 r2 h hsu
  obtain ⟨Z, a, b, d, p1, p2, e, k⟩ := h
  unfold bIx at e
  split at e
  · rename_i l i
    rw [p2.int] at r2
    obtain ⟨a, xs, rfl, s1, l1⟩ := p1.tup
    obtain ⟨w, h1, h2⟩ := atI_rel l1 e
    exact ix_tup val sli pins s σ H _ _ v u Q I r1 r2 ⟨a, xs, i, w, rfl, rfl, s1, h1, fin0 h2 k⟩ hsu
  · rename_i l i
    rw [p2.int] at r2
    obtain ⟨a, xs, rfl, s1, l1⟩ := p1.lst
    obtain ⟨w, h1, h2⟩ := atI_rel l1 e
    exact ix_list val sli pins s σ H _ _ v u Q I r1 r2 ⟨a, xs, i, w, rfl, rfl, SqL.of s1, h1, fin0 h2 k⟩ hsu
  · rename_i l i
    rw [p2.int] at r2
    obtain ⟨a, rfl, s1⟩ := p1.scr
    obtain ⟨z, h1, rfl⟩ := Option.map_eq_some_iff.mp e
    refine ix_list val sli pins s σ H _ _ v u Q I r1 r2 ⟨a, _, i, .int z, rfl, rfl, s1, ?_, fin0 (by simp only [RSh]) k⟩ hsu
    unfold atI at h1 ⊢
    obtain ⟨j, h3, h4⟩ := Option.bind_eq_some_iff.mp h1
    rw [List.length_map, h3]
    show (l.map V.int)[j]? = _
    rw [List.getElem?_map, h4]; rfl
  · rename_i z i
    split at e
    · rename_i hz
      rw [p2.int] at r2
      rw [p1.str] at r1
      obtain ⟨c, h1, rfl⟩ := Option.map_eq_some_iff.mp e
      exact ix_str val sli pins s σ H _ _ v u Q I r1 r2 ⟨z, i, c, rfl, rfl, by rw [szL]; exact hz, h1, fin0 (by simp only [RSh]) k⟩ hsu
    · cases e
  · cases e
end
def cutD {α : Type} (xs : List α) (lo hi : Option Int) : List α := (xs.drop (HT.sIx xs.length 0 lo)).take (HT.sIx xs.length xs.length hi - HT.sIx xs.length 0 lo)
def bSl : D → Option Int → Option Int → Option D
  | .tup l, lo, hi => some (.tup (cutD l lo hi))
  | .lst l, lo, hi => some (.lst (cutD l lo hi))
  | .scr l, lo, hi => some (.lst ((cutD l lo hi).map .int))
  | .str z, lo, hi => if z.length ≤ 16777216 then some (.str (cutS z lo hi)) else none
  | _, _, _ => none
theorem cut_rel [Tb] {K : PySem.W.Frag} {Z : Addr → Prop} {H : Hp} {l : List D} {xs : List V} {lo hi : Option Int} (r : RShL K Z H l xs) : RShL K Z H (cutD l lo hi) (cutV xs lo hi) := by
  unfold cutD cutV
  rw [r.len]
  exact (r.drop _).take _
def rFs [Tb] (K : PySem.W.Frag) : V → Option Int → Option Int → Hp → VK → Prop := fun x lo hi H Q => ∃ Z a d, Pk0 K Z H a x ∧ bSl a lo hi = some d ∧ ∀ v H' S, Grow H H' → RF K Z H' d v S → NewS H H' S → Q v H'
theorem x_sl [Tb] {X : Cx} : SlR X (rFs X.K) := by
  intro pins s σ H x v vl vu lo hi sl Q I rx hs pl pu h
  obtain ⟨Z, a, d, p1, e, k⟩ := h
  unfold bSl at e
  split at e
  · rename_i l
    cases e
    obtain ⟨a, xs, rfl, s1, l1⟩ := p1.tup
    refine sl_tupA pins s σ H _ v vl vu lo hi sl Q I rx hs pl pu ⟨a, xs, rfl, s1, fun h => ?_, fun _ p hp => finT hp (cut_rel l1) k⟩
    refine fin0 ?_ k
    simp only [RSh]
    refine ⟨a, xs, rfl, s1, ?_⟩
    have : cutD l lo hi = l := by
      unfold cutD
      rw [l1.len, h.1, h.2]
      simp [← l1.len]
    rw [this]; exact l1
  · rename_i l
    cases e
    obtain ⟨a, xs, rfl, s1, l1⟩ := p1.lst
    exact sl_list pins s σ H _ v vl vu lo hi sl Q I rx hs pl pu ⟨a, xs, rfl, SqL.of s1, fun p hp => finL hp (cut_rel l1) k⟩
  · rename_i l
    cases e
    obtain ⟨a, rfl, s1⟩ := p1.scr
    refine sl_list pins s σ H _ v vl vu lo hi sl Q I rx hs pl pu ⟨a, _, rfl, s1, fun p hp => finL hp ?_ k⟩
    have := cut_rel (lo := lo) (hi := hi) (ints_rel (K := X.K) (Z := Z) (H := H) l)
    have e : cutD (l.map D.int) lo hi = (cutD l lo hi).map D.int := by
      unfold cutD
      simp [List.map_take, List.map_drop]
    rwa [e] at this
  · rename_i z
    split at e
    · rename_i hz
      cases e
      rw [p1.str] at rx
      exact sl_str pins s σ H _ v vl vu lo hi sl Q I rx hs pl pu ⟨z, rfl, by rw [szL]; exact hz, fin0 (by simp only [RSh]) k⟩
    · cases e
  · cases e
/-- a slice's part -/
def mPt : Option (M D) → M (Option Int)
  | none => fun ρ => .ok (none, ρ)
  | some m => bind m fun d => fun ρ => match d with | .int i => .ok (some i, ρ) | _ => .bad
def mSl (a : M D) (lo hi : Option (M D)) : M D := bind a fun x => bind (mPt lo) fun l => bind (mPt hi) fun h => ofO (bSl x l h)
def tPo [Tb] (K : PySem.W.Frag) (τ : Nat → OT) (m : Option (M D)) : TO := fun σ H Q => ∃ Z own ρ o ρ', RS K τ Z own H ρ σ ∧ mPt m ρ = .ok (o, ρ') ∧ ∀ Z' own' H', RS K τ Z' own' H' ρ' σ → Ext true Z own H Z' own' H' → Q o H'
theorem _root_.L2.PO.mono [Tb] {X : Cx} {e : Option Expr} {t t' : TO} (h : PO X e t) (f : ∀ σ H Q, t' σ H Q → t σ H Q) : PO X e t' := ⟨fun pins s σ H Q I hw => h.run pins s σ H Q I (f σ H Q hw)⟩
section
variable [Tb] {X : Cx} {τ : Nat → OT} {q : Bool} {md : Md} {e : Expr} {lo hi : Option Expr} {ma : M D} {ml mh : Option (M D)} {pos p2 : Pos}
theorem po_n : PO X none (tPo X.K τ none) := po_none.mono fun σ H Q ⟨Z, own, ρ, o, ρ', rs, e, k⟩ => by
  have e : Res.ok (none, ρ) = .ok (o, ρ') := e
  cases e
  exact k Z own H rs ExtF.refl
theorem po_s (h : PE X e (tE X.K τ true .sh ma)) : PO X (some e) (tPo X.K τ (some ma)) := (po_some h).mono fun σ H Q ⟨Z, own, ρ, o, ρ', rs, e, k⟩ => by
  obtain ⟨d, ρ1, e1, f1⟩ := bind_ok e
  split at f1
  · rename_i i
    cases f1
    exact ⟨Z, own, ρ, _, ρ', rs, e1, fun v Z1 own1 H1 S rs1 rm n x1 => ⟨i, by simpa only [Rm, R, RSh] using rm, k Z1 own1 H1 rs1 x1⟩⟩
  · cases f1
theorem e_sl (he : PE X e (tE X.K τ q md ma)) (hl : PO X lo (tPo X.K τ ml)) (hh : PO X hi (tPo X.K τ mh)) (hm : Hand md := by trivial) : PE X (.Subscript e (.Slice lo hi none p2) pos) (tE X.K τ q .sh (mSl ma ml mh)) := (pe_slice x_sl he hl hh).mono fun σ H Q ⟨Z, own, ρ, d, ρ', rs, e, k⟩ => by
  obtain ⟨x, ρ1, e1, f1⟩ := bind_ok e
  obtain ⟨l, ρ2, e2, f2⟩ := bind_ok f1
  obtain ⟨h, ρ3, e3, f3⟩ := bind_ok f2
  obtain ⟨f4, rfl⟩ := ofO_ok f3
  refine ⟨Z, own, ρ, x, ρ1, rs, e1, fun v Z1 own1 H1 S1 rs1 rm1 _ x1 => ⟨Z1, own1, ρ1, l, ρ2, rs1, e2, fun Z2 own2 H2 rs2 x2 => ⟨Z2, own2, ρ2, h, ρ', rs2, e3, fun Z3 own3 H3 rs3 x3 => ?_⟩⟩⟩
  have x23 : ExtF fxT true Z1 own1 H1 Z3 own3 H3 := x2.trans x3
  exact ⟨Z3, x, d, rs1.pk0 x23 hm (.inr rfl) rm1, f4, fun u H4 S g r n => fin_sh rs3 (x1.trans' (fun z => ⟨z, rfl⟩) x23) g r n k⟩
/-- xs[::-1] of a list -/
def bRev : D → Option D
  | .lst l => some (.lst l.reverse)
  | _ => none
theorem e_revO {k1 : Nat} {p1 p3 : Pos} (he : PE X e (tE X.K τ q md ma)) (hm : Hand md := by trivial) : PE X (.Subscript e (.Slice none none (some (.UnaryOp .USub (.Constant (.int 1) k1 p1) p2)) p3) pos) (tE X.K τ q (.ow (.ol .sh .sh)) (m1 bRev ma)) := (pe_revL he).mono fun σ H Q ⟨Z, own, ρ, d, ρ', rs, e, k⟩ => by
  obtain ⟨x, ρ1, e1, f1⟩ := bind_ok e
  obtain ⟨f2, rfl⟩ := ofO_ok f1
  unfold bRev at f2
  split at f2
  · rename_i l
    cases f2
    refine ⟨Z, own, ρ, _, ρ', rs, e1, fun v Z1 own1 H1 S1 rs1 rm1 _ x1 => ?_⟩
    obtain ⟨a, xs, rfl, s1, l1⟩ := (rm1.pk0 hm).lst
    exact ⟨a, xs, rfl, SqL.of s1, fun p hp => fin_ol rs1 x1 hp ((Grow.new hp).shL l1.reverse) k⟩
  · cases f2
end
end CL
namespace CL
open PySem PySem.Spec L2
set_option autoImplicit false
def bLen : List D → Option D
  | [.tup l] => some (.int l.length)
  | [.lst l] => some (.int l.length)
  | [.scr l] => some (.int l.length)
  | [.str z] => if z.length ≤ 16777216 then some (.int z.length) else none
  | _ => none
def bAbs : List D → Option D
  | [.int i] => some (.int (if i < 0 then -i else i))
  | _ => none
def bMax2 : List D → Option D
  | [.int i, .int j] => some (.int (if j > i then j else i))
  | _ => none
def bMin2 : List D → Option D
  | [.int i, .int j] => some (.int (if j < i then j else i))
  | _ => none
def bInt : List D → Option D
  | [.int i] => some (.int i)
  | [.bl b] => some (.int (if b then 1 else 0))
  | _ => none
def intsOf : List D → Option (List Int)
  | [] => some []
  | .int i :: r => (intsOf r).map (i :: ·)
  | _ => none
def blsOf : List D → Option (List Bool)
  | [] => some []
  | .bl i :: r => (blsOf r).map (i :: ·)
  | _ => none
def bSum : List D → Option D
  | [.lst l] => (intsOf l).map fun ns => .int ns.sum
  | _ => none
def bAll : List D → Option D
  | [.lst l] => (blsOf l).map fun bs => .bl (bs.all id)
  | _ => none
def bTuple : List D → Option D
  | [.lst l] => some (.tup l)
  | [.tup l] => some (.tup l)
  | _ => none
/-- the items of list(x) -/
def listOfD : List D → Option (List D)
  | [.lst l] => some l
  | [.tup l] => some l
  | [.scr l] => some (l.map .int)
  | _ => none
def bigR : Nat := 2 ^ 1900
mutual
/-- ints that may be shown -/
def D.shB : D → Bool
  | .int i => decide (i.natAbs < bigR)
  | .tup l => D.shL l
  | .lst l => D.shL l
  | _ => true
def D.shL : List D → Bool
  | [] => true
  | d :: ds => D.shB d && D.shL ds
end
/-- the text of repr -/
def D.shown (d : D) : Str := d.py.shown
theorem slen (a b : Str) : (a ++ b).length = a.length + b.length := strLen_append a b
theorem textFrom_le : ∀ (ts : List Str) (k : Nat) (acc : Str), (textFrom k acc ts).length ≤ acc.length + piled ts
  | [], k, acc => by show acc.length ≤ _; omega
  | t :: r, k, acc => by
    have h := textFrom_le r (k + 1) (acc ++ (if k > 0 then ", " else "" : String) ++ t)
    have e : (acc ++ (if k > 0 then ", " else "" : String) ++ t).length ≤ acc.length + 2 + t.length := by
      rw [slen, slen]
      split
      · have : ((", " : String) : Str).length = 2 := rfl
        omega
      · have : (("" : String) : Str).length = 0 := rfl
        omega
    have e2 : piled (t :: r) = t.length + 2 + piled r := by simp [piled]
    have e3 : textFrom k acc (t :: r) = textFrom (k + 1) (acc ++ (if k > 0 then ", " else "" : String) ++ t) r := rfl
    rw [e2, e3]
    omega
theorem bigR_log {a : Int} (h : a.natAbs < bigR) : a.natAbs.log2 < 1920 := by
  by_cases z : a.natAbs = 0
  · rw [z]; decide
  · exact Nat.lt_trans ((Nat.log2_lt z).mpr h) (by decide)
section
variable [Tb] {K : PySem.W.Frag} {Z : Addr → Prop} {H : Hp}
theorem ints_of : ∀ {l : List D} {ns : List Int} {xs : List V}, intsOf l = some ns → RShL K Z H l xs → xs = ns.map V.int
  | [], ns, xs, e, r => by simp only [intsOf] at e; cases e; simpa only [RShL, List.map_nil] using r
  | .int i :: l, ns, xs, e, r => by
    simp only [intsOf] at e
    obtain ⟨m, hm, rfl⟩ := Option.map_eq_some_iff.mp e
    simp only [RShL] at r
    obtain ⟨w, ws, rfl, r1, r2⟩ := r
    simp only [RSh] at r1
    rw [r1, ints_of hm r2]; rfl
  | .non :: _, _, _, e, _ => by simp [intsOf] at e
  | .bl _ :: _, _, _, e, _ => by simp [intsOf] at e
  | .str _ :: _, _, _, e, _ => by simp [intsOf] at e
  | .tup _ :: _, _, _, e, _ => by simp [intsOf] at e
  | .lst _ :: _, _, _, e, _ => by simp [intsOf] at e
  | .scr _ :: _, _, _, e, _ => by simp [intsOf] at e
  | .dct _ _ :: _, _, _, e, _ => by simp [intsOf] at e
  | .ins _ _ _ :: _, _, _, e, _ => by simp [intsOf] at e
theorem bls_of : ∀ {l : List D} {ns : List Bool} {xs : List V}, blsOf l = some ns → RShL K Z H l xs → xs = ns.map V.bl
  | [], ns, xs, e, r => by simp only [blsOf] at e; cases e; simpa only [RShL, List.map_nil] using r
  | .bl i :: l, ns, xs, e, r => by
    simp only [blsOf] at e
    obtain ⟨m, hm, rfl⟩ := Option.map_eq_some_iff.mp e
    simp only [RShL] at r
    obtain ⟨w, ws, rfl, r1, r2⟩ := r
    simp only [RSh] at r1
    rw [r1, bls_of hm r2]; rfl
  | .non :: _, _, _, e, _ => by simp [blsOf] at e
  | .int _ :: _, _, _, e, _ => by simp [blsOf] at e
  | .str _ :: _, _, _, e, _ => by simp [blsOf] at e
  | .tup _ :: _, _, _, e, _ => by simp [blsOf] at e
  | .lst _ :: _, _, _, e, _ => by simp [blsOf] at e
  | .scr _ :: _, _, _, e, _ => by simp [blsOf] at e
  | .dct _ _ :: _, _, _, e, _ => by simp [blsOf] at e
  | .ins _ _ _ :: _, _, _, e, _ => by simp [blsOf] at e
theorem Pk0L.one {d : D} {vs : List V} (h : Pk0L K Z H [d] vs) : ∃ v, vs = [v] ∧ Pk0 K Z H d v := by
  obtain ⟨w, ws, rfl, h1, h2⟩ := h
  have h2 : ws = [] := h2
  subst h2
  exact ⟨w, rfl, h1⟩
theorem Pk0L.two {d e : D} {vs : List V} (h : Pk0L K Z H [d, e] vs) : ∃ v w, vs = [v, w] ∧ Pk0 K Z H d v ∧ Pk0 K Z H e w := by
  obtain ⟨w, ws, rfl, h1, h2⟩ := h
  obtain ⟨u, rfl, h3⟩ := Pk0L.one h2
  exact ⟨w, u, rfl, h1, h3⟩
end
section
variable [Tb] {X : Cx}
theorem c_len : CallR X (.builtin "len") (rFn X.K bLen) := by
  intro pins s σ H xs us Q I r h
  obtain ⟨Z, ds, d, pl, e, k⟩ := h
  unfold bLen at e
  split at e
  · rename_i l
    cases e
    obtain ⟨v, rfl, p⟩ := pl.one
    obtain ⟨a, ys, rfl, s1, l1⟩ := p.tup
    exact call_len_seq pins s σ H _ us Q I r ⟨a, ys, rfl, .inr s1, fin0 (by simp only [RSh]; rw [l1.len]) k⟩
  · rename_i l
    cases e
    obtain ⟨v, rfl, p⟩ := pl.one
    obtain ⟨a, ys, rfl, s1, l1⟩ := p.lst
    exact call_len_seq pins s σ H _ us Q I r ⟨a, ys, rfl, .inl (SqL.of s1), fin0 (by simp only [RSh]; rw [l1.len]) k⟩
  · rename_i l
    cases e
    obtain ⟨v, rfl, p⟩ := pl.one
    obtain ⟨a, rfl, s1⟩ := p.scr
    exact call_len_seq pins s σ H _ us Q I r ⟨a, _, rfl, .inl s1, fin0 (by simp only [RSh]; rw [List.length_map]) k⟩
  · rename_i z
    split at e
    · rename_i hz
      cases e
      obtain ⟨v, rfl, p⟩ := pl.one
      rw [p.str] at r
      exact call_len_str pins s σ H _ us Q I r ⟨z, rfl, by rw [szL]; exact hz, fin0 (by simp only [RSh]) k⟩
    · cases e
  · cases e
theorem c_abs : CallR X (.builtin "abs") (rFn X.K bAbs) := by
  intro pins s σ H xs us Q I r h
  obtain ⟨Z, ds, d, pl, e, k⟩ := h
  unfold bAbs at e
  split at e
  · rename_i i
    cases e
    obtain ⟨v, rfl, p⟩ := pl.one
    rw [p.int] at r
    exact call_abs pins s σ H _ us Q I r ⟨i, rfl, fin0 (by simp only [RSh]) k⟩
  · cases e
theorem c_max2 (hc : X.calm = true) : CallR X (.builtin "max") (rFn X.K bMax2) := by
  intro pins s σ H xs us Q I r h
  obtain ⟨Z, ds, d, pl, e, k⟩ := h
  unfold bMax2 at e
  split at e
  · rename_i i j
    cases e
    obtain ⟨v, w, rfl, p, p'⟩ := pl.two
    rw [p.int, p'.int] at r
    exact call_max2 hc pins s σ H _ us Q I r ⟨i, j, rfl, fin0 (by simp only [RSh]) k⟩
  · cases e
theorem c_min2 (hc : X.calm = true) : CallR X (.builtin "min") (rFn X.K bMin2) := by
  intro pins s σ H xs us Q I r h
  obtain ⟨Z, ds, d, pl, e, k⟩ := h
  unfold bMin2 at e
  split at e
  · rename_i i j
    cases e
    obtain ⟨v, w, rfl, p, p'⟩ := pl.two
    rw [p.int, p'.int] at r
    exact call_min2 hc pins s σ H _ us Q I r ⟨i, j, rfl, fin0 (by simp only [RSh]) k⟩
  · cases e
theorem c_int : CallR X (.type "int") (rFn X.K bInt) := by
  intro pins s σ H xs us Q I r h
  obtain ⟨Z, ds, d, pl, e, k⟩ := h
  unfold bInt at e
  split at e
  · rename_i i
    cases e
    obtain ⟨v, rfl, p⟩ := pl.one
    rw [p.int] at r
    exact call_int1 pins s σ H _ us Q I r (.inl ⟨i, rfl, fin0 (by simp only [RSh]) k⟩)
  · rename_i b
    cases e
    obtain ⟨v, rfl, p⟩ := pl.one
    rw [p.bl] at r
    exact call_int1 pins s σ H _ us Q I r (.inr ⟨b, rfl, fin0 (by simp only [RSh]) k⟩)
  · cases e
theorem c_sum (hc : X.calm = true) : CallR X (.builtin "sum") (rFn X.K bSum) := by
  intro pins s σ H xs us Q I r h
  obtain ⟨Z, ds, d, pl, e, k⟩ := h
  unfold bSum at e
  split at e
  · rename_i l
    obtain ⟨ns, hn, rfl⟩ := Option.map_eq_some_iff.mp e
    obtain ⟨v, rfl, p⟩ := pl.one
    obtain ⟨a, ys, rfl, s1, l1⟩ := p.lst
    rw [ints_of hn l1] at s1
    exact cr_sum hc pins s σ H _ us Q I r ⟨a, ns, rfl, SqL.of s1, fin0 (by simp only [RSh]) k⟩
  · cases e
theorem c_all (hc : X.calm = true) : CallR X (.builtin "all") (rFn X.K bAll) := by
  intro pins s σ H xs us Q I r h
  obtain ⟨Z, ds, d, pl, e, k⟩ := h
  unfold bAll at e
  split at e
  · rename_i l
    obtain ⟨ns, hn, rfl⟩ := Option.map_eq_some_iff.mp e
    obtain ⟨v, rfl, p⟩ := pl.one
    obtain ⟨a, ys, rfl, s1, l1⟩ := p.lst
    rw [bls_of hn l1] at s1
    exact cr_all hc pins s σ H _ us Q I r ⟨a, ns, rfl, SqL.of s1, fin0 (by simp only [RSh]) k⟩
  · cases e
theorem c_tuple : CallR X (.type "tuple") (rFn X.K bTuple) := by
  intro pins s σ H xs us Q I r h
  obtain ⟨Z, ds, d, pl, e, k⟩ := h
  unfold bTuple at e
  split at e
  · rename_i l
    cases e
    obtain ⟨v, rfl, p⟩ := pl.one
    obtain ⟨a, ys, rfl, s1, l1⟩ := p.lst
    exact call_tuple_of pins s σ H _ us Q I r ⟨a, ys, rfl, .inl ⟨SqL.of s1, fun q hq => finT hq l1 k⟩⟩
  · rename_i l
    cases e
    obtain ⟨v, rfl, p⟩ := pl.one
    obtain ⟨a, ys, rfl, s1, l1⟩ := p.tup
    exact call_tuple_of pins s σ H _ us Q I r ⟨a, ys, rfl, .inr ⟨s1, fin0 (by simp only [RSh]; exact ⟨a, ys, rfl, s1, l1⟩) k⟩⟩
  · cases e
end
def rLn [Tb] (K : PySem.W.Frag) (f : List D → Option (List D)) : List V → Hp → VK → Prop := fun xs H Q => ∃ Z ds l, Pk0L K Z H ds xs ∧ f ds = some l ∧ ∀ p ys, H p = none → RShL K Z H l ys → Q (.ref p) (upd H p (.lst ys))
def mL (f : List D → Option (List D)) (ms : M (List D)) : M D := bind ms fun ds => ofO ((f ds).map .lst)
section
variable [Tb] {X : Cx} {τ : Nat → OT} {q : Bool} {e : Expr} {es : List Expr} {ms : M (List D)} {pos : Pos}
theorem c_list : CallR X (.type "list") (rLn X.K listOfD) := by
  intro pins s σ H xs us Q I r h
  obtain ⟨Z, ds, l, pl, e, k⟩ := h
  unfold listOfD at e
  split at e
  · cases e
    obtain ⟨v, rfl, p⟩ := pl.one
    obtain ⟨a, ys, rfl, s1, l1⟩ := p.lst
    exact call_list_of pins s σ H _ us Q I r ⟨a, ys, rfl, .inl (SqL.of s1), fun q hq => k q ys hq l1⟩
  · cases e
    obtain ⟨v, rfl, p⟩ := pl.one
    obtain ⟨a, ys, rfl, s1, l1⟩ := p.tup
    exact call_list_of pins s σ H _ us Q I r ⟨a, ys, rfl, .inr s1, fun q hq => k q ys hq l1⟩
  · cases e
    obtain ⟨v, rfl, p⟩ := pl.one
    obtain ⟨a, rfl, s1⟩ := p.scr
    exact call_list_of pins s σ H _ us Q I r ⟨a, _, rfl, .inl s1, fun q hq => k q _ hq (ints_rel _)⟩
  · cases e
theorem naryL {f : List D → Option (List D)} : ∀ σ H Q, tE X.K τ q (.ow (.ol .sh .sh)) (mL f ms) σ H Q → tCB (rLn X.K f) (tA X.K τ q ms) σ H Q := fun σ H Q ⟨Z, own, ρ, d, ρ', rs, e, k⟩ => by
  obtain ⟨xs, ρ1, e1, f1⟩ := bind_ok e
  obtain ⟨f2, rfl⟩ := ofO_ok f1
  obtain ⟨l, hl, rfl⟩ := Option.map_eq_some_iff.mp f2
  exact ⟨Z, own, ρ, xs, ρ', rs, e1, fun vs Z1 own1 H1 rs1 rl x1 => ⟨Z1, xs, l, rl, hl, fun p ys hp r => fin_ol rs1 x1 hp ((Grow.new hp).shL r) k⟩⟩
theorem e_callTyO {f : List D → Option (List D)} {x : Str} {T : String} {p : Pos} (hc : CallR X (.type T) (rLn X.K f)) (ha : PA X (e :: es) (tA X.K τ q ms)) (hg : Gl X x := by rfl) (hm : X.mg x = none := by assumption) (hv : bootBuiltins x = some (.type T) := by decide +kernel) (hn : x ≠ "__name__" := by decide) (hdb : (x == ("__debug__" : Str)) = false := by decide) (hst : starEach (e :: es) X.env = (false, eval e X.env) :: starEach es X.env := by rfl) (hpl : (backTo pos (starEach es X.env)).any (·.1) = false := by rfl) :
    PE X (.Call (.Name x p) (e :: es) [] pos) (tE X.K τ q (.ow (.ol .sh .sh)) (mL f ms)) := (pe_callTy hc hg hm hv ha hn hdb hst hpl).mono naryL
theorem e_callBO {f : List D → Option (List D)} {x : Str} {T : String} {p : Pos} (hc : CallR X (.builtin T) (rLn X.K f)) (ha : PA X (e :: es) (tA X.K τ q ms)) (hg : Gl X x := by rfl) (hm : X.mg x = none := by assumption) (hv : bootBuiltins x = some (.builtin T) := by decide +kernel) (hn : x ≠ "__name__" := by decide) (hdb : (x == ("__debug__" : Str)) = false := by decide) (hst : starEach (e :: es) X.env = (false, eval e X.env) :: starEach es X.env := by rfl) (hpl : (backTo pos (starEach es X.env)).any (·.1) = false := by rfl) :
    PE X (.Call (.Name x p) (e :: es) [] pos) (tE X.K τ q (.ow (.ol .sh .sh)) (mL f ms)) := (pe_callB hc hg hm hv ha hn hdb hst hpl).mono naryL
end
end CL
namespace CL
open PySem PySem.Spec L2
set_option autoImplicit false
/-- the tables that a law makes lambdas by: code object, table, name -/
abbrev tbOf (cs : List (Addr × Addr × Str)) : Tb := ⟨cs.map fun c => (c.2.1, c.2.2)⟩
theorem tab_new {q : Str} {H : Hp} : TabE H #[] q := ⟨True.intro, fun pos cv hc => by
  have hc : codeAmong pos [] = some cv := hc
  simp [codeAmong] at hc⟩
theorem law_start {P : Program} {w : World} {K : PySem.W.Frag} {mg mb : Str → Option Value} {k : Nat} {fa sc : Addr} {fd : FuncData} {x : Str} {G : List D → Res D} {s1 : Shared} {vals : List Value} {ns : List Int} {cs : List (Addr × Addr × Str)}
    (KX : K.In s1.heap) (hns : s1.heap.Ns mainGlobals mg) (hbl : s1.heap.Ns builtinsNs mb) (hbb : ∀ y : Str, y ≠ "__name__" → mb y = bootBuiltins y) (hlim : s1.heap.NoLimit) (hgen : s1.gens = #[])
    (tabE : ∀ c ∈ cs, s1.heap.get? c.2.1 = some { cls := .none, data := .fields #[] }) (tabN : ∀ c ∈ cs, K.lookup c.2.1 = none) (tabC : ∀ c ∈ cs, PySem.W.CodeHd s1.heap c.1 c.2.1)
    (main_b : ∃ (bm : Addr) (ob : Obj), mg "__builtins__" = some (.ref bm) ∧ bm ≠ builtinsNs ∧ s1.heap.get? bm = some ob ∧ ob.cls = .type "module" ∧ ob.dict = some builtinsNs ∧ ob.data = .plain)
    (hsc : s1.heap.get? sc = some { cls := .type "list", data := .seq vals.toArray }) (hint : PyProof.Rows.IntsAre vals ns) (hlen : ns.length ≤ sizeLine) (room : Room k callerA)
    (F : ∀ base : Heap, K.In base → base.Ns mainGlobals mg → (∀ c ∈ cs, LamX.TabB base mg c.1 c.2.1) → FnG P w K mg base k fa fd [x] (@spP (tbOf cs) K 1 .sh G)) (hbind : ∀ (s0 : Shared) (u : Value), BindsTo s0 fd ⟨[u], []⟩ [(x, u)])
    (hG : G [.scr ns] = .ok (.bl true)) :
    codeAny (model P w) callerA (.call (.ref fa) ⟨[.ref sc], []⟩) (fun r s2 => r = .ok (.ret (.bool true)) ∧ OldK s1.heap s2.heap ∧ s2.os = s1.os ∧ PyProof.Rows.AllBare s2.gens) s1 := by
  have relv := vals_ints hint
  have lenv := hint.length
  let tabs : List Addr := cs.map fun c => c.2.1
  have tabs_at : ∀ t : Addr, t ∈ tabs → ∃ c ∈ cs, c.2.1 = t := fun t ht => List.mem_map.mp ht
  have tabs_of : ∀ c ∈ cs, c.2.1 ∈ tabs := fun c hc => List.mem_map.mpr ⟨c, hc, rfl⟩
  have tabs_obj : ∀ t ∈ tabs, s1.heap.get? t = some { cls := .none, data := .fields #[] } := fun t ht => by
    obtain ⟨c, hc, rfl⟩ := tabs_at t ht
    exact tabE c hc
  have sc_tabs : sc ∉ tabs := fun z => by
    have y := tabs_obj sc z
    rw [hsc] at y
    have y2 := congrArg Obj.data (Option.some.inj y)
    cases y2
  have main : ∀ H : Hp, (∀ c ∈ cs, H c.2.1 = some (.tbl #[])) → (∀ c, H c = none ∨ c ∈ tabs ∨ ∃ ob ys, H c = some (.frz ob (.lst ys))) → (SqL K H sc (ns.map V.int)) → (H sc = none → KL K sc (ns.map V.int)) → HOk P w H s1.heap → (∀ c, H c ≠ none → c = sc ∨ c ∈ tabs) → (H sc ≠ none → K.lookup sc = none) →
      codeAny (model P w) callerA (.call (.ref fa) ⟨[.ref sc], []⟩) (fun r s2 => r = .ok (.ret (.bool true)) ∧ OldK s1.heap s2.heap ∧ s2.os = s1.os ∧ PyProof.Rows.AllBare s2.gens) s1 := by
    intro H htab honly hsq hkl hok hsole hnk
    have hid : ∀ {c : Addr} {ob : Obj}, s1.heap.get? c = some ob → H c = none → (hidT s1.heap H).get? c = some ob := fun e1 e2 => hidT_get e1 e2
    have other : ∀ {c : Addr} {ob : Obj}, s1.heap.get? c = some ob → (∀ ys m, ob.data ≠ .seq ys m) → ob.data ≠ .fields #[] → H c = none := by
      intro c ob e1 e2 e3
      apply Classical.byContradiction
      intro hne
      rcases hsole c hne with ec | ec
      · subst ec
        rw [hsc] at e1
        cases e1
        exact e2 _ _ rfl
      · rw [tabs_obj c ec] at e1
        cases e1
        exact e3 rfl
    have nodict : ∀ {c : Addr} {ob : Obj} {es : Array DictEntry} {ep : Nat}, s1.heap.get? c = some ob → ob.data = .dict es ep → H c = none := fun e1 e2 => other e1 (by rw [e2]; exact fun _ _ z => nomatch z) (by rw [e2]; exact fun z => nomatch z)
    have keepNs : ∀ {c : Addr} {m : Str → Option Value}, s1.heap.Ns c m → (hidT s1.heap H).Ns c m := by
      rintro c m ⟨ob, es, ep, e1, e2, rest⟩
      exact ⟨ob, es, ep, hid e1 (nodict e1 e2), e2, rest⟩
    have KB : K.In (hidT s1.heap H) := by
      intro c ob hc
      apply hid (KX c ob hc)
      apply Classical.byContradiction
      intro hne
      rcases hsole c hne with ec | ec
      · subst ec
        rw [hnk hne] at hc
        cases hc
      · obtain ⟨d, hd, rfl⟩ := tabs_at c ec
        rw [tabN d hd] at hc
        cases hc
    have hmod : Mod K mg (hidT s1.heap H) := by
      refine ⟨KB, keepNs hns, ⟨mb, keepNs hbl, hbb⟩, ?_⟩
      obtain ⟨mc, n1, n2⟩ := hlim
      exact ⟨mc, keepNs n1, n2⟩
    have TBs : ∀ c ∈ cs, LamX.TabB (hidT s1.heap H) mg c.1 c.2.1 := by
      intro c hc
      have hTc := tabE c hc
      constructor
      · obtain ⟨o, us, file, tf, flags, tg, inF, text, tt, e1, r1, r2, r3, rest⟩ := tabC c hc
        exact ⟨o, us, file, tf, flags, tg, inF, text, tt, hid e1 (other e1 (by rw [r2]; exact fun _ _ z => nomatch z) (by
          rw [r2]; intro z; cases z; simp at r3)), r1, r2, r3, rest⟩
      · obtain ⟨bm, ob, b1, b2, b3, b4, b5, b6⟩ := main_b
        have n1 : bm ≠ mainGlobals := by
          rintro rfl
          obtain ⟨o, es, ep, e, hd, _⟩ := hns
          rw [e] at b3
          cases b3
          rw [hd] at b6
          cases b6
        have n2 : bm ≠ c.2.1 := by
          intro z
          rw [z, hTc] at b3
          cases b3
          cases b6
        exact ⟨bm, ob, b1, b2, n1, n2, hid b3 (other b3 (by rw [b6]; exact fun _ _ z => nomatch z) (by rw [b6]; exact fun z => nomatch z)), b4, b5, b6⟩
      · intro z
        obtain ⟨o, es, ep, e, hd, _⟩ := hns
        rw [z, hTc] at e
        cases e
        cases hd
    have env0 : Env0 P w K mg (hidT s1.heap H) callerA [] s1 H :=
      ⟨rfl, hmod, fun c ob e1 => of_hidT e1, Nat.le_of_eq (hidT_size _ _), trivial, fun c hc => absurd (show c ∈ ([] : List Addr) from hc) (by simp), hok, .of_eq hgen⟩
    have tbok : @TbOk (tbOf cs) H := by
      intro p hp
      obtain ⟨c, hc, rfl⟩ := List.mem_map.mp hp
      exact ⟨#[], htab c hc, tab_new⟩
    have hsp : @spP (tbOf cs) K 1 .sh G [.ref sc] H (fun v _ => v = .bl true) (fun _ _ _ => False) := by
      refine ⟨fun c => c = sc ∧ H sc ≠ none, [.scr ns], .bl true, rfl, ?_, fun a z => by rw [z.1]; exact z.2, tbok, hG, fun v Z' H' S _ _ _ _ r _ => by simpa only [R, RSh] using r⟩
      apply RShL.one
      simp only [RSh]
      refine ⟨sc, rfl, ?_, hsq⟩
      cases hh : H sc with
      | none => exact .inr (hkl hh)
      | some o => exact .inl ⟨rfl, by simp⟩
    apply codeAny_mono ((F _ KB (keepNs hns) TBs).run callerA [] s1 H ⟨[.ref sc], []⟩ [.ref sc] [.ref sc] _ _ room rfl env0 (hbind s1 (.ref sc)) (.cons rfl .nil) hsp)
    intro res s2 hres
    cases res with
    | error er => exact hres.elim
    | ok fl =>
      cases fl with
      | next => exact hres.elim
      | brk => exact hres.elim
      | cont => exact hres.elim
      | ret u =>
        obtain ⟨v, H2, hos, hbare, hun, hok2, hrv, hv⟩ := hres
        have hv : v = .bl true := hv
        subst hv
        obtain rfl : u = Value.bool true := hrv
        have same : ∀ c ob, c ∉ tabs → s1.heap.get? c = some ob → s2.heap.get? c = some ob := by
          intro c ob nt e1
          rcases honly c with hn | ht | ⟨ob2, ys, hf⟩
          · exact hun.keep c ob e1 hn (fun z => absurd (show c ∈ ([] : List Addr) from z) (by simp)) (by simp)
          · exact absurd ht nt
          · have hf2 := hun.frzs c ob2 _ hf
            have o1 := (hok c _ hf).1
            have o2 := (hok2 c _ hf2).1
            rw [e1] at o1
            cases o1
            exact o2
        have more : ∀ c ∈ cs, ∃ ps : Array Value, s2.heap.get? c.2.1 = some { cls := .none, data := .fields ps } := by
          intro c hc
          obtain ⟨ps, hps⟩ := hun.tbls c.2.1 #[] (htab c hc)
          exact ⟨_, hok2 _ _ hps⟩
        refine ⟨rfl, ⟨fun c ob e1 => ?_, fun c ob e1 => ?_⟩, hos, hbare⟩ <;> by_cases hc : c ∈ tabs
        · obtain ⟨d, hd, rfl⟩ := tabs_at c hc
          obtain ⟨ps, hps⟩ := more d hd
          rw [tabE d hd] at e1
          cases e1
          exact .inr (.inl ⟨((tabC d hd).tab (tabE d hd)).isCodeTable, rfl, #[], ps, rfl, by rw [Array.empty_append]; exact hps⟩)
        · exact .inl (same c ob hc e1)
        · obtain ⟨d, hd, rfl⟩ := tabs_at c hc
          obtain ⟨ps, hps⟩ := more d hd
          exact ⟨_, hps⟩
        · exact ⟨ob, same c ob hc e1⟩
  cases hk : K.lookup sc with
  | some ob =>
    have e1 := KX sc ob hk
    rw [hsc] at e1
    cases e1
    have hkl : KL K sc (ns.map V.int) := fun H => .inr ⟨_, vals.toArray, _, hk, rfl, rfl, rfl, by rw [List.size_toArray, lenv]; exact hlen, by simpa using relv⟩
    have at0 : ∀ {c : Addr}, c ∈ tabs → (if c ∈ tabs then some (HO.tbl #[]) else none) = some (HO.tbl #[]) := fun h => if_pos h
    have at1 : ∀ {c : Addr}, c ∉ tabs → (if c ∈ tabs then some (HO.tbl #[]) else none) = none := fun h => if_neg h
    refine main (fun c => if c ∈ tabs then some (.tbl #[]) else none) (fun c hc => at0 (tabs_of c hc)) (fun c => ?_) (hkl _) (fun _ => hkl) (fun c u z => ?_) (fun c z => ?_) fun z => absurd (at1 sc_tabs) z
    · by_cases hc : c ∈ tabs
      · exact .inr (.inl hc)
      · exact .inl (at1 hc)
    · by_cases hc : c ∈ tabs
      · have y := (at0 hc).symm.trans z
        cases y
        exact tabs_obj c hc
      · have y := (at1 hc).symm.trans z
        cases y
    · by_cases hc : c ∈ tabs
      · exact .inr hc
      · exact absurd (at1 hc) z
  | none =>
    obtain ⟨H, hH⟩ : ∃ H : Hp, H = fun c => if c = sc then some (HO.frz { cls := .type "list", data := .seq vals.toArray } (.lst (ns.map V.int))) else if c ∈ tabs then some (HO.tbl #[]) else none := ⟨_, rfl⟩
    have atS : H sc = some (HO.frz { cls := .type "list", data := .seq vals.toArray } (.lst (ns.map V.int))) := by rw [hH]; exact if_pos rfl
    have atT : ∀ {c : Addr}, c ∈ tabs → H c = some (HO.tbl #[]) := fun {c} h => by
      rw [hH]
      exact (if_neg (show c ≠ sc from fun z => sc_tabs (z ▸ h))).trans (if_pos h)
    have atN : ∀ {c : Addr}, c ≠ sc → c ∉ tabs → H c = none := fun h1 h2 => by
      rw [hH]
      exact (if_neg h1).trans (if_neg h2)
    refine main H (fun c hc => atT (tabs_of c hc)) (fun c => ?_) (.inl (.inr ⟨_, atS⟩)) (fun z => by rw [atS] at z; cases z) (fun c u z => ?_) (fun c z => ?_) fun _ => hk
    · by_cases h1 : c = sc
      · subst h1; exact .inr (.inr ⟨_, _, atS⟩)
      · by_cases h2 : c ∈ tabs
        · exact .inr (.inl h2)
        · exact .inl (atN h1 h2)
    · by_cases h1 : c = sc
      · subst h1
        have y := atS.symm.trans z
        cases y
        exact ⟨hsc, by rw [List.length_map]; exact hlen, vals, _, relv, hsc⟩
      · by_cases h2 : c ∈ tabs
        · have y := (atT h2).symm.trans z
          cases y
          exact tabs_obj c h2
        · have y := (atN h1 h2).symm.trans z
          cases y
    · by_cases h1 : c = sc
      · exact .inl h1
      · by_cases h2 : c ∈ tabs
        · exact .inr h2
        · exact absurd (atN h1 h2) z
/-- the goal that the head leaves, from the law as a function of data -/
theorem walk_cl {l : PySem.W.OpenLaw} {n k : Nat} {q : Program} {loose : List Str} {XP : (Str → Option Value) → Heap → Prop} {YP : World → Heap → Prop} {d : DefRec} {K : Params → PySem.W.Frag} {x : Str} {G : List D → Res D}
    (hn : l.most = some n) (hn2 : n ≤ sizeLine) (hdf : d.params.defaults = []) (hr : Room k callerA)
    (hY : ∀ (w : World) (h : Heap), YP w h → (K w.params).In h)
    (F : ∀ (w : World) (mg : Str → Option Value) (fa : Addr) (h : Heap), YP w h → (K w.params).In h → h.Ns mainGlobals mg → mg d.name = some (.ref fa) →
      ∃ (cs : List (Addr × Addr × Str)) (fd : FuncData), (∀ c ∈ cs, h.get? c.2.1 = some { cls := .none, data := .fields #[] }) ∧ (∀ c ∈ cs, (K w.params).lookup c.2.1 = none) ∧ (∀ c ∈ cs, PySem.W.CodeHd h c.1 c.2.1) ∧
        (∀ (s : Shared) (u : Value), BindsTo s fd ⟨[u], []⟩ [(x, u)]) ∧ ∀ base : Heap, (K w.params).In base → base.Ns mainGlobals mg → (∀ c ∈ cs, LamX.TabB base mg c.1 c.2.1) → FnG l.prog w (K w.params) mg base k fa fd [x] (@spP (tbOf cs) (K w.params) 1 .sh G))
    (hG : ∀ ns : List Int, ns.length ≤ n → (∀ z ∈ ns, Builtin.Int.intBits z ≤ 1048576) → G [.scr ns] = .ok (.bl true)) :
    PySem.W.WalkO q loose XP YP l.row.toRowW d [] (fun f vs => PySem.call f vs) := by
  apply Att.attach_callB hn hdf
  intro w s0 s1 mg mb fa ob pm cd doc sc vals ns Gd Y ho hd hcd hmg hobj hints hlen hbits hg
  obtain ⟨cs, fd, t1, t2, t3, hb, hF⟩ := F w mg fa _ Y (hY w _ Y) Gd.T.g hmg
  exact law_start (hY w _ Y) Gd.T.g Gd.T.b Gd.T.builtins Gd.T.nolimit hg t1 t2 t3 Gd.T.bmain hobj hints (Nat.le_trans hlen hn2) hr hF hb (hG ns hlen hbits)
end CL
namespace CL
open PySem PySem.Spec L2
set_option autoImplicit false
def fuel : Nat := 2 ^ 2000
/-- a def of the text as it stands behind the top -/
def TxF [Tb] (K : PySem.W.Frag) (mg : Str → Option Value) (x : Str) (st : Stmt) (ps : List Str) : Prop := ∃ f fd, Fun K x x st f fd ∧ Binds K fd ps [] ∧ mg x = some (.ref f)
def CalP [Tb] (P : Program) (w : World) (K : PySem.W.Frag) (mg : Str → Option Value) (base : Heap) (k : Nat) (x : Str) (n : Nat) (rt : OT) (G : List D → Res D) : Prop :=
  ∃ f fd ps, FnG P w K mg base k f fd ps (spP K n rt G) ∧ PySem.W.keepIn K (.ref f) = true ∧ Binds K fd ps [] ∧ mg x = some (.ref f)
def CalF [Tb] (P : Program) (w : World) (K : PySem.W.Frag) (mg : Str → Option Value) (base : Heap) (k : Nat) (x : Str) (ts : List OT) (rt : OT) (G : Fn) : Prop :=
  ∃ f fd ps, FnG P w K mg base k f fd ps (spD K ts rt G) ∧ PySem.W.keepIn K (.ref f) = true ∧ Binds K fd ps [] ∧ mg x = some (.ref f)
section
variable [Tb] {X : Cx} {τ : Nat → OT} {q : Bool} {k j : Nat} {x : Str} {p pos : Pos} {e : Expr} {es : List Expr} {ms : M (List D)} {as : List Ag} {rt : OT} {n nl : Nat} {ts : List OT} {G : List D → Res D} {b : MS}
theorem e_c (c : CalP X.prog X.w X.K X.mg X.base k x n rt G) (hr : Room j X.A) (hgu : X.A.guards = some []) (ha : PA X (e :: es) (tAs X.K τ q ms)) (hn : ∀ ds (d : D) ρ ρ', ms ρ = .ok (ds, ρ') → ds.length = n) (hj : k ≤ j := by decide) (hg : Gl X x := by rfl)
    (hdb : (x == ("__debug__" : Str)) = false := by decide) (he : starEach (e :: es) X.env = (false, eval e X.env) :: starEach es X.env := by rfl) (hpl : (backTo pos (starEach es X.env)).any (·.1) = false := by rfl) :
    PE X (.Call (.Name x p) (e :: es) [] pos) (tE X.K τ q (.ow rt) (mCallP G ms)) := by
  obtain ⟨f, fd, ps, h1, h2, h3, h4⟩ := c
  exact e_call (h1.mono hj) h2 h3 hr hgu h4 ha hn hg hdb he hpl
theorem e_cF (c : CalF X.prog X.w X.K X.mg X.base k x ts rt (runF ts nl b)) (hr : Room j X.A) (hgu : X.A.guards = some []) (ha : PA X (e :: es) (tAg X.K τ q as)) (hts : tysOf τ as = ts := by rfl) (hj : k ≤ j := by decide) (hnd : (ioIx as).Nodup := by decide) (hol : (ioIx as).all (fun i => isOl (τ i)) = true := by rfl) (hg : Gl X x := by rfl)
    (hdb : (x == ("__debug__" : Str)) = false := by decide) (he : starEach (e :: es) X.env = (false, eval e X.env) :: starEach es X.env := by rfl) (hpl : (backTo pos (starEach es X.env)).any (·.1) = false := by rfl) :
    PE X (.Call (.Name x p) (e :: es) [] pos) (tE X.K τ false (.ow rt) (mCall (runF ts nl b) as)) := by
  subst hts
  obtain ⟨f, fd, ps, h1, h2, h3, h4⟩ := c
  exact e_callF (h1.mono hj) h2 h3 hr hgu h4 ha runF_len hnd (fun i hi => by simpa using List.all_eq_true.mp hol i hi) hg hdb he hpl
end
theorem sh_ok (τ : Nat → OT) (n : Nat) (h : (List.range n).all (fun i => !isOl (τ i)) = true) : ∀ i, i < n → τ i = .sh := fun i hi => by
  have := List.all_eq_true.mp h i (List.mem_range.mpr hi)
  cases ht : τ i with
  | sh => rfl
  | ol _ _ => rw [ht] at this; simp [isOl] at this
  | od => rw [ht] at this; simp [isOl] at this
  | dv _ => rw [ht] at this; simp [isOl] at this
def eqOT : OT → OT → Bool
  | .sh, .sh => true
  | .ol a b, .ol c d => eqOT a c && eqOT b d
  | .od, .od => true
  | .dv a, .dv b => eqOT a b
  | _, _ => false
theorem eqOT_eq : ∀ {a b : OT}, eqOT a b = true → a = b
  | .sh, .sh, _ => rfl
  | .ol a b, .ol c d, h => by
    simp only [eqOT, Bool.and_eq_true] at h
    rw [eqOT_eq h.1, eqOT_eq h.2]
  | .sh, .ol _ _, h => by simp [eqOT] at h
  | .ol _ _, .sh, h => by simp [eqOT] at h
  | .od, .od, _ => rfl
  | .od, .sh, h => by simp [eqOT] at h
  | .sh, .od, h => by simp [eqOT] at h
  | .od, .ol _ _, h => by simp [eqOT] at h
  | .ol _ _, .od, h => by simp [eqOT] at h
  | .dv a, .dv b, h => by
    simp only [eqOT] at h
    rw [eqOT_eq h]
  | .dv _, .sh, h => by simp [eqOT] at h
  | .dv _, .od, h => by simp [eqOT] at h
  | .dv _, .ol _ _, h => by simp [eqOT] at h
  | .sh, .dv _, h => by simp [eqOT] at h
  | .od, .dv _, h => by simp [eqOT] at h
  | .ol _ _, .dv _, h => by simp [eqOT] at h
theorem τs_ok (τ : Nat → OT) (ts : List OT) (h : (List.range ts.length).all (fun i => eqOT (τ i) (τOf ts i)) = true) : ∀ i, i < ts.length → τ i = τOf ts i := fun i hi => eqOT_eq (List.all_eq_true.mp h i (List.mem_range.mpr hi))
theorem fx_ok (fx : Nat → Bool) (ts : List OT) (h : (List.range ts.length).all (fun i => !ioOf ts i || fx i) = true) : ∀ i, ioOf ts i = true → fx i = true := fun i hi => by
  by_cases hl : i < ts.length
  · have := List.all_eq_true.mp h i (List.mem_range.mpr hl)
    rw [hi] at this; simpa using this
  · unfold ioOf at hi
    rw [List.getElem?_eq_none (by omega)] at hi
    cases hi
def NoNx (b : MS) : Prop := ∀ ρ ρ', b ρ ≠ .ok (.nx, ρ')
theorem NoNx.ret {m : M D} : NoNx (sRet m) := fun ρ ρ' h => by
  obtain ⟨d, ρ1, _, e⟩ := bind_ok h
  cases e
theorem NoNx.ifs {c : M D} {a b : MS} (ha : NoNx a) (hb : NoNx b) : NoNx (sIf c a b) := fun ρ ρ' h => by
  obtain ⟨f, ρ1, _, e⟩ := bind_ok h
  cases f with
  | bl x => cases x with
    | true => exact ha _ _ e
    | false => exact hb _ _ e
  | _ => cases e
end CL
namespace CL
open PySem L2
set_option autoImplicit false
def W {α : Type} (m : M α) (ρ : Sl) (Q : α → Sl → Prop) : Prop := ∃ a ρ', m ρ = .ok (a, ρ') ∧ Q a ρ'
section
variable {α β : Type} {ρ : Sl} {Q : α → Sl → Prop} {QD : D → Sl → Prop} {QL : List D → Sl → Prop} {QF : Fl → Sl → Prop}
theorem W.mono {m : M α} {Q' : α → Sl → Prop} (h : W m ρ Q) (f : ∀ a ρ', Q a ρ' → Q' a ρ') : W m ρ Q' := let ⟨a, ρ', e, q⟩ := h; ⟨a, ρ', e, f a ρ' q⟩
theorem W_bind {m : M β} {f : β → M α} : W (CL.bind m f) ρ Q ↔ W m ρ fun a ρ1 => W (f a) ρ1 Q := by
  constructor
  · rintro ⟨a, ρ', e, q⟩
    obtain ⟨b, ρ1, e1, e2⟩ := bind_ok e
    exact ⟨b, ρ1, e1, a, ρ', e2, q⟩
  · rintro ⟨b, ρ1, e1, a, ρ', e2, q⟩
    exact ⟨a, ρ', by rw [bind_of e1]; exact e2, q⟩
theorem W_mC {d : D} : W (mC d) ρ QD ↔ QD d ρ := ⟨fun ⟨_, _, e, q⟩ => by cases e; exact q, fun q => ⟨_, _, rfl, q⟩⟩
theorem W_sK {f : Fl} : W (sK f) ρ QF ↔ QF f ρ := ⟨fun ⟨_, _, e, q⟩ => by cases e; exact q, fun q => ⟨_, _, rfl, q⟩⟩
theorem W_mNil : W mNil ρ QL ↔ QL [] ρ := ⟨fun ⟨_, _, e, q⟩ => by cases e; exact q, fun q => ⟨_, _, rfl, q⟩⟩
theorem W_ofO {o : Option D} : W (ofO o) ρ QD ↔ ∃ d, o = some d ∧ QD d ρ := by
  constructor
  · rintro ⟨a, ρ', e, q⟩
    obtain ⟨e1, rfl⟩ := ofO_ok e
    exact ⟨a, e1, q⟩
  · rintro ⟨d, rfl, q⟩
    exact ⟨d, ρ, rfl, q⟩
theorem W_ofL {o : Option (List D)} : W (ofL o) ρ QL ↔ ∃ d, o = some d ∧ QL d ρ := by
  constructor
  · rintro ⟨a, ρ', e, q⟩
    obtain ⟨e1, rfl⟩ := ofL_ok e
    exact ⟨a, e1, q⟩
  · rintro ⟨d, rfl, q⟩
    exact ⟨d, ρ, rfl, q⟩
theorem W_ok {a : α} : W (fun ρ => .ok (a, ρ)) ρ Q ↔ Q a ρ := ⟨fun ⟨_, _, e, q⟩ => by cases e; exact q, fun q => ⟨_, _, rfl, q⟩⟩
theorem W_mV {i : Nat} : W (mV i) ρ QD ↔ ∃ d, ρ[i]? = some (some d) ∧ QD d ρ := by
  constructor
  · rintro ⟨a, ρ', e, q⟩
    obtain ⟨e, rfl⟩ := mV_ok e
    exact ⟨a, e, q⟩
  · rintro ⟨d, e, q⟩
    exact ⟨d, ρ, by unfold mV; rw [e], q⟩
theorem W_m1 {f : D → Option D} {a : M D} : W (m1 f a) ρ QD ↔ W a ρ fun x ρ1 => ∃ d, f x = some d ∧ QD d ρ1 := by simp only [m1, W_bind, W_ofO]
theorem W_m2 {f : D → D → Option D} {a b : M D} : W (m2 f a b) ρ QD ↔ W a ρ fun x ρ1 => W b ρ1 fun y ρ2 => ∃ d, f x y = some d ∧ QD d ρ2 := by simp only [m2, W_bind, W_ofO]
theorem W_mCons {a : M D} {r : M (List D)} : W (mCons a r) ρ QL ↔ W a ρ fun x ρ1 => W r ρ1 fun xs ρ2 => QL (x :: xs) ρ2 := by simp only [mCons, W_bind, W_ok]
theorem W_mN {f : List D → Option D} {ms : M (List D)} : W (mN f ms) ρ QD ↔ W ms ρ fun xs ρ1 => ∃ d, f xs = some d ∧ QD d ρ1 := by simp only [mN, W_bind, W_ofO]
theorem W_mL {f : List D → Option (List D)} {ms : M (List D)} : W (mL f ms) ρ QD ↔ W ms ρ fun xs ρ1 => ∃ l, f xs = some l ∧ QD (.lst l) ρ1 := by
  simp only [mL, W_bind, W_ofO, Option.map_eq_some_iff]
  constructor
  · exact fun h => h.mono fun xs ρ1 ⟨d, ⟨l, h1, h2⟩, q⟩ => ⟨l, h1, h2 ▸ q⟩
  · exact fun h => h.mono fun xs ρ1 ⟨l, h1, q⟩ => ⟨_, ⟨l, h1, rfl⟩, q⟩
theorem W_mIt {m : M D} : W (mIt m) ρ QL ↔ W m ρ fun d ρ1 => ∃ l, itemsOf d = some l ∧ QL l ρ1 := by simp only [mIt, W_bind, W_ofL]
theorem W_mItN {f : List D → Option (List D)} {m : M (List D)} : W (mItN f m) ρ QL ↔ W m ρ fun d ρ1 => ∃ l, f d = some l ∧ QL l ρ1 := by simp only [mItN, W_bind, W_ofL]
theorem W_mIf {c a b : M D} : W (mIf c a b) ρ QD ↔ W c ρ fun x ρ1 => (x = .bl true ∧ W a ρ1 QD) ∨ (x = .bl false ∧ W b ρ1 QD) := by
  simp only [mIf, W_bind]
  constructor <;> refine fun h => h.mono fun x ρ1 q => ?_
  · cases x with
    | bl c => cases c <;> simp_all
    | _ => obtain ⟨_, _, e, _⟩ := q; cases e
  · rcases q with ⟨rfl, q⟩ | ⟨rfl, q⟩ <;> exact q
theorem W_mAnd {a b : M D} : W (mAnd a b) ρ QD ↔ W a ρ fun x ρ1 => (x = .bl true ∧ W b ρ1 QD) ∨ (x = .bl false ∧ QD (.bl false) ρ1) := by
  simp only [mAnd, W_bind]
  constructor <;> refine fun h => h.mono fun x ρ1 q => ?_
  · cases x with
    | bl c => cases c <;> simp_all [W_mC]
    | _ => obtain ⟨_, _, e, _⟩ := q; cases e
  · rcases q with ⟨rfl, q⟩ | ⟨rfl, q⟩
    · exact q
    · exact W_mC.mpr q
theorem W_mOr {a b : M D} : W (mOr a b) ρ QD ↔ W a ρ fun x ρ1 => (x = .bl true ∧ QD (.bl true) ρ1) ∨ (x = .bl false ∧ W b ρ1 QD) := by
  simp only [mOr, W_bind]
  constructor <;> refine fun h => h.mono fun x ρ1 q => ?_
  · cases x with
    | bl c => cases c <;> simp_all [W_mC]
    | _ => obtain ⟨_, _, e, _⟩ := q; cases e
  · rcases q with ⟨rfl, q⟩ | ⟨rfl, q⟩
    · exact W_mC.mpr q
    · exact q
theorem W_mChain {f g : D → D → Option D} {a b c : M D} : W (mChain f g a b c) ρ QD ↔ W a ρ fun x ρ1 => W b ρ1 fun y ρ2 => ∃ z, f x y = some z ∧ ((z = .bl true ∧ W c ρ2 fun w ρ3 => ∃ d, g y w = some d ∧ QD d ρ3) ∨ (z = .bl false ∧ QD (.bl false) ρ2)) := by
  simp only [mChain, W_bind, W_ofO]
  constructor <;> refine fun h => h.mono fun x ρ1 q => q.mono fun y ρ2 ⟨z, hz, q⟩ => ⟨z, hz, ?_⟩
  · cases z with
    | bl c => cases c <;> simp_all [W_mC, W_bind, W_ofO]
    | _ => obtain ⟨_, _, e, _⟩ := q; cases e
  · rcases q with ⟨rfl, q⟩ | ⟨rfl, q⟩
    · exact W_bind.mpr (q.mono fun _ _ h => W_ofO.mpr h)
    · exact W_mC.mpr q
theorem W_mPtN {QO : Option Int → Sl → Prop} : W (mPt none) ρ QO ↔ QO none ρ := ⟨fun ⟨_, _, e, q⟩ => by cases e; exact q, fun q => ⟨_, _, rfl, q⟩⟩
theorem W_mPtS {m : M D} {QO : Option Int → Sl → Prop} : W (mPt (some m)) ρ QO ↔ W m ρ fun d ρ1 => ∃ i, d = .int i ∧ QO (some i) ρ1 := by
  simp only [mPt, W_bind]
  constructor <;> refine fun h => h.mono fun d ρ1 q => ?_
  · cases d with
    | int i => obtain ⟨_, _, e, q⟩ := q; cases e; exact ⟨i, rfl, q⟩
    | _ => obtain ⟨_, _, e, _⟩ := q; cases e
  · obtain ⟨i, rfl, q⟩ := q
    exact ⟨_, _, rfl, q⟩
theorem W_mSl {a : M D} {lo hi : Option (M D)} : W (mSl a lo hi) ρ QD ↔ W a ρ fun x ρ1 => W (mPt lo) ρ1 fun l ρ2 => W (mPt hi) ρ2 fun h ρ3 => ∃ d, bSl x l h = some d ∧ QD d ρ3 := by simp only [mSl, W_bind, W_ofO]
theorem W_mCallP {F : List D → Res D} {ms : M (List D)} : W (mCallP F ms) ρ QD ↔ W ms ρ fun ds ρ1 => ∃ d, F ds = .ok d ∧ QD d ρ1 := by
  simp only [mCallP, W_bind]
  constructor <;> refine fun h => h.mono fun ds ρ1 q => ?_
  · obtain ⟨d, ρ', e, q⟩ := q
    split at e
    · rename_i d' e'; cases e; exact ⟨_, e', q⟩
    · cases e
    · cases e
  · obtain ⟨d, e, q⟩ := q
    exact ⟨d, ρ1, by simp [e], q⟩
theorem W_mCall {F : Fn} {as : List Ag} : W (mCall F as) ρ QD ↔ W (evA as) ρ fun ds ρ1 => ∃ full, fillA as ds ρ1 = some full ∧ ∃ d out, F full = .ok (d, out) ∧ QD d (backA as out ρ1) := by
  simp only [mCall, W_bind]
  constructor <;> refine fun h => h.mono fun ds ρ1 q => ?_
  · obtain ⟨d, ρ', e, q⟩ := q
    dsimp only at e
    split at e
    · cases e
    · rename_i full ef
      split at e
      · rename_i d' out e'; cases e; exact ⟨full, ef, _, out, e', q⟩
      · cases e
      · cases e
  · obtain ⟨full, ef, d, out, e, q⟩ := q
    exact ⟨d, _, by simp [ef, e], q⟩
/-- on to the next statement -/
def Kq (b : MS) (Q : Fl → Sl → Prop) : Fl → Sl → Prop := fun f ρ1 => (f = .nx ∧ W b ρ1 Q) ∨ (f ≠ .nx ∧ Q f ρ1)
theorem Kq_nx {b : MS} : Kq b QF .nx ρ ↔ W b ρ QF := by simp [Kq]
theorem Kq_ret {b : MS} {d : D} : Kq b QF (.ret d) ρ ↔ QF (.ret d) ρ := by simp [Kq]
theorem Kq_brk {b : MS} : Kq b QF .brk ρ ↔ QF .brk ρ := by simp [Kq]
theorem Kq_cnt {b : MS} : Kq b QF .cnt ρ ↔ QF .cnt ρ := by simp [Kq]
theorem W_sSeq {a b : MS} : W (sSeq a b) ρ QF ↔ W a ρ (Kq b QF) := by
  unfold Kq
  simp only [sSeq, W_bind]
  constructor <;> refine fun h => h.mono fun f ρ1 q => ?_
  · cases f with
    | nx => exact .inl ⟨rfl, q⟩
    | ret d => exact .inr ⟨by simp, W_sK.mp q⟩
    | brk => exact .inr ⟨by simp, W_sK.mp q⟩
    | cnt => exact .inr ⟨by simp, W_sK.mp q⟩
  · rcases q with ⟨rfl, q⟩ | ⟨n, q⟩
    · exact q
    · cases f with
      | nx => exact absurd rfl n
      | ret d => exact W_sK.mpr q
      | brk => exact W_sK.mpr q
      | cnt => exact W_sK.mpr q
theorem W_sIf {c : M D} {a b : MS} : W (sIf c a b) ρ QF ↔ W c ρ fun x ρ1 => (x = .bl true ∧ W a ρ1 QF) ∨ (x = .bl false ∧ W b ρ1 QF) := by
  simp only [sIf, W_bind]
  constructor <;> refine fun h => h.mono fun x ρ1 q => ?_
  · cases x with
    | bl c => cases c <;> simp_all
    | _ => obtain ⟨_, _, e, _⟩ := q; cases e
  · rcases q with ⟨rfl, q⟩ | ⟨rfl, q⟩ <;> exact q
theorem W_sRet {m : M D} : W (sRet m) ρ QF ↔ W m ρ fun d ρ1 => QF (.ret d) ρ1 := by simp only [sRet, W_bind, W_sK]
theorem W_sExp {m : M D} : W (sExp m) ρ QF ↔ W m ρ fun d ρ1 => QF .nx ρ1 := by simp only [sExp, W_bind, W_sK]
theorem W_sAsg {p : Pt} {m : M D} : W (sAsg p m) ρ QF ↔ W m ρ fun d ρ1 => ∃ ρ2, p d ρ1 = some ρ2 ∧ QF .nx ρ2 := by
  simp only [sAsg, W_bind]
  constructor <;> refine fun h => h.mono fun d ρ1 q => ?_
  · obtain ⟨f, ρ', e, q⟩ := q
    dsimp only at e
    split at e
    · rename_i ρ2 e2; cases e; exact ⟨_, e2, q⟩
    · cases e
  · obtain ⟨ρ2, e, q⟩ := q
    exact ⟨.nx, ρ2, by simp [e], q⟩
def parW (vs : List D) (P : D → D → Prop) : Prop := match vs with
  | [v, w] => P v w
  | _ => False
@[simp] theorem parW_mk {v w : D} {P : D → D → Prop} : parW [v, w] P ↔ P v w := Iff.rfl
theorem W_sPar {i j : Nat} {ms : M (List D)} : W (sPar i j ms) ρ QF ↔ W ms ρ fun vs ρ1 => parW vs fun v w => QF .nx ((ρ1.set i (some v)).set j (some w)) := by
  simp only [sPar, W_bind]
  constructor <;> refine fun h => h.mono fun d ρ1 q => ?_
  · obtain ⟨f, ρ', e, q⟩ := q
    split at e
    · cases e; exact q
    · cases e
  · unfold parW at q
    split at q
    · exact ⟨.nx, _, rfl, q⟩
    · exact q.elim
theorem W_sFor {p : Pt} {it : M (List D)} {b : MS} : W (sFor p it b) ρ QF ↔ W it ρ fun xs ρ1 => W (forL p b xs) ρ1 QF := by simp only [sFor, W_bind]
theorem W_mIxS {i k : Nat} : W (mIxS i k) ρ QD ↔ ∃ l, ρ[i]? = some (some (.lst l)) ∧ ∃ d, l[k + 1]? = some d ∧ QD d ρ := by
  constructor
  · rintro ⟨a, ρ', e, q⟩
    unfold mIxS at e
    split at e
    · rename_i l hl
      split at e
      · rename_i d hd; cases e; exact ⟨l, hl, _, hd, q⟩
      · cases e
    · cases e
  · rintro ⟨l, hl, d, hd, q⟩
    exact ⟨d, ρ, by unfold mIxS; rw [hl]; simp only [hd], q⟩
theorem W_forNil {p : Pt} {b : MS} : W (forL p b []) ρ QF ↔ QF .nx ρ := by unfold forL; exact W_sK
theorem W_forCons {p : Pt} {b : MS} {x : D} {xs : List D} : W (forL p b (x :: xs)) ρ QF ↔ ∃ ρ1, p x ρ = some ρ1 ∧ W b ρ1 fun f ρ2 => ((f = .nx ∨ f = .cnt) ∧ W (forL p b xs) ρ2 QF) ∨ (f = .brk ∧ QF .nx ρ2) ∨ ∃ d, f = .ret d ∧ QF (.ret d) ρ2 := by
  constructor
  · rintro ⟨f, ρ', e, q⟩
    unfold forL at e
    split at e
    · cases e
    · rename_i ρ1 e1
      refine ⟨ρ1, e1, ?_⟩
      split at e
      · rename_i ρ2 e2; exact ⟨.nx, ρ2, e2, .inl ⟨.inl rfl, f, ρ', e, q⟩⟩
      · rename_i ρ2 e2; exact ⟨.cnt, ρ2, e2, .inl ⟨.inr rfl, f, ρ', e, q⟩⟩
      · rename_i ρ2 e2; cases e; exact ⟨.brk, _, e2, .inr (.inl ⟨rfl, q⟩)⟩
      · rename_i d ρ2 e2; cases e; exact ⟨.ret d, _, e2, .inr (.inr ⟨d, rfl, q⟩)⟩
      · cases e
      · cases e
  · rintro ⟨ρ1, e1, f, ρ2, e2, h⟩
    unfold W forL
    simp only [e1]
    rcases h with ⟨rfl | rfl, a, ρ', e, q⟩ | ⟨rfl, q⟩ | ⟨d, rfl, q⟩
    · exact ⟨a, ρ', by simp only [e2]; exact e, q⟩
    · exact ⟨a, ρ', by simp only [e2]; exact e, q⟩
    · exact ⟨_, _, by simp only [e2], q⟩
    · exact ⟨_, _, by simp only [e2], q⟩
theorem W_compNil {vs : List Nat} {p : Pt} {c e : M D} : W (compL vs p c e []) ρ QL ↔ QL [] ρ := by unfold compL; exact W_ok
theorem W_compCons {vs : List Nat} {p : Pt} {c e : M D} {x : D} {xs : List D} : W (compL vs p c e (x :: xs)) ρ QL ↔ ∃ ρ1, p x ρ = some ρ1 ∧ W c ρ1 fun b ρ2 => (b = .bl true ∧ W e ρ2 fun d ρ3 => W (compL vs p c e xs) (wipeD ρ3 vs) fun ds ρ4 => QL (d :: ds) ρ4) ∨ (b = .bl false ∧ W (compL vs p c e xs) (wipeD ρ2 vs) QL) := by
  constructor
  · rintro ⟨l, ρ', h, q⟩
    unfold compL at h
    split at h
    · cases h
    · rename_i ρ1 e1
      refine ⟨ρ1, e1, ?_⟩
      split at h
      · rename_i ρ2 e2
        refine ⟨_, ρ2, e2, .inl ⟨rfl, ?_⟩⟩
        split at h
        · rename_i d ρ3 e3
          refine ⟨d, ρ3, e3, ?_⟩
          split at h
          · rename_i ds ρ4 e4
            cases h
            exact ⟨ds, _, e4, q⟩
          · cases h
          · cases h
        · cases h
        · cases h
      · rename_i ρ2 e2
        exact ⟨_, ρ2, e2, .inr ⟨rfl, l, ρ', h, q⟩⟩
      · cases h
      · cases h
  · rintro ⟨ρ1, e1, b, ρ2, e2, h⟩
    unfold W compL
    simp only [e1]
    rcases h with ⟨rfl, d, ρ3, e3, ds, ρ4, e4, q⟩ | ⟨rfl, l, ρ', e4, q⟩
    · exact ⟨d :: ds, ρ4, by simp only [e2, e3, e4], q⟩
    · exact ⟨l, ρ', by simp only [e2, e4], q⟩
theorem W_mComp {vs : List Nat} {p : Pt} {it : M (List D)} {c e : M D} : W (mComp vs p it c e) ρ QD ↔ W it ρ fun xs ρ1 => W (compL vs p c e xs) (wipeD ρ1 vs) fun ds ρ2 => QD (.lst ds) ρ2 := by
  simp only [mComp, W_bind]
  constructor <;> refine fun h => h.mono fun xs ρ1 q => ?_
  · obtain ⟨d, ρ', h, q⟩ := q
    dsimp only at h
    split at h
    · rename_i ds ρ2 e2; cases h; exact ⟨ds, _, e2, q⟩
    · cases h
    · cases h
  · obtain ⟨ds, ρ2, e2, q⟩ := q
    exact ⟨.lst ds, ρ2, by simp [e2], q⟩
/-- each item's value, the slots as they were -/
theorem W_compMap {vs : List Nat} {p : Pt} {e : M D} {f : D → D} {xs : List D} (h : ∀ x ∈ xs, ∃ ρ1 ρ2, p x ρ = some ρ1 ∧ e ρ1 = .ok (f x, ρ2) ∧ wipeD ρ2 vs = ρ) (q : QL (xs.map f) ρ) : W (compL vs p mYes e xs) ρ QL := by
  induction xs generalizing QL with
  | nil => exact W_compNil.mpr q
  | cons x xs ih =>
    obtain ⟨ρ1, ρ2, e1, e2, e3⟩ := h x (by simp)
    refine W_compCons.mpr ⟨ρ1, e1, _, ρ1, rfl, .inl ⟨rfl, f x, ρ2, e2, ?_⟩⟩
    show W (compL vs p mYes e xs) (wipeD ρ2 vs) _
    rw [e3]
    exact ih (fun y hy => h y (by simp [hy])) q
theorem W_mYes : W mYes ρ QD ↔ QD (.bl true) ρ := W_mC
/-- a loop through all items -/
theorem W_forInv {p : Pt} {b : MS} (I : Sl → Prop) {xs : List D} (h : ∀ x ∈ xs, ∀ ρ, I ρ → ∃ ρ1, p x ρ = some ρ1 ∧ W b ρ1 fun f ρ2 => (f = .nx ∨ f = .cnt) ∧ I ρ2) (h0 : I ρ) (hq : ∀ ρ', I ρ' → QF .nx ρ') : W (forL p b xs) ρ QF := by
  induction xs generalizing ρ with
  | nil => exact W_forNil.mpr (hq ρ h0)
  | cons x xs ih =>
    obtain ⟨ρ1, e1, hb⟩ := h x (by simp) ρ h0
    exact W_forCons.mpr ⟨ρ1, e1, hb.mono fun f ρ2 ⟨hf, hi⟩ => .inl ⟨hf, ih (fun y hy => h y (by simp [hy])) hi⟩⟩
theorem runP_of {nl : Nat} {b : MS} {ds : List D} {d : D} (h : W b (ds.map some ++ List.replicate nl none) fun f _ => f = .ret d) : runP nl b ds = .ok d := by
  obtain ⟨f, ρ', e, rfl⟩ := h
  unfold runP
  rw [e]
theorem runP_ex {nl : Nat} {b : MS} {ds : List D} {Q : D → Prop} (h : W b (ds.map some ++ List.replicate nl none) fun f _ => ∃ d, f = .ret d ∧ Q d) : ∃ d, runP nl b ds = .ok d ∧ Q d := by
  obtain ⟨f, ρ', e, d, rfl, q⟩ := h
  exact ⟨d, by unfold runP; rw [e], q⟩
theorem runF_ex {ts : List OT} {nl : Nat} {b : MS} {ds : List D} {Q : D → List D → Prop} (h : W b (ds.map some ++ List.replicate nl none) fun f ρ' => ∃ d out, f = .ret d ∧ outs ts ds ρ' = some out ∧ Q d out) : ∃ d out, runF ts nl b ds = .ok (d, out) ∧ Q d out := by
  obtain ⟨f, ρ', e, d, out, rfl, ho, q⟩ := h
  exact ⟨d, out, by unfold runF; rw [e]; simp only [ho], q⟩
end
theorem fmod_nn {a b : Int} (hb : 0 < b) : 0 ≤ a.fmod b := by
  rw [Int.fmod_eq_emod_of_nonneg a (by omega)]
  exact Int.emod_nonneg a (by omega)
theorem fmod_lt {a b : Int} (hb : 0 < b) : a.fmod b < b := by
  rw [Int.fmod_eq_emod_of_nonneg a (by omega)]
  exact Int.emod_lt_of_pos a hb
theorem natAbs_fmod {a b : Int} (hb : 0 < b) (h : b < 2 ^ 64) : (a.fmod b).natAbs < 2 ^ 64 := by
  have := fmod_nn (a := a) hb
  have := fmod_lt (a := a) hb
  omega
theorem lt_bigD {n : Nat} (h : n < 2 ^ 100) : n < bigD := Nat.lt_of_lt_of_le h (Nat.pow_le_pow_right (by decide) (by decide))
/-- a deck -/
def Deck (d : D) : Prop := ∃ (l : List Int) (a n : Int), d = .lst [.lst (l.map .int), .int a, .int n] ∧ l.length ≤ 63
theorem okL_ints (n : Nat) : ∀ l : List Int, D.okL n (l.map .int) = true
  | [] => by simp [D.okL]
  | i :: l => by simp [D.okL, D.okB, okL_ints n l]
def tailD : MS := (sSeq (sAsg (pN 3) (m2 bMod (m2 bMul (m2 bAdd (m2 bAdd (m2 bMod (mV 2) (mC (.int 2147483629))) (m2 bMul (mC (.int 65537)) (mIxS 0 1))) (mC (.int 3))) (mC (.int 48271))) (mC (.int 2147483647)))) (sSeq (sAsg (pN 3) (m2 bMod (m2 bAdd (m2 bAdd (m2 bMul (mV 3) (mV 3)) (m2 bMul (mC (.int 69621)) (mIxS 0 1))) (mC (.int 17))) (mC (.int 2147483587)))) (sRet (m2 bMod (m2 bDiv (m2 bMod (m2 bAdd (m2 bMul (mV 3) (mV 3)) (mC (.int 39373))) (mC (.int 2147483563))) (mC (.int 64))) (mV 1)))))
theorem tail_ok {x : D} {r0 n c m : Int} {o : Option D} {r : List D} (h0 : 0 < m) : ∃ (v : Int) (o' : Option D), tailD [some (.lst (x :: .int r0 :: .int n :: r)), some (.int m), some (.int c), o] = .ok (.ret (.int v), [some (.lst (x :: .int r0 :: .int n :: r)), some (.int m), some (.int c), o']) ∧ 0 ≤ v ∧ v < m := by
  have k1 : ∀ a : Int, (a.fmod 2147483647).natAbs < 18446744073709551616 := fun a => natAbs_fmod (by decide) (by decide)
  have k2 : ∀ a : Int, (a.fmod 2147483587).natAbs < 18446744073709551616 := fun a => natAbs_fmod (by decide) (by decide)
  have k3 : (64 : Nat) < bigD := lt_bigD (by decide)
  have k4 : m ≠ 0 := by omega
  simp [tailD, sSeq, CL.bind, sAsg, pN, m2, mV, mC, ofO, bMod, bMul, bAdd, mIxS, sRet, sK, bDiv, k1, k2, k3, k4]
  exact ⟨fmod_nn h0, fmod_lt h0⟩
def drawB : MS := sSeq (sSto 0 1 (m2 bAdd (mIxS 0 1) (mC (.int 1)))) (sSeq (sAsg (pN 2) (mIxS 0 0)) (sSeq (sIf (m2 bNe (mIx0 0) (mN bLst mNil)) (sSeq (sAsg (pN 2) (mPop0 0)) (sIf (m2 bGe (mV 2) (m2 bPow (mC (.int 10)) (mC (.int 18)))) (sSeq (sExp (mApp0 0 (m2 bDiv (mV 2) (mV 1)))) (sRet (m2 bMod (mV 2) (mV 1)))) (sK .nx))) (sK .nx)) tailD))
def drawF : Fn := runF [.ol (.ol .sh .sh) .sh, .sh] 2 drawB
theorem draw_ok {dk : D} {m : Int} (h : Deck dk) (h0 : 0 < m) (h1 : m < 2 ^ 100) : ∃ (r : Int) (dk' : D), drawF [dk, .int m] = .ok (.int r, [dk', .int m]) ∧ 0 ≤ r ∧ r < m ∧ Deck dk' := by
  obtain ⟨l, a, n, rfl, hl⟩ := h
  have hb : m.natAbs < bigD := lt_bigD (by omega)
  have k4 : m ≠ 0 := by omega
  unfold drawF drawB
  rcases List.eq_nil_or_concat l with rfl | ⟨l', c, rfl⟩
  · obtain ⟨v, o', ht, h2, h3⟩ := tail_ok (x := .lst []) (n := n + 1) (c := a) (r0 := a) (o := none) (r := []) h0
    refine ⟨v, .lst [.lst [], .int a, .int (n + 1)], ?_, h2, h3, [], a, n + 1, by simp, by simp⟩
    simp [runF, sSeq, CL.bind, sSto, m2, mIxS, mC, ofO, bAdd, sAsg, pN, sIf, mIx0, bNe, mN, bLst, mNil, D.okB, D.okL, D.eqv, D.py, D.pyL, PyData.eqv, PyData.eqvAll, sK, ht, outs]
  · simp only [List.concat_eq_append] at hl ⊢
    have hll : l'.length < 16777216 := by simp at hl; omega
    have hok := okL_ints 59 (l' ++ [c])
    rw [List.map_append, List.map_cons, List.map_nil] at hok
    have hne : (l'.map D.int ++ [D.int c]).isEmpty = false := by cases l' <;> rfl
    by_cases hc : 1000000000000000000 ≤ c
    · refine ⟨c.fmod m, .lst [.lst ((l' ++ [c.fdiv m]).map .int), .int a, .int (n + 1)], ?_, fmod_nn h0, fmod_lt h0, l' ++ [c.fdiv m], a, n + 1, rfl, by simpa using hl⟩
      simp [runF, sSeq, CL.bind, sSto, m2, mIxS, mC, ofO, bAdd, sAsg, pN, sIf, mIx0, bNe, mN, bLst, mNil, D.okB, D.okL, hok, D.eqv, D.py, D.pyL, PyData.eqv, hne, mPop0, bGe, mV, bPow, hc, sExp, mApp0, bDiv, hb, k4, hll, sK, sRet, bMod, outs]
    · obtain ⟨v, o', ht, h2, h3⟩ := tail_ok (x := .lst (l'.map .int)) (n := n + 1) (c := c) (r0 := a) (o := none) (r := []) h0
      refine ⟨v, .lst [.lst (l'.map .int), .int a, .int (n + 1)], ?_, h2, h3, l', a, n + 1, rfl, by simp at hl; omega⟩
      simp [runF, sSeq, CL.bind, sSto, m2, mIxS, mC, ofO, bAdd, sAsg, pN, sIf, mIx0, bNe, mN, bLst, mNil, D.okB, D.okL, hok, D.eqv, D.py, D.pyL, PyData.eqv, hne, mPop0, bGe, mV, bPow, hc, sK, ht, outs]
/-- a draw, and on -/
theorem draw_step {dk : D} {m : Int} {Q : D → List D → Prop} (h : Deck dk) (h0 : 0 < m) (h1 : m < 2 ^ 100) (k : ∀ r dk', 0 ≤ r → r < m → Deck dk' → Q (.int r) [dk', .int m]) : ∃ d out, drawF [dk, .int m] = .ok (d, out) ∧ Q d out := by
  obtain ⟨r, dk', e, h2, h3, h4⟩ := draw_ok h h0 h1
  exact ⟨_, _, e, k r dk' h2 h3 h4⟩
def deckB : MS := (sRet (mN bLst (mCons (m1 bRev (mL listOfD (mCons (mSl (mV 0) none (some (mC (.int 63)))) mNil))) (mCons (m2 bAdd (mN bSum (mCons (mComp [1] (pN 1) (mIt (mSl (mV 0) none (some (mC (.int 63))))) mYes (m2 bMod (mV 1) (mC (.int 1000003)))) mNil)) (m2 bMul (mC (.int 7919)) (mN bLen (mCons (mSl (mV 0) none (some (mC (.int 63)))) mNil)))) (mCons (mC (.int 0)) mNil)))))
theorem intsOf_map : ∀ l : List Int, intsOf (l.map .int) = some l
  | [] => rfl
  | i :: l => by simp [intsOf, intsOf_map l]
theorem cut63 {ns : List Int} (h : ns.length ≤ 63) : cutD ns none (some 63) = ns := by
  unfold cutD
  rw [show HT.sIx ns.length 0 none = 0 from HT.sIx_none ns.length 0, show HT.sIx ns.length ns.length (some 63) = min 63 ns.length from HT.sIx_nat ns.length ns.length 63]
  rw [List.drop_zero]
  exact List.take_of_length_le (by omega)
theorem deck_ok {ns : List Int} (h : ns.length ≤ 63) : ∃ dk, runP 1 deckB [.scr ns] = .ok dk ∧ Deck dk := by
  refine ⟨.lst [.lst (ns.reverse.map .int), .int ((ns.map fun c => c.fmod 1000003).sum + 7919 * ns.length), .int 0], runP_of ?_, ns.reverse, _, 0, rfl, by simpa using h⟩
  have hc : ∀ (x : Option D) (Q : List D → Sl → Prop), Q ((ns.map fun c => c.fmod 1000003).map .int) [x, none] → W (compL [1] (pN 1) mYes (m2 bMod (mV 1) (mC (.int 1000003))) (ns.map .int)) [x, none] Q := fun x Q q => by
    refine W_compMap (f := fun d => match d with | .int i => .int (i.fmod 1000003) | d => d) (fun y hy => ?_) (by simpa [List.map_map, Function.comp_def] using q)
    obtain ⟨i, _, rfl⟩ := List.mem_map.mp hy
    exact ⟨_, _, rfl, rfl, rfl⟩
  simp only [deckB, W_sRet, W_mN, W_mCons, W_m1, W_mL, W_mSl, W_mV, W_mPtN, W_mPtS, W_mC, W_mNil, W_m2, W_mComp, W_mIt]
  simp [bSl, cut63 h, listOfD, bRev, itemsOf, wipeD]
  refine hc _ _ ?_
  refine ⟨_, (show (intsOf (List.map D.int (List.map (fun c => c.fmod 1000003) ns))).map (fun ns => D.int ns.sum) = some _ by rw [intsOf_map]; rfl), ?_⟩
  simp [bLen, bMul, bAdd, bLst, cut63 h]
end CL
namespace CL
open PySem
set_option autoImplicit false
theorem natAbs_fmod_lt {a b : Int} (hb : b ≠ 0) : (a.fmod b).natAbs < b.natAbs := by
  have e1 : 0 ≤ a % b := Int.emod_nonneg a hb
  have e2 : a % b < b.natAbs := Int.emod_lt a hb
  rw [Int.fmod_eq_emod]
  split
  · omega
  · rename_i h
    have : a % b ≠ 0 := fun z => h (.inr (Int.dvd_of_emod_eq_zero z))
    omega
theorem gcd_fmod (a b : Int) : Int.gcd b (a.fmod b) = Int.gcd a b := by
  rw [Int.fmod_def, Int.gcd_sub_mul_left_right, Int.gcd_comm]
theorem ne_int0 {b : Int} : bNe (.int b) (.int 0) = some (.bl (!decide (b = 0))) := by
  simp [bNe, D.okB, D.eqv, D.py, PyData.eqv]
  by_cases h : b = 0 <;> simp [h]
theorem gcd_loop : ∀ (n : Nat) (a b : Int) (r : Sl), b.natAbs < n → b.natAbs < 2 ^ 100 → ∃ g : Int, g.natAbs = Int.gcd a b ∧ whileN n (m2 bNe (mV 1) (mC (.int 0))) (sPar 0 1 (mCons (mV 1) (mCons (m2 bMod (mV 0) (mV 1)) mNil))) (some (.int a) :: some (.int b) :: r) = .ok (.nx, some (.int g) :: some (.int 0) :: r)
  | 0, a, b, r, h, _ => by omega
  | n + 1, a, b, r, h, hb => by
    by_cases h0 : b = 0
    · subst h0
      exact ⟨a, (Int.gcd_zero_right a).symm, rfl⟩
    · have hf := natAbs_fmod_lt (a := a) h0
      obtain ⟨g, e1, e2⟩ := gcd_loop n b (a.fmod b) r (by omega) (by omega)
      refine ⟨g, by rw [e1, gcd_fmod], ?_⟩
      have c : m2 bNe (mV 1) (mC (.int 0)) (some (.int a) :: some (.int b) :: r) = .ok (.bl true, some (.int a) :: some (.int b) :: r) := by
        simp [m2, CL.bind, mV, mC, ne_int0, ofO, h0]
      have hd : b.natAbs < bigD := lt_bigD hb
      have d : sPar 0 1 (mCons (mV 1) (mCons (m2 bMod (mV 0) (mV 1)) mNil)) (some (.int a) :: some (.int b) :: r) = .ok (.nx, some (.int b) :: some (.int (a.fmod b)) :: r) := by
        simp [sPar, mCons, mNil, m2, CL.bind, mV, bMod, ofO, h0, hd]
      unfold whileN
      simp only [c, d]
      exact e2
theorem lt_fuel {n : Nat} (h : n < 2 ^ 200) : n < fuel := Nat.lt_of_lt_of_le h (Nat.pow_le_pow_right (by decide) (by decide))
def divisorB : MS := (sSeq (whileN fuel (m2 bNe (mV 1) (mC (.int 0))) (sPar 0 1 (mCons (mV 1) (mCons (m2 bMod (mV 0) (mV 1)) mNil)))) (sRet (mN bAbs (mCons (mV 0) mNil))))
theorem divisor_eq {a b : Int} (h : b.natAbs < 2 ^ 100) : runP 0 divisorB [.int a, .int b] = .ok (.int (Int.gcd a b : Nat)) := by
  refine runP_of ?_
  obtain ⟨g, e1, e2⟩ := gcd_loop fuel a b [] (lt_fuel (by omega)) h
  unfold divisorB
  simp only [W_sSeq]
  refine ⟨_, _, e2, ?_⟩
  simp only [Kq_nx, W_sRet, W_mN, W_mCons, W_mV, W_mNil]
  simp [bAbs]
  rw [← e1]
  split <;> omega
theorem eq_int2 {a b : Int} : bEq (.int a) (.int b) = some (.bl (decide (a = b))) := by
  simp [bEq, D.okB, D.eqv, D.py, PyData.eqv]
  by_cases h : a = b <;> simp [h]
theorem ne_int2 {a b : Int} : bNe (.int a) (.int b) = some (.bl (!decide (a = b))) := by
  simp [bNe, D.okB, D.eqv, D.py, PyData.eqv]
  by_cases h : a = b <;> simp [h]
end CL
namespace CL
open PySem PySem.Spec L2 PyProof.Rows
set_option autoImplicit false
mutual
def D.pure : D → Bool
  | .non => true
  | .bl _ => true
  | .int _ => true
  | .str _ => true
  | .tup l => D.pureL l
  | .ins _ _ l => D.pureL l
  | _ => false
def D.pureL : List D → Bool
  | [] => true
  | d :: ds => D.pure d && D.pureL ds
end
mutual
theorem RSh.anyZ [Tb] {K : PySem.W.Frag} {Z Z' : Addr → Prop} {H : Hp} : ∀ (d : D) (v : V), D.pure d = true → RSh K Z H d v → RSh K Z' H d v
  | .non, _, _, h => by simpa only [RSh] using h
  | .bl _, _, _, h => by simpa only [RSh] using h
  | .int _, _, _, h => by simpa only [RSh] using h
  | .str _, _, _, h => by simpa only [RSh] using h
  | .tup l, _, p, h => by
    simp only [RSh] at h ⊢
    obtain ⟨a, xs, e, q, r⟩ := h
    exact ⟨a, xs, e, q, RShL.anyZ l xs (by simpa only [D.pure] using p) r⟩
  | .ins c ns l, _, p, h => by
    simp only [RSh] at h ⊢
    obtain ⟨C, a, dx, xs, e, k1, k2, k3, q, hl, r⟩ := h
    exact ⟨C, a, dx, xs, e, k1, k2, k3, q, hl, RShL.anyZ l xs (by simpa only [D.pure] using p) r⟩
  | .lst _, _, p, _ => by simp [D.pure] at p
  | .scr _, _, p, _ => by simp [D.pure] at p
  | .dct _ _, _, p, _ => by simp [D.pure] at p
  | .kdc _ _, _, p, _ => by simp [D.pure] at p
theorem RShL.anyZ [Tb] {K : PySem.W.Frag} {Z Z' : Addr → Prop} {H : Hp} : ∀ (ds : List D) (vs : List V), D.pureL ds = true → RShL K Z H ds vs → RShL K Z' H ds vs
  | [], _, _, h => by simpa only [RShL] using h
  | d :: ds, _, p, h => by
    simp only [RShL] at h ⊢
    simp only [D.pureL, Bool.and_eq_true] at p
    obtain ⟨w, ws, e, a, b⟩ := h
    exact ⟨w, ws, e, RSh.anyZ d w p.1 a, RShL.anyZ ds ws p.2 b⟩
end
def leafP : OT → D → Bool
  | .sh, d => d.pure
  | .ol t0 t, .lst (x :: l) => leafP t0 x && l.all (leafP t)
  | .ol _ _, .lst [] => true
  | .od, .kdc ks vs => D.pureL ks && D.pureL vs
  | _, _ => false
theorem R.anyZ [Tb] {K : PySem.W.Frag} {Z Z' : Addr → Prop} {H : Hp} : ∀ {t : OT} {d : D} {v : V} {S : Addr → Prop}, leafP t d = true → R K Z H t d v S → R K Z' H t d v S
  | .sh, d, v, _, p, h => RSh.anyZ d v (by simpa only [leafP] using p) h
  | .ol t0 t, _, _, S, p, h => by
    obtain ⟨l, a, xs, ow, rfl, e2, e3, e4, e5, e6, e7, e8⟩ := h
    refine ⟨l, a, xs, ow, rfl, e2, e3, e4, e5, e6, fun d v p1 q => R.anyZ ?_ (e7 d v p1 q), fun k d v p1 q => R.anyZ ?_ (e8 k d v p1 q)⟩
    · cases l with
      | nil => simp at p1
      | cons x l => simp at p1; subst p1; simp only [leafP, Bool.and_eq_true] at p; exact p.1
    · cases l with
      | nil => simp at p1
      | cons x l =>
        simp only [leafP, Bool.and_eq_true, List.all_eq_true] at p
        exact p.2 d (List.mem_of_getElem? (by simpa using p1))
  | .od, _, _, S, p, h => by
    obtain ⟨ks, vs, a, xs, rfl, e2, e3, e4, e5, e6, e7⟩ := h
    simp only [leafP, Bool.and_eq_true] at p
    exact ⟨ks, vs, a, xs, rfl, e2, e3, e4, e5, RShL.anyZ ks _ p.1 e6, RShL.anyZ vs _ p.2 e7⟩
def borL (τ : Nat → OT) (i : Nat) : Nat → Sl → Sl → Prop
  | k, a :: ρ, b :: ρ' => (if k = i then b = a else (match b with | none => True | some d => (τ k = .sh ∧ a = some d) ∨ leafP (τ k) d = true)) ∧ borL τ i (k + 1) ρ ρ'
  | _, [], [] => True
  | _, _, _ => False
theorem borL_get {τ : Nat → OT} {i : Nat} : ∀ {k : Nat} {ρ ρ' : Sl}, borL τ i k ρ ρ' → ∀ j d, ρ'[j]? = some (some d) → (k + j = i ∧ ρ[j]? = some (some d)) ∨ (k + j ≠ i ∧ ((τ (k + j) = .sh ∧ ρ[j]? = some (some d)) ∨ leafP (τ (k + j)) d = true))
  | k, a :: ρ, b :: ρ', h, 0, d, e => by
    simp at e
    subst e
    simp only [borL] at h
    by_cases hk : k = i
    · rw [if_pos hk] at h
      exact .inl ⟨by omega, by simp [← h.1]⟩
    · rw [if_neg hk] at h
      refine .inr ⟨by omega, ?_⟩
      rcases h.1 with z | z
      · exact .inl ⟨z.1, by simp [z.2]⟩
      · exact .inr z
  | k, a :: ρ, b :: ρ', h, j + 1, d, e => by
    simp only [borL] at h
    have := borL_get h.2 j d (by simpa using e)
    rw [show k + 1 + j = k + (j + 1) by omega] at this
    simpa using this
  | _, [], [], _, j, d, e => by simp at e
  | _, [], _ :: _, h, _, _, _ => by simp [borL] at h
  | _, _ :: _, [], h, _, _, _ => by simp [borL] at h
open Classical in
noncomputable def mBor (τ : Nat → OT) (i : Nat) (m : M D) : M D := fun ρ => match m ρ with
  | .ok (d, ρ') => if d.pure = true ∧ borL τ i 0 ρ ρ' then .ok (d, ρ') else .bad
  | .exc e => .exc e
  | .bad => .bad
def fzT (τ : Nat → OT) (i : Nat) : Nat → OT := fun j => if j = i then .sh else τ j
theorem e_bor [Tb] {X : Cx} {τ : Nat → OT} {q : Bool} {a : Expr} {ma : M D} (i : Nat) (h : PE X a (tE X.K (fzT τ i) q .sh ma)) : PE X a (tE X.K τ q .sh (mBor τ i ma)) := h.mono fun σ H Q ⟨Z, own, ρ, d, ρ', rs, e, k⟩ => by
  unfold mBor at e
  split at e
  case h_2 => cases e
  case h_3 => cases e
  rename_i d1 ρ1 e1
  split at e
  case isFalse => cases e
  rename_i hc
  cases e
  obtain ⟨hp, hb⟩ := hc
  have bg := borL_get hb
  classical
  have rs' : RS X.K (fzT τ i) (fun a => Z a ∨ own a = some i) (fun a => if own a = some i then none else own a) H ρ σ := by
    refine ⟨fun j d e => ?_, fun a j e => ?_, fun a j e z => ?_, fun a z => z.elim (rs.zt a) fun z e => ?_, rs.len, rs.tb⟩
    · obtain ⟨v, h1, h2⟩ := rs.sl j d e
      refine ⟨v, h1, ?_⟩
      show R X.K _ H (if j = i then .sh else τ j) d v _
      by_cases hij : j = i
      · rw [if_pos hij]; subst hij; exact R.freeze h2
      · rw [if_neg hij]
        refine R.pres (fun _ z => .inl z) (fun _ _ s _ _ => s) (fun _ _ _ s _ => s) (fun _ _ _ e _ => e) (R.mono h2 fun a ha => ?_)
        show (if own a = some i then none else own a) = some j
        rw [if_neg (fun z => by rw [ha] at z; cases z; exact hij rfl)]; exact ha
    · split at e
      · cases e
      · exact rs.ls a j e
    · split at e
      · cases e
      · rename_i n
        rcases z with z | z
        · exact rs.dz a j e z
        · exact n z
    · obtain ⟨xs, hx, _⟩ := rs.ls a i z
      rw [hx] at e; cases e
  refine ⟨_, _, ρ, d, ρ', rs', e1, fun v Z' own' H' S r1 r2 r3 x => ?_⟩
  have zk : ∀ a, Z a → Z' a ∧ own a ≠ some i := fun a z => ⟨x.z a (.inl z), fun e => rs.dz a i e z⟩
  have oi : ∀ a, own a = some i → (if own a = some i then (none : Option Nat) else own a) = none := fun a e => if_pos e
  have kp : ∀ a o, own a = some i → H a = some o → NT o → H' a = some o := fun a o e h n => x.keep a o h (.inl (oi a e))
  have on' : ∀ a j, own' a = some j → own a ≠ some i ∧ ((own a = some j) ∨ H a = none) := fun a j e => by
    rcases x.on a j e with z | z
    · split at z
      · cases z
      · rename_i n; exact ⟨n, .inl z⟩
    · refine ⟨fun w => ?_, .inr z⟩
      obtain ⟨xs, hx, _⟩ := rs.ls a i w
      rw [hx] at z; cases z
  refine k v (fun a => Z' a ∧ own a ≠ some i) (fun a => if own a = some i then some i else own' a) H' (fun _ => False) ⟨fun j d' e => ?_, fun a j e => ?_, fun a j e z => ?_, fun a z => r1.zt a z.1, r1.len, r1.tb⟩ (RSh.anyZ _ _ hp r2) (fun _ z => z.elim) ⟨zk, fun a z => ?_, fun a j e => ?_, fun a o e hh n => ?_, x.live, x.tk⟩
  · have old : ρ[j]? = some (some d') → (τ j = .sh ∨ j = i) → ∃ v, σ[j]? = some (some v) ∧ R X.K (fun a => Z' a ∧ own a ≠ some i) H' (τ j) d' v (fun a => (if own a = some i then some i else own' a) = some j) := fun e hs => by
      obtain ⟨w, h1, h2⟩ := rs.sl j d' e
      refine ⟨w, h1, ?_⟩
      rcases hs with hs | hs
      · rw [hs] at h2 ⊢
        exact RSh.pres zk (rs'.nl x) (fun a o z s n => rs'.kz x (.inl (.inl z)) s) _ _ h2
      · subst hs
        exact R.mono (R.pres zk (rs'.nl x) (fun a o z s n => rs'.kz x (.inl (.inl z)) s) (fun a o s h n => kp a o s h n) h2) fun a ha => if_pos ha
    rcases bg j d' e with ⟨c1, c2⟩ | ⟨c1, c2⟩
    · exact old c2 (.inr (by omega))
    · rw [Nat.zero_add] at c1 c2
      rcases c2 with c2 | c2
      · exact old c2.2 (.inl c2.1)
      · obtain ⟨w, h1, h2⟩ := r1.sl j d' e
        have h2 : R X.K Z' H' (if j = i then .sh else τ j) d' w _ := h2
        rw [if_neg c1] at h2
        refine ⟨w, h1, R.mono (R.anyZ c2 h2) fun a ha => ?_⟩
        rw [if_neg (on' a j ha).1]; exact ha
  · split at e
    · rename_i w
      obtain ⟨o, ho, hm⟩ := rs.ls a i w
      exact ⟨o, kp a o w ho hm.nt, hm⟩
    · exact r1.ls a j e
  · split at e
    · rename_i w; exact z.2 w
    · exact r1.dz a j e z.1
  · rcases x.zn a z.1 with w | w | ⟨_, _, w⟩
    · exact w.elim .inl fun w => absurd w z.2
    · exact .inr (.inl w)
    · simp at w
  · split at e
    · rename_i w; cases e; exact .inl w
    · exact (on' a j e).2
  · refine x.keep a o e (hh.imp (fun z => ?_) id)
    show (if own a = some i then none else own a) = none
    rw [z]; simp
theorem W_mBor {τ : Nat → OT} {i : Nat} {m : M D} {ρ : Sl} {Q : D → Sl → Prop} : W (mBor τ i m) ρ Q ↔ W m ρ fun d ρ' => (d.pure = true ∧ borL τ i 0 ρ ρ') ∧ Q d ρ' := by
  constructor
  · rintro ⟨d, ρ', e, q⟩
    unfold mBor at e
    split at e
    · split at e
      · rename_i e1 hc; cases e; exact ⟨_, _, e1, hc, q⟩
      · cases e
    · cases e
    · cases e
  · rintro ⟨d, ρ', e, hc, q⟩
    exact ⟨d, ρ', by unfold mBor; simp only [e]; rw [if_pos hc], q⟩
def D.key : D → Option Key
  | .int i => some (Sum.inl i)
  | .str x => some (Sum.inr x)
  | _ => none
section
variable [Tb] {X : Cx} {τ : Nat → OT} {q q1 q2 : Bool} {a b : Expr} {ma mb : M D} {pos : Pos}
end
section
variable {prog : Program} {w : World} {A : Around} {E : Value → Shared → Prop} {s : Shared}
theorem pick_rev (ys : Array Value) : ((List.range ys.size).filterMap fun (m : Nat) => ys[(((ys.size : Int) - 1) + (m : Int) * (-1)).toNat]?).toArray = ys.toList.reverse.toArray := by
  have e : (fun (m : Nat) => ys[(((ys.size : Int) - 1) + (m : Int) * (-1)).toNat]?) = (ys[·]?) ∘ fun (m : Nat) => (((ys.size : Int) - 1) + (m : Int) * (-1)).toNat := rfl
  rw [e, ← List.filterMap_map]
  have e2 : (List.range ys.size).map (fun (m : Nat) => (((ys.size : Int) - 1) + (m : Int) * (-1)).toNat) = (List.range ys.size).map fun k => ys.size - 1 - k := List.map_congr_left fun k hk => by
    have := List.mem_range.mp hk
    omega
  rw [e2, PySem.W.krv_range, List.filterMap_reverse, PySem.W.krv_all]
theorem applied_rev {sl : Addr} {v1 v2 v3 : Value} {n : Nat} {Q : Int × Int × Nat → Shared → Prop} (hs : s.heap.IsSliceOf sl v1 v2 v3) (p1 : IsPart v1 none) (p2 : IsPart v2 none) (p3 : IsPart v3 (some (-1)))
    (h : Q ((n : Int) - 1, -1, n) s) : wpAny (model prog w) A (Builtin.Slice.sliceApplied (.ref sl) (pure (n : Int))) Q E s := by
  obtain ⟨ob, h1, h2, h3⟩ := id hs
  unfold Builtin.Slice.sliceApplied Builtin.Slice.sliceFields
  refine wpAny_bind (wpAny_bind (wpAny_field h1 h3 (x := v1) rfl (wpAny_bind (wpAny_field h1 h3 (x := v2) rfl (wpAny_bind (wpAny_field h1 h3 (x := v3) rfl (wpAny_pure ?_)))))))
  refine wpAny_bind (HT.slicePart_ p3 ?_)
  show wpAny _ _ (if ((-1 : Int) == 0) = true then _ else _) _ _ s
  rw [if_neg (by decide)]
  refine wpAny_bind (HT.slicePart_ p1 (wpAny_bind (HT.slicePart_ p2 (wpAny_bind (wpAny_pure ?_)))))
  show wpAny _ _ (match Builtin.Slice.sliceAdjust none none (-1) (n : Int) with | (lo, hi) => pure (lo, (-1 : Int), Builtin.Slice.slicePlaces lo hi (-1))) _ _ s
  have e1 : Builtin.Slice.sliceAdjust none none (-1) (n : Int) = ((n : Int) - 1, -1) := by simp [Builtin.Slice.sliceAdjust]
  have e2 : Builtin.Slice.slicePlaces ((n : Int) - 1) (-1) (-1) = n := by
    simp only [Builtin.Slice.slicePlaces]
    rw [if_neg (by decide)]
    by_cases h0 : (n : Int) - 1 > -1
    · rw [if_pos h0, show (- -1 : Int) = 1 by decide, Int.ediv_one]; omega
    · rw [if_neg h0]; omega
  rw [e1]
  show wpAny _ _ (pure ((n : Int) - 1, (-1 : Int), Builtin.Slice.slicePlaces ((n : Int) - 1) (-1) (-1))) _ _ s
  rw [e2]
  exact wpAny_pure h
theorem item_tuple_rev {t sl : Addr} {ys : Array Value} {v1 v2 v3 : Value} {Q : Value → Shared → Prop} (ht : PyProof.Rows.IsTup s.heap t ys) (hs : s.heap.IsSliceOf sl v1 v2 v3) (p1 : IsPart v1 none) (p2 : IsPart v2 none) (p3 : IsPart v3 (some (-1)))
    (h : Q (.ref s.heap.objs.size) { s with heap := s.heap.push { cls := .type "tuple", data := .seq ys.toList.reverse.toArray } }) (hz : ys.size ≤ sizeLine) : wpAny (model prog w) A (getItem (.ref t) (.ref sl)) Q E s := by
  have ho : sizeOk (.seq ys.toList.reverse.toArray) := by
    show ys.toList.reverse.toArray.size ≤ sizeLine
    simpa using hz
  obtain ⟨ob, h1, h2, h3⟩ := id hs
  have ts : s.TypeIs (.ref sl) "slice" := ⟨ob, h1, h2⟩
  unfold getItem
  try with_reducible refine wpAny_holding ?_
  first | refine wpAny_bind (wpAny_pure ?_) | skip
  refine wpAny_bind (wpAny_sequenceKey ht.typeIs (by decide) ?_)
  refine wpAny_bind (wpAny_callSpecial?_slot (name := Str.ofString "__getitem__") ht.typeIs PyProof.Rows.slot_tuple_getitem (wpAny_call_entry PyProof.Rows.slot_tuple_getitem ht.typeIs PyProof.Rows.entry_tuple_getitem ?_ (PyProof.Rows.args_tuple_getitem _ _)))
  show wpAny _ _ (Builtin.Tuple.tupleItemsOf (.ref t) >>= _) _ _ s
  refine wpAny_bind (PyProof.Rows.tupleItemsOf_ ht (wpAny_bind (wpAny_typeOf ts ?_)))
  rw [if_pos (by decide)]
  refine wpAny_bind (applied_rev hs p1 p2 p3 ?_)
  show wpAny _ _ (if (((ys.size : Int) - 1) == 0 && (-1 : Int) == 1 && ys.size == ys.size) = true then _ else _) _ _ s
  rw [if_neg (by simp), pick_rev]
  first
    | exact wpAny_bind (m := Builtin.Tuple.tupleExact _) (wpAny_newObj_type (wpAny_pure ⟨_, rfl, wpAny_pure h⟩) ho)
    | exact wpAny_bind (m := Builtin.Tuple.tupleExact _) (wpAny_newObj_type (wpAny_bind (wpAny_pure (wpAny_pure ⟨_, rfl, wpAny_pure h⟩))) ho)
    | exact wpAny_bind (wpAny_bind (m := Builtin.Tuple.tupleExact _) (wpAny_newObj_type (wpAny_pure (wpAny_pure ⟨_, rfl, wpAny_pure h⟩)) ho))
    | exact wpAny_bind (wpAny_bind (m := Builtin.Tuple.tupleExact _) (wpAny_newObj_type (wpAny_pure ⟨_, rfl, wpAny_pure h⟩) ho))
end
section
variable [Tb] {X : Cx}
def tRevT [Tb] (K : PySem.W.Frag) (te : TE) : TE := fun σ H Q => te σ H fun x H1 => ∃ a xs, x = .ref a ∧ SqT K H1 a xs ∧ ∀ p, H1 p = none → Q (.ref p) (upd H1 p (.tup xs.reverse))
theorem pe_revT {e : Expr} {te : TE} {k : Nat} {p1 p2 p3 pos : Pos} (he : PE X e te) : PE X (.Subscript e (.Slice none none (some (.UnaryOp .USub (.Constant (.int 1) k p1) p2)) p3) pos) (tRevT X.K te) := by
  refine ⟨fun pins s σ H Q I h => ?_⟩
  refine PyProof.Rows.Subscript_ (thn (he.run pins s σ H _ I h) fun v s1 ⟨x, H1, I1, r1, a, xs, ex, hx, qq⟩ => ?_)
  subst ex
  cases r1
  have hst : PO X (some (.UnaryOp .USub (.Constant (.int 1) k p1) p2)) (tPart (tUn (rU fun i => .int (-i)) (tC (.int 1)))) := po_some (pe_un un_neg pe_int)
  refine wpAny_Slice (thn (po_none.run pins s1 σ H1 (fun o H2 => o = none ∧ H2 = H1) I1 ⟨rfl, rfl⟩) fun vl s2 ⟨l, H2, I2, pl, el, e2⟩ => ?_)
  subst el e2
  refine thn (po_none.run pins s2 σ H2 (fun o H3 => o = none ∧ H3 = H2) I2 ⟨rfl, rfl⟩) fun vu s3 ⟨u, H3, I3, pu, eu, e3⟩ => ?_
  subst eu e3
  refine thn (hst.run pins s3 σ H3 (fun o H4 => o = some (-1) ∧ H4 = H3) I3 ⟨1, rfl, -1, rfl, rfl, rfl⟩) fun vs s4 ⟨o, H4, I4, ps, eo, e4⟩ => ?_
  subst eo e4
  have J : Inv X pins σ H4 { s4 with heap := s4.heap.push { cls := .type "slice", data := .fields #[vl, vu, vs] } } := I4.kept (t' := s4.toks) fun b ob q => Heap.get?_push_of_some _ q
  obtain ⟨its, r, ht, hz⟩ := J.tuple hx
  have hlen := r.length
  show wpAny (model X.prog X.w) X.A (subscriptTail e (.Slice none none (some (.UnaryOp .USub (.Constant (.int 1) k p1) p2)) p3) (.ref a) (.ref s4.heap.objs.size)) (EP X pins σ Q) X.xe { s4 with heap := s4.heap.push { cls := .type "slice", data := .fields #[vl, vu, vs] } }
  refine tail_any (ops := [.ref a, .ref s4.heap.objs.size]) ht.typeIs (PyProof.Rows.slot_tuple_getitem.lookup) ?_ (by with_unfolding_all rfl)
  refine item_tuple_rev ht (Heap.IsSliceOf.new _ vl vu vs) pl pu ps ?_ (by rw [List.size_toArray]; omega)
  refine ⟨.ref _, _, J.laid (t' := s4.toks) (o := .tup xs.reverse) (fun b ob q => Heap.get?_push_of_some _ q) (Nat.le_refl _) ?_, rfl, qq _ (J.hok.fresh (Nat.le_refl _))⟩
  exact ⟨by rw [List.length_reverse]; exact hz, _, r.reverse, PyProof.Rows.IsTup.new _ _⟩
def bRevT : D → Option D
  | .tup l => some (.tup l.reverse)
  | _ => none
variable {τ : Nat → OT} {q : Bool} {md : Md} {e : Expr} {ma : M D} {pos p2 : Pos}
theorem e_revT {k1 : Nat} {p1 p3 : Pos} (he : PE X e (tE X.K τ q md ma)) (hm : Hand md := by trivial) : PE X (.Subscript e (.Slice none none (some (.UnaryOp .USub (.Constant (.int 1) k1 p1) p2)) p3) pos) (tE X.K τ q .sh (m1 bRevT ma)) := (pe_revT he).mono fun σ H Q ⟨Z, own, ρ, d, ρ', rs, e, k⟩ => by
  obtain ⟨x, ρ1, e1, f1⟩ := bind_ok e
  obtain ⟨f2, rfl⟩ := ofO_ok f1
  unfold bRevT at f2
  split at f2
  · rename_i l
    cases f2
    refine ⟨Z, own, ρ, _, ρ', rs, e1, fun v Z1 own1 H1 S1 rs1 rm1 _ x1 => ?_⟩
    obtain ⟨a, xs, rfl, s1, l1⟩ := (rm1.pk0 hm).tup
    refine ⟨a, xs, rfl, s1, fun p hp => ?_⟩
    have g : Grow H1 (upd H1 p (.tup xs.reverse)) := Grow.new hp
    exact fin_sh rs1 x1 g (RF.tup (g.shL l1.reverse) (SqT.of upd_same)) NewS.none k
  · cases f2
end
end CL
namespace CL
open PySem PySem.Spec L2 PyProof.Rows
open AutoSeq1 (wpAny_loadPart')
set_option autoImplicit false
theorem enum_newT (t : Addr) (ys : Array Value) :
    Meets (Builtin.«enumerate.__new__» ⟨[.type "enumerate", .ref t], []⟩) (fun _ R s => s.heap.IsTuple t ys ∧
      R (.ok (.ret (.ref (s.heap.push { cls := .type "tuple_iterator", data := .fields #[.ref t, .int 0 0] }).objs.size)))
        { s with heap := (s.heap.push { cls := .type "tuple_iterator", data := .fields #[.ref t, .int 0 0] }).push { cls := .type "enumerate", data := .fields #[.none, .bool false, .ref s.heap.objs.size, rawInt 0, .none, .none] } }) :=
  .of_wp fun prog w A R s h => by
    obtain ⟨hp, g, d, tk, os⟩ := s; obtain ⟨ht, h⟩ := h
    have hsub := sub_enumerate
    have q1 : ∀ {A' : Around} {E : Value → Shared → Prop} {Q : Value → Shared → Prop}, Q (.ref hp.objs.size) ⟨hp.push { cls := .type "tuple_iterator", data := .fields #[.ref t, .int 0 0] }, g, d, tk, os⟩ → wpAny (model prog w) A' (pyIter (.ref t)) Q E ⟨hp, g, d, tk, os⟩ :=
      fun q => wpAny_pyIter_tuple ht q
    wp_walk using q1
    refine wpAny_stack_any fun st => wpAny_pure ?_
    split
    · rename_i c _ _ _ _ _
      cases (c == Value.type "enumerate")
      · wp_walk using q1
        exact ⟨_, rfl, h⟩
      · wp_walk using q1
        exact ⟨_, rfl, h⟩
    · wp_walk using q1
      exact ⟨_, rfl, h⟩
theorem enum_tuple {prog : Program} {w : World} {A : Around} {E : Value → Shared → Prop} {s : Shared} {t : Addr} {ys : Array Value} {Q : Value → Shared → Prop} (hT : s.heap.IsTuple t ys)
    (h : ∀ h', IsEnum h' (s.heap.objs.size + 1) s.heap.objs.size 0 .none → h'.IsTupleIter s.heap.objs.size t 0 → h'.objs.size = s.heap.objs.size + 2 →
      (∀ b o, s.heap.get? b = some o → h'.get? b = some o) → Q (.ref (s.heap.objs.size + 1)) { s with heap := h' }) :
    wpAny (model prog w) A (call (.type "enumerate") [.ref t]) Q E s := by
  refine callType_new F.called_enumerate (by decide) (F.typeCall_enumerate_1 _) (F.newCall_enumerate_1 _) (fun ob => F.args_object_init_2 ob _) F.entry_enumerate_new (enum_newT t ys) ⟨hT, ?_⟩
  have hz : (s.heap.push { cls := .type "tuple_iterator", data := .fields #[.ref t, .int 0 0] }).objs.size = s.heap.objs.size + 1 := Heap.size_push ..
  show _ ∧ _
  rw [hz]
  have he : IsEnum ((s.heap.push { cls := .type "tuple_iterator", data := .fields #[.ref t, .int 0 0] }).push { cls := .type "enumerate", data := .fields #[.none, .bool false, .ref s.heap.objs.size, rawInt 0, .none, .none] }) (s.heap.objs.size + 1) s.heap.objs.size 0 .none := by
    have := Heap.get?_push_size (s.heap.push { cls := .type "tuple_iterator", data := .fields #[.ref t, .int 0 0] }) (o := { cls := .type "enumerate", data := .fields #[.none, .bool false, .ref s.heap.objs.size, rawInt 0, .none, .none] }) rfl
    rw [hz] at this; exact this
  refine ⟨⟨_, he, rfl⟩, h _ he ⟨_, Heap.get?_push_of_some _ (Heap.get?_push_size _ rfl), rfl, rfl⟩ (by rw [Heap.size_push, hz]) fun b o x => Heap.get?_push_of_some _ (Heap.get?_push_of_some _ x)⟩
/-- the tuple at a, each item in a new pair -/
def IteT [Tb] (K : PySem.W.Frag) (a : Addr) : It :=
  ⟨fun i H => ∃ (xs : List V) (x : V), SqT K H a xs ∧ xs[i]? = some x, fun i H v H' => ∃ T x, v = .ref T ∧ H T = none ∧ H' = upd H T (.tup [.int (i : Nat), x]) ∧ ∀ xs, SqT K H a xs → xs[i]? = some x, fun i H => ∃ xs : List V, SqT K H a xs ∧ xs.length = i⟩
theorem turn_enumT [Tb] {P : Program} {w : World} {K : PySem.W.Frag} {elts : List Expr} {kk : Nat} {tpos : Pos} (a e it : Addr) (ha : a ≠ e ∧ a ≠ it) :
    Turn P w K (.Tuple elts kk tpos) (IteT K a) [e, it] e (fun i h => (∃ old, IsEnum h e it ((i : Nat) : Int) old) ∧ h.IsTupleIter it a i ∧ e ≠ it) where
  mem := by simp
  obj := fun i h st b hb => by
    obtain ⟨⟨old, he⟩, ⟨o, ho, hc, hd⟩, _⟩ := st
    rcases (show b = e ∨ b = it by simpa using hb) with z | z
    · rw [z]; exact ⟨_, he, fun v q => nomatch q⟩
    · rw [z]; exact ⟨o, ho, fun v q => by rw [hd] at q; cases q⟩
  keep := fun i h h' st k => let ⟨⟨old, he⟩, hi, hne⟩ := st; ⟨⟨old, k e (by simp) _ he⟩, hi.at fun o q => k it (by simp) o q, hne⟩
  item := by
    intro X hP hw hK hc i pins s σ H E I hf st hg
    subst hP hw hK
    obtain ⟨⟨old, he⟩, hit, hne⟩ := st
    obtain ⟨xs, x, hq, hx⟩ := hg
    obtain ⟨its, rv, p, hz⟩ := I.tuple hq
    obtain ⟨u, hu, ru⟩ := rv.get hx
    have hel : e < s.heap.objs.size := Heap.lt_size he
    have hil : it < s.heap.objs.size := by obtain ⟨_, q, _⟩ := hit; exact Heap.lt_size q
    have hh : X.A.in1.handled = none := I.ok.hd hc
    have hlt : i < its.toArray.size := by
      have := (List.getElem?_eq_some_iff.mp hu).1
      simpa using this
    refine wpAny_pyNext_enum_itemC (Draws.tuple hh it a ha.2 its.toArray) he ⟨hit, p⟩ hlt hne (by simp [hne, Ne.symm ha.1]) fun x' h' tk hP ho hst hT hsz hk => ?_
    have ex : x' = u := by
      have hP : its.toArray[i]? = some x' := hP
      rw [List.getElem?_toArray, hu] at hP
      exact (Option.some.inj hP).symm
    subst ex
    refine ⟨_, rfl, wpAny_letOwnedTupleGo_enum (s := { s with heap := h', toks := tk + 1 }) ho fun h'' he' sb => ?_⟩
    have hT2 : h''.get? s.heap.objs.size = some { cls := .type "tuple", data := .seq #[.int i tk, x'] } := (sb.2 _ (Nat.ne_of_gt hel)).trans hT
    have new : ObjOk X.prog X.w (upd H s.heap.objs.size (.tup [.int (i : Nat), x])) h'' s.heap.objs.size (.tup [.int (i : Nat), x]) := ⟨by show 2 ≤ sizeLine; decide, [.int i tk, x'], .cons ⟨_, rfl⟩ (.cons ru .nil), ⟨_, hT2, rfl, _, rfl⟩⟩
    have J : Inv X pins σ (upd H s.heap.objs.size (.tup [.int (i : Nat), x])) { s with heap := h'', toks := tk + 1 } :=
      I.turnedNew (ch := [e, it]) (fun b ob hb q => (sb.2 b (fun z => hb (by simp [z]))).trans (hk b ob (fun z => hb (by simp [z])) (fun z => hb (by simp [z])) q)) hf (Nat.le_refl _) new
    refine ⟨.ref s.heap.objs.size, _, J, rfl, ⟨_, x, rfl, I.hok.fresh (Nat.le_refl _), rfl, fun ys hy => by rw [I.tuple_inj hy hq]; exact hx⟩, ⟨⟨x', ?_⟩, hst.1.at fun o q => (sb.2 it (Ne.symm hne)).trans q, hne⟩, fun b hb => ?_⟩
    · rw [show ((i + 1 : Nat) : Int) = (i : Int) + 1 by omega]; exact he'
    · have hb' : b < s.heap.objs.size := by
        rcases (show b = e ∨ b = it by simpa using hb) with z | z
        · rw [z]; exact hel
        · rw [z]; exact hil
      rw [upd_ne (Nat.ne_of_lt hb')]
      exact (hf b hb).1
  done := by
    intro X hP hw hK hc i pins s σ H E I hf st hg
    subst hP hw hK
    obtain ⟨⟨old, he⟩, hit, hne⟩ := st
    obtain ⟨xs, hq, hx⟩ := hg
    obtain ⟨its, rv, p, hz⟩ := I.tuple hq
    obtain ⟨f0, f1, f2, f3, f4, f5⟩ := hf it (by simp)
    have hl := rv.length
    have hh : X.A.in1.handled = none := I.ok.hd hc
    have ei : its.toArray.size = i := by simp; omega
    refine wpAny_pyNext_enum_endD (Draws.tuple hh it a ha.2 its.toArray) he ⟨by rw [ei]; exact hit, p⟩ fun h' eb => ⟨rfl, I.turned (t' := s.toks) (fun b o hb q => eb b o hb q) f0 f1 f3 f4 f5⟩
  self := fun A i s Q E st h => let ⟨⟨_, he⟩, _⟩ := st; wpAny_pyIter_enum he h
def iEnumA [Tb] (K : PySem.W.Frag) (ta : TA) : TI := fun σ H R => ta σ H fun vs H1 => ∃ a xs, vs = [.ref a] ∧ ((SqL K H1 a xs ∧ R (Ite K a) H1) ∨ (SqT K H1 a xs ∧ R (IteT K a) H1))
theorem pi_enumA [Tb] {X : Cx} {e : Expr} {ta : TA} {p pos tpos : Pos} {elts : List Expr} {kk : Nat} (hg : Gl X "enumerate") (hm : X.mg "enumerate" = none) (ha : PA X [e] ta) (hs : starEach [e] X.env = [(false, eval e X.env)] := by rfl) :
    PI X (.Tuple elts kk tpos) (.Call (.Name "enumerate" p) [e] [] pos) (iEnumA X.K ta) := by
  refine ⟨fun pins s σ H R I h => ?_⟩
  refine Call_ (ld_blt I hg hm boot_enumerate (PyProof.Rows.callWith_type1 (thn (ha.run pos pins s σ H _ I h) fun us s1 ⟨vs, H1, J, r1, a, xs, ex, q1⟩ => ?_) hs rfl))
  subst ex
  cases r1 with
  | cons r rr =>
    cases rr
    cases r
    have fin : ∀ b ∈ [s1.heap.objs.size + 1, s1.heap.objs.size], s1.heap.objs.size ≤ b := fun b hb => by
      rcases (show b = s1.heap.objs.size + 1 ∨ b = s1.heap.objs.size by simpa using hb) with z | z
      · rw [z]; exact Nat.le_add_right _ _
      · rw [z]; exact Nat.le_refl _
    rcases q1 with ⟨hq, q⟩ | ⟨hq, q⟩
    · obtain ⟨its, rv, p', hz⟩ := J.list hq
      refine call_enumerate_list p'.isList fun h' he hit hsz hk => wpAny_pyIter_enum he ?_
      have J2 : Inv X pins σ H1 { s1 with heap := h' } := J.kept (t' := s1.toks) hk
      exact ⟨s1.heap.objs.size + 1, [s1.heap.objs.size + 1, s1.heap.objs.size], _, _, H1, rfl, J2, turn_enum a (s1.heap.objs.size + 1) s1.heap.objs.size, ⟨⟨.none, he⟩, hit, Nat.succ_ne_self _⟩, fun b hb => J.fpOk (fin b hb) (J.hok.fresh (fin b hb)), q⟩
    · obtain ⟨its, rv, p', hz⟩ := J.tuple hq
      have la : a < s1.heap.objs.size := p'.lt
      refine enum_tuple p' fun h' he hit hsz hk => wpAny_pyIter_enum he ?_
      have J2 : Inv X pins σ H1 { s1 with heap := h' } := J.kept (t' := s1.toks) hk
      exact ⟨s1.heap.objs.size + 1, [s1.heap.objs.size + 1, s1.heap.objs.size], _, _, H1, rfl, J2, turn_enumT a (s1.heap.objs.size + 1) s1.heap.objs.size ⟨Nat.ne_of_lt (Nat.lt_succ_of_lt la), Nat.ne_of_lt la⟩, ⟨⟨.none, he⟩, hit, Nat.succ_ne_self _⟩, fun b hb => J.fpOk (fin b hb) (J.hok.fresh (fin b hb)), q⟩
end CL
namespace CL
open PySem PySem.Spec L2
set_option autoImplicit false
def enumFrom : Nat → List D → List D
  | _, [] => []
  | k, d :: ds => .tup [.int (k : Nat), d] :: enumFrom (k + 1) ds
theorem enumFrom_len : ∀ (k : Nat) (l : List D), (enumFrom k l).length = l.length
  | _, [] => rfl
  | k, d :: ds => by simp [enumFrom, enumFrom_len (k + 1) ds]
theorem enumFrom_get : ∀ {k i : Nat} {l : List D} {d : D}, (enumFrom k l)[i]? = some d → ∃ e, l[i]? = some e ∧ d = .tup [.int ((k + i : Nat) : Int), e]
  | _, _, [], _, h => by simp [enumFrom] at h
  | k, 0, e :: l, d, h => by simp [enumFrom] at h; exact ⟨e, by simp, by simp [← h]⟩
  | k, i + 1, e :: l, d, h => by
    obtain ⟨e', h1, h2⟩ := enumFrom_get (k := k + 1) (i := i) (by simpa [enumFrom] using h)
    exact ⟨e', by simpa using h1, by rw [h2]; congr 3; omega⟩
def enumL : List D → Option (List D)
  | [.tup l] => some (enumFrom 0 l)
  | [.lst l] => some (enumFrom 0 l)
  | _ => none
def zipL : List D → List D → List D
  | a :: as, b :: bs => .tup [a, b] :: zipL as bs
  | _, _ => []
theorem zipL_len : ∀ (a b : List D), (zipL a b).length = min a.length b.length
  | [], b => by simp [zipL]
  | a :: as, [] => by simp [zipL]
  | a :: as, b :: bs => by simp [zipL, zipL_len as bs]
theorem zipL_get : ∀ {i : Nat} {a b : List D} {d : D}, (zipL a b)[i]? = some d → ∃ x y, a[i]? = some x ∧ b[i]? = some y ∧ d = .tup [x, y]
  | _, [], _, _, h => by simp [zipL] at h
  | _, _ :: _, [], _, h => by simp [zipL] at h
  | 0, a :: as, b :: bs, d, h => by simp [zipL] at h; exact ⟨a, b, by simp, by simp, h.symm⟩
  | i + 1, a :: as, b :: bs, d, h => by
    obtain ⟨x, y, h1, h2, h3⟩ := zipL_get (i := i) (by simpa [zipL] using h)
    exact ⟨x, y, by simpa using h1, by simpa using h2, h3⟩
def zip2 : List D → Option (List D)
  | [.tup l, .tup m] => some (zipL l m)
  | [.lst l, .lst m] => some (zipL l m)
  | _ => none
section
variable [Tb] {X : Cx} {τ : Nat → OT} {q : Bool} {a b : Expr} {ms : M (List D)} {pos p tpos : Pos} {elts : List Expr} {kk : Nat}
theorem shL1 [Tb] {K : PySem.W.Frag} {Z : Addr → Prop} {H : Hp} {d : D} {vs : List V} (h : RShL K Z H [d] vs) : ∃ v, vs = [v] ∧ RSh K Z H d v := by
  simp only [RShL] at h
  obtain ⟨v, ws, rfl, r, rfl⟩ := h
  exact ⟨v, rfl, r⟩
theorem shL2 [Tb] {K : PySem.W.Frag} {Z : Addr → Prop} {H : Hp} {d e : D} {vs : List V} (h : RShL K Z H [d, e] vs) : ∃ v w, vs = [v, w] ∧ RSh K Z H d v ∧ RSh K Z H e w := by
  simp only [RShL] at h
  obtain ⟨v, ws, rfl, r, w, us, rfl, r2, rfl⟩ := h
  exact ⟨v, w, rfl, r, r2⟩
theorem pairRel [Tb] {K : PySem.W.Frag} {Z : Addr → Prop} {H : Hp} {T : Addr} {d e : D} {v w : V} (hT : H T = none) (r1 : RSh K Z H d v) (r2 : RSh K Z H e w) : Grow H (upd H T (.tup [v, w])) ∧ RSh K Z (upd H T (.tup [v, w])) (.tup [d, e]) (.ref T) := by
  have g : Grow H (upd H T (.tup [v, w])) := Grow.new hT
  refine ⟨g, ?_⟩
  simp only [RSh, RShL]
  exact ⟨T, [v, w], rfl, SqT.of upd_same, v, [w], rfl, g.sh r1, w, [], rfl, g.sh r2, rfl⟩
theorem pi_know {tg e : Expr} {ti : TI} (h : PI X tg e ti) : PI X tg e (fun σ H R => ti σ H fun J H1 => (∀ a xs, SqT X.K H1 a xs ∨ SqL X.K H1 a xs → xs.length ≤ sizeLine) → R J H1) := ⟨fun pins s σ H R I hw =>
  thn (h.run pins s σ H _ I hw) fun v s1 h1 => thn h1 fun itv s2 ⟨it, fp, tn, J, H', h1, I2, h3, h4, h5, h6⟩ => ⟨it, fp, tn, J, H', h1, I2, h3, h4, h5, h6 fun a xs q => q.elim (fun q => by
    obtain ⟨_, _, _, z⟩ := I2.tuple q; exact z) fun q => by obtain ⟨_, _, _, z⟩ := I2.list q; exact z⟩⟩
theorem i_enum (ha : PA X [a] (tAs X.K τ q ms)) (hm : X.mg "enumerate" = none := by assumption) (hg : Gl X "enumerate" := by rfl) (hs : starEach [a] X.env = [(false, eval a X.env)] := by rfl) :
    PI X (.Tuple elts kk tpos) (.Call (.Name "enumerate" p) [a] [] pos) (tI X.K τ q (mItN enumL ms)) := (pi_know (pi_enumA hg hm ha hs)).mono fun σ H Rk ⟨Z, own, ρ, ds, ρ', rs, e, k⟩ => by
  obtain ⟨d, ρ1, e1, e⟩ := bind_ok e
  obtain ⟨e3, rfl⟩ := ofL_ok e
  refine ⟨Z, own, ρ, d, ρ', rs, e1, fun vs Z1 own1 H1 rs1 rl x1 => ?_⟩
  unfold enumL at e3
  split at e3
  · rename_i l
    cases e3
    obtain ⟨v, rfl, rv⟩ := shL1 rl
    simp only [RSh] at rv
    obtain ⟨t, xs, rfl, s, r⟩ := rv
    refine ⟨t, xs, rfl, .inr ⟨s, fun hsz => k _ Z1 own1 H1 rs1 ⟨fun Z2 H2 lt i hi => ?_, fun Z2 H2 lt i d hd x H3 y => ?_, fun Z2 H2 lt => ?_, ?_⟩ x1⟩⟩
    · rw [enumFrom_len, r.len] at hi
      exact ⟨xs, xs[i], NL.sqT lt.2.1 s, List.getElem?_eq_getElem hi⟩
    · obtain ⟨e', g1, rfl⟩ := enumFrom_get hd
      obtain ⟨T, z, rfl, hT, rfl, hz⟩ := y
      obtain ⟨w, g2, g3⟩ := r.get g1
      rw [hz xs (NL.sqT lt.2.1 s)] at g2; cases g2
      rw [Nat.zero_add]
      exact pairRel hT (by simp only [RSh]) (RSh.pres lt.1 lt.2.1 lt.2.2 e' _ g3)
    · exact ⟨xs, NL.sqT lt.2.1 s, by rw [enumFrom_len, r.len]⟩
    · rw [enumFrom_len, r.len]
      exact hsz t xs (.inl s)
  · rename_i l
    cases e3
    obtain ⟨v, rfl, rv⟩ := shL1 rl
    simp only [RSh] at rv
    obtain ⟨t, xs, rfl, z, s, r⟩ := rv
    refine ⟨t, xs, rfl, .inl ⟨SqL.of s, fun hsz => k _ Z1 own1 H1 rs1 ⟨fun Z2 H2 lt i hi => ?_, fun Z2 H2 lt i d hd x H3 y => ?_, fun Z2 H2 lt => ?_, ?_⟩ x1⟩⟩
    · rw [enumFrom_len, r.len] at hi
      exact ⟨xs, xs[i], SqL.of (lt.2.2 t _ z s True.intro), List.getElem?_eq_getElem hi⟩
    · obtain ⟨e', g1, rfl⟩ := enumFrom_get hd
      obtain ⟨T, y', rfl, hT, rfl, hz⟩ := y
      obtain ⟨w, g2, g3⟩ := r.get g1
      rw [hz xs (SqL.of (lt.2.2 t _ z s True.intro))] at g2; cases g2
      rw [Nat.zero_add]
      exact pairRel hT (by simp only [RSh]) (RSh.pres lt.1 lt.2.1 lt.2.2 e' _ g3)
    · exact ⟨xs, SqL.of (lt.2.2 t _ z s True.intro), by rw [enumFrom_len, r.len]; exact Nat.le_refl _⟩
    · rw [enumFrom_len, r.len]
      exact hsz t xs (.inr (SqL.of s))
  · cases e3
theorem i_zip2 (ha : PA X [a, b] (tAs X.K τ q ms)) (hm : X.mg "zip" = none := by assumption) (hg : Gl X "zip" := by rfl) (hs : starEach [a, b] X.env = (false, eval a X.env) :: starEach [b] X.env := by rfl) (hpl : (backTo pos (starEach [b] X.env)).any (·.1) = false := by rfl) :
    PI X (.Tuple elts kk tpos) (.Call (.Name "zip" p) [a, b] [] pos) (tI X.K τ q (mItN zip2 ms)) := (pi_know (RZ.pi_zipA hg hm ha hs hpl)).mono fun σ H Rk ⟨Z, own, ρ, ds, ρ', rs, e, k⟩ => by
  obtain ⟨d, ρ1, e1, e⟩ := bind_ok e
  obtain ⟨e3, rfl⟩ := ofL_ok e
  refine ⟨Z, own, ρ, d, ρ', rs, e1, fun vs Z1 own1 H1 rs1 rl x1 => ?_⟩
  unfold zip2 at e3
  split at e3
  · rename_i l m
    cases e3
    obtain ⟨v, w, rfl, rv, rw'⟩ := shL2 rl
    simp only [RSh] at rv rw'
    obtain ⟨t, xs, rfl, s, r⟩ := rv
    obtain ⟨u, ys, rfl, s2, r2⟩ := rw'
    refine ⟨t, u, xs, ys, rfl, .inr ⟨s, s2, fun hsz => k _ Z1 own1 H1 rs1 ⟨fun Z2 H2 lt i hi => ?_, fun Z2 H2 lt i d hd x H3 y => ?_, fun Z2 H2 lt => ?_, ?_⟩ x1⟩⟩
    · rw [zipL_len, r.len, r2.len] at hi
      exact ⟨xs, ys, xs[i], ys[i], NL.sqT lt.2.1 s, NL.sqT lt.2.1 s2, List.getElem?_eq_getElem (by omega), List.getElem?_eq_getElem (by omega)⟩
    · obtain ⟨x', y', g1, g2, rfl⟩ := zipL_get hd
      obtain ⟨T, z1, z2, rfl, hT, rfl, hz1, hz2⟩ := y
      obtain ⟨w1, k1, k2⟩ := r.get g1
      obtain ⟨w2, k3, k4⟩ := r2.get g2
      rw [hz1 xs (NL.sqT lt.2.1 s)] at k1; cases k1
      rw [hz2 ys (NL.sqT lt.2.1 s2)] at k3; cases k3
      exact pairRel hT (RSh.pres lt.1 lt.2.1 lt.2.2 _ _ k2) (RSh.pres lt.1 lt.2.1 lt.2.2 _ _ k4)
    · exact ⟨xs, ys, NL.sqT lt.2.1 s, NL.sqT lt.2.1 s2, by rw [zipL_len, r.len, r2.len]; omega⟩
    · have := hsz t xs (.inl s)
      rw [zipL_len, r.len]; omega
  · rename_i l m
    cases e3
    obtain ⟨v, w, rfl, rv, rw'⟩ := shL2 rl
    simp only [RSh] at rv rw'
    obtain ⟨t, xs, rfl, z1, s, r⟩ := rv
    obtain ⟨u, ys, rfl, z2, s2, r2⟩ := rw'
    refine ⟨t, u, xs, ys, rfl, .inl ⟨SqL.of s, SqL.of s2, fun hsz => k _ Z1 own1 H1 rs1 ⟨fun Z2 H2 lt i hi => ?_, fun Z2 H2 lt i d hd x H3 y => ?_, fun Z2 H2 lt => ?_, ?_⟩ x1⟩⟩
    · rw [zipL_len, r.len, r2.len] at hi
      exact ⟨xs, ys, xs[i], ys[i], SqL.of (lt.2.2 t _ z1 s True.intro), SqL.of (lt.2.2 u _ z2 s2 True.intro), List.getElem?_eq_getElem (by omega), List.getElem?_eq_getElem (by omega)⟩
    · obtain ⟨x', y', g1, g2, rfl⟩ := zipL_get hd
      obtain ⟨T, y1, y2, rfl, hT, rfl, hz1, hz2⟩ := y
      obtain ⟨w1, k1, k2⟩ := r.get g1
      obtain ⟨w2, k3, k4⟩ := r2.get g2
      rw [hz1 xs (SqL.of (lt.2.2 t _ z1 s True.intro))] at k1; cases k1
      rw [hz2 ys (SqL.of (lt.2.2 u _ z2 s2 True.intro))] at k3; cases k3
      exact pairRel hT (RSh.pres lt.1 lt.2.1 lt.2.2 _ _ k2) (RSh.pres lt.1 lt.2.1 lt.2.2 _ _ k4)
    · exact ⟨xs, ys, SqL.of (lt.2.2 t _ z1 s True.intro), SqL.of (lt.2.2 u _ z2 s2 True.intro), by rw [zipL_len, r.len, r2.len]; omega⟩
    · have := hsz t xs (.inr (SqL.of s))
      rw [zipL_len, r.len]; omega
  · cases e3
end
def maxL : List Int → Option Int
  | [] => none
  | a :: l => some (l.foldl max a)
theorem foldl_max : ∀ (l : List Int) (a : Int), (l.foldl max a = a ∨ l.foldl max a ∈ l) ∧ a ≤ l.foldl max a ∧ ∀ y ∈ l, y ≤ l.foldl max a
  | [], a => by simp
  | b :: l, a => by
    obtain ⟨h1, h2, h3⟩ := foldl_max l (max a b)
    simp only [List.foldl_cons]
    refine ⟨?_, by omega, fun y hy => ?_⟩
    · rcases h1 with h | h
      · rw [h]
        rcases Int.le_total a b with z | z
        · rw [Int.max_eq_right z]; simp
        · rw [Int.max_eq_left z]; simp
      · right; simp [h]
    · rcases List.mem_cons.mp hy with rfl | hy
      · omega
      · exact h3 y hy
theorem maxL_is {l : List Int} {m n : Int} (h : maxL l = some m) (h1 : n ∈ l) (h2 : ∀ y ∈ l, y ≤ n) : n = m := by
  cases l with
  | nil => simp at h1
  | cons a l =>
    cases h
    obtain ⟨g1, g2, g3⟩ := foldl_max l a
    have q1 : l.foldl max a ≤ n := by
      rcases g1 with g | g
      · rw [g]; exact h2 a (by simp)
      · exact h2 _ (by simp [g])
    have q2 : n ≤ l.foldl max a := by
      rcases List.mem_cons.mp h1 with rfl | z
      · exact g2
      · exact g3 n z
    omega
def bMax1 : List D → Option D
  | [.lst l] => (intsOf l).bind fun ns => (maxL ns).map .int
  | _ => none
section
variable [Tb] {X : Cx}
theorem c_max1 (hr : X.calm = true) : CallR X (.builtin "max") (rFn X.K bMax1) := by
  intro pins s σ H xs us Q I r h
  obtain ⟨Z, ds, d, pl, e, k⟩ := h
  unfold bMax1 at e
  split at e
  · rename_i l
    obtain ⟨ns, hn, e⟩ := Option.bind_eq_some_iff.mp e
    obtain ⟨m, hm, rfl⟩ := Option.map_eq_some_iff.mp e
    obtain ⟨v, rfl, p⟩ := pl.one
    obtain ⟨a, ys, rfl, s1, l1⟩ := p.lst
    rw [ints_of hn l1] at s1
    refine cr_max hr pins s σ H _ us Q I r ⟨a, ns, rfl, SqL.of s1, ?_, fun m' h1 h2 => ?_⟩
    · cases ns with
      | nil => cases hm
      | cons _ _ => simp
    · rw [maxL_is hm h1 h2]; exact fin0 (by simp only [RSh]) k
  · cases e
end
def sPar3 (i j l : Nat) (es : M (List D)) : MS := bind es fun vs => fun ρ => match vs with | [u, v, w] => .ok (.nx, ((ρ.set i (some u)).set j (some v)).set l (some w)) | _ => .bad
section
variable [Tb] {X : Cx} {F : Fr} {q : Bool} {a b c : Expr} {ms : M (List D)} {pos : Pos}
theorem s_par3 (i j l : Nat) {x y z : Str} {px py pz pt pt2 : Pos} {kt k2 : Nat} (hN : X.N.Nodup) (ha : PA X [a, b, c] (tAs X.K F.τ q ms)) (hti : F.τ i = .sh := by rfl) (htj : F.τ j = .sh := by rfl) (htl : F.τ l = .sh := by rfl) (hfi : F.fx i = false := by rfl) (hfj : F.fx j = false := by rfl) (hfl : F.fx l = false := by rfl)
    (hi : X.N[i]? = some x := by rfl) (hj : X.N[j]? = some y := by rfl) (hl : X.N[l]? = some z := by rfl) (hij : i ≠ j := by decide) (hil : i ≠ l := by decide) (hjl : j ≠ l := by decide)
    (hx : X.env.scope.names.lookup x = some .local := by rfl) (hy : X.env.scope.names.lookup y = some .local := by rfl) (hz : X.env.scope.names.lookup z = some .local := by rfl) (hc : X.calm = true := by rfl)
    (hw : swappedStores [.Tuple [.Name x px, .Name y py, .Name z pz] kt pt] (.Tuple [a, b, c] k2 pt2) X.env = pure (some [x, y, z]) := by rfl)
    (hs : swapsWithSole [.Tuple [.Name x px, .Name y py, .Name z pz] kt pt] (.Tuple [a, b, c] k2 pt2) pos.line X.env = pure false := by rfl) :
    PS X (.Assign [.Tuple [.Name x px, .Name y py, .Name z pz] kt pt] (.Tuple [a, b, c] k2 pt2) pos) (tS X.K F (sPar3 i j l ms)) := (ps_par3 hc hN hi hj hl hij hil hjl hx hy hz ha hw hs).mono fun E σ H ⟨Z, own, ρ, f, ρ', rs, e, o⟩ => by
  obtain ⟨xs, ρ1, e1, e⟩ := bind_ok e
  match xs, e1, e with
  | [u, v, w], e1, e =>
    cases e
    refine ⟨Z, own, ρ, _, ρ1, rs, e1, fun vs Z1 own1 H1 rs1 rl x1 => ?_⟩
    simp only [RShL] at rl
    obtain ⟨v1, w1, rfl, r1, v2, w2, rfl, r2, v3, w3, rfl, r3, rfl⟩ := rl
    exact ⟨v1, v2, v3, rfl, o _ Z1 own1 H1 (((rs1.set hti r1).set htj r2).set htl r3) (((Fix.set hfi).trans (Fix.set hfj)).trans (Fix.set hfl)) x1.weak.any⟩
end
def par3W (vs : List D) (P : D → D → D → Prop) : Prop := match vs with
  | [u, v, w] => P u v w
  | _ => False
@[simp] theorem par3W_mk {u v w : D} {P : D → D → D → Prop} : par3W [u, v, w] P ↔ P u v w := Iff.rfl
theorem W_sPar3 {i j l : Nat} {ms : M (List D)} {ρ : Sl} {QF : Fl → Sl → Prop} : W (sPar3 i j l ms) ρ QF ↔ W ms ρ fun vs ρ1 => par3W vs fun u v w => QF .nx (((ρ1.set i (some u)).set j (some v)).set l (some w)) := by
  simp only [sPar3, W_bind]
  constructor <;> refine fun h => h.mono fun d ρ1 q => ?_
  · obtain ⟨f, ρ', e, q⟩ := q
    split at e
    · cases e; exact q
    · cases e
  · unfold par3W at q
    split at q
    · exact ⟨.nx, _, rfl, q⟩
    · exact q.elim
section
variable [Tb] {X : Cx}
end
section
variable [Tb] {X : Cx} {τ : Nat → OT} {q q1 q2 : Bool} {e a b : Expr} {ma mb : M D} {pos apos p1 p2 : Pos} {x : Str} {kk : Nat}
theorem PPs.one {k v : Expr} {tk tv : TE} (hk : PE X k tk) (hv : PE X v tv) : PPs X pos [some k] [v] [(tk, tv)] := pps_cons hk hv pps_nil
end
theorem _root_.L2.Room.units65 {k : Nat} {A : Around} (r : Room k A) : A.units + 65 < cLine := by have := r.un; omega
end CL
namespace CL
open PySem PySem.Spec L2
set_option autoImplicit false
/-- the part at a place -/
inductive At : D → List Nat → D → Prop where
  | nil (d : D) : At d [] d
  | cons {l : List D} {k : Nat} {x : D} {p : List Nat} {e : D} (h : l[k]? = some x) (r : At x p e) : At (.tup l) (k :: p) e
theorem cut_to {α : Type} {l : List α} {k : Nat} (h : k ≤ l.length) : cutD l none (some (k : Int)) = l.take k := by
  unfold cutD
  rw [HT.sIx_none, HT.sIx_nat]
  simp [Nat.min_eq_left h]
theorem cut_from {α : Type} {l : List α} {k : Nat} : cutD l (some (k : Int)) none = l.drop k := by
  unfold cutD
  rw [HT.sIx_none, HT.sIx_nat]
  rw [List.take_of_length_le (by simp)]
  by_cases h : k ≤ l.length
  · rw [Nat.min_eq_left h]
  · rw [Nat.min_eq_right (by omega), List.drop_of_length_le (by omega), List.drop_of_length_le (by omega)]
theorem at_nat {α : Type} {l : List α} {k : Nat} {x : α} (h : l[k]? = some x) : atI l (k : Int) = some x := by
  have := (List.getElem?_eq_some_iff.mp h).1
  unfold atI ixN
  rw [if_pos (by omega), if_pos (by omega)]
  simpa using h
/-- the part put in -/
def putAt : D → List Nat → D → D
  | _, [], v => v
  | .tup l, k :: p, v => (match l[k]? with | some x => .tup (l.set k (putAt x p v)) | none => .tup l)
  | d, _ :: _, _ => d
def D.sz : D → Nat
  | .tup l => l.length
  | _ => 0
end CL
namespace CL
open PySem PySem.Spec L2
set_option autoImplicit false
local macro_rules | `(tactic| walk_at "v") => `(tactic| simp only [W_sSeq, W_sIf, W_sRet, W_sExp, W_sAsg, W_sPar, W_sPar3, W_sK, W_mC, W_mV, W_m1, W_m2, W_mN, W_mL, W_mCons, W_mNil, W_mIf, W_mAnd, W_mOr, W_mChain, W_mCallP, W_mCall, W_mSl, W_mPtN, W_mPtS, W_mIt, W_mItN, W_mIxS, W_mComp, W_sFor, evA, pN, pT, psC, psN, fillA, backA])
local macro_rules | `(tactic| walk_at "n") => `(tactic| simp only [Kq_nx, Kq_ret, Kq_brk, Kq_cnt])
abbrev DKt : OT := .ol (.ol .sh .sh) .sh
def pt (x y : Int) : D := .tup [.int x, .int y]
def ln (x y u v : Int) : D := .tup [pt x y, pt u v]
/-- a line of numbers within a bound, its ends unlike -/
def Ln (B : Nat) (d : D) : Prop := ∃ x y u v : Int, d = ln x y u v ∧ x.natAbs ≤ B ∧ y.natAbs ≤ B ∧ u.natAbs ≤ B ∧ v.natAbs ≤ B ∧ ¬ (x = u ∧ y = v)
theorem fd_mul {x g : Int} (hg : 0 < g) (hx : 0 ≤ x) : 0 ≤ x.fdiv g * g ∧ x.fdiv g * g ≤ x := by
  rw [Int.fdiv_eq_ediv_of_nonneg _ (by omega)]
  exact ⟨Int.mul_nonneg (Int.ediv_nonneg hx (by omega)) (by omega), Int.ediv_mul_le _ (by omega)⟩
def grainB : MS := (sRet (m2 bIx (mN bLst (mCons (mC (.int 1)) (mCons (mC (.int 2)) (mCons (mC (.int 3)) (mCons (mC (.int 4)) (mCons (mC (.int 2)) (mCons (mC (.int 6)) (mCons (mC (.int 10)) (mCons (mC (.int 1000)) mNil))))))))) (mCall drawF (.io 0 :: (.e (mC (.int 8)) :: [])))))
theorem grain_step {dk : D} {Q : D → List D → Prop} (hd : Deck dk) (k : ∀ (g : Int) dk', 0 < g → g ≤ 1000 → Deck dk' → Q (.int g) [dk']) : ∃ r out, runF [DKt] 0 grainB [dk] = .ok (r, out) ∧ Q r out := by
  refine runF_ex ?_
  unfold grainB
  walk_at "v"
  simp [bLst]
  refine draw_step hd (by omega) (by omega) fun w dk1 w0 w1 hd1 => ?_
  have : ∃ g : Int, bIx (.lst [.int 1, .int 2, .int 3, .int 4, .int 2, .int 6, .int 10, .int 1000]) (.int w) = some (.int g) ∧ 0 < g ∧ g ≤ 1000 := by
    rcases (show w = 0 ∨ w = 1 ∨ w = 2 ∨ w = 3 ∨ w = 4 ∨ w = 5 ∨ w = 6 ∨ w = 7 by omega) with rfl | rfl | rfl | rfl | rfl | rfl | rfl | rfl
    all_goals exact ⟨_, rfl, by omega, by omega⟩
  obtain ⟨g, h1, h2, h3⟩ := this
  exact ⟨_, h1, _, rfl, k g dk1 h2 h3 hd1⟩
def pointB : MS := (sSeq (sPar 3 4 (mCons (mCall drawF (.io 0 :: (.e (m2 bAdd (m2 bMul (mC (.int 4)) (mV 1)) (mC (.int 1))) :: []))) (mCons (mCall drawF (.io 0 :: (.e (m2 bAdd (m2 bMul (mC (.int 4)) (mV 1)) (mC (.int 1))) :: []))) mNil))) (sSeq (sIf (m2 bEq (mV 2) (mC (.int 1))) (sRet (mN bTup (mCons (m2 bDiv (m2 bAdd (m2 bMul (m2 bDiv (m2 bMul (mC (.int 2)) (mV 3)) (mV 1)) (mV 1)) (mC (.int 1))) (mC (.int 2))) (mCons (m2 bDiv (m2 bAdd (m2 bMul (m2 bDiv (m2 bMul (mC (.int 2)) (mV 4)) (mV 1)) (mV 1)) (mC (.int 1))) (mC (.int 2))) mNil)))) (sK .nx)) (sSeq (sIf (m2 bEq (mV 2) (mC (.int 2))) (sRet (mN bTup (mCons (m2 bMul (m2 bDiv (mV 3) (mV 1)) (mV 1)) (mCons (m2 bMul (m2 bDiv (mV 4) (mV 1)) (mV 1)) mNil)))) (sK .nx)) (sSeq (sIf (m2 bEq (mV 2) (mC (.int 3))) (sRet (mN bTup (mCons (m2 bAdd (m2 bMul (m2 bDiv (mV 3) (mV 1)) (mV 1)) (m2 bDiv (mV 1) (mC (.int 2)))) (mCons (mV 4) mNil)))) (sK .nx)) (sRet (mN bTup (mCons (mV 3) (mCons (mV 4) mNil))))))))
theorem point_step {dk : D} {g w : Int} {Q : D → List D → Prop} (hd : Deck dk) (g0 : 0 < g) (g1 : g ≤ 1000) (k : ∀ (x y : Int) dk', 0 ≤ x → x ≤ 6 * g + 1 → 0 ≤ y → y ≤ 6 * g + 1 → Deck dk' → Q (pt x y) [dk', .int g, .int w]) : ∃ r out, runF [DKt, .sh, .sh] 2 pointB [dk, .int g, .int w] = .ok (r, out) ∧ Q r out := by
  have gm : g.natAbs < 18446744073709551616 := by omega
  have gD : g.natAbs < bigD := lt_bigD (by omega)
  have two : (2 : Nat) < bigD := lt_bigD (by decide)
  have gn : g ≠ 0 := by omega
  refine runF_ex ?_
  unfold pointB
  walk_at "v"
  simp [bMul, bAdd]
  refine draw_step hd (by omega) (by omega) fun x dk1 x0 x1 hd1 => ?_
  simp [backA]
  refine draw_step hd1 (by omega) (by omega) fun y dk2 y0 y1 hd2 => ?_
  simp [backA]
  walk_at "n"; walk_at "v"
  obtain ⟨a1, a2⟩ := fd_mul (x := x) g0 x0
  obtain ⟨b1, b2⟩ := fd_mul (x := y) g0 y0
  obtain ⟨c1, c2⟩ := fd_mul (x := 2 * x) g0 (by omega)
  obtain ⟨d1, d2⟩ := fd_mul (x := 2 * y) g0 (by omega)
  have h2 : ∀ z : Int, z.fdiv 2 = z / 2 := fun z => Int.fdiv_eq_ediv_of_nonneg _ (by omega)
  simp [eq_int2]
  by_cases w1 : w = 1
  · simp [w1, bMul, bDiv, bAdd, gm, gD, two, gn, bTup, Kq_ret, outs]
    simp [w1] at k
    exact k _ _ _ (by rw [h2]; omega) (by rw [h2]; omega) (by rw [h2]; omega) (by rw [h2]; omega) hd2
  · simp [w1]
    walk_at "n"; walk_at "v"
    simp [eq_int2]
    by_cases w2 : w = 2
    · simp [w2, bMul, bDiv, bAdd, gm, gD, gn, bTup, Kq_ret, outs]
      simp [w2] at k
      exact k _ _ _ (by omega) (by omega) (by omega) (by omega) hd2
    · simp [w2]
      walk_at "n"; walk_at "v"
      simp [eq_int2]
      by_cases w3 : w = 3
      · simp [w3, bMul, bDiv, bAdd, gm, gD, gn, two, bTup, Kq_ret, outs]
        simp [w3] at k
        exact k _ _ _ (by rw [h2]; omega) (by rw [h2]; omega) (by omega) (by omega) hd2
      · simp [w3]
        walk_at "n"; walk_at "v"
        simp [bTup, outs]
        exact k _ _ _ (by omega) (by omega) (by omega) (by omega) hd2
theorem eq_pt {x y u v : Int} : bEq (pt x y) (pt u v) = some (.bl (decide (x = u ∧ y = v))) := by
  simp [pt, bEq, D.okB, D.okL, D.eqv, D.py, D.pyL, PyData.eqv, PyData.eqvAll]
  by_cases h1 : x = u <;> by_cases h2 : y = v <;> simp [h1, h2]
def unlikeB : MS := (sRet (mN bTup (mCons (mV 0) (mCons (m2 bIx (mN bLst (mCons (mV 1) (mCons (mN bTup (mCons (m2 bAdd (m2 bIx (mV 0) (mC (.int 0))) (mC (.int 1))) (mCons (m2 bIx (mV 0) (mC (.int 1))) mNil))) mNil))) (mN bInt (mCons (m2 bEq (mV 0) (mV 1)) mNil))) mNil))))
theorem unlike_ok {x y u v : Int} {B : Nat} (h1 : x.natAbs + 1 ≤ B) (h2 : y.natAbs ≤ B) (h3 : u.natAbs ≤ B) (h4 : v.natAbs ≤ B) : ∃ d, runP 0 unlikeB [pt x y, pt u v] = .ok d ∧ Ln B d := by
  refine runP_ex ?_
  unfold unlikeB
  walk_at "v"
  by_cases c : x = u ∧ y = v
  · simp [eq_pt, c, bInt]
    simp [bLst, bTup, pt, bIx, atI, ixN, bAdd]
    exact ⟨u, v, u + 1, v, rfl, by omega, by omega, by omega, by omega, by omega⟩
  · simp [eq_pt, c, bInt]
    simp [bLst, bTup, pt, bIx, atI, ixN, bAdd]
    exact ⟨x, y, u, v, rfl, by omega, by omega, by omega, by omega, c⟩
def lineB (F P : Fn) (U : List D → Res D) : MS := (sSeq (sAsg (pN 3) (mCall F (.io 0 :: (.e (mC (.int 9)) :: [])))) (sSeq (sAsg (pN 4) (mCall P (.io 0 :: (.e (mV 1) :: (.e (m2 bMod (mV 3) (mC (.int 4))) :: []))))) (sSeq (sAsg (pN 5) (mCall P (.io 0 :: (.e (mV 1) :: (.e (mCall F (.io 0 :: (.e (mC (.int 4)) :: []))) :: []))))) (sSeq (sIf (mOr (m2 bEq (mV 2) (mN bLst mNil)) (m2 bLt (mV 3) (mC (.int 5)))) (sRet (mCallP U (mCons (mV 4) (mCons (mV 5) mNil)))) (sK .nx)) (sSeq (sAsg (pT 2 (psC (pT 2 (psC (pN 6) (psC (pN 7) psN))) (psC (pT 2 (psC (pN 8) (psC (pN 9) psN))) psN))) (m2 bIx (mV 2) (mCall F (.io 0 :: (.e (mN bLen (mCons (mV 2) mNil)) :: []))))) (sSeq (sIf (m2 bGt (mN bMax1 (mCons (mComp [10] (pN 10) (mIt (mN bTup (mCons (mV 6) (mCons (mV 7) (mCons (mV 8) (mCons (mV 9) mNil)))))) mYes (mN bAbs (mCons (mV 10) mNil))) mNil)) (m2 bMul (mC (.int 12)) (mV 1))) (sRet (mCallP U (mCons (mV 4) (mCons (mV 5) mNil)))) (sK .nx)) (sSeq (sIf (m2 bEq (mV 3) (mC (.int 5))) (sRet (mCallP U (mCons (mN bTup (mCons (mV 8) (mCons (mV 9) mNil))) (mCons (mV 5) mNil)))) (sK .nx)) (sSeq (sIf (m2 bEq (mV 3) (mC (.int 6))) (sRet (mCallP U (mCons (mV 4) (mCons (mN bTup (mCons (m2 bSub (m2 bAdd (mV 6) (mV 8)) (m2 bIx (mV 4) (mC (.int 0)))) (mCons (m2 bSub (m2 bAdd (mV 7) (mV 9)) (m2 bIx (mV 4) (mC (.int 1)))) mNil))) mNil)))) (sK .nx)) (sSeq (sIf (m2 bEq (mV 3) (mC (.int 7))) (sRet (mN bTup (mCons (mN bTup (mCons (mV 8) (mCons (mV 9) mNil))) (mCons (mN bTup (mCons (m2 bSub (m2 bMul (mC (.int 2)) (mV 8)) (mV 6)) (mCons (m2 bSub (m2 bMul (mC (.int 2)) (mV 9)) (mV 7)) mNil))) mNil)))) (sK .nx)) (sRet (m2 bIx (mN bLst (mCons (mN bTup (mCons (mN bTup (mCons (mV 6) (mCons (mV 7) mNil))) (mCons (mN bTup (mCons (mV 8) (mCons (mV 9) mNil))) mNil))) (mCons (mN bTup (mCons (mN bTup (mCons (mV 8) (mCons (mV 9) mNil))) (mCons (mN bTup (mCons (mV 6) (mCons (mV 7) mNil))) mNil))) (mCons (mN bTup (mCons (mN bTup (mCons (mV 6) (mCons (mV 7) mNil))) (mCons (mN bTup (mCons (m2 bSub (m2 bMul (mC (.int 2)) (mV 8)) (mV 6)) (mCons (m2 bSub (m2 bMul (mC (.int 2)) (mV 9)) (mV 7)) mNil))) mNil))) mNil)))) (mCall F (.io 0 :: (.e (mC (.int 3)) :: []))))))))))))))
abbrev pointF : Fn := runF [DKt, .sh, .sh] 2 pointB
abbrev unlikeF : List D → Res D := runP 0 unlikeB
def lineF : Fn := runF [DKt, .sh, .sh] 8 (lineB drawF pointF unlikeF)
theorem eq_lst0 {l : List D} : bEq (.lst l) (.lst []) = some (.bl l.isEmpty) := rfl
set_option maxHeartbeats 0 in
theorem line_step {dk : D} {g : Int} {ls : List D} {Q : D → List D → Prop} (hd : Deck dk) (g0 : 0 < g) (g1 : g ≤ 1000) (hl : ∀ d ∈ ls, Ln (40 * g.toNat + 10) d) (h1000 : ls.length ≤ 1000000) (k : ∀ d dk', Ln (40 * g.toNat + 10) d → Deck dk' → Q d [dk', .int g, .lst ls]) : ∃ r out, lineF [dk, .int g, .lst ls] = .ok (r, out) ∧ Q r out := by
  have four : (4 : Int) ≠ 0 := by decide
  refine runF_ex ?_
  unfold lineB
  walk_at "v"
  simp
  refine draw_step hd (by omega) (by omega) fun w dk1 w0 w1 hd1 => ?_
  simp [backA]
  walk_at "n"; walk_at "v"
  simp [bMod]
  refine point_step hd1 g0 g1 fun x y dk2 x0 x1 y0 y1 hd2 => ?_
  simp [backA]
  walk_at "n"; walk_at "v"
  simp
  refine draw_step hd2 (by omega) (by omega) fun w' dk3 w0' w1' hd3 => ?_
  simp [backA]
  refine point_step hd3 g0 g1 fun u v dk4 u0 u1 v0 v1 hd4 => ?_
  simp [backA]
  walk_at "n"; walk_at "v"
  obtain ⟨du, e1, e2⟩ := unlike_ok (x := x) (y := y) (u := u) (v := v) (B := 40 * g.toNat + 10) (by omega) (by omega) (by omega) (by omega)
  simp [bLst, eq_lst0, bLt]
  by_cases c0 : ls = []
  · subst c0
    simp [unlikeF, e1, Kq_ret, outs]
    exact k _ _ e2 hd4
  · simp [c0]
    by_cases c1 : w < 5
    · simp [c1, unlikeF, e1, Kq_ret, outs]
      left
      exact k _ _ e2 hd4
    · right
      refine ⟨by omega, ?_⟩
      walk_at "n"; walk_at "v"
      simp [bLen]
      have pos : 0 < ls.length := List.length_pos_iff.mpr c0
      refine draw_step hd4 (by omega) (by omega) fun j dk5 j0 j1 hd5 => ?_
      have hj : j.toNat < ls.length := by omega
      have hjk : ls[j.toNat]? = some ls[j.toNat] := List.getElem?_eq_getElem hj
      have hat : bIx (.lst ls) (.int j) = some ls[j.toNat] := by
        have := at_nat hjk
        rw [Int.toNat_of_nonneg j0] at this
        exact this
      obtain ⟨a, b, c, d, he, ha, hb, hc, hdd, hne⟩ := hl _ (List.getElem_mem hj)
      rw [he] at hat
      simp [hat, backA]
      refine ⟨[some dk5, some (.int g), some (.lst ls), some (.int w), some (pt x y), some (pt u v), some (.int a), some (.int b), some (.int c), some (.int d), none], rfl, ?_⟩
      walk_at "n"; walk_at "v"
      simp [bTup, itemsOf, wipeD, W_compCons, W_compNil, W_mYes, pN]
      walk_at "v"
      have sm : ∀ z : Int, (if z < 0 then -z else z) = (z.natAbs : Int) := fun z => by split <;> omega
      simp [bAbs, wipeD, bMax1, intsOf, maxL, bMul, bGt, sm]
      have hM : ∃ M : Int, max (a.natAbs : Int) (max (b.natAbs : Int) (max (c.natAbs : Int) (d.natAbs : Int))) = M ∧ (a.natAbs : Int) ≤ M ∧ (b.natAbs : Int) ≤ M ∧ (c.natAbs : Int) ≤ M ∧ (d.natAbs : Int) ≤ M := ⟨_, rfl, by omega, by omega, by omega, by omega⟩
      obtain ⟨M, hM, m1, m2, m3, m4⟩ := hM
      rw [hM]
      clear hM
      by_cases c2 : 12 * g < M
      · left
        simp [c2, unlikeF, e1, Kq_ret, outs]
        exact k _ _ e2 hd5
      · right
        refine ⟨by omega, ?_⟩
        walk_at "n"; walk_at "v"
        clear e1 e2 he hat hjk hl
        have ha' : a.natAbs ≤ 12 * g.toNat := by omega
        have hb' : b.natAbs ≤ 12 * g.toNat := by omega
        have hc' : c.natAbs ≤ 12 * g.toNat := by omega
        have hd' : d.natAbs ≤ 12 * g.toNat := by omega
        simp [eq_int2]
        by_cases w5 : w = 5
        · obtain ⟨d5, f1, f2⟩ := unlike_ok (x := c) (y := d) (u := u) (v := v) (B := 40 * g.toNat + 10) (by omega) (by omega) (by omega) (by omega)
          simp only [pt] at f1
          simp [w5, bTup, unlikeF, pt, f1, Kq_ret, outs]
          exact k _ _ f2 hd5
        · simp [w5]
          walk_at "n"; walk_at "v"
          simp [eq_int2]
          by_cases w6 : w = 6
          · obtain ⟨d5, f1, f2⟩ := unlike_ok (x := x) (y := y) (u := a + c - x) (v := b + d - y) (B := 40 * g.toNat + 10) (by omega) (by omega) (by omega) (by omega)
            simp only [pt] at f1
            simp [w6, bTup, unlikeF, pt, bIx, atI, ixN, bAdd, bSub, f1, Kq_ret, outs]
            exact k _ _ f2 hd5
          · simp [w6]
            walk_at "n"; walk_at "v"
            simp [eq_int2]
            by_cases w7 : w = 7
            · simp [w7, bTup, bMul, bSub, Kq_ret, outs]
              exact k _ _ ⟨c, d, 2 * c - a, 2 * d - b, rfl, by omega, by omega, by omega, by omega, by omega⟩ hd5
            · simp [w7]
              walk_at "n"; walk_at "v"
              simp [bTup, bLst, bMul, bSub]
              refine draw_step hd5 (by omega) (by omega) fun z dk6 z0 z1 hd6 => ?_
              simp [backA]
              rcases (show z = 0 ∨ z = 1 ∨ z = 2 by omega) with rfl | rfl | rfl
              · simp [bIx, atI, ixN, outs]
                exact k _ _ ⟨a, b, c, d, rfl, by omega, by omega, by omega, by omega, by omega⟩ hd6
              · simp [bIx, atI, ixN, outs]
                exact k _ _ ⟨c, d, a, b, rfl, by omega, by omega, by omega, by omega, by omega⟩ hd6
              · simp [bIx, atI, ixN, outs]
                exact k _ _ ⟨a, b, 2 * c - a, 2 * d - b, rfl, by omega, by omega, by omega, by omega, by omega⟩ hd6
def tyLines : Nat → OT := fun i => if i = 0 then .ol (.ol .sh .sh) .sh else if i = 3 then .ol .sh .sh else .sh
noncomputable def linesB : MS := (sSeq (sAsg (pN 3) (mN bLst mNil)) (sSeq (sFor (pN 4) (mItN range1 (mCons (mV 2) mNil)) (sExp (mApp 3 (mBor tyLines 3 (mCall lineF (.io 0 :: (.e (mV 1) :: (.e (mV 3) :: [])))))))) (sRet (mN bTuple (mCons (mV 3) mNil)))))
noncomputable def linesF : Fn := runF [DKt, .sh, .sh] 2 linesB
theorem Ln.pure {B : Nat} {d : D} (h : Ln B d) : d.pure = true := by
  obtain ⟨x, y, u, v, rfl, _⟩ := h
  rfl
theorem Deck.leaf {d : D} (h : Deck d) : leafP DKt d = true := by
  obtain ⟨l, a, n, rfl, _⟩ := h
  have : ∀ l : List Int, leafP (.ol .sh .sh) (.lst (l.map .int)) = true := fun l => by
    cases l with
    | nil => rfl
    | cons x l => simp [leafP, D.pure]
  simp [leafP, this, D.pure]
theorem W_mApp {i : Nat} {m : M D} {ρ : Sl} {Q : D → Sl → Prop} : W (mApp i m) ρ Q ↔ ∃ d0, ρ[i]? = some (some d0) ∧ W m ρ fun d ρ1 => ∃ l, ρ1[i]? = some (some (.lst l)) ∧ l.length < 16777216 ∧ Q .non (ρ1.set i (some (.lst (l ++ [d])))) := by
  unfold mApp
  simp only [W_bind, W_mV]
  constructor
  · rintro ⟨d0, h0, h⟩
    refine ⟨d0, h0, h.mono fun d ρ1 ⟨a, ρ', e, q⟩ => ?_⟩
    dsimp only at e
    split at e
    · rename_i l hl
      split at e
      · rename_i hll; cases e; exact ⟨l, hl, hll, q⟩
      · cases e
    · cases e
  · rintro ⟨d0, h0, h⟩
    refine ⟨d0, h0, h.mono fun d ρ1 ⟨l, hl, hll, q⟩ => ⟨.non, _, by simp [hl, hll], q⟩⟩
theorem lines_loop {g : Int} {o1 o2 : Option D} {Q : Fl → Sl → Prop} (g0 : 0 < g) (g1 : g ≤ 1000) (h1 : o1 = some (.int g)) (h2 : ∃ m : Int, o2 = some (.int m)) : ∀ (xs : List D) (dk : D) (ls : List D) (o4 : Option D), Deck dk → (∀ d ∈ ls, Ln (40 * g.toNat + 10) d) → ls.length + xs.length ≤ 1000000 →
    (∀ dk' ls' o4', Deck dk' → (∀ d ∈ ls', Ln (40 * g.toNat + 10) d) → ls'.length = ls.length + xs.length → Q .nx [some dk', o1, o2, some (.lst ls'), o4']) →
    W (forL (pN 4) (sExp (mApp 3 (mBor tyLines 3 (mCall lineF (.io 0 :: (.e (mV 1) :: (.e (mV 3) :: []))))))) xs) [some dk, o1, o2, some (.lst ls), o4] Q
  | [], dk, ls, o4, hd, hl, _, k => W_forNil.mpr (k dk ls o4 hd hl (by simp))
  | x :: xs, dk, ls, o4, hd, hl, hn, k => by
    subst h1
    obtain ⟨m, rfl⟩ := h2
    simp at hn
    refine W_forCons.mpr ⟨_, rfl, ?_⟩
    simp only [W_sExp, W_mApp, W_mBor]
    refine ⟨_, rfl, ?_⟩
    walk_at "v"
    simp
    refine line_step hd g0 g1 hl (by omega) fun d dk1 hdl hd1 => ?_
    simp [backA]
    refine ⟨⟨hdl.pure, ?_⟩, by omega, ?_⟩
    · simp [borL, tyLines, hd1.leaf]
    · exact lines_loop g0 g1 rfl ⟨m, rfl⟩ xs dk1 (ls ++ [d]) _ hd1 (fun y hy => by
        rcases List.mem_append.mp hy with hy | hy
        · exact hl y hy
        · simp at hy; subst hy; exact hdl) (by simp; omega) fun dk' ls' o4' a b c => k dk' ls' o4' a b (by rw [c]; simp; omega)
theorem lines_step {dk : D} {g n : Int} {Q : D → List D → Prop} (hd : Deck dk) (g0 : 0 < g) (g1 : g ≤ 1000) (n0 : 0 ≤ n) (n1 : n ≤ 100000) (k : ∀ ls dk', (∀ d ∈ ls, Ln (40 * g.toNat + 10) d) → (ls.length : Int) = n → Deck dk' → Q (.tup ls) [dk', .int g, .int n]) : ∃ r out, linesF [dk, .int g, .int n] = .ok (r, out) ∧ Q r out := by
  refine runF_ex ?_
  unfold linesB
  walk_at "v"
  simp [bLst]
  walk_at "n"; walk_at "v"
  have hr : range1 [.int n] = some (rangeL 0 n) := by simp [range1]; omega
  simp [hr]
  have hlen : ((rangeL 0 n).length : Int) = n := by simp [rangeL]; omega
  refine lines_loop g0 g1 rfl ⟨n, rfl⟩ _ dk [] none hd (by simp) (by simp; omega) fun dk' ls' o4' a b c => ?_
  walk_at "n"; walk_at "v"
  simp [bTuple, outs]
  exact k _ _ b (by rw [c]; simpa using hlen) a
end CL
namespace CL
open PySem PySem.Spec L2 PyProof.Rows
set_option autoImplicit false
section
variable [Tb] {X : Cx} {τ : Nat → OT} {q : Bool} {a b c : Expr} {ms : M (List D)} {pos p tpos : Pos} {elts : List Expr} {kk : Nat}
end
section
variable [Tb] {X : Cx}
def bRep : D → D → Option D
  | .lst l, .int k => if (-(2 ^ 63) ≤ k ∧ k < 2 ^ 63) ∧ l.length * k.toNat ≤ 16777216 then some (.lst (List.replicate k.toNat l).flatten) else none
  | _, _ => none
theorem rep_rel [Tb] {K : PySem.W.Frag} {Z : Addr → Prop} {H : Hp} {l : List D} {xs : List V} (h : RShL K Z H l xs) : ∀ n : Nat, RShL K Z H (List.replicate n l).flatten (List.replicate n xs).flatten
  | 0 => by simp [RShL]
  | n + 1 => by
    simp only [List.replicate_succ, List.flatten_cons]
    exact h.append (rep_rel h n)
end
end CL
namespace CL
set_option autoImplicit false
theorem frac_lt {a b c d : Int} (h : 0 < b) (h2 : 0 < d) : ((a : Rat) / b < (c : Rat) / d) ↔ a * d < c * b := by
  have hb : (0 : Rat) < b := by exact_mod_cast h
  have hd : (0 : Rat) < d := by exact_mod_cast h2
  rw [Rat.div_lt_iff hb]
  have : (c : Rat) / d * b = (c * b) / d := by grind
  rw [this, Rat.lt_div_iff hd]
  exact_mod_cast Iff.rfl
theorem frac_eq {a b c d : Int} (h : 0 < b) (h2 : 0 < d) : ((a : Rat) / b = (c : Rat) / d) ↔ a * d = c * b := by
  have hb : (0 : Rat) < b := by exact_mod_cast h
  have hd : (0 : Rat) < d := by exact_mod_cast h2
  constructor
  · intro e
    have : (a : Rat) * d = c * b := by grind
    exact_mod_cast this
  · intro e
    have : (a : Rat) * d = c * b := by exact_mod_cast e
    grind
structure Bd where
  n : Int
  d : Int
  o : Bool
def Bd.q (b : Bd) : Rat := (b.n : Rat) / b.d
def Bd.le (b : Bd) (t : Rat) : Prop := if b.o = true then t < b.q else t ≤ b.q
def Bd.lt (a b : Bd) : Bool := decide (a.n * b.d < b.n * a.d)
def Bd.at (a b : Bd) : Bool := decide (a.n * b.d = b.n * a.d)
theorem lt_iff {a b : Bd} (ha : 0 < a.d) (hb : 0 < b.d) : a.lt b = true ↔ a.q < b.q := by
  simp only [Bd.lt, decide_eq_true_eq, Bd.q]
  exact (frac_lt ha hb).symm
end CL
namespace CLX
open PySem PySem.Spec L2 CL
local macro_rules | `(tactic| walk_at "w") => `(tactic| simp only [Kq_nx, Kq_ret, Kq_brk, Kq_cnt, W_sSeq, W_sIf, W_sRet, W_sExp, W_sAsg, W_sPar, W_sPar3, W_sK, W_mC, W_mV, W_m1, W_m2, W_mN, W_mL, W_mCons, W_mNil, W_mIf, W_mAnd, W_mOr, W_mChain, W_mCallP, W_mCall, W_mSl, W_mPtN, W_mPtS, W_mIt, W_mItN, W_mIxS, W_mComp, W_sFor, evA, pN, pT, psC, psN, fillA, backA])
local macro_rules | `(tactic| walk_at "v") => `(tactic| simp only [W_sSeq, W_sIf, W_sRet, W_sExp, W_sAsg, W_sPar, W_sPar3, W_sK, W_mC, W_mV, W_m1, W_m2, W_mN, W_mL, W_mCons, W_mNil, W_mIf, W_mAnd, W_mOr, W_mChain, W_mCallP, W_mCall, W_mSl, W_mPtN, W_mPtS, W_mIt, W_mItN, W_mIxS, W_mComp, W_sFor, evA, pN, pT, psC, psN, fillA, backA])
local macro_rules | `(tactic| walk_at "n") => `(tactic| simp only [Kq_nx, Kq_ret, Kq_brk, Kq_cnt])
def B__law_deck : MS := (sRet (mN bLst (mCons (m1 bRev (mL listOfD (mCons (mSl (mV 0) none (some (mC (.int 63)))) mNil))) (mCons (m2 bAdd (mN bSum (mCons (mComp [1] (pN 1) (mIt (mSl (mV 0) none (some (mC (.int 63))))) mYes (m2 bMod (mV 1) (mC (.int 1000003)))) mNil)) (m2 bMul (mC (.int 7919)) (mN bLen (mCons (mSl (mV 0) none (some (mC (.int 63)))) mNil)))) (mCons (mC (.int 0)) mNil)))))
def F__law_deck : List D → Res D := runP 1 B__law_deck
def B__law_draw : MS := (sSeq (sSto 0 1 (m2 bAdd (mIxS 0 1) (mC (.int 1)))) (sSeq (sAsg (pN 2) (mIxS 0 0)) (sSeq (sIf (m2 bNe (mIx0 0) (mN bLst mNil)) (sSeq (sAsg (pN 2) (mPop0 0)) (sIf (m2 bGe (mV 2) (m2 bPow (mC (.int 10)) (mC (.int 18)))) (sSeq (sExp (mApp0 0 (m2 bDiv (mV 2) (mV 1)))) (sRet (m2 bMod (mV 2) (mV 1)))) (sK .nx))) (sK .nx)) (sSeq (sAsg (pN 3) (m2 bMod (m2 bMul (m2 bAdd (m2 bAdd (m2 bMod (mV 2) (mC (.int 2147483629))) (m2 bMul (mC (.int 65537)) (mIxS 0 1))) (mC (.int 3))) (mC (.int 48271))) (mC (.int 2147483647)))) (sSeq (sAsg (pN 3) (m2 bMod (m2 bAdd (m2 bAdd (m2 bMul (mV 3) (mV 3)) (m2 bMul (mC (.int 69621)) (mIxS 0 1))) (mC (.int 17))) (mC (.int 2147483587)))) (sRet (m2 bMod (m2 bDiv (m2 bMod (m2 bAdd (m2 bMul (mV 3) (mV 3)) (mC (.int 39373))) (mC (.int 2147483563))) (mC (.int 64))) (mV 1))))))))
def F__law_draw : Fn := runF [.ol (.ol .sh .sh) .sh, .sh] 2 B__law_draw
def B__law_grain : MS := (sRet (m2 bIx (mN bLst (mCons (mC (.int 1)) (mCons (mC (.int 2)) (mCons (mC (.int 3)) (mCons (mC (.int 4)) (mCons (mC (.int 2)) (mCons (mC (.int 6)) (mCons (mC (.int 10)) (mCons (mC (.int 1000)) mNil))))))))) (mCall F__law_draw (.io 0 :: (.e (mC (.int 8)) :: [])))))
def F__law_grain : Fn := runF [.ol (.ol .sh .sh) .sh] 0 B__law_grain
def B__law_point : MS := (sSeq (sPar 3 4 (mCons (mCall F__law_draw (.io 0 :: (.e (m2 bAdd (m2 bMul (mC (.int 4)) (mV 1)) (mC (.int 1))) :: []))) (mCons (mCall F__law_draw (.io 0 :: (.e (m2 bAdd (m2 bMul (mC (.int 4)) (mV 1)) (mC (.int 1))) :: []))) mNil))) (sSeq (sIf (m2 bEq (mV 2) (mC (.int 1))) (sRet (mN bTup (mCons (m2 bDiv (m2 bAdd (m2 bMul (m2 bDiv (m2 bMul (mC (.int 2)) (mV 3)) (mV 1)) (mV 1)) (mC (.int 1))) (mC (.int 2))) (mCons (m2 bDiv (m2 bAdd (m2 bMul (m2 bDiv (m2 bMul (mC (.int 2)) (mV 4)) (mV 1)) (mV 1)) (mC (.int 1))) (mC (.int 2))) mNil)))) (sK .nx)) (sSeq (sIf (m2 bEq (mV 2) (mC (.int 2))) (sRet (mN bTup (mCons (m2 bMul (m2 bDiv (mV 3) (mV 1)) (mV 1)) (mCons (m2 bMul (m2 bDiv (mV 4) (mV 1)) (mV 1)) mNil)))) (sK .nx)) (sSeq (sIf (m2 bEq (mV 2) (mC (.int 3))) (sRet (mN bTup (mCons (m2 bAdd (m2 bMul (m2 bDiv (mV 3) (mV 1)) (mV 1)) (m2 bDiv (mV 1) (mC (.int 2)))) (mCons (mV 4) mNil)))) (sK .nx)) (sRet (mN bTup (mCons (mV 3) (mCons (mV 4) mNil))))))))
def F__law_point : Fn := runF [.ol (.ol .sh .sh) .sh, .sh, .sh] 2 B__law_point
def B__law_unlike : MS := (sRet (mN bTup (mCons (mV 0) (mCons (m2 bIx (mN bLst (mCons (mV 1) (mCons (mN bTup (mCons (m2 bAdd (m2 bIx (mV 0) (mC (.int 0))) (mC (.int 1))) (mCons (m2 bIx (mV 0) (mC (.int 1))) mNil))) mNil))) (mN bInt (mCons (m2 bEq (mV 0) (mV 1)) mNil))) mNil))))
def F__law_unlike : List D → Res D := runP 0 B__law_unlike
def B__law_line : MS := (sSeq (sAsg (pN 3) (mCall F__law_draw (.io 0 :: (.e (mC (.int 9)) :: [])))) (sSeq (sAsg (pN 4) (mCall F__law_point (.io 0 :: (.e (mV 1) :: (.e (m2 bMod (mV 3) (mC (.int 4))) :: []))))) (sSeq (sAsg (pN 5) (mCall F__law_point (.io 0 :: (.e (mV 1) :: (.e (mCall F__law_draw (.io 0 :: (.e (mC (.int 4)) :: []))) :: []))))) (sSeq (sIf (mOr (m2 bEq (mV 2) (mN bLst mNil)) (m2 bLt (mV 3) (mC (.int 5)))) (sRet (mCallP F__law_unlike (mCons (mV 4) (mCons (mV 5) mNil)))) (sK .nx)) (sSeq (sAsg (pT 2 (psC (pT 2 (psC (pN 6) (psC (pN 7) psN))) (psC (pT 2 (psC (pN 8) (psC (pN 9) psN))) psN))) (m2 bIx (mV 2) (mCall F__law_draw (.io 0 :: (.e (mN bLen (mCons (mV 2) mNil)) :: []))))) (sSeq (sIf (m2 bGt (mN bMax1 (mCons (mComp [10] (pN 10) (mIt (mN bTup (mCons (mV 6) (mCons (mV 7) (mCons (mV 8) (mCons (mV 9) mNil)))))) mYes (mN bAbs (mCons (mV 10) mNil))) mNil)) (m2 bMul (mC (.int 12)) (mV 1))) (sRet (mCallP F__law_unlike (mCons (mV 4) (mCons (mV 5) mNil)))) (sK .nx)) (sSeq (sIf (m2 bEq (mV 3) (mC (.int 5))) (sRet (mCallP F__law_unlike (mCons (mN bTup (mCons (mV 8) (mCons (mV 9) mNil))) (mCons (mV 5) mNil)))) (sK .nx)) (sSeq (sIf (m2 bEq (mV 3) (mC (.int 6))) (sRet (mCallP F__law_unlike (mCons (mV 4) (mCons (mN bTup (mCons (m2 bSub (m2 bAdd (mV 6) (mV 8)) (m2 bIx (mV 4) (mC (.int 0)))) (mCons (m2 bSub (m2 bAdd (mV 7) (mV 9)) (m2 bIx (mV 4) (mC (.int 1)))) mNil))) mNil)))) (sK .nx)) (sSeq (sIf (m2 bEq (mV 3) (mC (.int 7))) (sRet (mN bTup (mCons (mN bTup (mCons (mV 8) (mCons (mV 9) mNil))) (mCons (mN bTup (mCons (m2 bSub (m2 bMul (mC (.int 2)) (mV 8)) (mV 6)) (mCons (m2 bSub (m2 bMul (mC (.int 2)) (mV 9)) (mV 7)) mNil))) mNil)))) (sK .nx)) (sRet (m2 bIx (mN bLst (mCons (mN bTup (mCons (mN bTup (mCons (mV 6) (mCons (mV 7) mNil))) (mCons (mN bTup (mCons (mV 8) (mCons (mV 9) mNil))) mNil))) (mCons (mN bTup (mCons (mN bTup (mCons (mV 8) (mCons (mV 9) mNil))) (mCons (mN bTup (mCons (mV 6) (mCons (mV 7) mNil))) mNil))) (mCons (mN bTup (mCons (mN bTup (mCons (mV 6) (mCons (mV 7) mNil))) (mCons (mN bTup (mCons (m2 bSub (m2 bMul (mC (.int 2)) (mV 8)) (mV 6)) (mCons (m2 bSub (m2 bMul (mC (.int 2)) (mV 9)) (mV 7)) mNil))) mNil))) mNil)))) (mCall F__law_draw (.io 0 :: (.e (mC (.int 3)) :: []))))))))))))))
def F__law_line : Fn := runF [.ol (.ol .sh .sh) .sh, .sh, .sh] 8 B__law_line
def ty__law_lines : Nat → OT := fun i => if i = 0 then .ol (.ol .sh .sh) .sh else if i = 3 then .ol .sh .sh else .sh
noncomputable def B__law_lines : MS := (sSeq (sAsg (pN 3) (mN bLst mNil)) (sSeq (sFor (pN 4) (mItN range1 (mCons (mV 2) mNil)) (sExp (mApp 3 (mBor ty__law_lines 3 (mCall F__law_line (.io 0 :: (.e (mV 1) :: (.e (mV 3) :: [])))))))) (sRet (mN bTuple (mCons (mV 3) mNil)))))
noncomputable def F__law_lines : Fn := runF [.ol (.ol .sh .sh) .sh, .sh, .sh] 2 B__law_lines
theorem W_sFz {i : Nat} {m : MS} {ρ : Sl} {Q : Fl → Sl → Prop} : W (sFz i m) ρ Q ↔ W m ρ fun f ρ' => Q f (ρ'.set i none) := by
  unfold sFz
  constructor
  · rintro ⟨f, ρ', e, q⟩
    dsimp only at e
    split at e
    · rename_i e1; cases e; exact ⟨_, _, e1, q⟩
    · cases e
    · cases e
  · rintro ⟨f, ρ', e, q⟩
    exact ⟨f, _, by simp only [e], q⟩
def sgn (w : Int) : Int := if 0 < w then 1 else -1
def insB (f w L H U s : Int) : Bool := decide (2 * L * U ≤ f * 2 * U + w * s) && decide (f * 2 * U + w * s < 2 * H * U)
structure Geo where
  (g x y u v i j U : Int)
  hg : g.natAbs ≤ 1000
  hx : x.natAbs ≤ 10000000
  hy : y.natAbs ≤ 10000000
  hu : u.natAbs ≤ 10000000
  hv : v.natAbs ≤ 10000000
  hi : i.natAbs ≤ 10000000
  hj : j.natAbs ≤ 10000000
def Geo.ins (G : Geo) (s : Int) : Bool := insB (2 * G.x) (2 * (G.u - G.x)) ((2 * G.i - 1) * G.g) ((2 * G.i + 1) * G.g) G.U s && insB (2 * G.y) (2 * (G.v - G.y)) ((2 * G.j - 1) * G.g) ((2 * G.j + 1) * G.g) G.U s
theorem cut_last {α : Type} {l : List α} : cutD l none (some (-1)) = l.dropLast := by
  unfold cutD
  rw [HT.sIx_none]
  rw [List.drop_zero, List.dropLast_eq_take, Nat.sub_zero]
  congr 1
  show (if (-1 : Int) < 0 then ((-1 : Int) + (l.length : Int)).toNat else min (-1 : Int).toNat l.length) = _
  rw [if_pos (by decide)]; omega
theorem cut_tail {α : Type} {l : List α} : cutD l (some 1) none = l.tail := by
  rw [show (some (1 : Int)) = some ((1 : Nat) : Int) from rfl, cut_from]; simp
def mx (z : Int) : Int := if (if z < 0 then -z else z) > 1 then (if z < 0 then -z else z) else 1
theorem draw_is : F__law_draw = drawF := rfl
theorem grain_is : F__law_grain = runF [DKt] 0 grainB := rfl
end CLX
namespace CLX
open PySem PySem.Spec L2 CL
local macro_rules | `(tactic| walk_at "v") => `(tactic| simp only [W_sSeq, W_sIf, W_sRet, W_sExp, W_sAsg, W_sPar, W_sPar3, W_sK, W_mC, W_mV, W_m1, W_m2, W_mN, W_mL, W_mCons, W_mNil, W_mIf, W_mAnd, W_mOr, W_mChain, W_mCallP, W_mCall, W_mSl, W_mPtN, W_mPtS, W_mIt, W_mItN, W_mIxS, W_mComp, W_sFor, evA, pN, pT, psC, psN, fillA, backA])
local macro_rules | `(tactic| walk_at "n") => `(tactic| simp only [Kq_nx, Kq_ret, Kq_brk, Kq_cnt])
theorem ne_str {a b : Str} : bNe (.str a) (.str b) = some (.bl (!decide (a = b))) := by
  simp [bNe, D.okB, D.eqv, D.py, PyData.eqv]
end CLX
namespace CL
open PySem L2
set_option autoImplicit false
section
variable {ρ ρ' ρ1 : Sl} {QD : D → Sl → Prop} {QL : List D → Sl → Prop} {QF : Fl → Sl → Prop} {QO : Option Int → Sl → Prop}
def Br (x : D) (A B : Prop) : Prop := (x = .bl true ∧ A) ∨ (x = .bl false ∧ B)
theorem X_if {c : M D} {a b : MS} (h : W c ρ fun x ρ1 => Br x (W a ρ1 QF) (W b ρ1 QF)) : W (sIf c a b) ρ QF := W_sIf.mpr h
theorem go_if {p : Bool} {A B : Prop} (h1 : p = true → A) (h2 : p = false → B) : Br (.bl p) A B := by
  cases p with
  | true => exact .inl ⟨rfl, h1 rfl⟩
  | false => exact .inr ⟨rfl, h2 rfl⟩
theorem go_ifT {p : Bool} {A B : Prop} (h : p = true) (h1 : A) : Br (.bl p) A B := .inl ⟨by rw [h], h1⟩
theorem go_ifF {p : Bool} {A B : Prop} (h : p = false) (h1 : B) : Br (.bl p) A B := .inr ⟨by rw [h], h1⟩
theorem go_ifP {p : Prop} [Decidable p] {A B : Prop} (h1 : p → A) (h2 : ¬ p → B) : Br (.bl (decide p)) A B := go_if (fun h => h1 (of_decide_eq_true h)) fun h => h2 (of_decide_eq_false h)
theorem go_ifN {p : Prop} [Decidable p] {A B : Prop} (h1 : ¬ p → A) (h2 : p → B) : Br (.bl (!decide p)) A B := go_if (fun h => h1 (by simpa using h)) fun h => h2 (by simpa using h)
theorem X_and {a b : M D} (h : W a ρ fun x ρ1 => ∃ p q : Bool, x = .bl p ∧ (p = true → W b ρ1 fun y ρ2 => y = .bl q ∧ ρ2 = ρ1) ∧ QD (.bl (p && q)) ρ1) : W (mAnd a b) ρ QD :=
  W_mAnd.mpr (h.mono fun x ρ1 ⟨p, q, e, h1, h2⟩ => by
    cases p with
    | true => exact .inl ⟨e, (h1 rfl).mono fun y ρ2 ⟨e1, e2⟩ => by rw [e1, e2]; simpa using h2⟩
    | false => exact .inr ⟨e, by simpa using h2⟩)
theorem X_or {a b : M D} (h : W a ρ fun x ρ1 => ∃ p q : Bool, x = .bl p ∧ (p = false → W b ρ1 fun y ρ2 => y = .bl q ∧ ρ2 = ρ1) ∧ QD (.bl (p || q)) ρ1) : W (mOr a b) ρ QD :=
  W_mOr.mpr (h.mono fun x ρ1 ⟨p, q, e, h1, h2⟩ => by
    cases p with
    | false => exact .inr ⟨e, (h1 rfl).mono fun y ρ2 ⟨e1, e2⟩ => by rw [e1, e2]; simpa using h2⟩
    | true => exact .inl ⟨e, by simpa using h2⟩)
theorem X_chain {f g : D → D → Option D} {a b c : M D} (h : W a ρ fun x ρ1 => W b ρ1 fun y ρ2 => ∃ p q : Bool, f x y = some (.bl p) ∧ (p = true → W c ρ2 fun w ρ3 => g y w = some (.bl q) ∧ ρ3 = ρ2) ∧ QD (.bl (p && q)) ρ2) : W (mChain f g a b c) ρ QD :=
  W_mChain.mpr (h.mono fun x ρ1 h => h.mono fun y ρ2 ⟨p, q, e, h1, h2⟩ => ⟨.bl p, e, by
    cases p with
    | true => exact .inl ⟨rfl, (h1 rfl).mono fun y ρ3 ⟨e1, e2⟩ => ⟨_, e1, by rw [e2]; simpa using h2⟩⟩
    | false => exact .inr ⟨rfl, by simpa using h2⟩⟩)
theorem and_go {x : D} {p q : Bool} {A : Bool → Bool → Prop} {P : Bool → Bool → Prop} (e : x = .bl p) (h1 : A p q) (h2 : P p q) : ∃ p q : Bool, x = .bl p ∧ A p q ∧ P p q := ⟨p, q, e, h1, h2⟩
theorem chain_go {x : Option D} {p q : Bool} {A : Bool → Bool → Prop} {P : Bool → Bool → Prop} (e : x = some (.bl p)) (h1 : A p q) (h2 : P p q) : ∃ p q : Bool, x = some (.bl p) ∧ A p q ∧ P p q := ⟨p, q, e, h1, h2⟩
theorem X_compN {vs : List Nat} {p : Pt} {c e : M D} (e0 : ρ = ρ') (h : QL [] ρ') : W (compL vs p c e []) ρ QL := by subst e0; exact W_compNil.mpr h
theorem X_evN : W (evA []) ρ QL ↔ QL [] ρ := W_mNil
theorem X_evI {i : Nat} {r : List Ag} : W (evA (.io i :: r)) ρ QL ↔ ∃ d, ρ[i]? = some (some d) ∧ W (evA r) ρ fun xs ρ2 => QL (d :: xs) ρ2 := by
  show W (mCons (mV i) (evA r)) ρ QL ↔ _
  rw [W_mCons, W_mV]
theorem X_evE {m : M D} {r : List Ag} : W (evA (.e m :: r)) ρ QL ↔ W m ρ fun d ρ1 => W (evA r) ρ1 fun xs ρ2 => QL (d :: xs) ρ2 := by
  show W (mCons m (evA r)) ρ QL ↔ _
  rw [W_mCons]
theorem X_nx {b : MS} (e : ρ = ρ') (h : W b ρ' QF) : Kq b QF .nx ρ := by subst e; exact Kq_nx.mpr h
theorem X_compC {vs : List Nat} {p : Pt} {c e : M D} {x : D} {xs : List D} (e0 : ρ = ρ') (h1 : p x ρ' = some ρ1) (h : W c ρ1 fun y ρ2 => Br y (W e ρ2 fun d ρ3 => W (compL vs p c e xs) (wipeD ρ3 vs) fun ds ρ4 => QL (d :: ds) ρ4) (W (compL vs p c e xs) (wipeD ρ2 vs) QL)) : W (compL vs p c e (x :: xs)) ρ QL := by subst e0; exact W_compCons.mpr ⟨ρ1, h1, h⟩
theorem X_compY {vs : List Nat} {p : Pt} {e : M D} {x : D} {xs : List D} (e0 : ρ = ρ') (h1 : p x ρ' = some ρ1) (h : W e ρ1 fun d ρ3 => W (compL vs p mYes e xs) (wipeD ρ3 vs) fun ds ρ4 => QL (d :: ds) ρ4) : W (compL vs p mYes e (x :: xs)) ρ QL := by subst e0; exact W_compCons.mpr ⟨ρ1, h1, W_mYes.mpr (.inl ⟨rfl, h⟩)⟩
end
def Nb (n : Nat) (a : Int) : Prop := a.natAbs < 2 ^ n
/-- the same, kept from omega's sight -/
def Nle (a : Int) (n : Nat) : Prop := a.natAbs ≤ n
theorem Nb.mono {n m : Nat} {a : Int} (h : Nb n a) (k : n ≤ m) : Nb m a := Nat.lt_of_lt_of_le h (Nat.pow_le_pow_right (by decide) k)
theorem Nb.self (a : Int) : Nb (a.natAbs.log2 + 1) a := Nat.lt_log2_self
theorem Nb.le {n : Nat} {a : Int} (h : a.natAbs ≤ n) : Nb (n.log2 + 1) a := Nat.lt_of_le_of_lt h Nat.lt_log2_self
theorem Nb.nle {n : Nat} {a : Int} (h : Nle a n) : Nb (n.log2 + 1) a := Nat.lt_of_le_of_lt h Nat.lt_log2_self
theorem Nb.lt {n : Nat} {a : Int} (h : a.natAbs < n) : Nb (n.log2 + 1) a := Nat.lt_of_le_of_lt (Nat.le_of_lt h) Nat.lt_log2_self
theorem Nb.add {n m : Nat} {a b : Int} (ha : Nb n a) (hb : Nb m b) : Nb (max n m + 1) (a + b) := by
  have h1 := Nb.mono ha (Nat.le_max_left n m)
  have h2 := Nb.mono hb (Nat.le_max_right n m)
  unfold Nb at *
  rw [Nat.pow_succ]
  omega
theorem Nb.neg {n : Nat} {a : Int} (ha : Nb n a) : Nb n (-a) := by unfold Nb at *; omega
theorem Nb.sub {n m : Nat} {a b : Int} (ha : Nb n a) (hb : Nb m b) : Nb (max n m + 1) (a - b) := by rw [Int.sub_eq_add_neg]; exact Nb.add ha hb.neg
theorem Nb.mul {n m : Nat} {a b : Int} (ha : Nb n a) (hb : Nb m b) : Nb (n + m) (a * b) := by
  unfold Nb at *
  rw [Int.natAbs_mul, Nat.pow_add]
  exact Nat.mul_lt_mul'' ha hb
theorem Nb.fdiv {n : Nat} {a b : Int} (ha : Nb n a) : Nb (n + 1) (a.fdiv b) := by
  have h : (a.fdiv b).natAbs ≤ a.natAbs + 1 := by
    rcases Int.lt_trichotomy b 0 with h | h | h
    · rw [Int.fdiv_eq_ediv]
      have := Int.natAbs_ediv_le_natAbs a b
      split <;> omega
    · subst h; simp
    · rw [Int.fdiv_eq_ediv_of_nonneg _ (by omega)]
      have := Int.natAbs_ediv_le_natAbs a b
      omega
  unfold Nb at *
  rw [Nat.pow_succ]
  have : 0 < 2 ^ n := Nat.pow_pos (by decide)
  omega
theorem Nb.max {n m : Nat} {a b : Int} (ha : Nb n a) (hb : Nb m b) : Nb (Max.max n m) (max a b) := by
  have h1 := Nb.mono ha (Nat.le_max_left n m)
  have h2 := Nb.mono hb (Nat.le_max_right n m)
  unfold Nb at *
  omega
theorem Nb.min {n m : Nat} {a b : Int} (ha : Nb n a) (hb : Nb m b) : Nb (Max.max n m) (min a b) := by
  have h1 := Nb.mono ha (Nat.le_max_left n m)
  have h2 := Nb.mono hb (Nat.le_max_right n m)
  unfold Nb at *
  omega
theorem Nb.ite {n m : Nat} {a b : Int} {c : Prop} [Decidable c] (ha : Nb n a) (hb : Nb m b) : Nb (Max.max n m) (if c then a else b) := by
  split
  · exact Nb.mono ha (Nat.le_max_left n m)
  · exact Nb.mono hb (Nat.le_max_right n m)
theorem mul_go {n m : Nat} {a b : Int} (ha : Nb n a) (hb : Nb m b) (h : (Nat.ble n 400000 && Nat.ble m 400000) = true) : bMul (.int a) (.int b) = some (.int (a * b)) := by
  simp only [Bool.and_eq_true, Nat.ble_eq] at h
  have : a.natAbs < big ∧ b.natAbs < big := ⟨ha.mono h.1, hb.mono h.2⟩
  simp only [bMul, this, and_self, or_true, if_true]
theorem div_go {n : Nat} {a b : Int} (h0 : b ≠ 0) (hb : Nb n b) (h : Nat.ble n 8000 = true) : bDiv (.int a) (.int b) = some (.int (a.fdiv b)) := by
  simp only [Nat.ble_eq] at h
  have : b.natAbs < bigD := hb.mono h
  simp only [bDiv, h0, this, ne_eq, not_false_eq_true, and_self, if_true]
theorem tup_go {l : List D} (h : Nat.ble l.length 16777216 = true) : bTup l = some (.tup l) := by
  simp only [Nat.ble_eq] at h
  simp only [bTup, h, if_true]
theorem lst_go {l : List D} (h : Nat.ble l.length 16777216 = true) : bLst l = some (.lst l) := by
  simp only [Nat.ble_eq] at h
  simp only [bLst, h, if_true]
end CL
namespace CL
open PySem L2
section
variable {a b : Int} {n m : Nat} {P : D → Prop} {l : List D} {x y u v : Int} {s t : Str}
theorem mul_st (ha : Nb n a) (hb : Nb m b) (h : (Nat.ble n 400000 && Nat.ble m 400000) = true) (k : P (.int (a * b))) : ∃ d, bMul (.int a) (.int b) = some d ∧ P d := ⟨_, mul_go ha hb h, k⟩
theorem div_st (h0 : b ≠ 0) (hb : Nb n b) (h : Nat.ble n 8000 = true) (k : P (.int (a.fdiv b))) : ∃ d, bDiv (.int a) (.int b) = some d ∧ P d := ⟨_, div_go h0 hb h, k⟩
theorem tup_st (h : Nat.ble l.length 16777216 = true) (k : P (.tup l)) : ∃ d, bTup l = some d ∧ P d := ⟨_, tup_go h, k⟩
theorem lst_st (h : Nat.ble l.length 16777216 = true) (k : P (.lst l)) : ∃ d, bLst l = some d ∧ P d := ⟨_, lst_go h, k⟩
theorem eqi_st (k : P (.bl (decide (a = b)))) : ∃ d, bEq (.int a) (.int b) = some d ∧ P d := ⟨_, eq_int2, k⟩
theorem nei_st (k : P (.bl (!decide (a = b)))) : ∃ d, bNe (.int a) (.int b) = some d ∧ P d := ⟨_, ne_int2, k⟩
theorem nes_st (k : P (.bl (!decide (s = t)))) : ∃ d, bNe (.str s) (.str t) = some d ∧ P d := ⟨_, CLX.ne_str, k⟩
end
theorem mul_s1 {a b : Int} {n : Nat} {P : D → Prop} (ha : Nb n a) (h : Nat.ble n 64 = true) (k : P (.int (a * b))) : ∃ d, bMul (.int a) (.int b) = some d ∧ P d := ⟨_, by
  simp only [Nat.ble_eq] at h
  have : a.natAbs < 2 ^ 64 := ha.mono h
  simp only [bMul, this, true_or, if_true], k⟩
theorem fill_st {as : List Ag} {ds : List D} {ρ : Sl} {P : List D → Prop} (h : ∃ f, fillA as ds ρ = some f ∧ P f) : ∃ f, fillA as ds ρ = some f ∧ P f := h
theorem Nb.fmod {k : Nat} {a b : Int} (h : b ≠ 0) (hb : Nb k b) : Nb k (a.fmod b) := Nat.lt_trans (natAbs_fmod_lt h) hb
section
variable {a b c d e f g h w : Int} {P : D → Prop} {x y z t : D}
theorem ix3i (h0 : 0 ≤ w) (h1 : w < 3) (k : ∀ z, (z = a ∨ z = b ∨ z = c) → Nle z (a.natAbs + b.natAbs + c.natAbs) → P (.int z)) : ∃ d, bIx (.lst [.int a, .int b, .int c]) (.int w) = some d ∧ P d := by
  rcases (show w = 0 ∨ w = 1 ∨ w = 2 by omega) with rfl | rfl | rfl
  · exact ⟨_, rfl, k a (by simp) (by unfold Nle; omega)⟩
  · exact ⟨_, rfl, k b (by simp) (by unfold Nle; omega)⟩
  · exact ⟨_, rfl, k c (by simp) (by unfold Nle; omega)⟩
theorem ix4i (h0 : 0 ≤ w) (h1 : w < 4) (k : ∀ z, (z = a ∨ z = b ∨ z = c ∨ z = d) → Nle z (a.natAbs + b.natAbs + c.natAbs + d.natAbs) → P (.int z)) : ∃ d', bIx (.lst [.int a, .int b, .int c, .int d]) (.int w) = some d' ∧ P d' := by
  rcases (show w = 0 ∨ w = 1 ∨ w = 2 ∨ w = 3 by omega) with rfl | rfl | rfl | rfl
  · exact ⟨_, rfl, k a (by simp) (by unfold Nle; omega)⟩
  · exact ⟨_, rfl, k b (by simp) (by unfold Nle; omega)⟩
  · exact ⟨_, rfl, k c (by simp) (by unfold Nle; omega)⟩
  · exact ⟨_, rfl, k d (by simp) (by unfold Nle; omega)⟩
theorem ix2bi {p : Bool} (k : ∀ z, z = (if p = true then b else a) → Nle z (a.natAbs + b.natAbs) → P (.int z)) : ∃ d, bIx (.lst [.int a, .int b]) (.int (if p = true then 1 else 0)) = some d ∧ P d := by
  cases p with
  | true => exact ⟨_, rfl, k _ rfl (by simp [Nle])⟩
  | false => exact ⟨_, rfl, k _ rfl (by simp [Nle])⟩
end
theorem is_comp {vs : List Nat} {p : Pt} {c e : M D} {xs : List D} {ρ : Sl} {Q : List D → Sl → Prop} (h : W (compL vs p c e xs) ρ Q) : W (compL vs p c e xs) ρ Q := h
theorem is_chain {x : Option D} {A : Bool → Bool → Prop} {P : Bool → Bool → Prop} (h : ∃ p q : Bool, x = some (.bl p) ∧ A p q ∧ P p q) : ∃ p q : Bool, x = some (.bl p) ∧ A p q ∧ P p q := h
theorem Nb.lit {n : Nat} : Nb (n.log2 + 1) (OfNat.ofNat n : Int) := Nat.lt_log2_self
theorem call_st {F : List D → Res D} {ds : List D} {d : D} {P : D → Prop} (e : F ds = .ok d) (k : P d) : ∃ d, F ds = .ok d ∧ P d := ⟨d, e, k⟩
theorem is_W {α : Type} {m : M α} {ρ : Sl} {Q : α → Sl → Prop} (h : W m ρ Q) : W m ρ Q := h
theorem is_ex {α : Type} {P : α → Prop} (h : ∃ x, P x) : ∃ x, P x := h
theorem is_ev {o : Option D} {P : D → Prop} (h : ∃ d, o = some d ∧ P d) : ∃ d, o = some d ∧ P d := h
theorem is_evA {α : Type} {o : Option α} {P : α → Prop} (h : ∃ d, o = some d ∧ P d) : ∃ d, o = some d ∧ P d := h
theorem is_evI {o : D} {P : Int → Prop} (h : ∃ d, o = .int d ∧ P d) : ∃ d, o = .int d ∧ P d := h
theorem is_evR {o : Fl} {P : D → Prop} (h : ∃ d, o = .ret d ∧ P d) : ∃ d, o = .ret d ∧ P d := h
theorem is_evS {o : Option (Option D)} {P : D → Prop} (h : ∃ d, o = some (some d) ∧ P d) : ∃ d, o = some (some d) ∧ P d := h
end CL
namespace CL
open PySem PySem.Spec L2 PySem.W
set_option autoImplicit false
def cmpOk (a b : D) : Bool := D.okB 60 a && D.okB 60 b && alike a.py b.py && !a.isNon
def bGtD (a b : D) : Option D := if cmpOk a b = true then some (.bl (dataLt b.py a.py)) else none
def bLeD (a b : D) : Option D := if cmpOk a b = true then some (.bl (!dataLt b.py a.py)) else none
theorem ok_depth {a : D} (h : D.okB 60 a = true) : a.py.depth ≤ 60 := (ok_lay 60 a h).2
theorem py_none {a : D} (h : D.okB 60 a = true) (n : a.isNon = false) : a.py ≠ .none := by
  cases a with
  | non => cases n
  | dct _ _ => simp [D.okB] at h
  | ins _ _ _ => simp [D.okB] at h
  | kdc _ _ => simp [D.okB] at h
  | _ => simp [D.py]
section
variable [Tb] {X : Cx}
theorem o_cmpD {op : CmpOp} {f : D → D → Bool} {g : D → D → Option D} (hg : ∀ a b, g a b = if cmpOk a b = true then some (.bl (f a b)) else none)
    (ho : ∀ {s : Shared} {a b : Value} {da db : PyData} {as bs : List Addr} {x y : D} {Q : Value → Shared → Prop}, x.py = da → y.py = db → Reads s.heap a da as → Reads s.heap b db bs → alike da db = true → da ≠ .none → X.A.units + min da.depth db.depth < cLine → Q (.bool (f x y)) s → wpAny (model X.prog X.w) X.A (compareOp op a b) Q X.xe s)
    (hu : X.A.units + 64 < cLine) : OpR X (compareOp op) (rF2 X.K g) := by
  intro pins s σ H x y v u Q I r1 r2 h
  obtain ⟨Z, a, b, d, p1, p2, e, k⟩ := h
  rw [hg] at e
  split at e
  · rename_i hc
    cases e
    simp only [cmpOk, Bool.and_eq_true, Bool.not_eq_true'] at hc
    obtain ⟨⟨⟨h1, h2⟩, h3⟩, h4⟩ := hc
    obtain ⟨as, ra⟩ := Dp.reads I _ x v (p1.dp h1) r1
    obtain ⟨bs, rb⟩ := Dp.reads I _ y u (p2.dp h2) r2
    have d1 := ok_depth h1
    refine ho rfl rfl ra rb h3 (py_none h1 h4) (by omega) ⟨.bl _, H, I, rfl, fin0 (by simp only [RSh]) k⟩
  · cases e
theorem o_gtD (hu : X.A.units + 64 < cLine) : OpR X (compareOp .Gt) (rF2 X.K bGtD) := o_cmpD (f := fun a b => dataLt b.py a.py) (fun _ _ => rfl) (fun e1 e2 ra rb h hn hu q => by subst e1 e2; exact gt_data ra rb h hn hu q) hu
theorem o_leD (hu : X.A.units + 64 < cLine) : OpR X (compareOp .LtE) (rF2 X.K bLeD) := o_cmpD (f := fun a b => !dataLt b.py a.py) (fun _ _ => rfl) (fun e1 e2 ra rb h hn hu q => by subst e1 e2; exact le_data ra rb h hn hu q) hu
end
mutual
theorem py_inj : ∀ (n m : Nat) (a b : D), D.okB n a = true → D.okB m b = true → a.py = b.py → a = b
  | _, _, .non, b, _, h, e => by cases b <;> simp [D.py, D.okB] at e h ⊢
  | _, _, .bl x, b, _, h, e => by cases b <;> simp [D.py, D.okB] at e h ⊢ <;> exact e
  | _, _, .int x, b, _, h, e => by cases b <;> simp [D.py, D.okB] at e h ⊢ <;> exact e
  | _, _, .str x, b, _, h, e => by cases b <;> simp [D.py, D.okB] at e h ⊢ <;> exact e
  | n + 1, m, .tup l, b, ha, h, e => by
    cases b with
    | tup l' =>
      cases m with
      | zero => simp [D.okB] at h
      | succ m =>
        simp only [D.py, PyData.tuple.injEq] at e
        simp only [D.okB] at ha h
        rw [pyL_inj n m l l' ha h e]
    | _ => simp [D.py] at e
  | n + 1, m, .lst l, b, ha, h, e => by
    cases b with
    | lst l' =>
      cases m with
      | zero => simp [D.okB] at h
      | succ m =>
        simp only [D.py, PyData.list.injEq] at e
        simp only [D.okB] at ha h
        rw [pyL_inj n m l l' ha h e]
    | scr _ => simp [D.okB] at h
    | _ => simp [D.py] at e
  | 0, _, .tup l, _, ha, _, _ => by simp [D.okB] at ha
  | 0, _, .lst l, _, ha, _, _ => by simp [D.okB] at ha
  | _, _, .dct _ _, _, ha, _, _ => by simp [D.okB] at ha
  | _, _, .ins _ _ _, _, ha, _, _ => by simp [D.okB] at ha
  | _, _, .kdc _ _, _, ha, _, _ => by simp [D.okB] at ha
  | _, _, .scr _, _, ha, _, _ => by simp [D.okB] at ha
theorem pyL_inj : ∀ (n m : Nat) (a b : List D), D.okL n a = true → D.okL m b = true → D.pyL a = D.pyL b → a = b
  | _, _, [], [], _, _, _ => rfl
  | _, _, [], _ :: _, _, _, e => by simp [D.pyL] at e
  | _, _, _ :: _, [], _, _, e => by simp [D.pyL] at e
  | n, m, a :: l, b :: l', ha, hb, e => by
    simp only [D.pyL, List.cons.injEq] at e
    simp only [D.okL, Bool.and_eq_true] at ha hb
    rw [py_inj n m a b ha.1 hb.1 e.1, pyL_inj n m l l' ha.2 hb.2 e.2]
end
def dataOk (l : List D) : Bool := D.okL 58 l && (l.all fun a => l.all fun b => alike a.py b.py) && l.all fun a => !a.isNon
def minDD (x : D) (xs : List D) : D := xs.foldl (fun a y => if dataLt y.py a.py then y else a) x
def maxDD (x : D) (xs : List D) : D := xs.foldl (fun a y => if dataLt a.py y.py then y else a) x
theorem pyL_map : ∀ l : List D, D.pyL l = l.map D.py
  | [] => by simp [D.pyL]
  | d :: l => by simp [D.pyL, pyL_map l]
theorem minDD_py : ∀ (xs : List D) (x : D), (minDD x xs).py = minD x.py (D.pyL xs)
  | [], x => by simp [minDD, minD, D.pyL]
  | y :: xs, x => by
    have := minDD_py xs (if dataLt y.py x.py then y else x)
    simp only [minDD, minD, D.pyL, List.foldl_cons] at this ⊢
    rw [this]
    congr 1
    split <;> rfl
theorem maxDD_py : ∀ (xs : List D) (x : D), (maxDD x xs).py = maxD x.py (D.pyL xs)
  | [], x => by simp [maxDD, maxD, D.pyL]
  | y :: xs, x => by
    have := maxDD_py xs (if dataLt x.py y.py then y else x)
    simp only [maxDD, maxD, D.pyL, List.foldl_cons] at this ⊢
    rw [this]
    congr 1
    split <;> rfl
theorem minDD_mem : ∀ (xs : List D) (x : D), minDD x xs ∈ x :: xs
  | [], x => by simp [minDD]
  | y :: xs, x => by
    have := minDD_mem xs (if dataLt y.py x.py then y else x)
    simp only [minDD, List.foldl_cons] at this ⊢
    rcases List.mem_cons.mp this with e | h
    · rw [e]; split <;> simp
    · exact List.mem_cons_of_mem _ (List.mem_cons_of_mem _ h)
theorem maxDD_mem : ∀ (xs : List D) (x : D), maxDD x xs ∈ x :: xs
  | [], x => by simp [maxDD]
  | y :: xs, x => by
    have := maxDD_mem xs (if dataLt x.py y.py then y else x)
    simp only [maxDD, List.foldl_cons] at this ⊢
    rcases List.mem_cons.mp this with e | h
    · rw [e]; split <;> simp
    · exact List.mem_cons_of_mem _ (List.mem_cons_of_mem _ h)
theorem okL_mem {n : Nat} : ∀ {l : List D}, D.okL n l = true → ∀ x ∈ l, D.okB n x = true
  | [], _, _, hx => by cases hx
  | d :: l, h, x, hx => by
    simp only [D.okL, Bool.and_eq_true] at h
    rcases List.mem_cons.mp hx with rfl | hx
    · exact h.1
    · exact okL_mem h.2 x hx
theorem okB_up : ∀ {n m : Nat} {d : D}, n ≤ m → D.okB n d = true → D.okB m d = true := by
  intro n
  induction n with
  | zero => intro m d _ h; cases d <;> simp_all [D.okB]
  | succ n ih =>
    intro m d hm h
    cases m with
    | zero => omega
    | succ m =>
      have L : ∀ l : List D, D.okL n l = true → D.okL m l = true := by
        intro l
        induction l with
        | nil => intro _; simp [D.okL]
        | cons x l il =>
          intro h
          simp only [D.okL, Bool.and_eq_true] at h ⊢
          exact ⟨ih (by omega) h.1, il h.2⟩
      cases d <;> simp_all [D.okB]
def bMinD : List D → Option D
  | [.tup (x :: xs)] => if dataOk (x :: xs) = true then some (minDD x xs) else none
  | [.lst (x :: xs)] => if dataOk (x :: xs) = true then some (minDD x xs) else none
  | _ => none
def bMaxD : List D → Option D
  | [.tup (x :: xs)] => if dataOk (x :: xs) = true then some (maxDD x xs) else none
  | [.lst (x :: xs)] => if dataOk (x :: xs) = true then some (maxDD x xs) else none
  | _ => none
theorem dataOk_alike {l : List D} (h : dataOk l = true) : AlikeAll (D.pyL l) := by
  simp only [dataOk, Bool.and_eq_true, List.all_eq_true, Bool.not_eq_true'] at h
  obtain ⟨⟨h1, h2⟩, h3⟩ := h
  rw [pyL_map]
  refine ⟨fun x hx y hy => ?_, fun x hx => ?_⟩
  · obtain ⟨a, ha, rfl⟩ := List.mem_map.mp hx
    obtain ⟨b, hb, rfl⟩ := List.mem_map.mp hy
    exact h2 a ha b hb
  · obtain ⟨a, ha, rfl⟩ := List.mem_map.mp hx
    exact py_none (okB_up (by decide) (okL_mem h1 a ha)) (h3 a ha)
theorem depthAll_le : ∀ {n : Nat} {l : List D}, D.okL n l = true → PyData.depthAll (D.pyL l) ≤ n
  | n, l, h => by
    have : D.okB (n + 1) (.tup l) = true := by simpa only [D.okB] using h
    have := (ok_lay (n + 1) (.tup l) this).2
    simp only [D.py, PyData.depth] at this
    omega
section
variable [Tb] {X : Cx} {pins : List (Addr × Obj)} {σ : St} {H : Hp} {s : Shared}
/-- an item picked out of a sequence by what it reads -/
theorem pick_item {Z : Addr → Prop} {l : List D} {xs : List V} {its : List Value} {d : D} {v : Value} {h' : Heap} {bs : List Addr} (I : Inv X pins σ H s) (ho : D.okL 58 l = true) (hl : RShL X.K Z H l xs) (rv : Vals xs its) (hd : d ∈ l) {i : Nat} (hi : its.toArray[i]? = some v) (hr : Reads h' v d.py bs) (hk : ∀ b o, s.heap.get? b = some o → h'.get? b = some o) :
    ∃ y, RSh X.K Z H d y ∧ RelV y v := by
  have hi' : its[i]? = some v := by simpa using hi
  have hlen := hl.len
  have hlen2 := rv.length
  have hlt : i < its.length := (List.getElem?_eq_some_iff.mp hi').1
  obtain ⟨y, hy, ry⟩ : ∃ y, xs[i]? = some y ∧ RelV y v := by
    have : ∀ {xs : List V} {its : List Value} {i : Nat}, Vals xs its → its[i]? = some v → ∃ y, xs[i]? = some y ∧ RelV y v := by
      intro xs its i r
      induction r generalizing i with
      | nil => intro h; simp at h
      | cons a b ih =>
        intro h
        cases i with
        | zero => simp at h; subst h; exact ⟨_, rfl, a⟩
        | succ i => exact ih (by simpa using h)
    exact this rv hi'
  obtain ⟨e, he, re⟩ := hl.getV hy
  have oe := okL_mem ho e (List.mem_of_getElem? he)
  have od := okL_mem ho d hd
  obtain ⟨as, rr⟩ := Dp.reads I _ y v (RSh.dp 58 e y oe re) ry
  have := (Reads.unique (reads_keeps hk rr) d.py bs hr).1
  rw [← py_inj 58 58 e d oe od this]
  exact ⟨y, re, ry⟩
theorem c_minD (hr : X.calm = true) (hu : X.A.units + 65 < cLine) : CallR X (.builtin "min") (rFn X.K bMinD) := by
  intro pins s σ H xs us Q I r h
  obtain ⟨Z, ds, d, pl, e, k⟩ := h
  unfold bMinD at e
  split at e
  · rename_i x l
    split at e
    · rename_i ho
      cases e
      obtain ⟨v, rfl, p⟩ := pl.one
      obtain ⟨a, ys, rfl, s1, l1⟩ := p.tup
      rw [Vals.ref1 r]
      obtain ⟨its, rv, hT, _⟩ := I.tuple s1
      have ho1 : D.okL 58 (x :: l) = true := by simp only [dataOk, Bool.and_eq_true] at ho; exact ho.1.1
      obtain ⟨as, ra⟩ := Dp.readsAll I _ _ its (RShL.dp 58 _ _ ho1 l1) rv
      refine min_tuple_data (I.ok.hd hr) hT ra (dataOk_alike ho) (by have := depthAll_le ho1; simp only [D.pyL] at this; omega) fun i v h' tk bs hi rd hk => ?_
      rw [← minDD_py] at rd
      obtain ⟨y, h1, h2⟩ := pick_item I ho1 l1 rv (minDD_mem l x) hi rd hk
      exact ⟨y, H, I.kept hk, h2, fin0 h1 k⟩
    · cases e
  · rename_i x l
    split at e
    · rename_i ho
      cases e
      obtain ⟨v, rfl, p⟩ := pl.one
      obtain ⟨a, ys, rfl, s1, l1⟩ := p.lst
      rw [Vals.ref1 r]
      obtain ⟨its, rv, hT, _⟩ := I.list (SqL.of s1)
      have ho1 : D.okL 58 (x :: l) = true := by simp only [dataOk, Bool.and_eq_true] at ho; exact ho.1.1
      obtain ⟨as, ra⟩ := Dp.readsAll I _ _ its (RShL.dp 58 _ _ ho1 l1) rv
      refine min_list_data (I.ok.hd hr) hT.isList ra (dataOk_alike ho) (by have := depthAll_le ho1; simp only [D.pyL] at this; omega) fun i v h' tk bs hi rd hk => ?_
      rw [← minDD_py] at rd
      obtain ⟨y, h1, h2⟩ := pick_item I ho1 l1 rv (minDD_mem l x) hi rd hk
      exact ⟨y, H, I.kept hk, h2, fin0 h1 k⟩
    · cases e
  · cases e
theorem c_maxD (hr : X.calm = true) (hu : X.A.units + 65 < cLine) : CallR X (.builtin "max") (rFn X.K bMaxD) := by
  intro pins s σ H xs us Q I r h
  obtain ⟨Z, ds, d, pl, e, k⟩ := h
  unfold bMaxD at e
  split at e
  · rename_i x l
    split at e
    · rename_i ho
      cases e
      obtain ⟨v, rfl, p⟩ := pl.one
      obtain ⟨a, ys, rfl, s1, l1⟩ := p.tup
      rw [Vals.ref1 r]
      obtain ⟨its, rv, hT, _⟩ := I.tuple s1
      have ho1 : D.okL 58 (x :: l) = true := by simp only [dataOk, Bool.and_eq_true] at ho; exact ho.1.1
      obtain ⟨as, ra⟩ := Dp.readsAll I _ _ its (RShL.dp 58 _ _ ho1 l1) rv
      refine max_tuple_data (I.ok.hd hr) hT ra (dataOk_alike ho) (by have := depthAll_le ho1; simp only [D.pyL] at this; omega) fun i v h' tk bs hi rd hk => ?_
      rw [← maxDD_py] at rd
      obtain ⟨y, h1, h2⟩ := pick_item I ho1 l1 rv (maxDD_mem l x) hi rd hk
      exact ⟨y, H, I.kept hk, h2, fin0 h1 k⟩
    · cases e
  · rename_i x l
    split at e
    · rename_i ho
      cases e
      obtain ⟨v, rfl, p⟩ := pl.one
      obtain ⟨a, ys, rfl, s1, l1⟩ := p.lst
      rw [Vals.ref1 r]
      obtain ⟨its, rv, hT, _⟩ := I.list (SqL.of s1)
      have ho1 : D.okL 58 (x :: l) = true := by simp only [dataOk, Bool.and_eq_true] at ho; exact ho.1.1
      obtain ⟨as, ra⟩ := Dp.readsAll I _ _ its (RShL.dp 58 _ _ ho1 l1) rv
      refine max_list_data (I.ok.hd hr) hT.isList ra (dataOk_alike ho) (by have := depthAll_le ho1; simp only [D.pyL] at this; omega) fun i v h' tk bs hi rd hk => ?_
      rw [← maxDD_py] at rd
      obtain ⟨y, h1, h2⟩ := pick_item I ho1 l1 rv (maxDD_mem l x) hi rd hk
      exact ⟨y, H, I.kept hk, h2, fin0 h1 k⟩
    · cases e
  · cases e
end
theorem call_min_twoH {prog : Program} {w : World} {A : Around} {E : Value → Shared → Prop} {s : Shared} {a b : Value} {Q : Value → Shared → Prop}
    (h : wpAny (model prog w) A.in1 (pyIter (.ref s.heap.objs.size)) (fun it s₂ => ∃ I fp wr G n P St H bt, it = .ref I ∧ WalksS prog w A.in1 I fp wr G n P St ∧ St 0 s₂ ∧ (∀ b ∈ fp, b < s₂.heap.objs.size) ∧ 0 < n ∧
      (∀ b o, H.get? b = some o → b ∉ wr) ∧ (∀ b o, H.get? b = some o → s₂.heap.get? b = some o) ∧ CmpIn prog w A.in1 .Lt H P bt ∧ ∀ v s', P (argBest bt (n - 1)) v → Moved wr G s₂ s' → Q v s') E
      { s with heap := s.heap.push { cls := .type "tuple", data := .seq #[a, b] } }) :
    wpAny (model prog w) A (call (.builtin "min") [a, b]) Q E s := by
  have hname : (toString "min" ++ toString ".loop" : String) = "min.loop" := by decide
  refine call_function_tree F.kind_min F.plain_min F.entry_min (F.args_min2 _ _) ?_
  show wpAny _ A.in1 (Builtin.Builtins.bindParams "min" ["key", "default"] 0 ⟨[], []⟩ >>= _) _ _ s
  refine wpAny_bind (wpAny_of_eq (show Builtin.Builtins.bindParams "min" ["key", "default"] 0 ⟨[], []⟩ = pure [none, none] from rfl) ?_)
  show wpAny _ A.in1 (newTuple [a, b] >>= _) _ _ s
  refine wpAny_bind (wpAny_newObj_type ?_)
  refine wpAny_bind (wpAny_mono h (fun it s₂ h₂ => ?_) fun _ _ e => e)
  obtain ⟨I, fp, wr, G, n, P, St, H, bt, rfl, W, hst, hfp, hn, hw, hkeep, hcmp, hQ⟩ := h₂
  refine wpAny_bind (wpAny_newObj_type ?_)
  have hSf : s₂.heap.objs.size ∉ fp := fun hm => Nat.lt_irrefl _ (hfp _ hm)
  rw [hname]
  refine wpAny_pure ⟨plainId_quiet F.plain_min_loop _, codeAny_min_loop_firstH W H hw bt hcmp s₂.heap.objs.size hSf (fresh_in hkeep) _ hn (fun b o e => Heap.get?_push_of_some _ (hkeep b o e)) (W.frame 0 s₂ _ s₂.toks hst (Nat.le_refl _) fun b _ o e => Heap.get?_push_of_some _ e) (Heap.get?_push_size _ rfl) fun v s' hP hm => ?_⟩
  exact hQ v s' hP (Moved.drop_new (tk := s₂.toks) hm (Nat.le_refl _))
/-- min of two data -/
theorem min_two_data {prog : Program} {w : World} {A : Around} {E : Value → Shared → Prop} {s : Shared} {a b : Value} {x y : PyData} {as : List Addr} {Q : Value → Shared → Prop} (hh : A.handled = none) (hr : ReadsAll s.heap [a, b] [x, y] as) (ha : AlikeAll [x, y]) (hu : A.units + 1 + PyData.depthAll [x, y] < cLine)
    (h : ∀ (i : Nat) v h' tk bs, [a, b].toArray[i]? = some v → Reads h' v (minD x [y]) bs → (∀ b o, s.heap.get? b = some o → h'.get? b = some o) → Q v { s with heap := h', toks := tk }) :
    wpAny (model prog w) A (call (.builtin "min") [a, b]) Q E s := by
  have hT : (s.heap.push { cls := .type "tuple", data := .seq #[a, b] }).IsTuple s.heap.objs.size #[a, b] := ⟨_, Heap.get?_push_size _ rfl, rfl, 0, rfl⟩
  have k1 : ∀ b' o, s.heap.get? b' = some o → (s.heap.push { cls := .type "tuple", data := .seq #[a, b] }).get? b' = some o := fun b' o e => Heap.get?_push_of_some _ e
  have hr' : ReadsAll (s.heap.push { cls := .type "tuple", data := .seq #[a, b] }) [a, b] [x, y] as := PyProof.Rows.ReadsAll.keeps k1 hr
  refine call_min_twoH (iter_tupleW (s := { s with heap := s.heap.push { cls := .type "tuple", data := .seq #[a, b] } }) (A := A.in1) hh hT fun s₂ e W st hfp hw hk => ?_)
  refine ⟨_, _, _, _, _, _, _, s.heap.push { cls := .type "tuple", data := .seq #[a, b] }, _, rfl, W, st, hfp, by simp, hw, hk, cmpIn_lt (s := { s with heap := s.heap.push { cls := .type "tuple", data := .seq #[a, b] } }) (A := A.in1) hr' ha (by show A.units + 1 + _ < _; exact hu), fun v s' hP m => ?_⟩
  obtain ⟨h', tk, rfl, hk'⟩ := moved_old e rfl m
  obtain ⟨bs, r, _, _, _⟩ := readsAll_atA hr' _ v hP
  have e2 := (argBest_fold dataLt PyData.none x [y] 1 (Nat.le_refl _)).2
  rw [show List.take 1 [y] = [y] from rfl] at e2
  exact h _ v h' tk bs hP (reads_keeps hk' (by unfold minD; rw [← e2]; exact r)) fun b' o e => hk' b' o (k1 b' o e)
theorem call_max_twoH {prog : Program} {w : World} {A : Around} {E : Value → Shared → Prop} {s : Shared} {a b : Value} {Q : Value → Shared → Prop}
    (h : wpAny (model prog w) A.in1 (pyIter (.ref s.heap.objs.size)) (fun it s₂ => ∃ I fp wr G n P St H bt, it = .ref I ∧ WalksS prog w A.in1 I fp wr G n P St ∧ St 0 s₂ ∧ (∀ b ∈ fp, b < s₂.heap.objs.size) ∧ 0 < n ∧
      (∀ b o, H.get? b = some o → b ∉ wr) ∧ (∀ b o, H.get? b = some o → s₂.heap.get? b = some o) ∧ CmpIn prog w A.in1 .Gt H P bt ∧ ∀ v s', P (argBest bt (n - 1)) v → Moved wr G s₂ s' → Q v s') E
      { s with heap := s.heap.push { cls := .type "tuple", data := .seq #[a, b] } }) :
    wpAny (model prog w) A (call (.builtin "max") [a, b]) Q E s := by
  have hname : (toString "max" ++ toString ".loop" : String) = "max.loop" := by decide
  refine call_function_tree F.kind_max F.plain_max F.entry_max (F.args_max2 _ _) ?_
  show wpAny _ A.in1 (Builtin.Builtins.bindParams "max" ["key", "default"] 0 ⟨[], []⟩ >>= _) _ _ s
  refine wpAny_bind (wpAny_of_eq (show Builtin.Builtins.bindParams "max" ["key", "default"] 0 ⟨[], []⟩ = pure [none, none] from rfl) ?_)
  show wpAny _ A.in1 (newTuple [a, b] >>= _) _ _ s
  refine wpAny_bind (wpAny_newObj_type ?_)
  refine wpAny_bind (wpAny_mono h (fun it s₂ h₂ => ?_) fun _ _ e => e)
  obtain ⟨I, fp, wr, G, n, P, St, H, bt, rfl, W, hst, hfp, hn, hw, hkeep, hcmp, hQ⟩ := h₂
  refine wpAny_bind (wpAny_newObj_type ?_)
  have hSf : s₂.heap.objs.size ∉ fp := fun hm => Nat.lt_irrefl _ (hfp _ hm)
  rw [hname]
  refine wpAny_pure ⟨plainId_quiet F.plain_max_loop _, codeAny_max_loop_firstH W H hw bt hcmp s₂.heap.objs.size hSf (fresh_in hkeep) _ hn (fun b o e => Heap.get?_push_of_some _ (hkeep b o e)) (W.frame 0 s₂ _ s₂.toks hst (Nat.le_refl _) fun b _ o e => Heap.get?_push_of_some _ e) (Heap.get?_push_size _ rfl) fun v s' hP hm => ?_⟩
  exact hQ v s' hP (Moved.drop_new (tk := s₂.toks) hm (Nat.le_refl _))
/-- max of two data -/
theorem max_two_data {prog : Program} {w : World} {A : Around} {E : Value → Shared → Prop} {s : Shared} {a b : Value} {x y : PyData} {as : List Addr} {Q : Value → Shared → Prop} (hh : A.handled = none) (hr : ReadsAll s.heap [a, b] [x, y] as) (ha : AlikeAll [x, y]) (hu : A.units + 1 + PyData.depthAll [x, y] < cLine)
    (h : ∀ (i : Nat) v h' tk bs, [a, b].toArray[i]? = some v → Reads h' v (maxD x [y]) bs → (∀ b o, s.heap.get? b = some o → h'.get? b = some o) → Q v { s with heap := h', toks := tk }) :
    wpAny (model prog w) A (call (.builtin "max") [a, b]) Q E s := by
  have hT : (s.heap.push { cls := .type "tuple", data := .seq #[a, b] }).IsTuple s.heap.objs.size #[a, b] := ⟨_, Heap.get?_push_size _ rfl, rfl, 0, rfl⟩
  have k1 : ∀ b' o, s.heap.get? b' = some o → (s.heap.push { cls := .type "tuple", data := .seq #[a, b] }).get? b' = some o := fun b' o e => Heap.get?_push_of_some _ e
  have hr' : ReadsAll (s.heap.push { cls := .type "tuple", data := .seq #[a, b] }) [a, b] [x, y] as := PyProof.Rows.ReadsAll.keeps k1 hr
  refine call_max_twoH (iter_tupleW (s := { s with heap := s.heap.push { cls := .type "tuple", data := .seq #[a, b] } }) (A := A.in1) hh hT fun s₂ e W st hfp hw hk => ?_)
  refine ⟨_, _, _, _, _, _, _, s.heap.push { cls := .type "tuple", data := .seq #[a, b] }, _, rfl, W, st, hfp, by simp, hw, hk, cmpIn_gt (s := { s with heap := s.heap.push { cls := .type "tuple", data := .seq #[a, b] } }) (A := A.in1) hr' ha (by show A.units + 1 + _ < _; exact hu), fun v s' hP m => ?_⟩
  obtain ⟨h', tk, rfl, hk'⟩ := moved_old e rfl m
  obtain ⟨bs, r, _, _, _⟩ := readsAll_atA hr' _ v hP
  have e2 := (argBest_fold (fun a b => dataLt b a) PyData.none x [y] 1 (Nat.le_refl _)).2
  rw [show List.take 1 [y] = [y] from rfl] at e2
  exact h _ v h' tk bs hP (reads_keeps hk' (by unfold maxD; rw [← e2]; exact r)) fun b' o e => hk' b' o (k1 b' o e)
def isLst : D → Bool
  | .lst _ => true
  | _ => false
def bMin2D : List D → Option D
  | [x, y] => if (dataOk [x, y] && !isLst x && !isLst y) = true then some (minDD x [y]) else none
  | _ => none
def bMax2D : List D → Option D
  | [x, y] => if (dataOk [x, y] && !isLst x && !isLst y) = true then some (maxDD x [y]) else none
  | _ => none
section
variable [Tb] {X : Cx}
theorem Pk0.noL [Tb] {K : PySem.W.Frag} {Z : Addr → Prop} {H : Hp} {a : D} {x : V} (h : Pk0 K Z H a x) (n : isLst a = false) : RSh K Z H a x := by
  rcases h with h | ⟨l, _, _, rfl, _⟩
  · exact h
  · cases n
theorem two_item {pins : List (Addr × Obj)} {σ : St} {H : Hp} {s : Shared} {Z : Addr → Prop} {x y d : D} {v1 v2 : V} {u1 u2 v : Value} {h' : Heap} {bs : List Addr} (I : Inv X pins σ H s) (ho : D.okL 58 [x, y] = true) (p1 : RSh X.K Z H x v1) (p2 : RSh X.K Z H y v2) (r1 : RelV v1 u1) (r2 : RelV v2 u2) (hd : d ∈ [x, y]) {i : Nat} (hi : [u1, u2].toArray[i]? = some v) (hr : Reads h' v d.py bs) (hk : ∀ b o, s.heap.get? b = some o → h'.get? b = some o) :
    ∃ z, RSh X.K Z H d z ∧ RelV z v := by
  have key : ∀ e z, RSh X.K Z H e z → RelV z v → e ∈ [x, y] → e = d := fun e z pe re he => by
    obtain ⟨as, rr⟩ := Dp.reads I _ z v (RSh.dp 58 e z (okL_mem ho e he) pe) re
    have := (Reads.unique (reads_keeps hk rr) d.py bs hr).1
    exact py_inj 58 58 e d (okL_mem ho e he) (okL_mem ho d hd) this
  match i, hi with
  | 0, hi =>
    have e : u1 = v := by simpa using hi
    subst e
    rw [← key x v1 p1 r1 (by simp)]
    exact ⟨v1, p1, r1⟩
  | 1, hi =>
    have e : u2 = v := by simpa using hi
    subst e
    rw [← key y v2 p2 r2 (by simp)]
    exact ⟨v2, p2, r2⟩
  | n + 2, hi => simp at hi
theorem c_min2D (hr : X.calm = true) (hu : X.A.units + 65 < cLine) : CallR X (.builtin "min") (rFn X.K bMin2D) := by
  intro pins s σ H xs us Q I r h
  obtain ⟨Z, ds, d, pl, e, k⟩ := h
  unfold bMin2D at e
  split at e
  · rename_i x y
    split at e
    · rename_i ho
      cases e
      simp only [Bool.and_eq_true, Bool.not_eq_true'] at ho
      obtain ⟨⟨ho, n1⟩, n2⟩ := ho
      obtain ⟨v1, v2, rfl, q1, q2⟩ := pl.two
      have p1 := q1.noL n1
      have p2 := q2.noL n2
      obtain ⟨u1, u2, rfl, r1, r2⟩ := vals2 r
      have ho1 : D.okL 58 [x, y] = true := by simp only [dataOk, Bool.and_eq_true] at ho; exact ho.1.1
      have dp : DpAll X.K H [v1, v2] (D.pyL [x, y]) := RShL.dp (Z := Z) 58 _ _ ho1 (by simp only [RShL]; exact ⟨v1, _, rfl, p1, v2, _, rfl, p2, rfl⟩)
      obtain ⟨as, ra⟩ := Dp.readsAll I _ _ [u1, u2] dp r
      refine min_two_data (I.ok.hd hr) ra (dataOk_alike ho) (by have := depthAll_le ho1; simp only [D.pyL] at this; omega) fun i v h' tk bs hi rd hk => ?_
      rw [show minD x.py [y.py] = minD x.py (D.pyL [y]) by simp [D.pyL], ← minDD_py] at rd
      obtain ⟨z, h1, h2⟩ := two_item I ho1 p1 p2 r1 r2 (minDD_mem [y] x) hi rd hk
      exact ⟨z, H, I.kept hk, h2, fin0 h1 k⟩
    · cases e
  · cases e
theorem c_max2D (hr : X.calm = true) (hu : X.A.units + 65 < cLine) : CallR X (.builtin "max") (rFn X.K bMax2D) := by
  intro pins s σ H xs us Q I r h
  obtain ⟨Z, ds, d, pl, e, k⟩ := h
  unfold bMax2D at e
  split at e
  · rename_i x y
    split at e
    · rename_i ho
      cases e
      simp only [Bool.and_eq_true, Bool.not_eq_true'] at ho
      obtain ⟨⟨ho, n1⟩, n2⟩ := ho
      obtain ⟨v1, v2, rfl, q1, q2⟩ := pl.two
      have p1 := q1.noL n1
      have p2 := q2.noL n2
      obtain ⟨u1, u2, rfl, r1, r2⟩ := vals2 r
      have ho1 : D.okL 58 [x, y] = true := by simp only [dataOk, Bool.and_eq_true] at ho; exact ho.1.1
      have dp : DpAll X.K H [v1, v2] (D.pyL [x, y]) := RShL.dp (Z := Z) 58 _ _ ho1 (by simp only [RShL]; exact ⟨v1, _, rfl, p1, v2, _, rfl, p2, rfl⟩)
      obtain ⟨as, ra⟩ := Dp.readsAll I _ _ [u1, u2] dp r
      refine max_two_data (I.ok.hd hr) ra (dataOk_alike ho) (by have := depthAll_le ho1; simp only [D.pyL] at this; omega) fun i v h' tk bs hi rd hk => ?_
      rw [show maxD x.py [y.py] = maxD x.py (D.pyL [y]) by simp [D.pyL], ← maxDD_py] at rd
      obtain ⟨z, h1, h2⟩ := two_item I ho1 p1 p2 r1 r2 (maxDD_mem [y] x) hi rd hk
      exact ⟨z, H, I.kept hk, h2, fin0 h1 k⟩
    · cases e
  · cases e
end
def sortB (l : List D) : Bool := (l.all fun d => match d with | .tup (_ :: _) => true | _ => false) || l.all fun d => match d with | .tup _ => false | _ => true
def leD (a b : D) : Bool := dataLe false D.py a b
def sortDD : List D → Option (List D)
  | [.lst l] => if (dataOk l && sortB l) = true then some (l.mergeSort leD) else none
  | _ => none
theorem sortB_is {l : List D} (ho : D.okL 58 l = true) (hn : ∀ d ∈ l, d.isNon = false) (h : sortB l = true) : Sortable (l.map D.py) := by
  simp only [sortB, Bool.or_eq_true, List.all_eq_true] at h
  rcases h with h | h
  · refine .inl fun d hd => ?_
    obtain ⟨e, he, rfl⟩ := List.mem_map.mp hd
    have := h e he
    cases e with
    | tup l =>
      cases l with
      | nil => cases this
      | cons x r => exact ⟨x.py, D.pyL r, by simp [D.py, D.pyL]⟩
    | _ => cases this
  · refine .inr fun d hd => ?_
    obtain ⟨e, he, rfl⟩ := List.mem_map.mp hd
    refine ⟨py_none (okB_up (by decide) (okL_mem ho e he)) (hn e he), fun xs hx => ?_⟩
    have := h e he
    cases e with
    | tup l => cases this
    | dct _ _ => have := okL_mem ho _ he; simp [D.okB] at this
    | kdc _ _ => have := okL_mem ho _ he; simp [D.okB] at this
    | ins _ _ _ => have := okL_mem ho _ he; simp [D.okB] at this
    | _ => simp [D.py] at hx
section
variable [Tb] {X : Cx} {pins : List (Addr × Obj)} {σ : St} {H : Hp} {s : Shared} {Z : Addr → Prop}
theorem each_of : ∀ {l : List D} {ys : List V} {its : List Value}, RShL X.K Z H l ys → Vals ys its → EachIs (fun v d => ∃ y, RSh X.K Z H d y ∧ RelV y v) its l
  | [], ys, its, h, r => by
    simp only [RShL] at h; subst h
    cases r
    exact .nil
  | d :: l, ys, its, h, r => by
    simp only [RShL] at h
    obtain ⟨y, ys', rfl, h1, h2⟩ := h
    cases r with
    | cons r1 r2 => exact .cons ⟨y, h1, r1⟩ (each_of h2 r2)
theorem of_each : ∀ {l : List D} {its : List Value}, EachIs (fun v d => ∃ y, RSh X.K Z H d y ∧ RelV y v) its l → ∃ ys, RShL X.K Z H l ys ∧ Vals ys its
  | [], _, .nil => ⟨[], by simp only [RShL], .nil⟩
  | d :: l, _, .cons ⟨y, h1, h2⟩ t => by
    obtain ⟨ys, a, b⟩ := of_each t
    exact ⟨y :: ys, by simp only [RShL]; exact ⟨y, ys, rfl, h1, a⟩, .cons h2 b⟩
theorem each_reads (I : Inv X pins σ H s) : ∀ {l : List D} {its : List Value}, D.okL 58 l = true → EachIs (fun v d => ∃ y, RSh X.K Z H d y ∧ RelV y v) its l → EachIs (fun v d => ∃ as, Reads s.heap v (D.py d) as) its l
  | [], _, _, .nil => .nil
  | d :: l, _, ho, .cons ⟨y, h1, h2⟩ t => by
    simp only [D.okL, Bool.and_eq_true] at ho
    exact .cons (Dp.reads I _ y _ (RSh.dp 58 d y ho.1 h1) h2) (each_reads I ho.2 t)
theorem c_sortedD (hr : X.calm = true) (hu : X.A.units + 65 < cLine) : CallR X (.builtin "sorted") (rLn X.K sortDD) := by
  intro pins s σ H xs us Q I r h
  obtain ⟨Z, ds, l, pl, e, k⟩ := h
  unfold sortDD at e
  split at e
  · rename_i l0
    split at e
    · rename_i ho
      cases e
      simp only [Bool.and_eq_true] at ho
      obtain ⟨ho, hs⟩ := ho
      have ho1 : D.okL 58 l0 = true := by simp only [dataOk, Bool.and_eq_true] at ho; exact ho.1.1
      have hn : ∀ d ∈ l0, d.isNon = false := by
        simp only [dataOk, Bool.and_eq_true, List.all_eq_true, Bool.not_eq_true'] at ho
        exact ho.2
      have hal : AllAlike (l0.map D.py) := by
        have := (dataOk_alike ho).1
        rw [pyL_map] at this
        exact this
      obtain ⟨v, rfl, p⟩ := pl.one
      obtain ⟨a, ys, rfl, s1, l1⟩ := p.lst
      rw [Vals.ref1 r]
      obtain ⟨its, rv, hT, hz⟩ := I.list (SqL.of s1)
      have ea := each_of l1 rv
      have hlen : l0.length ≤ sizeLine := by rw [l1.len]; exact hz
      refine sorted_data hT.isList ea (each_reads I ho1 ea) hal (sortB_is ho1 hn hs) hlen (fun b hb => ?_) fun out hol eo => ?_
      · have := (ok_lay 58 b (okL_mem ho1 b hb)).2
        omega
      · obtain ⟨ys', r1, r2⟩ := of_each eo
        obtain ⟨ep, he'⟩ := PyProof.Rows.sortedAll_at s.heap its out.toArray
        have hl' : ys'.length ≤ sizeLine := by
          have h1 := r2.length
          rw [h1, hol]; exact hlen
        refine ⟨.ref _, upd H (s.heap.objs.size + 1) (.lst ys'), I.laid (t' := s.toks) (fun _ _ => PyProof.Rows.sortedAll_old) (Nat.le_succ _) ⟨hl', out, ep, r2, he'⟩, rfl, k _ ys' (I.hok.fresh (Nat.le_succ _)) r1⟩
    · cases e
  · cases e
end
end CL
namespace CLG
structure Sp where
  n : Int
  m : Int
  d : Int
deriving DecidableEq
def g3 (n m d : Int) : Nat := Int.gcd (Int.gcd n m) d
def low (n m d : Int) : Sp := ⟨n / g3 n m d, m / g3 n m d, d / g3 n m d⟩
theorem g3_pos {n m d : Int} (hd : d ≠ 0) : 0 < g3 n m d := Int.gcd_pos_of_ne_zero_right _ hd
theorem g3_dn {n m d : Int} : (g3 n m d : Int) ∣ n := Int.dvd_trans (Int.gcd_dvd_left ..) (Int.gcd_dvd_left ..)
theorem g3_dm {n m d : Int} : (g3 n m d : Int) ∣ m := Int.dvd_trans (Int.gcd_dvd_left ..) (Int.gcd_dvd_right ..)
theorem g3_dd {n m d : Int} : (g3 n m d : Int) ∣ d := Int.gcd_dvd_right ..
theorem g3_mul {n m d k : Int} (hk : 0 ≤ k) : (g3 (n * k) (m * k) (d * k) : Int) = g3 n m d * k := by
  have e : ((k.natAbs : Nat) : Int) = k := Int.natAbs_of_nonneg hk
  unfold g3
  rw [Int.gcd_mul_right, show (((Int.gcd n m * k.natAbs : Nat) : Int)) = (Int.gcd n m : Int) * k by rw [Int.natCast_mul, e], Int.gcd_mul_right, Int.natCast_mul, e]
theorem quot_eq {a b g h d e : Int} (hg : g ∣ a) (hh : h ∣ b) (e1 : g * e = h * d) (hgne : g * e ≠ 0) (e2 : a * e = b * d) : a / g = b / h := by
  obtain ⟨q, rfl⟩ := hg
  obtain ⟨r, rfl⟩ := hh
  have g0 : g ≠ 0 := fun z => hgne (by rw [z]; simp)
  have h0 : h ≠ 0 := fun z => hgne (by rw [e1, z]; simp)
  rw [Int.mul_ediv_cancel_left _ g0, Int.mul_ediv_cancel_left _ h0]
  have : (g * e) * q = (g * e) * r := by
    calc (g * e) * q = g * q * e := by grind
      _ = h * r * d := e2
      _ = (h * d) * r := by grind
      _ = (g * e) * r := by rw [e1]
  exact Int.eq_of_mul_eq_mul_left hgne this
/-- the same place, the same spot -/
theorem low_eq {n m d n' m' d' : Int} (hd : 0 < d) (hd' : 0 < d') (h1 : n * d' = n' * d) (h2 : m * d' = m' * d) : low n m d = low n' m' d' := by
  have k : (g3 n m d : Int) * d' = g3 n' m' d' * d := by
    rw [← g3_mul (by omega), ← g3_mul (by omega), h1, h2, Int.mul_comm d d']
  have p : (g3 n m d : Int) * d' ≠ 0 := by
    have := g3_pos (n := n) (m := m) (d := d) (by omega)
    exact Int.mul_ne_zero (by omega) (by omega)
  unfold low
  rw [quot_eq g3_dn g3_dn k p h1, quot_eq g3_dm g3_dm k p h2, quot_eq g3_dd g3_dd k p (Int.mul_comm d d')]
theorem low_val {n m d : Int} (hd : 0 < d) : 0 < (low n m d).d ∧ n * (low n m d).d = (low n m d).n * d ∧ m * (low n m d).d = (low n m d).m * d ∧ g3 (low n m d).n (low n m d).m (low n m d).d = 1 := by
  have p := g3_pos (n := n) (m := m) (d := d) (by omega)
  obtain ⟨a, ha⟩ := g3_dn (n := n) (m := m) (d := d)
  obtain ⟨b, hb⟩ := g3_dm (n := n) (m := m) (d := d)
  obtain ⟨c, hc⟩ := g3_dd (n := n) (m := m) (d := d)
  have g0 : ((g3 n m d : Nat) : Int) ≠ 0 := by omega
  have ea : (low n m d).n = a := by show n / _ = a; conv => lhs; lhs; rw [ha]
                                    rw [Int.mul_ediv_cancel_left _ g0]
  have eb : (low n m d).m = b := by show m / _ = b; conv => lhs; lhs; rw [hb]
                                    rw [Int.mul_ediv_cancel_left _ g0]
  have ec : (low n m d).d = c := by show d / _ = c; conv => lhs; lhs; rw [hc]
                                    rw [Int.mul_ediv_cancel_left _ g0]
  rw [ea, eb, ec]
  generalize hG : ((g3 n m d : Nat) : Int) = G at *
  have c0 : 0 < c := by
    rw [hc] at hd
    exact Int.pos_of_mul_pos_right hd (by omega)
  refine ⟨c0, by rw [ha, hc]; grind, by rw [hb, hc]; grind, ?_⟩
  have e := g3_mul (n := a) (m := b) (d := c) (k := G) (by omega)
  rw [Int.mul_comm a, Int.mul_comm b, Int.mul_comm c, ← ha, ← hb, ← hc, hG] at e
  have : (g3 a b c : Int) = 1 := by
    have : G * (g3 a b c : Int) = G * 1 := by rw [Int.mul_one, Int.mul_comm]; exact e.symm
    exact Int.eq_of_mul_eq_mul_left g0 this
  omega
theorem low_self {n m d : Int} (h : g3 n m d = 1) : low n m d = ⟨n, m, d⟩ := by unfold low; rw [h]; simp
theorem low_one {n m : Int} : low n m 1 = ⟨n, m, 1⟩ := low_self (by unfold g3; simp)
def turn (a b c d : Int) : Int := a * d - b * c
structure Li where
  x : Int
  y : Int
  u : Int
  v : Int
deriving DecidableEq
namespace Li
variable (p q : Li)
def ok : Prop := ¬ (p.x = p.u ∧ p.y = p.v)
def rev : Li := ⟨p.u, p.v, p.x, p.y⟩
def k : Int := turn (q.x - p.x) (q.y - p.y) (q.u - q.x) (q.v - q.y)
def l : Int := turn (q.x - p.x) (q.y - p.y) (p.u - p.x) (p.v - p.y)
def m : Int := turn (p.u - p.x) (p.v - p.y) (q.u - q.x) (q.v - q.y)
def far : Int := turn (p.u - p.x) (p.v - p.y) (q.x - p.x) (q.y - p.y)
end Li
def sg (m : Int) : Int := if m < 0 then -1 else 1
theorem sg_neg {m : Int} (h : m ≠ 0) : sg (-m) = -sg m := by unfold sg; split <;> split <;> omega
structure Pn where
  x : Int
  y : Int
deriving DecidableEq
def Pn.lt (a b : Pn) : Bool := decide (a.x < b.x) || (decide (a.x = b.x) && decide (a.y < b.y))
theorem Pn.lt_iff {a b : Pn} : a.lt b = true ↔ a.x < b.x ∨ (a.x = b.x ∧ a.y < b.y) := by simp [Pn.lt]
theorem Pn.nlt_iff {a b : Pn} : a.lt b = false ↔ b.x < a.x ∨ (a.x = b.x ∧ b.y ≤ a.y) := by
  rw [← Bool.not_eq_true, Pn.lt_iff]; omega
theorem Pn.eq_of {a b : Pn} (h1 : a.lt b = false) (h2 : b.lt a = false) : a = b := by
  rw [Pn.nlt_iff] at h1 h2
  cases a; cases b; simp at *; omega
def pmin (a b : Pn) : Pn := if b.lt a then b else a
def pmax (a b : Pn) : Pn := if a.lt b then b else a
theorem pmin_comm (a b : Pn) : pmin a b = pmin b a := by
  unfold pmin
  cases h1 : b.lt a <;> cases h2 : a.lt b <;> simp
  · exact Pn.eq_of h2 h1
  · rw [Pn.lt_iff] at h1 h2; omega
theorem pmax_comm (a b : Pn) : pmax a b = pmax b a := by
  unfold pmax
  cases h1 : b.lt a <;> cases h2 : a.lt b <;> simp
  · exact Pn.eq_of h2 h1
  · rw [Pn.lt_iff] at h1 h2; omega
namespace Li
variable (p q : Li)
def a : Pn := ⟨p.x, p.y⟩
def b : Pn := ⟨p.u, p.v⟩
def lo : Pn := pmin p.a p.b
def hi : Pn := pmax p.a p.b
theorem lo_rev : p.rev.lo = p.lo := pmin_comm _ _
theorem hi_rev : p.rev.hi = p.hi := pmax_comm _ _
def along : List Sp :=
  if (pmin p.hi q.hi).lt (pmax p.lo q.lo) then []
  else if pmax p.lo q.lo = pmin p.hi q.hi then [⟨(pmax p.lo q.lo).x, (pmax p.lo q.lo).y, 1⟩]
  else [⟨(pmax p.lo q.lo).x, (pmax p.lo q.lo).y, 1⟩, ⟨(pmin p.hi q.hi).x, (pmin p.hi q.hi).y, 1⟩]
theorem along_comm : q.along p = p.along q := by unfold along; rw [pmax_comm, pmin_comm]
theorem along_rev : p.rev.along q = p.along q := by unfold along; rw [lo_rev, hi_rev]
def meetB : Bool := decide (0 ≤ sg (p.m q) * p.k q ∧ sg (p.m q) * p.k q ≤ sg (p.m q) * p.m q) && decide (0 ≤ sg (p.m q) * p.l q ∧ sg (p.m q) * p.l q ≤ sg (p.m q) * p.m q)
def spot : Sp := low (p.x * (sg (p.m q) * p.m q) + sg (p.m q) * p.k q * (p.u - p.x)) (p.y * (sg (p.m q) * p.m q) + sg (p.m q) * p.k q * (p.v - p.y)) (sg (p.m q) * p.m q)
/-- what two lines have in common -/
def common : List Sp := if p.m q = 0 then (if p.far q = 0 then p.along q else []) else if p.meetB q then [p.spot q] else []
theorem m_comm : q.m p = -p.m q := by simp only [m, turn]; grind
theorem k_comm : q.k p = -p.l q := by simp only [k, l, turn]; grind
theorem l_comm : q.l p = -p.k q := by simp only [k, l, turn]; grind
theorem m_rev : p.rev.m q = -p.m q := by simp only [m, rev, turn]; grind
theorem k_rev : p.rev.k q = p.k q - p.m q := by simp only [k, m, rev, turn]; grind
theorem l_rev : p.rev.l q = -p.l q := by simp only [l, rev, turn]; grind
theorem sgm_pos (h : p.m q ≠ 0) : 0 < sg (p.m q) * p.m q := by unfold sg; split <;> omega
theorem far_comm (hp : p.ok) (hm : p.m q = 0) (h : p.far q = 0) : q.far p = 0 := by
  simp only [far, m, turn] at *
  have e1 : (p.u - p.x) * ((q.u - q.x) * (p.y - q.y) - (q.v - q.y) * (p.x - q.x)) = 0 := by grind
  have e2 : (p.v - p.y) * ((q.u - q.x) * (p.y - q.y) - (q.v - q.y) * (p.x - q.x)) = 0 := by grind
  rcases Int.mul_eq_zero.mp e1 with h1 | h1
  · rcases Int.mul_eq_zero.mp e2 with h2 | h2
    · exact absurd ⟨by omega, by omega⟩ hp
    · exact h2
  · exact h1
theorem far_rev (hm : p.m q = 0) : p.rev.far q = 0 ↔ p.far q = 0 := by
  simp only [far, rev, turn]
  constructor <;> intro h <;> grind
theorem spot_comm (h : p.m q ≠ 0) : q.spot p = p.spot q := by
  have e : sg (q.m p) * q.m p = sg (p.m q) * p.m q := by rw [m_comm, sg_neg h]; grind
  have e' : sg (q.m p) * q.k p = sg (p.m q) * p.l q := by rw [m_comm, k_comm, sg_neg h]; grind
  unfold spot
  rw [e, e']
  congr 1
  · have : q.x * p.m q + p.l q * (q.u - q.x) = p.x * p.m q + p.k q * (p.u - p.x) := by simp only [m, l, k, turn]; grind
    have h2 : sg (p.m q) * (q.x * p.m q + p.l q * (q.u - q.x)) = sg (p.m q) * (p.x * p.m q + p.k q * (p.u - p.x)) := by rw [this]
    grind
  · have : q.y * p.m q + p.l q * (q.v - q.y) = p.y * p.m q + p.k q * (p.v - p.y) := by simp only [m, l, k, turn]; grind
    have h2 : sg (p.m q) * (q.y * p.m q + p.l q * (q.v - q.y)) = sg (p.m q) * (p.y * p.m q + p.k q * (p.v - p.y)) := by rw [this]
    grind
theorem meetB_comm (h : p.m q ≠ 0) : q.meetB p = p.meetB q := by
  have e : sg (q.m p) * q.m p = sg (p.m q) * p.m q := by rw [m_comm, sg_neg h]; grind
  have e1 : sg (q.m p) * q.k p = sg (p.m q) * p.l q := by rw [m_comm, k_comm, sg_neg h]; grind
  have e2 : sg (q.m p) * q.l p = sg (p.m q) * p.k q := by rw [m_comm, l_comm, sg_neg h]; grind
  unfold meetB
  rw [e, e1, e2, Bool.and_comm]
theorem spot_rev (h : p.m q ≠ 0) : p.rev.spot q = p.spot q := by
  have e : sg (p.rev.m q) * p.rev.m q = sg (p.m q) * p.m q := by rw [m_rev, sg_neg h]; grind
  have e' : sg (p.rev.m q) * p.rev.k q = sg (p.m q) * p.m q - sg (p.m q) * p.k q := by rw [m_rev, k_rev, sg_neg h]; grind
  unfold spot
  rw [e, e']
  simp only [rev]
  congr 1 <;> grind
theorem meetB_rev (h : p.m q ≠ 0) : p.rev.meetB q = p.meetB q := by
  have e : sg (p.rev.m q) * p.rev.m q = sg (p.m q) * p.m q := by rw [m_rev, sg_neg h]; grind
  have e1 : sg (p.rev.m q) * p.rev.k q = sg (p.m q) * p.m q - sg (p.m q) * p.k q := by rw [m_rev, k_rev, sg_neg h]; grind
  have e2 : sg (p.rev.m q) * p.rev.l q = sg (p.m q) * p.l q := by rw [m_rev, l_rev, sg_neg h]; grind
  unfold meetB
  rw [e, e1, e2]
  generalize sg (p.m q) * p.k q = K
  generalize sg (p.m q) * p.m q = M
  have : (0 ≤ M - K ∧ M - K ≤ M) ↔ (0 ≤ K ∧ K ≤ M) := by omega
  rw [decide_eq_decide.mpr this]
theorem common_comm (hp : p.ok) (hq : q.ok) : q.common p = p.common q := by
  unfold common
  by_cases h : p.m q = 0
  · have h' : q.m p = 0 := by rw [m_comm, h]; rfl
    rw [if_pos h, if_pos h', along_comm]
    by_cases f : p.far q = 0
    · rw [if_pos f, if_pos (far_comm p q hp h f)]
    · rw [if_neg f, if_neg fun z => f (far_comm q p hq h' z)]
  · have h' : q.m p ≠ 0 := by rw [m_comm]; omega
    rw [if_neg h, if_neg h', meetB_comm p q h, spot_comm p q h]
theorem common_rev (hp : p.ok) : p.rev.common q = p.common q := by
  unfold common
  by_cases h : p.m q = 0
  · have h' : p.rev.m q = 0 := by rw [m_rev, h]; rfl
    rw [if_pos h, if_pos h', along_rev]
    by_cases f : p.far q = 0
    · rw [if_pos f, if_pos ((far_rev p q h).mpr f)]
    · rw [if_neg f, if_neg fun z => f ((far_rev p q h).mp z)]
  · have h' : p.rev.m q ≠ 0 := by rw [m_rev]; omega
    rw [if_neg h, if_neg h', meetB_rev p q h, spot_rev p q h]
theorem rev_ok (hp : p.ok) : p.rev.ok := fun h => hp ⟨h.1.symm, h.2.symm⟩
theorem common_rev2 (hp : p.ok) (hq : q.ok) : p.common q.rev = p.common q := by
  rw [common_comm _ _ (rev_ok q hq) hp, common_rev _ _ hq, common_comm _ _ hp hq]
end Li
end CLG
namespace CL
theorem tup_pt {a b : Int} {P : D → Prop} (k : P (pt a b)) : ∃ d, bTup [.int a, .int b] = some d ∧ P d := ⟨_, rfl, k⟩
theorem tup_ln {a b c d : Int} {P : D → Prop} (k : P (ln a b c d)) : ∃ d', bTup [pt a b, pt c d] = some d' ∧ P d' := ⟨_, rfl, k⟩
end CL
namespace CLX
open PySem PySem.Spec L2 CL CLG
open PySem.W (dataLt dataLt_ii alike alikeAll)
def B_divisor : MS := (sSeq (whileN fuel (m2 bNe (mV 1) (mC (.int 0))) (sPar 0 1 (mCons (mV 1) (mCons (m2 bMod (mV 0) (mV 1)) mNil)))) (sRet (mN bAbs (mCons (mV 0) mNil))))
def F_divisor : List D → Res D := runP 0 B_divisor
def B_spot_of : MS := (sSeq (sAsg (pN 3) (mCallP F_divisor (mCons (mCallP F_divisor (mCons (mV 0) (mCons (mV 1) mNil))) (mCons (mV 2) mNil)))) (sSeq (sIf (m2 bLt (mV 2) (mC (.int 0))) (sAsg (pN 3) (m1 bNeg (mV 3))) (sK .nx)) (sRet (mN bTup (mCons (m2 bDiv (mV 0) (mV 3)) (mCons (m2 bDiv (mV 1) (mV 3)) (mCons (m2 bDiv (mV 2) (mV 3)) mNil)))))))
def F_spot_of : List D → Res D := runP 1 B_spot_of
def B_step_of : MS := (sRet (mN bTup (mCons (m2 bSub (m2 bIx (m2 bIx (mV 0) (mC (.int 1))) (mC (.int 0))) (m2 bIx (m2 bIx (mV 0) (mC (.int 0))) (mC (.int 0)))) (mCons (m2 bSub (m2 bIx (m2 bIx (mV 0) (mC (.int 1))) (mC (.int 1))) (m2 bIx (m2 bIx (mV 0) (mC (.int 0))) (mC (.int 1)))) mNil))))
def F_step_of : List D → Res D := runP 0 B_step_of
def B_turn_of : MS := (sRet (m2 bSub (m2 bMul (m2 bIx (mV 0) (mC (.int 0))) (m2 bIx (mV 1) (mC (.int 1)))) (m2 bMul (m2 bIx (mV 0) (mC (.int 1))) (m2 bIx (mV 1) (mC (.int 0))))))
def F_turn_of : List D → Res D := runP 0 B_turn_of
def B_spot_at : MS := (sSeq (sPar 3 4 (mCons (m2 bIx (mV 0) (mC (.int 0))) (mCons (mCallP F_step_of (mCons (mV 0) mNil)) mNil))) (sRet (mCallP F_spot_of (mCons (m2 bAdd (m2 bMul (m2 bIx (mV 3) (mC (.int 0))) (mV 2)) (m2 bMul (mV 1) (m2 bIx (mV 4) (mC (.int 0))))) (mCons (m2 bAdd (m2 bMul (m2 bIx (mV 3) (mC (.int 1))) (mV 2)) (m2 bMul (mV 1) (m2 bIx (mV 4) (mC (.int 1))))) (mCons (mV 2) mNil))))))
def F_spot_at : List D → Res D := runP 2 B_spot_at
def B_shares_of : MS := (sSeq (sPar 2 3 (mCons (mCallP F_step_of (mCons (mV 0) mNil)) (mCons (mCallP F_step_of (mCons (mV 1) mNil)) mNil))) (sSeq (sAsg (pN 4) (mN bTup (mCons (m2 bSub (m2 bIx (m2 bIx (mV 1) (mC (.int 0))) (mC (.int 0))) (m2 bIx (m2 bIx (mV 0) (mC (.int 0))) (mC (.int 0)))) (mCons (m2 bSub (m2 bIx (m2 bIx (mV 1) (mC (.int 0))) (mC (.int 1))) (m2 bIx (m2 bIx (mV 0) (mC (.int 0))) (mC (.int 1)))) mNil)))) (sSeq (sPar3 5 6 7 (mCons (mCallP F_turn_of (mCons (mV 4) (mCons (mV 3) mNil))) (mCons (mCallP F_turn_of (mCons (mV 4) (mCons (mV 2) mNil))) (mCons (mCallP F_turn_of (mCons (mV 2) (mCons (mV 3) mNil))) mNil)))) (sSeq (sIf (m2 bLt (mV 7) (mC (.int 0))) (sRet (mN bTup (mCons (m2 bSub (mC (.int 0)) (mV 5)) (mCons (m2 bSub (mC (.int 0)) (mV 6)) (mCons (m2 bSub (mC (.int 0)) (mV 7)) mNil))))) (sK .nx)) (sRet (mN bTup (mCons (mV 5) (mCons (mV 6) (mCons (mV 7) mNil)))))))))
def F_shares_of : List D → Res D := runP 6 B_shares_of
def B_are_along : MS := (sSeq (sAsg (pN 2) (mCallP F_step_of (mCons (mV 0) mNil))) (sRet (mN bAll (mCons (mComp [3, 4] (pT 2 (psC (pN 3) (psC (pN 4) psN))) (mIt (mV 1)) mYes (m2 bEq (mCallP F_turn_of (mCons (mV 2) (mCons (mN bTup (mCons (m2 bSub (mV 3) (m2 bIx (m2 bIx (mV 0) (mC (.int 0))) (mC (.int 0)))) (mCons (m2 bSub (mV 4) (m2 bIx (m2 bIx (mV 0) (mC (.int 0))) (mC (.int 1)))) mNil))) mNil))) (mC (.int 0)))) mNil))))
def F_are_along : List D → Res D := runP 3 B_are_along
def B_along_spots : MS := (sSeq (sAsg (pN 2) (mN bMax2D (mCons (mN bMinD (mCons (mV 0) mNil)) (mCons (mN bMinD (mCons (mV 1) mNil)) mNil)))) (sSeq (sAsg (pN 3) (mN bMin2D (mCons (mN bMaxD (mCons (mV 0) mNil)) (mCons (mN bMaxD (mCons (mV 1) mNil)) mNil)))) (sSeq (sIf (m2 bGtD (mV 2) (mV 3)) (sRet (mN bTup mNil)) (sK .nx)) (sSeq (sIf (m2 bEq (mV 2) (mV 3)) (sRet (mN bTup (mCons (m2 bAdd (mV 2) (mN bTup (mCons (mC (.int 1)) mNil))) mNil))) (sK .nx)) (sRet (mN bTup (mCons (m2 bAdd (mV 2) (mN bTup (mCons (mC (.int 1)) mNil))) (mCons (m2 bAdd (mV 3) (mN bTup (mCons (mC (.int 1)) mNil))) mNil))))))))
def F_along_spots : List D → Res D := runP 2 B_along_spots
def B_common : MS := (sSeq (sAsg (pT 3 (psC (pN 2) (psC (pN 3) (psC (pN 4) psN)))) (mCallP F_shares_of (mCons (mV 0) (mCons (mV 1) mNil)))) (sSeq (sIf (m2 bGt (mV 4) (mC (.int 0))) (sSeq (sIf (mAnd (mChain bLe bLe (mC (.int 0)) (mV 2) (mV 4)) (mChain bLe bLe (mC (.int 0)) (mV 3) (mV 4))) (sRet (mN bTup (mCons (mCallP F_spot_at (mCons (mV 0) (mCons (mV 2) (mCons (mV 4) mNil)))) mNil))) (sK .nx)) (sRet (mN bTup mNil))) (sK .nx)) (sSeq (sIf (m1 bNot (mCallP F_are_along (mCons (mV 0) (mCons (mV 1) mNil)))) (sRet (mN bTup mNil)) (sK .nx)) (sRet (mCallP F_along_spots (mCons (mV 0) (mCons (mV 1) mNil)))))))
def F_common : List D → Res D := runP 3 B_common
def B__law_turn : MS := (sRet (m2 bSub (m2 bMul (m2 bIx (mV 0) (mC (.int 0))) (m2 bIx (mV 1) (mC (.int 1)))) (m2 bMul (m2 bIx (mV 0) (mC (.int 1))) (m2 bIx (mV 1) (mC (.int 0))))))
def F__law_turn : List D → Res D := runP 0 B__law_turn
def B__law_less : MS := (sRet (mN bTup (mCons (m2 bSub (m2 bIx (mV 0) (mC (.int 0))) (m2 bIx (mV 1) (mC (.int 0)))) (mCons (m2 bSub (m2 bIx (mV 0) (mC (.int 1))) (m2 bIx (mV 1) (mC (.int 1)))) mNil))))
def F__law_less : List D → Res D := runP 0 B__law_less
def B__law_parted : MS := (sSeq (whileN fuel (m2 bNe (mV 1) (mC (.int 0))) (sPar 0 1 (mCons (mV 1) (mCons (m2 bMod (mV 0) (mV 1)) mNil)))) (sRet (mN bAbs (mCons (mV 0) mNil))))
def F__law_parted : List D → Res D := runP 0 B__law_parted
def B__law_lowest : MS := (sSeq (sAsg (pN 3) (mCallP F__law_parted (mCons (mCallP F__law_parted (mCons (mV 0) (mCons (mV 1) mNil))) (mCons (mV 2) mNil)))) (sRet (mN bTup (mCons (m2 bDiv (mV 0) (mV 3)) (mCons (m2 bDiv (mV 1) (mV 3)) (mCons (m2 bDiv (mV 2) (mV 3)) mNil))))))
def F__law_lowest : List D → Res D := runP 1 B__law_lowest
def spD (s : CLG.Sp) : D := .tup [.int s.n, .int s.m, .int s.d]
def spsD (l : List CLG.Sp) : D := .tup (l.map spD)
def lnD (p : Li) : D := ln p.x p.y p.u p.v
/-- numbers not too great -/
structure Sml (p : Li) : Prop where
  x : p.x.natAbs ≤ 10000000
  y : p.y.natAbs ≤ 10000000
  u : p.u.natAbs ≤ 10000000
  v : p.v.natAbs ≤ 10000000
theorem div_eq {a b : Int} (h : b.natAbs < 2 ^ 100) : F_divisor [.int a, .int b] = .ok (.int (Int.gcd a b : Nat)) := divisor_eq h
theorem parted_eq {a b : Int} (h : b.natAbs < 2 ^ 100) : F__law_parted [.int a, .int b] = .ok (.int (Int.gcd a b : Nat)) := divisor_eq h
theorem fd_g {n m d : Int} (hd : 0 < d) (hd2 : d < 2 ^ 100) : ((g3 n m d : Nat) : Int) ≠ 0 ∧ ((g3 n m d : Nat) : Int).natAbs < 2 ^ 101 ∧ n.fdiv (g3 n m d) = (low n m d).n ∧ m.fdiv (g3 n m d) = (low n m d).m ∧ d.fdiv (g3 n m d) = (low n m d).d := by
  have p := g3_pos (n := n) (m := m) (d := d) (by omega)
  have b : (g3 n m d : Int) ≤ d := Int.le_of_dvd hd g3_dd
  exact ⟨by omega, by omega, Int.fdiv_eq_ediv_of_dvd g3_dn, Int.fdiv_eq_ediv_of_dvd g3_dm, Int.fdiv_eq_ediv_of_dvd g3_dd⟩
local macro_rules | `(tactic| walk_at "o") => `(tactic| ((try simp only [backA, List.set_cons_zero, List.set_cons_succ, wipeD, List.map_cons, List.map_nil, List.cons_append, List.nil_append, List.replicate_succ, List.replicate_zero]); first | done | rfl))
local macro_rules | `(tactic| walk_at "b") => `(tactic| first
  | with_reducible exact Nb.lit
  | ((with_reducible apply Nb.mul) <;> walk_at "b")
  | ((with_reducible apply Nb.add) <;> walk_at "b")
  | ((with_reducible apply Nb.sub) <;> walk_at "b")
  | ((with_reducible apply Nb.neg) <;> walk_at "b")
  | ((with_reducible apply Nb.fdiv) <;> walk_at "b")
  | ((with_reducible apply Nb.fmod); (· walk_at "z"); (· walk_at "b"))
  | ((with_reducible apply Nb.max) <;> walk_at "b")
  | ((with_reducible apply Nb.min) <;> walk_at "b")
  | ((with_reducible apply Nb.ite) <;> walk_at "b")
  | with_reducible assumption
  | with_reducible exact Nb.le (by assumption)
  | with_reducible exact Nb.nle (by assumption)
  | with_reducible exact Nb.lt (by assumption)
  | ((with_reducible apply Nb.rng (by assumption) (by assumption)) <;> walk_at "b")
  | ((with_reducible apply Nb.rngE (by assumption) (by assumption)) <;> walk_at "b")
  | with_reducible exact Nb.self _)
local macro_rules | `(tactic| walk_at "z") => `(tactic| first | decide | assumption | omega | exact fmod_nn (by omega) | exact fmod_lt (by omega))
local macro_rules | `(tactic| walk_at "e") => `(tactic| first
  | ((with_reducible refine is_ev ?_); first
    | ((with_reducible apply mul_st); (· walk_at "b"); (· walk_at "b"); (· rfl))
    | ((with_reducible apply mul_s1); (· walk_at "b"); (· rfl))
    | ((with_reducible apply mul_s2); (· walk_at "b"); (· rfl))
    | ((with_reducible apply div_st); (· walk_at "z"); (· walk_at "b"); (· rfl))
    | ((with_reducible apply mod_st); (· walk_at "z"))
    | with_reducible apply tup_pt
    | with_reducible apply tup_ln
    | ((with_reducible apply tup_st); (· rfl))
    | ((with_reducible apply lst_st); (· rfl))
    | with_reducible apply eqi_st
    | with_reducible apply nei_st
    | with_reducible apply eqp_st
    | with_reducible apply nep_st
    | with_reducible apply eqp_st'
    | with_reducible apply nep_st'
    | with_reducible apply eqb_st
    | with_reducible apply neb_st
    | with_reducible apply isb_st
    | with_reducible apply eqs_st
    | with_reducible apply nes_st
    | with_reducible refine ix2bi (fun _ _ _ => ?_)
    | ((with_reducible refine ix4i ?_ ?_ (fun _ _ _ => ?_)); (· walk_at "z"); (· walk_at "z"))
    | ((with_reducible refine ix2i ?_ ?_ (fun _ _ _ => ?_)); (· walk_at "z"); (· walk_at "z"))
    | ((with_reducible refine ix3i ?_ ?_ (fun _ _ _ => ?_)); (· walk_at "z"); (· walk_at "z"))
    | refine ⟨_, rfl, ?_⟩)
  | ((with_reducible refine fill_st ?_); refine ⟨_, rfl, ?_⟩; (try dsimp only))
  | ((with_reducible apply and_go rfl); (· (intro _; (repeat walk_at "s"); with_reducible exact ⟨rfl, rfl⟩)))
  | ((with_reducible refine is_chain ?_); (apply chain_go rfl); (· (intro _; (repeat walk_at "s"); exact ⟨rfl, rfl⟩)))
  | ((with_reducible refine draw_step (by assumption) ?_ ?_ (fun _ _ _ _ _ => ?_)); (· walk_at "z"); (· walk_at "z"))
  | ((with_reducible refine CLY.draw_step (by assumption) ?_ ?_ (fun _ _ _ _ _ => ?_)); (· walk_at "z"); (· walk_at "z"))
  | ((with_reducible refine is_evA ?_); refine ⟨_, rfl, ?_⟩)
  | ((with_reducible refine is_evL ?_); refine ⟨_, rfl, ?_⟩)
  | ((with_reducible refine is_evI ?_); refine ⟨_, rfl, ?_⟩)
  | ((with_reducible refine is_evR ?_); refine ⟨_, rfl, ?_⟩))
local macro_rules | `(tactic| walk_at "f") => `(tactic| first
  | with_reducible refine W_mV.mpr ?_
  | with_reducible refine W_mCons.mpr ?_
  | with_reducible refine W_m2.mpr ?_
  | with_reducible refine W_mC.mpr ?_
  | with_reducible refine W_mNil.mpr ?_
  | with_reducible refine W_mN.mpr ?_
  | with_reducible refine W_sSeq.mpr ?_
  | with_reducible refine W_sAsg.mpr ?_
  | with_reducible refine W_m1.mpr ?_
  | with_reducible refine W_mCallP.mpr ?_
  | with_reducible refine W_mCall.mpr ?_
  | with_reducible refine X_evI.mpr ?_
  | with_reducible refine X_evE.mpr ?_
  | with_reducible refine X_evN.mpr ?_
  | with_reducible refine X_if ?_
  | with_reducible refine W_sRet.mpr ?_
  | with_reducible refine W_sK.mpr ?_
  | with_reducible refine X_and ?_
  | with_reducible refine X_or ?_
  | with_reducible refine W_sPar.mpr ?_
  | with_reducible refine W_mSl.mpr ?_
  | with_reducible refine W_mPtN.mpr ?_
  | with_reducible refine W_mPtS.mpr ?_
  | with_reducible refine W_mIt.mpr ?_
  | with_reducible refine W_mItN.mpr ?_
  | with_reducible refine W_mComp.mpr ?_
  | ((with_reducible refine is_comp ?_); first | (apply X_compN; (· walk_at "o")) | ((with_reducible apply X_compY); (· walk_at "o"); (· rfl)))
  | with_reducible refine W_sFor.mpr ?_
  | ((with_reducible refine is_for ?_); refine W_forNil.mpr ?_)
  | with_reducible refine X_chain ?_
  | with_reducible refine W_sExp.mpr ?_
  | with_reducible refine W_mL.mpr ?_
  | with_reducible refine X_mif ?_
  | with_reducible refine W_mIxS.mpr ?_
  | with_reducible refine W_mYes.mpr ?_
  | with_reducible refine W_sPar3.mpr ?_
  | with_reducible refine W_mApp.mpr ?_
  | with_reducible refine W_mBor.mpr ?_
  | with_reducible refine CLX.W_sFz.mpr ?_)
local macro_rules | `(tactic| walk_at "s") => `(tactic| first
  | ((with_reducible refine is_W ?_); walk_at "f")
  | ((with_reducible refine is_ex ?_); first
    | ((with_reducible refine is_evS ?_); refine ⟨_, rfl, ?_⟩)
    | ((with_reducible apply call_st); (· with_reducible assumption))
    | walk_at "e")
  | ((with_reducible apply X_nx); (· walk_at "o"))
  | with_reducible refine Kq_ret.mpr ?_
  | with_reducible refine Kq_brk.mpr ?_
  | with_reducible refine Kq_cnt.mpr ?_
  | ((with_reducible apply X_fnx); (· walk_at "o"))
  | ((with_reducible apply X_fcnt); (· walk_at "o"))
  | with_reducible refine X_fbrk ?_
  | with_reducible refine X_fret ?_
  | ((with_reducible refine is_ltA ?_); refine ⟨?_, ?_⟩; (· first | decide | omega | (simp; omega) | (simp; done)))
  | with_reducible refine parW_mk.mpr ?_
  | with_reducible refine par3W_mk.mpr ?_)
local macro_rules | `(tactic| walk_at "r") => `(tactic| repeat walk_at "s")
local macro_rules | `(tactic| walk_at "u") => `(tactic| first | ((apply X_forC); (· walk_at "o"); (· rfl)) | ((apply X_compY); (· walk_at "o"); (· rfl)) | ((apply X_compC); (· walk_at "o"); (· rfl)))
theorem spot_is {n m d : Int} (hm : m.natAbs < 2 ^ 100) (hd : 0 < d) (hd2 : d < 2 ^ 100) : F_spot_of [.int n, .int m, .int d] = .ok (spD (low n m d)) := by
  obtain ⟨g0, g1, e1, e2, e3⟩ := fd_g (n := n) (m := m) hd hd2
  have E1 := div_eq (a := n) hm
  have E2 := div_eq (a := ((Int.gcd n m : Nat) : Int)) (b := d) (by omega)
  change F_divisor [.int ((Int.gcd n m : Nat) : Int), .int d] = .ok (.int (g3 n m d : Nat)) at E2
  refine runP_of ?_
  unfold B_spot_of
  walk_at "r"
  refine go_ifP (fun h => absurd h (by omega)) fun _ => ?_
  walk_at "r"
  rw [e1, e2, e3]; rfl
theorem lowest_is {n m d : Int} (hm : m.natAbs < 2 ^ 100) (hd : 0 < d) (hd2 : d < 2 ^ 100) : F__law_lowest [.int n, .int m, .int d] = .ok (spD (low n m d)) := by
  obtain ⟨g0, g1, e1, e2, e3⟩ := fd_g (n := n) (m := m) hd hd2
  have E1 := parted_eq (a := n) hm
  have E2 := parted_eq (a := ((Int.gcd n m : Nat) : Int)) (b := d) (by omega)
  change F__law_parted [.int ((Int.gcd n m : Nat) : Int), .int d] = .ok (.int (g3 n m d : Nat)) at E2
  refine runP_of ?_
  unfold B__law_lowest
  walk_at "r"
  rw [e1, e2, e3]; rfl
theorem step_is {x y u v : Int} : F_step_of [ln x y u v] = .ok (pt (u - x) (v - y)) := by
  refine runP_of ?_
  unfold B_step_of
  walk_at "r"
  rfl
theorem turn_is {a b c d : Int} (ha : a.natAbs ≤ 100000000) (hb : b.natAbs ≤ 100000000) (hc : c.natAbs ≤ 100000000) (hd : d.natAbs ≤ 100000000) : F_turn_of [pt a b, pt c d] = .ok (.int (turn a b c d)) ∧ F__law_turn [pt a b, pt c d] = .ok (.int (turn a b c d)) := by
  constructor <;> refine runP_of ?_
  · unfold B_turn_of
    walk_at "r"
    rfl
  · unfold B__law_turn
    walk_at "r"
    rfl
theorem sub8 {a b : Int} (ha : a.natAbs ≤ 10000000) (hb : b.natAbs ≤ 10000000) : (a - b).natAbs ≤ 100000000 := by omega
theorem turn_bd {a b c d : Int} (ha : a.natAbs ≤ 100000000) (hb : b.natAbs ≤ 100000000) (hc : c.natAbs ≤ 100000000) (hd : d.natAbs ≤ 100000000) : (turn a b c d).natAbs ≤ 20000000000000000 := by
  have h1 : (a * d).natAbs ≤ 100000000 * 100000000 := by rw [Int.natAbs_mul]; exact Nat.mul_le_mul ha hd
  have h2 : (b * c).natAbs ≤ 100000000 * 100000000 := by rw [Int.natAbs_mul]; exact Nat.mul_le_mul hb hc
  unfold turn
  omega
theorem shares_is {p q : Li} (hp : Sml p) (hq : Sml q) : F_shares_of [lnD p, lnD q] = .ok (.tup [.int (sg (p.m q) * p.k q), .int (sg (p.m q) * p.l q), .int (sg (p.m q) * p.m q)]) := by
  have E1 := step_is (x := p.x) (y := p.y) (u := p.u) (v := p.v)
  have E2 := step_is (x := q.x) (y := q.y) (u := q.u) (v := q.v)
  have T1 := (turn_is (sub8 hq.x hp.x) (sub8 hq.y hp.y) (sub8 hq.u hq.x) (sub8 hq.v hq.y)).1
  have T2 := (turn_is (sub8 hq.x hp.x) (sub8 hq.y hp.y) (sub8 hp.u hp.x) (sub8 hp.v hp.y)).1
  have T3 := (turn_is (sub8 hp.u hp.x) (sub8 hp.v hp.y) (sub8 hq.u hq.x) (sub8 hq.v hq.y)).1
  refine runP_of ?_
  unfold B_shares_of lnD
  walk_at "r"
  refine go_ifP (fun h => ?_) fun h => ?_
  · walk_at "r"
    have e : sg (p.m q) = -1 := if_pos h
    rw [e]
    have z : ∀ t : Int, 0 - t = -1 * t := fun t => by omega
    simp only [Li.m, Li.k, Li.l, z]
  · walk_at "r"
    have e : sg (p.m q) = 1 := if_neg h
    rw [e]
    simp only [Li.m, Li.k, Li.l, Int.one_mul]
theorem m_bd {p q : Li} (hp : Sml p) (hq : Sml q) : (sg (p.m q) * p.m q).natAbs ≤ 20000000000000000 ∧ (sg (p.m q) * p.k q).natAbs ≤ 20000000000000000 ∧ (sg (p.m q) * p.l q).natAbs ≤ 20000000000000000 := by
  have s : ∀ a z : Int, (sg a * z).natAbs = z.natAbs := fun a z => by unfold sg; split <;> simp
  rw [s, s, s]
  exact ⟨turn_bd (sub8 hp.u hp.x) (sub8 hp.v hp.y) (sub8 hq.u hq.x) (sub8 hq.v hq.y), turn_bd (sub8 hq.x hp.x) (sub8 hq.y hp.y) (sub8 hq.u hq.x) (sub8 hq.v hq.y), turn_bd (sub8 hq.x hp.x) (sub8 hq.y hp.y) (sub8 hp.u hp.x) (sub8 hp.v hp.y)⟩
theorem spotat_is {p : Li} {k m : Int} (hp : Sml p) (hk : k.natAbs ≤ 20000000000000000) (hm : m.natAbs ≤ 20000000000000000) (m0 : 0 < m) : F_spot_at [lnD p, .int k, .int m] = .ok (spD (low (p.x * m + k * (p.u - p.x)) (p.y * m + k * (p.v - p.y)) m)) := by
  have E1 := step_is (x := p.x) (y := p.y) (u := p.u) (v := p.v)
  have b : Nb 100 (p.y * m + k * (p.v - p.y)) := (Nb.add (Nb.mul (Nb.le hp.y) (Nb.le hm)) (Nb.mul (Nb.le hk) (Nb.le (sub8 hp.v hp.y)))).mono (by decide)
  have E2 := spot_is (n := p.x * m + k * (p.u - p.x)) b m0 (by omega)
  have hx := hp.x
  have hy := hp.y
  have h1 := sub8 hp.u hp.x
  have h2 := sub8 hp.v hp.y
  refine runP_of ?_
  unfold B_spot_at lnD
  walk_at "r"
  rfl
theorem along_is {p q : Li} (hp : Sml p) (hq : Sml q) : F_are_along [lnD p, lnD q] = .ok (.bl (decide (p.far q = 0) && decide (turn (p.u - p.x) (p.v - p.y) (q.u - p.x) (q.v - p.y) = 0))) := by
  have E1 := step_is (x := p.x) (y := p.y) (u := p.u) (v := p.v)
  have T1 := (turn_is (sub8 hp.u hp.x) (sub8 hp.v hp.y) (sub8 hq.x hp.x) (sub8 hq.y hp.y)).1
  have T2 := (turn_is (sub8 hp.u hp.x) (sub8 hp.v hp.y) (sub8 hq.u hp.x) (sub8 hq.v hp.y)).1
  refine runP_of ?_
  unfold B_are_along lnD
  walk_at "r"
  show Fl.ret (D.bl (decide (p.far q = 0) && (decide (turn (p.u - p.x) (p.v - p.y) (q.u - p.x) (q.v - p.y) = 0) && true))) = _
  rw [Bool.and_true]
theorem lt_pt {a b : Pn} : dataLt (pt a.x a.y).py (pt b.x b.y).py = a.lt b := by
  simp only [pt, D.py, D.pyL, dataLt_ii, Pn.lt]
  by_cases h1 : a.x < b.x <;> by_cases h2 : a.x = b.x <;> by_cases h3 : a.y < b.y <;> simp [h1, h2, h3]
def pnD (a : Pn) : D := pt a.x a.y
theorem dok2 {a b : Pn} : dataOk [pnD a, pnD b] = true := by
  simp [dataOk, pnD, pt, D.okL, D.okB, D.py, D.pyL, alike, alikeAll, D.isNon]
theorem min2_is {a b : Pn} : minDD (pnD a) [pnD b] = pnD (pmin a b) := by
  simp only [minDD, List.foldl_cons, List.foldl_nil, pnD, lt_pt]
  unfold pmin
  split <;> rfl
theorem max2_is {a b : Pn} : maxDD (pnD a) [pnD b] = pnD (pmax a b) := by
  simp only [maxDD, List.foldl_cons, List.foldl_nil, pnD, lt_pt]
  unfold pmax
  split <;> rfl
theorem min_ln {p : Li} {P : D → Prop} (k : P (pnD p.lo)) : ∃ d, bMinD [lnD p] = some d ∧ P d := ⟨_, by
  show (if dataOk [pnD p.a, pnD p.b] = true then some (minDD (pnD p.a) [pnD p.b]) else none) = _
  rw [if_pos dok2, min2_is]; rfl, k⟩
theorem max_ln {p : Li} {P : D → Prop} (k : P (pnD p.hi)) : ∃ d, bMaxD [lnD p] = some d ∧ P d := ⟨_, by
  show (if dataOk [pnD p.a, pnD p.b] = true then some (maxDD (pnD p.a) [pnD p.b]) else none) = _
  rw [if_pos dok2, max2_is]; rfl, k⟩
theorem min_two {a b : Pn} {P : D → Prop} (k : P (pnD (pmin a b))) : ∃ d, bMin2D [pnD a, pnD b] = some d ∧ P d := ⟨_, by
  show (if (dataOk [pnD a, pnD b] && !isLst (pnD a) && !isLst (pnD b)) = true then some (minDD (pnD a) [pnD b]) else none) = _
  rw [if_pos (by rw [dok2]; rfl), min2_is], k⟩
theorem max_two {a b : Pn} {P : D → Prop} (k : P (pnD (pmax a b))) : ∃ d, bMax2D [pnD a, pnD b] = some d ∧ P d := ⟨_, by
  show (if (dataOk [pnD a, pnD b] && !isLst (pnD a) && !isLst (pnD b)) = true then some (maxDD (pnD a) [pnD b]) else none) = _
  rw [if_pos (by rw [dok2]; rfl), max2_is], k⟩
theorem cok {a b : Pn} : cmpOk (pnD a) (pnD b) = true := by simp [cmpOk, pnD, pt, D.okB, D.okL, D.py, D.pyL, alike, alikeAll, D.isNon]
theorem gt_st {a b : Pn} {P : D → Prop} (k : P (.bl (b.lt a))) : ∃ d, bGtD (pnD a) (pnD b) = some d ∧ P d := ⟨_, by
  unfold bGtD; rw [if_pos cok]; unfold pnD; rw [lt_pt], k⟩
theorem le_st {a b : Pn} {P : D → Prop} (k : P (.bl (!b.lt a))) : ∃ d, bLeD (pnD a) (pnD b) = some d ∧ P d := ⟨_, by
  unfold bLeD; rw [if_pos cok]; unfold pnD; rw [lt_pt], k⟩
theorem eqn_st {a b : Pn} {P : D → Prop} (k : P (.bl (decide (a = b)))) : ∃ d, bEq (pnD a) (pnD b) = some d ∧ P d := ⟨_, by
  unfold pnD
  rw [eq_pt]
  congr 2
  exact decide_eq_decide.mpr (by cases a; cases b; simp), k⟩
theorem add1_st {a : Pn} {P : D → Prop} (k : P (spD ⟨a.x, a.y, 1⟩)) : ∃ d, bAdd (pnD a) (.tup [.int 1]) = some d ∧ P d := ⟨_, rfl, k⟩
end CLX
namespace CLX
open PySem PySem.Spec L2 CL CLG
open PySem.W (dataLt dataLt_ii alike alikeAll)
local macro_rules | `(tactic| walk_at "o") => `(tactic| ((try simp only [backA, List.set_cons_zero, List.set_cons_succ, wipeD, List.map_cons, List.map_nil, List.cons_append, List.nil_append, List.replicate_succ, List.replicate_zero]); first | done | rfl))
local macro_rules | `(tactic| walk_at "b") => `(tactic| first
  | with_reducible exact Nb.lit
  | ((with_reducible apply Nb.mul) <;> walk_at "b")
  | ((with_reducible apply Nb.add) <;> walk_at "b")
  | ((with_reducible apply Nb.sub) <;> walk_at "b")
  | ((with_reducible apply Nb.neg) <;> walk_at "b")
  | ((with_reducible apply Nb.fdiv) <;> walk_at "b")
  | ((with_reducible apply Nb.fmod); (· walk_at "z"); (· walk_at "b"))
  | ((with_reducible apply Nb.max) <;> walk_at "b")
  | ((with_reducible apply Nb.min) <;> walk_at "b")
  | ((with_reducible apply Nb.ite) <;> walk_at "b")
  | with_reducible assumption
  | with_reducible exact Nb.le (by assumption)
  | with_reducible exact Nb.nle (by assumption)
  | with_reducible exact Nb.lt (by assumption)
  | ((with_reducible apply Nb.rng (by assumption) (by assumption)) <;> walk_at "b")
  | ((with_reducible apply Nb.rngE (by assumption) (by assumption)) <;> walk_at "b")
  | with_reducible exact Nb.self _)
local macro_rules | `(tactic| walk_at "z") => `(tactic| first | decide | assumption | omega | exact fmod_nn (by omega) | exact fmod_lt (by omega))
local macro_rules | `(tactic| walk_at "e") => `(tactic| first
  | ((with_reducible refine is_ev ?_); first
    | ((with_reducible apply mul_st); (· walk_at "b"); (· walk_at "b"); (· rfl))
    | ((with_reducible apply mul_s1); (· walk_at "b"); (· rfl))
    | ((with_reducible apply mul_s2); (· walk_at "b"); (· rfl))
    | ((with_reducible apply div_st); (· walk_at "z"); (· walk_at "b"); (· rfl))
    | ((with_reducible apply mod_st); (· walk_at "z"))
    | with_reducible apply tup_pt
    | with_reducible apply tup_ln
    | ((with_reducible apply tup_st); (· rfl))
    | ((with_reducible apply lst_st); (· rfl))
    | with_reducible apply eqi_st
    | with_reducible apply nei_st
    | with_reducible apply eqp_st
    | with_reducible apply nep_st
    | with_reducible apply eqp_st'
    | with_reducible apply nep_st'
    | with_reducible apply eqb_st
    | with_reducible apply neb_st
    | with_reducible apply isb_st
    | with_reducible apply eqs_st
    | with_reducible apply nes_st
    | with_reducible refine ix2bi (fun _ _ _ => ?_)
    | ((with_reducible refine ix4i ?_ ?_ (fun _ _ _ => ?_)); (· walk_at "z"); (· walk_at "z"))
    | ((with_reducible refine ix2i ?_ ?_ (fun _ _ _ => ?_)); (· walk_at "z"); (· walk_at "z"))
    | ((with_reducible refine ix3i ?_ ?_ (fun _ _ _ => ?_)); (· walk_at "z"); (· walk_at "z"))
    | refine ⟨_, rfl, ?_⟩)
  | ((with_reducible refine fill_st ?_); refine ⟨_, rfl, ?_⟩; (try dsimp only))
  | ((with_reducible apply and_go rfl); (· (intro _; (repeat walk_at "s"); with_reducible exact ⟨rfl, rfl⟩)))
  | ((with_reducible refine is_chain ?_); (apply chain_go rfl); (· (intro _; (repeat walk_at "s"); exact ⟨rfl, rfl⟩)))
  | ((with_reducible refine draw_step (by assumption) ?_ ?_ (fun _ _ _ _ _ => ?_)); (· walk_at "z"); (· walk_at "z"))
  | ((with_reducible refine CLY.draw_step (by assumption) ?_ ?_ (fun _ _ _ _ _ => ?_)); (· walk_at "z"); (· walk_at "z"))
  | ((with_reducible refine is_evA ?_); refine ⟨_, rfl, ?_⟩)
  | ((with_reducible refine is_evL ?_); refine ⟨_, rfl, ?_⟩)
  | ((with_reducible refine is_evI ?_); refine ⟨_, rfl, ?_⟩)
  | ((with_reducible refine is_evR ?_); refine ⟨_, rfl, ?_⟩))
local macro_rules | `(tactic| walk_at "f") => `(tactic| first
  | with_reducible refine W_mV.mpr ?_
  | with_reducible refine W_mCons.mpr ?_
  | with_reducible refine W_m2.mpr ?_
  | with_reducible refine W_mC.mpr ?_
  | with_reducible refine W_mNil.mpr ?_
  | with_reducible refine W_mN.mpr ?_
  | with_reducible refine W_sSeq.mpr ?_
  | with_reducible refine W_sAsg.mpr ?_
  | with_reducible refine W_m1.mpr ?_
  | with_reducible refine W_mCallP.mpr ?_
  | with_reducible refine W_mCall.mpr ?_
  | with_reducible refine X_evI.mpr ?_
  | with_reducible refine X_evE.mpr ?_
  | with_reducible refine X_evN.mpr ?_
  | with_reducible refine X_if ?_
  | with_reducible refine W_sRet.mpr ?_
  | with_reducible refine W_sK.mpr ?_
  | with_reducible refine X_and ?_
  | with_reducible refine X_or ?_
  | with_reducible refine W_sPar.mpr ?_
  | with_reducible refine W_mSl.mpr ?_
  | with_reducible refine W_mPtN.mpr ?_
  | with_reducible refine W_mPtS.mpr ?_
  | with_reducible refine W_mIt.mpr ?_
  | with_reducible refine W_mItN.mpr ?_
  | with_reducible refine W_mComp.mpr ?_
  | ((with_reducible refine is_comp ?_); first | (apply X_compN; (· walk_at "o")) | ((with_reducible apply X_compY); (· walk_at "o"); (· rfl)))
  | with_reducible refine W_sFor.mpr ?_
  | ((with_reducible refine is_for ?_); refine W_forNil.mpr ?_)
  | with_reducible refine X_chain ?_
  | with_reducible refine W_sExp.mpr ?_
  | with_reducible refine W_mL.mpr ?_
  | with_reducible refine X_mif ?_
  | with_reducible refine W_mIxS.mpr ?_
  | with_reducible refine W_mYes.mpr ?_
  | with_reducible refine W_sPar3.mpr ?_
  | with_reducible refine W_mApp.mpr ?_
  | with_reducible refine W_mBor.mpr ?_
  | with_reducible refine CLX.W_sFz.mpr ?_)
local macro_rules | `(tactic| walk_at "s") => `(tactic| first
  | ((with_reducible refine is_W ?_); walk_at "f")
  | ((with_reducible refine is_ex ?_); first
    | ((with_reducible refine is_evS ?_); refine ⟨_, rfl, ?_⟩)
    | ((with_reducible apply call_st); (· with_reducible assumption))
    | with_reducible refine min_ln ?_
    | with_reducible refine max_ln ?_
    | with_reducible refine min_two ?_
    | with_reducible refine max_two ?_
    | with_reducible refine gt_st ?_
    | with_reducible refine le_st ?_
    | with_reducible refine eqn_st ?_
    | with_reducible refine add1_st ?_
    | walk_at "e")
  | ((with_reducible apply X_nx); (· walk_at "o"))
  | with_reducible refine Kq_ret.mpr ?_
  | with_reducible refine Kq_brk.mpr ?_
  | with_reducible refine Kq_cnt.mpr ?_
  | ((with_reducible apply X_fnx); (· walk_at "o"))
  | ((with_reducible apply X_fcnt); (· walk_at "o"))
  | with_reducible refine X_fbrk ?_
  | with_reducible refine X_fret ?_
  | ((with_reducible refine is_ltA ?_); refine ⟨?_, ?_⟩; (· first | decide | omega | (simp; omega) | (simp; done)))
  | with_reducible refine parW_mk.mpr ?_
  | with_reducible refine par3W_mk.mpr ?_)
local macro_rules | `(tactic| walk_at "r") => `(tactic| repeat walk_at "s")
local macro_rules | `(tactic| walk_at "u") => `(tactic| first | ((apply X_forC); (· walk_at "o"); (· rfl)) | ((apply X_compY); (· walk_at "o"); (· rfl)) | ((apply X_compC); (· walk_at "o"); (· rfl)))
theorem alongspots_is {p q : Li} : F_along_spots [lnD p, lnD q] = .ok (spsD (p.along q)) := by
  refine runP_of ?_
  unfold B_along_spots
  walk_at "r"
  unfold Li.along
  refine go_if (fun h => ?_) fun h => ?_
  · walk_at "r"
    simp [h, spsD]
  · walk_at "r"
    refine go_ifP (fun h' => ?_) fun h' => ?_
    · walk_at "r"
      rw [if_neg (by simp [h]), if_pos h']
      rfl
    · walk_at "r"
      rw [if_neg (by simp [h]), if_neg h']
      rfl
theorem common_is {p q : Li} (hp : Sml p) (hq : Sml q) : F_common [lnD p, lnD q] = .ok (spsD (p.common q)) := by
  have E1 := shares_is hp hq
  have E2 := along_is hp hq
  have E3 := alongspots_is (p := p) (q := q)
  obtain ⟨b1, b2, b3⟩ := m_bd hp hq
  refine runP_of ?_
  unfold B_common
  walk_at "r"
  unfold Li.common
  refine go_ifP (fun h => ?_) fun h => ?_
  · have h' : p.m q ≠ 0 := fun z => by rw [z] at h; simp at h
    rw [if_neg h']
    have E4 := spotat_is hp b2 b1 h
    walk_at "r"
    refine go_if (fun h2 => ?_) fun h2 => ?_
    · walk_at "r"
      have : p.meetB q = true := by
        unfold Li.meetB
        simpa [Bool.decide_and] using h2
      rw [if_pos this]; rfl
    · walk_at "r"
      have : p.meetB q = false := by
        unfold Li.meetB
        simpa [Bool.decide_and] using h2
      rw [this]; rfl
  · have h' : p.m q = 0 := by
      refine Classical.byContradiction fun n => ?_
      have := Li.sgm_pos p q n
      omega
    rw [if_pos h']
    walk_at "r"
    have key : turn (p.u - p.x) (p.v - p.y) (q.u - p.x) (q.v - p.y) = p.far q := by
      simp only [Li.m, Li.far, turn] at h' ⊢
      grind
    rw [key, Bool.and_self]
    refine go_ifN (fun h2 => ?_) fun h2 => ?_
    · walk_at "r"
      rw [if_neg h2]; rfl
    · walk_at "r"
      rw [if_pos h2]
end CLX
namespace CL
open PySem L2
theorem X_compFM {α : Type} {g : α → D} {f : α → Bool} {h : α → D} {vs : List Nat} {p : Pt} {c e : M D} {ρ : Sl} : ∀ {xs : List α} {QL : List D → Sl → Prop}, (∀ x ∈ xs, ∃ ρ1, p (g x) ρ = some ρ1 ∧ W c ρ1 (fun y ρ2 => y = .bl (f x) ∧ ρ2 = ρ1) ∧ wipeD ρ1 vs = ρ ∧ (f x = true → W e ρ1 fun d ρ3 => d = h x ∧ wipeD ρ3 vs = ρ)) → QL ((xs.filter f).map h) ρ → W (compL vs p c e (xs.map g)) ρ QL
  | [], QL, _, q => W_compNil.mpr q
  | x :: xs, QL, H, q => by
    obtain ⟨ρ1, e1, hc, hw, he⟩ := H x (by simp)
    refine W_compCons.mpr ⟨ρ1, e1, hc.mono fun y ρ2 ⟨ey, er⟩ => ?_⟩
    subst ey er
    cases hf : f x with
    | true =>
      refine .inl ⟨rfl, (he hf).mono fun d ρ3 ⟨ed, ew⟩ => ?_⟩
      subst ed
      rw [ew]
      exact X_compFM (fun y hy => H y (by simp [hy])) (by simpa [List.filter_cons, hf] using q)
    | false =>
      refine .inr ⟨rfl, ?_⟩
      rw [hw]
      exact X_compFM (fun y hy => H y (by simp [hy])) (by simpa [List.filter_cons, hf] using q)
theorem X_compM {α : Type} {g : α → D} {h : α → D} {vs : List Nat} {p : Pt} {e : M D} {ρ : Sl} : ∀ {xs : List α} {QL : List D → Sl → Prop}, (∀ x ∈ xs, ∃ ρ1, p (g x) ρ = some ρ1 ∧ W e ρ1 fun d ρ3 => d = h x ∧ wipeD ρ3 vs = ρ) → QL (xs.map h) ρ → W (compL vs p mYes e (xs.map g)) ρ QL
  | [], QL, _, q => W_compNil.mpr q
  | x :: xs, QL, H, q => by
    obtain ⟨ρ1, e1, he⟩ := H x (by simp)
    refine W_compCons.mpr ⟨ρ1, e1, W_mYes.mpr (.inl ⟨rfl, he.mono fun d ρ3 ⟨ed, ew⟩ => ?_⟩)⟩
    subst ed
    rw [ew]
    exact X_compM (fun y hy => H y (by simp [hy])) q
end CL
namespace CLG
open Li
def Pn.le (a b : Pn) : Bool := !b.lt a
theorem Pn.le_iff {a b : Pn} : a.le b = true ↔ a.x < b.x ∨ (a.x = b.x ∧ a.y ≤ b.y) := by
  simp only [Pn.le, Bool.not_eq_true', Pn.nlt_iff]
  omega
theorem Pn.le_trans {a b c : Pn} (h1 : a.le b = true) (h2 : b.le c = true) : a.le c = true := by
  rw [Pn.le_iff] at *; omega
theorem Pn.le_total (a b : Pn) : a.le b = true ∨ b.le a = true := by
  rw [Pn.le_iff, Pn.le_iff]; omega
theorem pmin_or (a b : Pn) : pmin a b = a ∨ pmin a b = b := by unfold pmin; split <;> simp
theorem pmax_or (a b : Pn) : pmax a b = a ∨ pmax a b = b := by unfold pmax; split <;> simp
/-- between the least and the greatest of a line -/
def Li.has (p : Li) (c : Pn) : Bool := p.lo.le c && c.le p.hi
theorem lo_or (p : Li) : p.lo = p.a ∨ p.lo = p.b := pmin_or _ _
theorem hi_or (p : Li) : p.hi = p.a ∨ p.hi = p.b := pmax_or _ _
/-- the first and the last of what is sorted -/
def ends {α : Type} (S : List α) : List α := S.take 1 ++ (S.drop 1).drop ((S.drop 1).length - 1)
end CLG
namespace CLX
open PySem PySem.Spec L2 CL CLG
open PySem.W (dataLt dataLt_ii alike alikeAll)
local macro_rules | `(tactic| walk_at "o") => `(tactic| ((try simp only [backA, List.set_cons_zero, List.set_cons_succ, wipeD, List.map_cons, List.map_nil, List.cons_append, List.nil_append, List.replicate_succ, List.replicate_zero]); first | done | rfl))
local macro_rules | `(tactic| walk_at "b") => `(tactic| first
  | with_reducible exact Nb.lit
  | ((with_reducible apply Nb.mul) <;> walk_at "b")
  | ((with_reducible apply Nb.add) <;> walk_at "b")
  | ((with_reducible apply Nb.sub) <;> walk_at "b")
  | ((with_reducible apply Nb.neg) <;> walk_at "b")
  | ((with_reducible apply Nb.fdiv) <;> walk_at "b")
  | ((with_reducible apply Nb.fmod); (· walk_at "z"); (· walk_at "b"))
  | ((with_reducible apply Nb.max) <;> walk_at "b")
  | ((with_reducible apply Nb.min) <;> walk_at "b")
  | ((with_reducible apply Nb.ite) <;> walk_at "b")
  | with_reducible assumption
  | with_reducible exact Nb.le (by assumption)
  | with_reducible exact Nb.nle (by assumption)
  | with_reducible exact Nb.lt (by assumption)
  | ((with_reducible apply Nb.rng (by assumption) (by assumption)) <;> walk_at "b")
  | ((with_reducible apply Nb.rngE (by assumption) (by assumption)) <;> walk_at "b")
  | with_reducible exact Nb.self _)
local macro_rules | `(tactic| walk_at "z") => `(tactic| first | decide | assumption | omega | exact fmod_nn (by omega) | exact fmod_lt (by omega))
local macro_rules | `(tactic| walk_at "e") => `(tactic| first
  | ((with_reducible refine is_ev ?_); first
    | ((with_reducible apply mul_st); (· walk_at "b"); (· walk_at "b"); (· rfl))
    | ((with_reducible apply mul_s1); (· walk_at "b"); (· rfl))
    | ((with_reducible apply mul_s2); (· walk_at "b"); (· rfl))
    | ((with_reducible apply div_st); (· walk_at "z"); (· walk_at "b"); (· rfl))
    | ((with_reducible apply mod_st); (· walk_at "z"))
    | with_reducible apply tup_pt
    | with_reducible apply tup_ln
    | ((with_reducible apply tup_st); (· rfl))
    | ((with_reducible apply lst_st); (· rfl))
    | with_reducible apply eqi_st
    | with_reducible apply nei_st
    | with_reducible apply eqp_st
    | with_reducible apply nep_st
    | with_reducible apply eqp_st'
    | with_reducible apply nep_st'
    | with_reducible apply eqb_st
    | with_reducible apply neb_st
    | with_reducible apply isb_st
    | with_reducible apply eqs_st
    | with_reducible apply nes_st
    | with_reducible refine ix2bi (fun _ _ _ => ?_)
    | ((with_reducible refine ix4i ?_ ?_ (fun _ _ _ => ?_)); (· walk_at "z"); (· walk_at "z"))
    | ((with_reducible refine ix2i ?_ ?_ (fun _ _ _ => ?_)); (· walk_at "z"); (· walk_at "z"))
    | ((with_reducible refine ix3i ?_ ?_ (fun _ _ _ => ?_)); (· walk_at "z"); (· walk_at "z"))
    | refine ⟨_, rfl, ?_⟩)
  | ((with_reducible refine fill_st ?_); refine ⟨_, rfl, ?_⟩; (try dsimp only))
  | ((with_reducible apply and_go rfl); (· (intro _; (repeat walk_at "s"); with_reducible exact ⟨rfl, rfl⟩)))
  | ((with_reducible refine is_chain ?_); (apply chain_go rfl); (· (intro _; (repeat walk_at "s"); exact ⟨rfl, rfl⟩)))
  | ((with_reducible refine draw_step (by assumption) ?_ ?_ (fun _ _ _ _ _ => ?_)); (· walk_at "z"); (· walk_at "z"))
  | ((with_reducible refine CLY.draw_step (by assumption) ?_ ?_ (fun _ _ _ _ _ => ?_)); (· walk_at "z"); (· walk_at "z"))
  | ((with_reducible refine is_evA ?_); refine ⟨_, rfl, ?_⟩)
  | ((with_reducible refine is_evL ?_); refine ⟨_, rfl, ?_⟩)
  | ((with_reducible refine is_evI ?_); refine ⟨_, rfl, ?_⟩)
  | ((with_reducible refine is_evR ?_); refine ⟨_, rfl, ?_⟩))
local macro_rules | `(tactic| walk_at "f") => `(tactic| first
  | with_reducible refine W_mV.mpr ?_
  | with_reducible refine W_mCons.mpr ?_
  | with_reducible refine W_m2.mpr ?_
  | with_reducible refine W_mC.mpr ?_
  | with_reducible refine W_mNil.mpr ?_
  | with_reducible refine W_mN.mpr ?_
  | with_reducible refine W_sSeq.mpr ?_
  | with_reducible refine W_sAsg.mpr ?_
  | with_reducible refine W_m1.mpr ?_
  | with_reducible refine W_mCallP.mpr ?_
  | with_reducible refine W_mCall.mpr ?_
  | with_reducible refine X_evI.mpr ?_
  | with_reducible refine X_evE.mpr ?_
  | with_reducible refine X_evN.mpr ?_
  | with_reducible refine X_if ?_
  | with_reducible refine W_sRet.mpr ?_
  | with_reducible refine W_sK.mpr ?_
  | with_reducible refine X_and ?_
  | with_reducible refine X_or ?_
  | with_reducible refine W_sPar.mpr ?_
  | with_reducible refine W_mSl.mpr ?_
  | with_reducible refine W_mPtN.mpr ?_
  | with_reducible refine W_mPtS.mpr ?_
  | with_reducible refine W_mIt.mpr ?_
  | with_reducible refine W_mItN.mpr ?_
  | with_reducible refine W_mComp.mpr ?_
  | ((with_reducible refine is_comp ?_); first | (apply X_compN; (· walk_at "o")) | ((with_reducible apply X_compY); (· walk_at "o"); (· rfl)))
  | with_reducible refine W_sFor.mpr ?_
  | ((with_reducible refine is_for ?_); refine W_forNil.mpr ?_)
  | with_reducible refine X_chain ?_
  | with_reducible refine W_sExp.mpr ?_
  | with_reducible refine W_mL.mpr ?_
  | with_reducible refine X_mif ?_
  | with_reducible refine W_mIxS.mpr ?_
  | with_reducible refine W_mYes.mpr ?_
  | with_reducible refine W_sPar3.mpr ?_
  | with_reducible refine W_mApp.mpr ?_
  | with_reducible refine W_mBor.mpr ?_
  | with_reducible refine CLX.W_sFz.mpr ?_)
local macro_rules | `(tactic| walk_at "s") => `(tactic| first
  | ((with_reducible refine is_W ?_); walk_at "f")
  | ((with_reducible refine is_ex ?_); first
    | ((with_reducible refine is_evS ?_); refine ⟨_, rfl, ?_⟩)
    | ((with_reducible apply call_st); (· with_reducible assumption))
    | with_reducible refine min_ln ?_
    | with_reducible refine max_ln ?_
    | with_reducible refine min_two ?_
    | with_reducible refine max_two ?_
    | with_reducible refine gt_st ?_
    | with_reducible refine le_st ?_
    | with_reducible refine eqn_st ?_
    | with_reducible refine add1_st ?_
    | walk_at "e")
  | ((with_reducible apply X_nx); (· walk_at "o"))
  | with_reducible refine Kq_ret.mpr ?_
  | with_reducible refine Kq_brk.mpr ?_
  | with_reducible refine Kq_cnt.mpr ?_
  | ((with_reducible apply X_fnx); (· walk_at "o"))
  | ((with_reducible apply X_fcnt); (· walk_at "o"))
  | with_reducible refine X_fbrk ?_
  | with_reducible refine X_fret ?_
  | ((with_reducible refine is_ltA ?_); refine ⟨?_, ?_⟩; (· first | decide | omega | (simp; omega) | (simp; done)))
  | with_reducible refine parW_mk.mpr ?_
  | with_reducible refine par3W_mk.mpr ?_)
local macro_rules | `(tactic| walk_at "r") => `(tactic| repeat walk_at "s")
local macro_rules | `(tactic| walk_at "u") => `(tactic| first | ((apply X_forC); (· walk_at "o"); (· rfl)) | ((apply X_compY); (· walk_at "o"); (· rfl)) | ((apply X_compC); (· walk_at "o"); (· rfl)))
end CLX
namespace CL
open PySem L2
end CL
namespace CLX
open PySem PySem.Spec L2 CL CLG
local macro_rules | `(tactic| walk_at "o") => `(tactic| ((try simp only [backA, List.set_cons_zero, List.set_cons_succ, wipeD, List.map_cons, List.map_nil, List.cons_append, List.nil_append, List.replicate_succ, List.replicate_zero]); first | done | rfl))
local macro_rules | `(tactic| walk_at "b") => `(tactic| first
  | with_reducible exact Nb.lit
  | ((with_reducible apply Nb.mul) <;> walk_at "b")
  | ((with_reducible apply Nb.add) <;> walk_at "b")
  | ((with_reducible apply Nb.sub) <;> walk_at "b")
  | ((with_reducible apply Nb.neg) <;> walk_at "b")
  | ((with_reducible apply Nb.fdiv) <;> walk_at "b")
  | ((with_reducible apply Nb.fmod); (· walk_at "z"); (· walk_at "b"))
  | ((with_reducible apply Nb.max) <;> walk_at "b")
  | ((with_reducible apply Nb.min) <;> walk_at "b")
  | ((with_reducible apply Nb.ite) <;> walk_at "b")
  | with_reducible assumption
  | with_reducible exact Nb.le (by assumption)
  | with_reducible exact Nb.nle (by assumption)
  | with_reducible exact Nb.lt (by assumption)
  | ((with_reducible apply Nb.rng (by assumption) (by assumption)) <;> walk_at "b")
  | ((with_reducible apply Nb.rngE (by assumption) (by assumption)) <;> walk_at "b")
  | with_reducible exact Nb.self _)
local macro_rules | `(tactic| walk_at "z") => `(tactic| first | decide | assumption | omega | exact fmod_nn (by omega) | exact fmod_lt (by omega))
local macro_rules | `(tactic| walk_at "e") => `(tactic| first
  | ((with_reducible refine is_ev ?_); first
    | ((with_reducible apply mul_st); (· walk_at "b"); (· walk_at "b"); (· rfl))
    | ((with_reducible apply mul_s1); (· walk_at "b"); (· rfl))
    | ((with_reducible apply mul_s2); (· walk_at "b"); (· rfl))
    | ((with_reducible apply div_st); (· walk_at "z"); (· walk_at "b"); (· rfl))
    | ((with_reducible apply mod_st); (· walk_at "z"))
    | with_reducible apply tup_pt
    | with_reducible apply tup_ln
    | ((with_reducible apply tup_st); (· rfl))
    | ((with_reducible apply lst_st); (· rfl))
    | with_reducible apply eqi_st
    | with_reducible apply nei_st
    | with_reducible apply eqp_st
    | with_reducible apply nep_st
    | with_reducible apply eqp_st'
    | with_reducible apply nep_st'
    | with_reducible apply eqb_st
    | with_reducible apply neb_st
    | with_reducible apply isb_st
    | with_reducible apply eqs_st
    | with_reducible apply nes_st
    | with_reducible refine ix2bi (fun _ _ _ => ?_)
    | ((with_reducible refine ix4i ?_ ?_ (fun _ _ _ => ?_)); (· walk_at "z"); (· walk_at "z"))
    | ((with_reducible refine ix2i ?_ ?_ (fun _ _ _ => ?_)); (· walk_at "z"); (· walk_at "z"))
    | ((with_reducible refine ix3i ?_ ?_ (fun _ _ _ => ?_)); (· walk_at "z"); (· walk_at "z"))
    | refine ⟨_, rfl, ?_⟩)
  | ((with_reducible refine fill_st ?_); refine ⟨_, rfl, ?_⟩; (try dsimp only))
  | ((with_reducible apply and_go rfl); (· (intro _; (repeat walk_at "s"); with_reducible exact ⟨rfl, rfl⟩)))
  | ((with_reducible refine is_chain ?_); (apply chain_go rfl); (· (intro _; (repeat walk_at "s"); exact ⟨rfl, rfl⟩)))
  | ((with_reducible refine draw_step (by assumption) ?_ ?_ (fun _ _ _ _ _ => ?_)); (· walk_at "z"); (· walk_at "z"))
  | ((with_reducible refine CLY.draw_step (by assumption) ?_ ?_ (fun _ _ _ _ _ => ?_)); (· walk_at "z"); (· walk_at "z"))
  | ((with_reducible refine is_evA ?_); refine ⟨_, rfl, ?_⟩)
  | ((with_reducible refine is_evL ?_); refine ⟨_, rfl, ?_⟩)
  | ((with_reducible refine is_evI ?_); refine ⟨_, rfl, ?_⟩)
  | ((with_reducible refine is_evR ?_); refine ⟨_, rfl, ?_⟩))
local macro_rules | `(tactic| walk_at "f") => `(tactic| first
  | with_reducible refine W_mV.mpr ?_
  | with_reducible refine W_mCons.mpr ?_
  | with_reducible refine W_m2.mpr ?_
  | with_reducible refine W_mC.mpr ?_
  | with_reducible refine W_mNil.mpr ?_
  | with_reducible refine W_mN.mpr ?_
  | with_reducible refine W_sSeq.mpr ?_
  | with_reducible refine W_sAsg.mpr ?_
  | with_reducible refine W_m1.mpr ?_
  | with_reducible refine W_mCallP.mpr ?_
  | with_reducible refine W_mCall.mpr ?_
  | with_reducible refine X_evI.mpr ?_
  | with_reducible refine X_evE.mpr ?_
  | with_reducible refine X_evN.mpr ?_
  | with_reducible refine X_if ?_
  | with_reducible refine W_sRet.mpr ?_
  | with_reducible refine W_sK.mpr ?_
  | with_reducible refine X_and ?_
  | with_reducible refine X_or ?_
  | with_reducible refine W_sPar.mpr ?_
  | with_reducible refine W_mSl.mpr ?_
  | with_reducible refine W_mPtN.mpr ?_
  | with_reducible refine W_mPtS.mpr ?_
  | with_reducible refine W_mIt.mpr ?_
  | with_reducible refine W_mItN.mpr ?_
  | with_reducible refine W_mComp.mpr ?_
  | ((with_reducible refine is_comp ?_); first | (apply X_compN; (· walk_at "o")) | ((with_reducible apply X_compY); (· walk_at "o"); (· rfl)))
  | with_reducible refine W_sFor.mpr ?_
  | ((with_reducible refine is_for ?_); refine W_forNil.mpr ?_)
  | with_reducible refine X_chain ?_
  | with_reducible refine W_sExp.mpr ?_
  | with_reducible refine W_mL.mpr ?_
  | with_reducible refine X_mif ?_
  | with_reducible refine W_mIxS.mpr ?_
  | with_reducible refine W_mYes.mpr ?_
  | with_reducible refine W_sPar3.mpr ?_
  | with_reducible refine W_mApp.mpr ?_
  | with_reducible refine W_mBor.mpr ?_
  | with_reducible refine CLX.W_sFz.mpr ?_)
local macro_rules | `(tactic| walk_at "s") => `(tactic| first
  | ((with_reducible refine is_W ?_); walk_at "f")
  | ((with_reducible refine is_ex ?_); first
    | ((with_reducible refine is_evS ?_); refine ⟨_, rfl, ?_⟩)
    | ((with_reducible apply call_st); (· with_reducible assumption))
    | ((with_reducible apply ev_st); (· with_reducible assumption))
    | with_reducible refine ⟨_, rvL, ?_⟩
    | walk_at "e")
  | ((with_reducible apply X_nx); (· walk_at "o"))
  | with_reducible refine Kq_ret.mpr ?_
  | with_reducible refine Kq_brk.mpr ?_
  | with_reducible refine Kq_cnt.mpr ?_
  | ((with_reducible apply X_fnx); (· walk_at "o"))
  | ((with_reducible apply X_fcnt); (· walk_at "o"))
  | with_reducible refine X_fbrk ?_
  | with_reducible refine X_fret ?_
  | ((with_reducible refine is_ltA ?_); refine ⟨?_, ?_⟩; (· first | decide | omega | (simp; omega) | (simp; done)))
  | with_reducible refine parW_mk.mpr ?_
  | with_reducible refine par3W_mk.mpr ?_)
local macro_rules | `(tactic| walk_at "r") => `(tactic| repeat walk_at "s")
local macro_rules | `(tactic| walk_at "u") => `(tactic| first | ((apply X_forC); (· walk_at "o"); (· rfl)) | ((apply X_compY); (· walk_at "o"); (· rfl)) | ((apply X_compC); (· walk_at "o"); (· rfl)))
local macro_rules | `(tactic| walk_at "g") => `(tactic| repeat first | walk_at "s" | (with_reducible refine go_ifF (rfl : _ = false) ?_) | (with_reducible refine go_ifT (rfl : _ = true) ?_) | (refine go_ifF (rfl : _ = false) ?_) | (refine go_ifT (rfl : _ = true) ?_) | walk_at "u")
theorem low_le {n m d : Int} : (low n m d).n.natAbs ≤ n.natAbs ∧ (low n m d).m.natAbs ≤ m.natAbs ∧ (low n m d).d.natAbs ≤ d.natAbs := ⟨Int.natAbs_ediv_le_natAbs _ _, Int.natAbs_ediv_le_natAbs _ _, Int.natAbs_ediv_le_natAbs _ _⟩
def SpB (s : CLG.Sp) : Prop := Nb 200 s.n ∧ Nb 200 s.m ∧ Nb 200 s.d
theorem common_bd {p q : Li} (hp : Sml p) (hq : Sml q) : (∀ s ∈ p.common q, SpB s) ∧ (p.common q).length ≤ 2 := by
  have pn : ∀ (a b : Pn), a.x.natAbs ≤ 10000000 → a.y.natAbs ≤ 10000000 → SpB ⟨a.x, a.y, 1⟩ := fun a b h1 h2 => ⟨(Nb.le h1).mono (by decide), (Nb.le h2).mono (by decide), (Nb.lit (n := 1)).mono (by decide)⟩
  have lo : ∀ r : Li, Sml r → r.lo.x.natAbs ≤ 10000000 ∧ r.lo.y.natAbs ≤ 10000000 ∧ r.hi.x.natAbs ≤ 10000000 ∧ r.hi.y.natAbs ≤ 10000000 := fun r hr => by
    rcases lo_or r with e | e <;> rcases hi_or r with e' | e' <;> rw [e, e'] <;> exact ⟨by first | exact hr.x | exact hr.u, by first | exact hr.y | exact hr.v, by first | exact hr.x | exact hr.u, by first | exact hr.y | exact hr.v⟩
  have l1 := lo p hp
  have l2 := lo q hq
  have mx : SpB ⟨(pmax p.lo q.lo).x, (pmax p.lo q.lo).y, 1⟩ := by
    rcases pmax_or p.lo q.lo with e | e <;> rw [e]
    · exact pn p.lo p.lo l1.1 l1.2.1
    · exact pn q.lo p.lo l2.1 l2.2.1
  have mn : SpB ⟨(pmin p.hi q.hi).x, (pmin p.hi q.hi).y, 1⟩ := by
    rcases pmin_or p.hi q.hi with e | e <;> rw [e]
    · exact pn p.hi p.lo l1.2.2.1 l1.2.2.2
    · exact pn q.hi p.lo l2.2.2.1 l2.2.2.2
  unfold Li.common
  split
  · split
    · unfold Li.along
      split
      · simp
      · split
        · exact ⟨fun s hs => by rw [List.mem_singleton.mp hs]; exact mx, by simp⟩
        · refine ⟨fun s hs => ?_, by simp⟩
          rcases List.mem_cons.mp hs with rfl | hs
          · exact mx
          · rw [List.mem_singleton.mp hs]; exact mn
    · simp
  · split
    · refine ⟨fun s hs => ?_, by simp⟩
      rw [List.mem_singleton.mp hs]
      unfold Li.spot
      obtain ⟨b1, b2, b3⟩ := m_bd hp hq
      have bx : Nb 200 (p.x * (sg (p.m q) * p.m q) + sg (p.m q) * p.k q * (p.u - p.x)) := (Nb.add (Nb.mul (Nb.le hp.x) (Nb.le b1)) (Nb.mul (Nb.le b2) (Nb.le (sub8 hp.u hp.x)))).mono (by decide)
      have bY : Nb 200 (p.y * (sg (p.m q) * p.m q) + sg (p.m q) * p.k q * (p.v - p.y)) := (Nb.add (Nb.mul (Nb.le hp.y) (Nb.le b1)) (Nb.mul (Nb.le b2) (Nb.le (sub8 hp.v hp.y)))).mono (by decide)
      have bm : Nb 200 (sg (p.m q) * p.m q) := (Nb.le b1).mono (by decide)
      obtain ⟨c1, c2, c3⟩ := low_le (n := p.x * (sg (p.m q) * p.m q) + sg (p.m q) * p.k q * (p.u - p.x)) (m := p.y * (sg (p.m q) * p.m q) + sg (p.m q) * p.k q * (p.v - p.y)) (d := sg (p.m q) * p.m q)
      exact ⟨Nat.lt_of_le_of_lt c1 bx, Nat.lt_of_le_of_lt c2 bY, Nat.lt_of_le_of_lt c3 bm⟩
    · simp
end CLX
namespace CLY
open PySem PySem.Spec L2 CL CLG
local macro_rules | `(tactic| walk_at "o") => `(tactic| ((try simp only [backA, List.set_cons_zero, List.set_cons_succ, wipeD, List.map_cons, List.map_nil, List.cons_append, List.nil_append, List.replicate_succ, List.replicate_zero]); first | done | rfl))
local macro_rules | `(tactic| walk_at "b") => `(tactic| first
  | with_reducible exact Nb.lit
  | ((with_reducible apply Nb.mul) <;> walk_at "b")
  | ((with_reducible apply Nb.add) <;> walk_at "b")
  | ((with_reducible apply Nb.sub) <;> walk_at "b")
  | ((with_reducible apply Nb.neg) <;> walk_at "b")
  | ((with_reducible apply Nb.fdiv) <;> walk_at "b")
  | ((with_reducible apply Nb.fmod); (· walk_at "z"); (· walk_at "b"))
  | ((with_reducible apply Nb.max) <;> walk_at "b")
  | ((with_reducible apply Nb.min) <;> walk_at "b")
  | ((with_reducible apply Nb.ite) <;> walk_at "b")
  | with_reducible assumption
  | with_reducible exact Nb.le (by assumption)
  | with_reducible exact Nb.nle (by assumption)
  | with_reducible exact Nb.lt (by assumption)
  | ((with_reducible apply Nb.rng (by assumption) (by assumption)) <;> walk_at "b")
  | ((with_reducible apply Nb.rngE (by assumption) (by assumption)) <;> walk_at "b")
  | with_reducible exact Nb.self _)
local macro_rules | `(tactic| walk_at "z") => `(tactic| first | decide | assumption | omega | exact fmod_nn (by omega) | exact fmod_lt (by omega))
local macro_rules | `(tactic| walk_at "e") => `(tactic| first
  | ((with_reducible refine is_ev ?_); first
    | ((with_reducible apply mul_st); (· walk_at "b"); (· walk_at "b"); (· rfl))
    | ((with_reducible apply mul_s1); (· walk_at "b"); (· rfl))
    | ((with_reducible apply mul_s2); (· walk_at "b"); (· rfl))
    | ((with_reducible apply div_st); (· walk_at "z"); (· walk_at "b"); (· rfl))
    | ((with_reducible apply mod_st); (· walk_at "z"))
    | with_reducible apply tup_pt
    | with_reducible apply tup_ln
    | ((with_reducible apply tup_st); (· rfl))
    | ((with_reducible apply lst_st); (· rfl))
    | with_reducible apply eqi_st
    | with_reducible apply nei_st
    | with_reducible apply eqp_st
    | with_reducible apply nep_st
    | with_reducible apply eqp_st'
    | with_reducible apply nep_st'
    | with_reducible apply eqb_st
    | with_reducible apply neb_st
    | with_reducible apply isb_st
    | with_reducible apply eqs_st
    | with_reducible apply nes_st
    | with_reducible refine ix2bi (fun _ _ _ => ?_)
    | ((with_reducible refine ix4i ?_ ?_ (fun _ _ _ => ?_)); (· walk_at "z"); (· walk_at "z"))
    | ((with_reducible refine ix2i ?_ ?_ (fun _ _ _ => ?_)); (· walk_at "z"); (· walk_at "z"))
    | ((with_reducible refine ix3i ?_ ?_ (fun _ _ _ => ?_)); (· walk_at "z"); (· walk_at "z"))
    | refine ⟨_, rfl, ?_⟩)
  | ((with_reducible refine fill_st ?_); refine ⟨_, rfl, ?_⟩; (try dsimp only))
  | ((with_reducible apply and_go rfl); (· (intro _; (repeat walk_at "s"); with_reducible exact ⟨rfl, rfl⟩)))
  | ((with_reducible refine is_chain ?_); (apply chain_go rfl); (· (intro _; (repeat walk_at "s"); exact ⟨rfl, rfl⟩)))
  | ((with_reducible refine draw_step (by assumption) ?_ ?_ (fun _ _ _ _ _ => ?_)); (· walk_at "z"); (· walk_at "z"))
  | ((with_reducible refine CLY.draw_step (by assumption) ?_ ?_ (fun _ _ _ _ _ => ?_)); (· walk_at "z"); (· walk_at "z"))
  | ((with_reducible refine is_evA ?_); refine ⟨_, rfl, ?_⟩)
  | ((with_reducible refine is_evL ?_); refine ⟨_, rfl, ?_⟩)
  | ((with_reducible refine is_evI ?_); refine ⟨_, rfl, ?_⟩)
  | ((with_reducible refine is_evR ?_); refine ⟨_, rfl, ?_⟩))
local macro_rules | `(tactic| walk_at "f") => `(tactic| first
  | with_reducible refine W_mV.mpr ?_
  | with_reducible refine W_mCons.mpr ?_
  | with_reducible refine W_m2.mpr ?_
  | with_reducible refine W_mC.mpr ?_
  | with_reducible refine W_mNil.mpr ?_
  | with_reducible refine W_mN.mpr ?_
  | with_reducible refine W_sSeq.mpr ?_
  | with_reducible refine W_sAsg.mpr ?_
  | with_reducible refine W_m1.mpr ?_
  | with_reducible refine W_mCallP.mpr ?_
  | with_reducible refine W_mCall.mpr ?_
  | with_reducible refine X_evI.mpr ?_
  | with_reducible refine X_evE.mpr ?_
  | with_reducible refine X_evN.mpr ?_
  | with_reducible refine X_if ?_
  | with_reducible refine W_sRet.mpr ?_
  | with_reducible refine W_sK.mpr ?_
  | with_reducible refine X_and ?_
  | with_reducible refine X_or ?_
  | with_reducible refine W_sPar.mpr ?_
  | with_reducible refine W_mSl.mpr ?_
  | with_reducible refine W_mPtN.mpr ?_
  | with_reducible refine W_mPtS.mpr ?_
  | with_reducible refine W_mIt.mpr ?_
  | with_reducible refine W_mItN.mpr ?_
  | with_reducible refine W_mComp.mpr ?_
  | ((with_reducible refine is_comp ?_); first | (apply X_compN; (· walk_at "o")) | ((with_reducible apply X_compY); (· walk_at "o"); (· rfl)))
  | with_reducible refine W_sFor.mpr ?_
  | ((with_reducible refine is_for ?_); refine W_forNil.mpr ?_)
  | with_reducible refine X_chain ?_
  | with_reducible refine W_sExp.mpr ?_
  | with_reducible refine W_mL.mpr ?_
  | with_reducible refine X_mif ?_
  | with_reducible refine W_mIxS.mpr ?_
  | with_reducible refine W_mYes.mpr ?_
  | with_reducible refine W_sPar3.mpr ?_
  | with_reducible refine W_mApp.mpr ?_
  | with_reducible refine W_mBor.mpr ?_
  | with_reducible refine CLX.W_sFz.mpr ?_)
local macro_rules | `(tactic| walk_at "s") => `(tactic| first
  | ((with_reducible refine is_W ?_); walk_at "f")
  | ((with_reducible refine is_ex ?_); first
    | ((with_reducible refine is_evS ?_); refine ⟨_, rfl, ?_⟩)
    | ((with_reducible apply call_st); (· with_reducible assumption))
    | walk_at "e")
  | ((with_reducible apply X_nx); (· walk_at "o"))
  | with_reducible refine Kq_ret.mpr ?_
  | with_reducible refine Kq_brk.mpr ?_
  | with_reducible refine Kq_cnt.mpr ?_
  | ((with_reducible apply X_fnx); (· walk_at "o"))
  | ((with_reducible apply X_fcnt); (· walk_at "o"))
  | with_reducible refine X_fbrk ?_
  | with_reducible refine X_fret ?_
  | ((with_reducible refine is_ltA ?_); refine ⟨?_, ?_⟩; (· first | decide | omega | (simp; omega) | (simp; done)))
  | with_reducible refine parW_mk.mpr ?_
  | with_reducible refine par3W_mk.mpr ?_)
local macro_rules | `(tactic| walk_at "r") => `(tactic| repeat walk_at "s")
local macro_rules | `(tactic| walk_at "u") => `(tactic| first | ((apply X_forC); (· walk_at "o"); (· rfl)) | ((apply X_compY); (· walk_at "o"); (· rfl)) | ((apply X_compC); (· walk_at "o"); (· rfl)))
local macro_rules | `(tactic| walk_at "g") => `(tactic| repeat first | walk_at "s" | (with_reducible refine go_ifF (rfl : _ = false) ?_) | (with_reducible refine go_ifT (rfl : _ = true) ?_) | (refine go_ifF (rfl : _ = false) ?_) | (refine go_ifT (rfl : _ = true) ?_) | walk_at "u")
end CLY
namespace CLG
inductive Pa where
  | apart (P Q R : Int)
  | meets (k m l n : Int)
structure On (p : Li) (s : Sp) (K M : Int) : Prop where
  m : 0 < M
  k0 : 0 ≤ K
  k1 : K ≤ M
  x : (p.x * M + K * (p.u - p.x)) * s.d = s.n * M
  y : (p.y * M + K * (p.v - p.y)) * s.d = s.m * M
theorem On.scale {p : Li} {s : Sp} {K M k m : Int} (h : On p s K M) (hm : 0 < m) (e : k * M = K * m) : On p s k m := by
  obtain ⟨M0, K0, K1, hx, hy⟩ := h
  refine ⟨hm, ?_, ?_, ?_, ?_⟩
  · refine Int.not_lt.mp fun n => ?_
    have h1 := Int.mul_neg_of_neg_of_pos n M0
    have h2 := Int.mul_nonneg K0 (Int.le_of_lt hm)
    omega
  · refine Int.not_lt.mp fun n => ?_
    have h1 := Int.mul_lt_mul_of_pos_right n M0
    have h2 := Int.mul_le_mul_of_nonneg_right K1 (Int.le_of_lt hm)
    rw [e, Int.mul_comm m M] at h1
    omega
  · refine Int.eq_of_mul_eq_mul_right (Int.ne_of_gt M0) ?_
    grind
  · refine Int.eq_of_mul_eq_mul_right (Int.ne_of_gt M0) ?_
    grind
def share0 (p : Li) (s : Sp) : Int × Int := if p.u - p.x = 0 then (s.m - p.y * s.d, (p.v - p.y) * s.d) else (s.n - p.x * s.d, (p.u - p.x) * s.d)
def share (p : Li) (s : Sp) : Int × Int := if (share0 p s).2 < 0 then (0 - (share0 p s).1, 0 - (share0 p s).2) else share0 p s
theorem On.share {p : Li} {s : Sp} {K M : Int} (hd : 0 < s.d) (op : p.ok) (h : On p s K M) : On p s (share p s).1 (share p s).2 := by
  have e : (share0 p s).1 * M = K * (share0 p s).2 ∧ (share0 p s).2 ≠ 0 := by
    obtain ⟨M0, K0, K1, hx, hy⟩ := h
    unfold share0
    split
    · rename_i h0
      refine ⟨?_, Int.mul_ne_zero (fun z => op ⟨by omega, by omega⟩) (by omega)⟩
      dsimp only; clear hx; grind
    · rename_i h0
      refine ⟨?_, Int.mul_ne_zero h0 (by omega)⟩
      dsimp only; clear hy; grind
  unfold CLG.share
  split
  · rename_i hn
    refine h.scale (by dsimp only; omega) ?_
    have := e.1
    dsimp only; grind
  · exact h.scale (by have := e.2; omega) e.1
end CLG
namespace CLP
open PySem PySem.Spec L2 CL CLG CLX
def B_share_of : MS := (sSeq (sAsg (pN 2) (mCallP F_step_of (mCons (mV 0) mNil))) (sSeq (sAsg (pN 3) (mN bInt (mCons (m2 bEq (m2 bIx (mV 2) (mC (.int 0))) (mC (.int 0))) mNil))) (sSeq (sPar 4 5 (mCons (m2 bSub (m2 bIx (mV 1) (mV 3)) (m2 bMul (m2 bIx (m2 bIx (mV 0) (mC (.int 0))) (mV 3)) (m2 bIx (mV 1) (mC (.int 2))))) (mCons (m2 bMul (m2 bIx (mV 2) (mV 3)) (m2 bIx (mV 1) (mC (.int 2)))) mNil))) (sSeq (sIf (m2 bLt (mV 5) (mC (.int 0))) (sRet (mN bTup (mCons (m2 bSub (mC (.int 0)) (mV 4)) (mCons (m2 bSub (mC (.int 0)) (mV 5)) mNil)))) (sK .nx)) (sRet (mN bTup (mCons (mV 4) (mCons (mV 5) mNil))))))))
def F_share_of : List D → Res D := runP 4 B_share_of
def Pa.bd : Pa → Prop
  | .apart P Q R => Nb 300 P ∧ Nb 300 Q ∧ Nb 300 R
  | .meets k m l n => Nb 300 k ∧ Nb 300 m ∧ Nb 300 l ∧ Nb 300 n
local macro_rules | `(tactic| walk_at "o") => `(tactic| ((try simp only [backA, List.set_cons_zero, List.set_cons_succ, wipeD, List.map_cons, List.map_nil, List.cons_append, List.nil_append, List.replicate_succ, List.replicate_zero]); first | done | rfl))
local macro_rules | `(tactic| walk_at "b") => `(tactic| first
  | with_reducible exact Nb.lit
  | ((with_reducible apply Nb.mul) <;> walk_at "b")
  | ((with_reducible apply Nb.add) <;> walk_at "b")
  | ((with_reducible apply Nb.sub) <;> walk_at "b")
  | ((with_reducible apply Nb.neg) <;> walk_at "b")
  | ((with_reducible apply Nb.fdiv) <;> walk_at "b")
  | ((with_reducible apply Nb.fmod); (· walk_at "z"); (· walk_at "b"))
  | ((with_reducible apply Nb.max) <;> walk_at "b")
  | ((with_reducible apply Nb.min) <;> walk_at "b")
  | ((with_reducible apply Nb.ite) <;> walk_at "b")
  | with_reducible assumption
  | with_reducible exact Nb.le (by assumption)
  | with_reducible exact Nb.nle (by assumption)
  | with_reducible exact Nb.lt (by assumption)
  | ((with_reducible apply Nb.rng (by assumption) (by assumption)) <;> walk_at "b")
  | ((with_reducible apply Nb.rngE (by assumption) (by assumption)) <;> walk_at "b")
  | with_reducible exact Nb.self _)
local macro_rules | `(tactic| walk_at "z") => `(tactic| first | decide | assumption | omega | exact fmod_nn (by omega) | exact fmod_lt (by omega))
local macro_rules | `(tactic| walk_at "e") => `(tactic| first
  | ((with_reducible refine is_ev ?_); first
    | ((with_reducible apply mul_st); (· walk_at "b"); (· walk_at "b"); (· rfl))
    | ((with_reducible apply mul_s1); (· walk_at "b"); (· rfl))
    | ((with_reducible apply mul_s2); (· walk_at "b"); (· rfl))
    | ((with_reducible apply div_st); (· walk_at "z"); (· walk_at "b"); (· rfl))
    | ((with_reducible apply mod_st); (· walk_at "z"))
    | with_reducible apply tup_pt
    | with_reducible apply tup_ln
    | ((with_reducible apply tup_st); (· rfl))
    | ((with_reducible apply lst_st); (· rfl))
    | with_reducible apply eqi_st
    | with_reducible apply nei_st
    | with_reducible apply eqp_st
    | with_reducible apply nep_st
    | with_reducible apply eqp_st'
    | with_reducible apply nep_st'
    | with_reducible apply eqb_st
    | with_reducible apply neb_st
    | with_reducible apply isb_st
    | with_reducible apply eqs_st
    | with_reducible apply nes_st
    | with_reducible refine ix2bi (fun _ _ _ => ?_)
    | ((with_reducible refine ix4i ?_ ?_ (fun _ _ _ => ?_)); (· walk_at "z"); (· walk_at "z"))
    | ((with_reducible refine ix2i ?_ ?_ (fun _ _ _ => ?_)); (· walk_at "z"); (· walk_at "z"))
    | ((with_reducible refine ix3i ?_ ?_ (fun _ _ _ => ?_)); (· walk_at "z"); (· walk_at "z"))
    | refine ⟨_, rfl, ?_⟩)
  | ((with_reducible refine fill_st ?_); refine ⟨_, rfl, ?_⟩; (try dsimp only))
  | ((with_reducible apply and_go rfl); (· (intro _; (repeat walk_at "s"); with_reducible exact ⟨rfl, rfl⟩)))
  | ((with_reducible refine is_chain ?_); (apply chain_go rfl); (· (intro _; (repeat walk_at "s"); exact ⟨rfl, rfl⟩)))
  | ((with_reducible refine draw_step (by assumption) ?_ ?_ (fun _ _ _ _ _ => ?_)); (· walk_at "z"); (· walk_at "z"))
  | ((with_reducible refine CLY.draw_step (by assumption) ?_ ?_ (fun _ _ _ _ _ => ?_)); (· walk_at "z"); (· walk_at "z"))
  | ((with_reducible refine is_evA ?_); refine ⟨_, rfl, ?_⟩)
  | ((with_reducible refine is_evL ?_); refine ⟨_, rfl, ?_⟩)
  | ((with_reducible refine is_evI ?_); refine ⟨_, rfl, ?_⟩)
  | ((with_reducible refine is_evR ?_); refine ⟨_, rfl, ?_⟩))
local macro_rules | `(tactic| walk_at "f") => `(tactic| first
  | with_reducible refine W_mV.mpr ?_
  | with_reducible refine W_mCons.mpr ?_
  | with_reducible refine W_m2.mpr ?_
  | with_reducible refine W_mC.mpr ?_
  | with_reducible refine W_mNil.mpr ?_
  | with_reducible refine W_mN.mpr ?_
  | with_reducible refine W_sSeq.mpr ?_
  | with_reducible refine W_sAsg.mpr ?_
  | with_reducible refine W_m1.mpr ?_
  | with_reducible refine W_mCallP.mpr ?_
  | with_reducible refine W_mCall.mpr ?_
  | with_reducible refine X_evI.mpr ?_
  | with_reducible refine X_evE.mpr ?_
  | with_reducible refine X_evN.mpr ?_
  | with_reducible refine X_if ?_
  | with_reducible refine W_sRet.mpr ?_
  | with_reducible refine W_sK.mpr ?_
  | with_reducible refine X_and ?_
  | with_reducible refine X_or ?_
  | with_reducible refine W_sPar.mpr ?_
  | with_reducible refine W_mSl.mpr ?_
  | with_reducible refine W_mPtN.mpr ?_
  | with_reducible refine W_mPtS.mpr ?_
  | with_reducible refine W_mIt.mpr ?_
  | with_reducible refine W_mItN.mpr ?_
  | with_reducible refine W_mComp.mpr ?_
  | ((with_reducible refine is_comp ?_); first | (apply X_compN; (· walk_at "o")) | ((with_reducible apply X_compY); (· walk_at "o"); (· rfl)))
  | with_reducible refine W_sFor.mpr ?_
  | ((with_reducible refine is_for ?_); refine W_forNil.mpr ?_)
  | with_reducible refine X_chain ?_
  | with_reducible refine W_sExp.mpr ?_
  | with_reducible refine W_mL.mpr ?_
  | with_reducible refine X_mif ?_
  | with_reducible refine W_mIxS.mpr ?_
  | with_reducible refine W_mYes.mpr ?_
  | with_reducible refine W_sPar3.mpr ?_
  | with_reducible refine W_mApp.mpr ?_
  | with_reducible refine W_mBor.mpr ?_
  | with_reducible refine CLX.W_sFz.mpr ?_)
local macro_rules | `(tactic| walk_at "s") => `(tactic| first
  | ((with_reducible refine is_W ?_); walk_at "f")
  | ((with_reducible refine is_ex ?_); first
    | ((with_reducible refine is_evS ?_); refine ⟨_, rfl, ?_⟩)
    | ((with_reducible apply call_st); (· with_reducible assumption))
    | ((with_reducible apply ev_st); (· with_reducible assumption))
    | with_reducible refine isi_t ?_
    | with_reducible refine isi_s ?_
    | with_reducible refine isi_i ?_
    | with_reducible refine isi_ib ?_
    | with_reducible refine isi_b ?_
    | walk_at "e")
  | ((with_reducible apply X_nx); (· walk_at "o"))
  | with_reducible refine Kq_ret.mpr ?_
  | with_reducible refine Kq_brk.mpr ?_
  | with_reducible refine Kq_cnt.mpr ?_
  | ((with_reducible apply X_fnx); (· walk_at "o"))
  | ((with_reducible apply X_fcnt); (· walk_at "o"))
  | with_reducible refine X_fbrk ?_
  | with_reducible refine X_fret ?_
  | ((with_reducible refine is_ltA ?_); refine ⟨?_, ?_⟩; (· first | decide | omega | (simp; omega) | (simp; done)))
  | with_reducible refine parW_mk.mpr ?_
  | with_reducible refine par3W_mk.mpr ?_)
local macro_rules | `(tactic| walk_at "r") => `(tactic| repeat walk_at "s")
local macro_rules | `(tactic| walk_at "u") => `(tactic| first | ((apply X_forC); (· walk_at "o"); (· rfl)) | ((apply X_compY); (· walk_at "o"); (· rfl)) | ((apply X_compC); (· walk_at "o"); (· rfl)))
local macro_rules | `(tactic| walk_at "g") => `(tactic| repeat first | walk_at "s" | (with_reducible refine go_ifF (rfl : _ = false) ?_) | (with_reducible refine go_ifT (rfl : _ = true) ?_) | (refine go_ifF (rfl : _ = false) ?_) | (refine go_ifT (rfl : _ = true) ?_) | walk_at "u")
theorem share_is {p : Li} {s : CLG.Sp} (hp : Sml p) (hs : SpB s) : F_share_of [lnD p, CLX.spD s] = .ok (pt (CLG.share p s).1 (CLG.share p s).2) := by
  have a1 := hp.x
  have a2 := hp.y
  have a3 := hp.u
  have a4 := hp.v
  obtain ⟨s1, s2, s3⟩ := hs
  have E1 := step_is (x := p.x) (y := p.y) (u := p.u) (v := p.v)
  unfold CLG.share CLG.share0
  refine runP_of ?_
  unfold B_share_of lnD CLX.spD
  walk_at "r"
  by_cases h : p.u - p.x = 0
  · rw [show (if decide (p.u - p.x = 0) = true then (1 : Int) else 0) = 1 by rw [if_pos (decide_eq_true h)]]
    simp only [if_pos h]
    walk_at "r"
    refine go_ifP (fun h' => ?_) fun h' => ?_
    · walk_at "r"
      rw [if_pos h']
    · walk_at "r"
      rw [if_neg h']
  · rw [show (if decide (p.u - p.x = 0) = true then (1 : Int) else 0) = 0 by rw [if_neg (by simpa using h)]]
    simp only [if_neg h]
    walk_at "r"
    refine go_ifP (fun h' => ?_) fun h' => ?_
    · walk_at "r"
      rw [if_pos h']
    · walk_at "r"
      rw [if_neg h']
end CLP
namespace CL
open PySem PySem.Spec L2
def sStoX (i : Nat) (mi m : M D) : MS := bind m fun d => bind (mV i) fun _ => bind mi fun ix => fun ρ => match ρ[i]?, ix with
  | some (some (.lst l)), .int j => if 0 ≤ j ∧ j < l.length then .ok (.nx, ρ.set i (some (.lst (l.set j.toNat d)))) else .bad
  | _, _ => .bad
theorem RShL.setAt [Tb] {K : PySem.W.Frag} {Z : Addr → Prop} {H : Hp} {d : D} {v : V} (r : RSh K Z H d v) : ∀ {l : List D} {xs : List V} {n : Nat}, RShL K Z H l xs → RShL K Z H (l.set n d) (xs.set n v)
  | [], _, _, h => by simp only [RShL] at h; subst h; simp [RShL]
  | a :: l, _, n, h => by
    simp only [RShL] at h
    obtain ⟨w, ws, rfl, h1, h2⟩ := h
    cases n with
    | zero => simp only [List.set_cons_zero, RShL]; exact ⟨v, ws, rfl, r, h2⟩
    | succ n => simp only [List.set_cons_succ, RShL]; exact ⟨w, _, rfl, h1, RShL.setAt r h2⟩
section
variable [Tb] {X : Cx} {F : Fr} {q q2 : Bool} {e b : Expr} {ma mi : M D} {pos p1 p0 : Pos} {x : Str}
theorem s_stoX (i : Nat) (he : PE X e (tE X.K F.τ q .sh ma)) (hb : PE X b (tE X.K F.τ q2 .sh mi)) (ht : F.τ i = .ol .sh .sh := by rfl) (hN : X.N[i]? = some x := by rfl) (hv : Vis X.env.scope x := by first | exact Or.inl rfl | exact Or.inr (Or.inl rfl) | exact Or.inr (Or.inr rfl)) (hd : (x == ("__debug__" : Str)) = false := by decide)
    (hcd : (x == ("__classdict__" : Str)) = false := by decide)
    (ha : ∀ v, assign (.Subscript (.Name x p1) b p0) X.env v = (do
      let ov ← holding [v] (eval (.Name x p1) X.env)
      let iv ← holding [v, ov] (eval b X.env)
      standAt p0
      holding [v, ov, iv] (setItem ov iv v)
      release [v, ov, iv] []) := by intro _; rfl)
    (hs : swapsWithSole [.Subscript (.Name x p1) b p0] e pos.line X.env = pure false := by rfl) (hw : swappedStores [.Subscript (.Name x p1) b p0] e X.env = pure none := by rfl)
    (h1 : (assignEach [.Subscript (.Name x p1) b p0] X.env).map (·.2) = [assign (.Subscript (.Name x p1) b p0) X.env] := by rfl) :
    PS X (.Assign [.Subscript (.Name x p1) b p0] e pos) (tS X.K F (sStoX i mi ma)) := (ps_asg he (pg_sub (pv i hN hv hd hcd) hb set_list ha) hs hw h1).mono fun E σ H ⟨Z, own, ρ, f, ρ', rs, e, o⟩ => by
  obtain ⟨d1, ρ1, e1, f1⟩ := bind_ok e
  obtain ⟨y, ρ1', e0, f3⟩ := bind_ok f1
  obtain ⟨e0, rfl⟩ := mV_ok e0
  obtain ⟨ix, ρ2, e2, f2⟩ := bind_ok f3
  split at f2
  · rename_i l j hl
    split at f2
    · rename_i hj
      cases f2
      refine ⟨Z, own, ρ, d1, _, rs, e1, fun v Z1 own1 H1 S rs1 rm n x1 => ?_⟩
      obtain ⟨u, hv1, hr⟩ := rs1.sl i y e0
      rw [ht] at hr
      obtain ⟨l0, a, xs, ow, k1, rfl, k3, k4, k5, k6, k7, k8⟩ := hr
      refine ⟨.ref a, hv1, Z1, own1, _, .int j, ρ2, rs1, e2, fun w Z2 own2 H2 S2 rs2 rm2 n2 x2 => ?_⟩
      have rm2' : RSh X.K Z2 H2 (.int j) w := rm2
      simp only [RSh] at rm2'
      obtain ⟨a', xs', g1, g2, g3, g4, g5⟩ := rs2.own1 ht hl
      rw [hv1] at g1; cases g1
      obtain ⟨rs3, x3⟩ := g5 _ _ (RShL.setAt (n := j.toNat) (rs1.sh x2 rm) g4)
      refine ⟨a, xs', j, j.toNat, rfl, rm2', g2, ?_, o σ Z2 own2 _ rs3 Fix.refl (((x1.weak.any).transF (x2.weak.any)).transF x3.any)⟩
      have := g4.len
      unfold ixN
      rw [if_pos hj.1, if_pos (by omega)]
    · cases f2
  · cases f2
end
theorem W_sStoX {i : Nat} {mi m : M D} {ρ : Sl} {Q : Fl → Sl → Prop} : W (sStoX i mi m) ρ Q ↔ W m ρ fun d ρ1 => W (mV i) ρ1 fun _ ρ2 => W mi ρ2 fun ix ρ3 => ∃ l j, ρ3[i]? = some (some (.lst l)) ∧ ix = .int j ∧ (0 ≤ j ∧ j < l.length) ∧ Q .nx (ρ3.set i (some (.lst (l.set j.toNat d)))) := by
  simp only [sStoX, W_bind]
  constructor <;> refine fun h => h.mono fun d ρ1 q => q.mono fun _ ρ2 q => q.mono fun ix ρ3 q => ?_
  · obtain ⟨f, ρ', e, q⟩ := q
    dsimp only at e
    split at e
    · rename_i l j hl
      split at e
      · rename_i hj; cases e; exact ⟨l, j, hl, rfl, hj, q⟩
      · cases e
    · cases e
  · obtain ⟨l, j, hl, rfl, hj, q⟩ := q
    exact ⟨.nx, _, by dsimp only; rw [hl]; dsimp only; rw [if_pos hj], q⟩
end CL
namespace CL
open PySem PySem.Spec L2
set_option autoImplicit false
mutual
def D.pyE : D → PyData
  | .non => .none
  | .bl b => .bool b
  | .int i => .int i
  | .str x => .str x
  | .tup l => .tuple (D.pyEL l)
  | .lst l => .list (D.pyEL l)
  | .scr l => .list (l.map .int)
  | .dct ks vs => .dict ((D.pyEL ks).zip (D.pyEL vs))
  | .kdc _ _ => .none
  | .ins _ _ _ => .none
def D.pyEL : List D → List PyData
  | [] => []
  | d :: ds => D.pyE d :: D.pyEL ds
end
/-- ints that are shown -/
def bigE : Nat := 2 ^ 400
mutual
/-- data with dicts, at most so deep -/
def D.okE : Nat → D → Bool
  | _, .non => true
  | _, .bl _ => true
  | _, .int i => decide (i.natAbs < bigE)
  | _, .str _ => true
  | n + 1, .tup l => D.okEL n l
  | n + 1, .lst l => D.okEL n l
  | n + 1, .dct ks vs => D.okEL n ks && D.okEL n vs && decide (ks.length = vs.length)
  | _, _ => false
def D.okEL : Nat → List D → Bool
  | _, [] => true
  | n, d :: ds => D.okE n d && D.okEL n ds
end
mutual
/-- how much there is of it -/
def D.wtE : D → Nat
  | .str x => 1 + (reprText x).length
  | .tup l => 1 + D.wtEL l
  | .lst l => 1 + D.wtEL l
  | .dct ks vs => 1 + D.wtEL ks + D.wtEL vs
  | _ => 1
def D.wtEL : List D → Nat
  | [] => 0
  | d :: ds => D.wtE d + D.wtEL ds
end
theorem pyEL_len : ∀ l : List D, (D.pyEL l).length = l.length
  | [] => rfl
  | d :: ds => by simp [D.pyEL, pyEL_len ds]
/-- the text of repr -/
def D.shownE (d : D) : Str := d.pyE.shown
def bReprE : List D → Option D
  | [d] => if D.okE 60 d = true ∧ D.wtE d ≤ 100000 then some (.str d.shownE) else none
  | _ => none
theorem piled_kv : ∀ (A B : List PyData), piled (PyData.shownKv (A.zip B)) ≤ piled (PyData.shownAll A) + piled (PyData.shownAll B)
  | [], B => by simp [PyData.shownKv, piled]
  | a :: A, [] => by simp [PyData.shownKv, piled]
  | a :: A, b :: B => by
    have h := piled_kv A B
    simp only [List.zip_cons_cons, PyData.shownKv, PyData.shownAll, piled_cons]
    have e : (PyData.shown a ++ ": " ++ PyData.shown b).length = (PyData.shown a).length + 2 + (PyData.shown b).length := by
      rw [slen, slen]
      have : ((": " : String) : Str).length = 2 := rfl
      omega
    rw [e]
    omega
theorem showable_zip : ∀ (A B : List PyData), PyData.showableAll A = true → PyData.showableAll B = true → PyData.showableKv (A.zip B) = true
  | [], B, _, _ => by simp [PyData.showableKv]
  | a :: A, [], _, _ => by simp [PyData.showableKv]
  | a :: A, b :: B, h1, h2 => by
    simp only [PyData.showableAll, Bool.and_eq_true] at h1 h2
    simp only [List.zip_cons_cons, PyData.showableKv, h1.1, h2.1, showable_zip A B h1.2 h2.2, Bool.and_self]
theorem depth_zip : ∀ (A B : List PyData), PyData.depthKv (A.zip B) ≤ max (PyData.depthAll A) (PyData.depthAll B)
  | [], B => by simp [PyData.depthKv]
  | a :: A, [] => by simp [PyData.depthKv]
  | a :: A, b :: B => by
    have h := depth_zip A B
    simp only [List.zip_cons_cons, PyData.depthKv, PyData.depthAll]
    omega
theorem tupleText_le (ts : List Str) : (tupleText ts).length ≤ piled ts + 3 := by
  have e1 : ((if ts.length == 1 then ",)" else ")" : String) : Str).length ≤ 2 := by
    split
    · exact Nat.le_of_eq rfl
    · exact Nat.le_succ_of_le (Nat.le_of_eq rfl)
  have e3 : (("(" : String) : Str).length = 1 := rfl
  unfold tupleText
  rw [slen, slen]
  by_cases hl : ts = []
  · subst hl
    have : (Str.join ", " []).length = 0 := rfl
    omega
  · have e2 := join_length_add _ hl
    omega
theorem listText_le (ts : List Str) : (listText ts).length ≤ piled ts + 3 := by
  have h := textFrom_le ts 0 "["
  have e1 : (("[" : String) : Str).length = 1 := rfl
  have e2 : (("]" : String) : Str).length = 1 := rfl
  have e : (listText ts).length = (textFrom 0 "[" ts).length + 1 := by
    show (textFrom 0 "[" ts ++ "]").length = _
    rw [slen, e2]
  omega
theorem dictText_le (ts : List Str) : (dictText ts).length ≤ piled ts + 3 := by
  have e1 : (("{" : String) : Str).length = 1 := rfl
  have e2 : (("}" : String) : Str).length = 1 := rfl
  unfold dictText
  rw [slen, slen]
  by_cases hl : ts = []
  · subst hl
    have : (Str.join ", " []).length = 0 := rfl
    omega
  · have e2 := join_length_add _ hl
    omega
theorem bigE_R {n : Nat} (h : n < bigE) : n < bigR := Nat.lt_of_lt_of_le h (Nat.pow_le_pow_right (by decide) (by decide))
theorem bigE_text {i : Int} (h : i.natAbs < bigE) : (PySem.Str.ofString (toString i)).length ≤ 151 := by
  rw [PySem.ofString_length]
  exact int_text_length_le10 (k := 150) (by decide) (Nat.lt_trans h (by decide +kernel))
mutual
theorem shownE_le : ∀ (n : Nat) (d : D), D.okE n d = true → d.pyE.showable = true ∧ d.pyE.depth ≤ n ∧ d.pyE.shown.length + 2 ≤ 160 * D.wtE d
  | _, .non, _ => by simp only [D.pyE, PyData.showable, PyData.shown, D.wtE, PyData.depth]; exact ⟨trivial, Nat.zero_le _, by decide⟩
  | _, .bl b, _ => by simp only [D.pyE, PyData.showable, PyData.shown, D.wtE, PyData.depth]; exact ⟨trivial, Nat.zero_le _, by cases b <;> decide⟩
  | _, .int i, h => by
    simp only [D.okE, decide_eq_true_eq] at h
    have e := bigE_text h
    have h := bigR_log (bigE_R h)
    simp only [D.pyE, PyData.showable, PyData.shown, D.wtE, PyData.depth]
    exact ⟨decide_eq_true h, Nat.zero_le _, by omega⟩
  | _, .str x, _ => by simp only [D.pyE, PyData.showable, PyData.shown, D.wtE, PyData.depth]; exact ⟨trivial, Nat.zero_le _, by omega⟩
  | n + 1, .tup l, o => by
    simp only [D.okE] at o
    obtain ⟨a, b, c⟩ := shownEL_le n l o
    simp only [D.pyE, PyData.showable, PyData.shown, D.wtE, PyData.depth]
    have := tupleText_le (PyData.shownAll (D.pyEL l))
    exact ⟨a, by omega, by omega⟩
  | n + 1, .lst l, o => by
    simp only [D.okE] at o
    obtain ⟨a, b, c⟩ := shownEL_le n l o
    simp only [D.pyE, PyData.showable, PyData.shown, D.wtE, PyData.depth]
    have := listText_le (PyData.shownAll (D.pyEL l))
    exact ⟨a, by omega, by omega⟩
  | n + 1, .dct ks vs, o => by
    simp only [D.okE, Bool.and_eq_true] at o
    obtain ⟨a, b, c⟩ := shownEL_le n ks o.1.1
    obtain ⟨a', b', c'⟩ := shownEL_le n vs o.1.2
    simp only [D.pyE, PyData.showable, PyData.shown, D.wtE, PyData.depth]
    have h1 := dictText_le (PyData.shownKv ((D.pyEL ks).zip (D.pyEL vs)))
    have h2 := piled_kv (D.pyEL ks) (D.pyEL vs)
    have h3 := depth_zip (D.pyEL ks) (D.pyEL vs)
    exact ⟨showable_zip _ _ a a', by omega, by omega⟩
  | 0, .tup l, o => by simp [D.okE] at o
  | 0, .lst l, o => by simp [D.okE] at o
  | 0, .dct _ _, o => by simp [D.okE] at o
  | _, .kdc _ _, o => by simp [D.okE] at o
  | _, .ins _ _ _, o => by simp [D.okE] at o
  | _, .scr _, o => by simp [D.okE] at o
theorem shownEL_le : ∀ (n : Nat) (l : List D), D.okEL n l = true → PyData.showableAll (D.pyEL l) = true ∧ PyData.depthAll (D.pyEL l) ≤ n ∧ piled (PyData.shownAll (D.pyEL l)) ≤ 160 * D.wtEL l
  | _, [], _ => by simp only [D.pyEL, PyData.showableAll, PyData.shownAll, D.wtEL, PyData.depthAll]; exact ⟨trivial, Nat.zero_le _, by simp [piled]⟩
  | n, d :: ds, o => by
    simp only [D.okEL, Bool.and_eq_true] at o
    obtain ⟨a, b, c⟩ := shownE_le n d o.1
    obtain ⟨a', b', c'⟩ := shownEL_le n ds o.2
    simp only [D.pyEL, PyData.showableAll, PyData.shownAll, D.wtEL, PyData.depthAll, a, a', Bool.and_self, piled_cons]
    exact ⟨trivial, by omega, by omega⟩
end
mutual
/-- data on the heap, each dict in it apart from the table of modules -/
inductive RdE (h : Heap) : Value → PyData → Prop
  | none : RdE h .none .none
  | bool (b) : RdE h (.bool b) (.bool b)
  | int (i t) : RdE h (.int i t) (.int i)
  | str (x t) : RdE h (.str x t) (.str x)
  | list {a o vs n xs} : h.get? a = some o → o.cls = .type "list" → o.data = .seq vs n → RdEL h vs.toList xs → RdE h (.ref a) (.list xs)
  | tuple {a o vs n xs} : h.get? a = some o → o.cls = .type "tuple" → o.data = .seq vs n → RdEL h vs.toList xs → RdE h (.ref a) (.tuple xs)
  | dict {a o es n kvs} : h.get? a = some o → o.cls = .type "dict" → o.data = .dict es n → (a == sysModules) = false → RdEL h (es.toList.map (·.key)) (kvs.map (·.1)) → RdEL h (es.toList.map (·.val)) (kvs.map (·.2)) → RdE h (.ref a) (.dict kvs)
inductive RdEL (h : Heap) : List Value → List PyData → Prop
  | nil : RdEL h [] []
  | cons {v vs d ds} : RdE h v d → RdEL h vs ds → RdEL h (v :: vs) (d :: ds)
end
mutual
theorem RdE.rd {h : Heap} : ∀ {v : Value} {d : PyData}, RdE h v d → ∃ as, Reads h v d as
  | _, _, .none => ⟨_, .none⟩
  | _, _, .bool b => ⟨_, .bool b⟩
  | _, _, .int i t => ⟨_, .int i t⟩
  | _, _, .str x t => ⟨_, .str x t⟩
  | _, _, .list h1 h2 h3 h4 => let ⟨_, r⟩ := RdEL.rd h4; ⟨_, .list h1 h2 h3 r⟩
  | _, _, .tuple h1 h2 h3 h4 => let ⟨_, r⟩ := RdEL.rd h4; ⟨_, .tuple h1 h2 h3 r⟩
  | _, _, .dict h1 h2 h3 _ h4 h5 => let ⟨_, r⟩ := RdEL.rd h4; let ⟨_, r'⟩ := RdEL.rd h5; ⟨_, .dict h1 h2 h3 r r'⟩
theorem RdEL.rd {h : Heap} : ∀ {v : List Value} {d : List PyData}, RdEL h v d → ∃ as, ReadsAll h v d as
  | _, _, .nil => ⟨_, .nil⟩
  | _, _, .cons a b => let ⟨_, r⟩ := RdE.rd a; let ⟨_, r'⟩ := RdEL.rd b; ⟨_, .cons r r'⟩
end
section
variable {prog : Program} {w : World} {h : Heap}
mutual
theorem RdE.k : ∀ {v : Value} {d : PyData}, RdE h v d → d.showable = true → d.shown.length ≤ sizeLine → ∃ bs, ReadAtMost h d.depth bs ∧ ReprK prog w bs h d.depth v d.shown
  | _, _, .none, _, _ => ⟨[], nofun, by simp only [PyData.shown]; exact .of_is ReprIs.none _ _ _⟩
  | _, _, .bool b, _, _ => ⟨[], nofun, by simp only [PyData.shown]; exact .of_is (ReprIs.bool b) _ _ _⟩
  | _, _, .int i t, hs, _ => ⟨[], nofun, by simp only [PyData.shown]; exact .of_is (ReprIs.int t (by simpa [PyData.showable] using hs)) _ _ _⟩
  | _, _, .str x t, _, z => ⟨[], nofun, by simp only [PyData.shown]; exact .of_is (ReprIs.str x t (by simpa only [PyData.shown] using z)) _ _ _⟩
  | _, _, .list (a := a) (vs := vs) (xs := xs) h1 h2 h3 h4, hs, z => by
    simp only [PyData.shown] at z
    obtain ⟨_, rx⟩ := RdEL.rd h4
    obtain ⟨bs, hb, hk⟩ := RdEL.k h4 (by simpa [PyData.showable] using hs) (fun t ht => Nat.le_trans (listText_mem_le ht) z)
    have rr : Reads h (.ref a) (.list xs) _ := .list h1 h2 h3 rx
    have na : a ∉ bs := not_mem_of_deeper rr (by simp only [PyData.depth]; omega) hb
    refine ⟨a :: bs, .cons rr (by simp only [PyData.depth]; omega) hb, ?_⟩
    simp only [PyData.depth, PyData.shown]
    obtain ⟨l⟩ := vs
    cases l with
    | nil =>
      have h5 : RdEL h [] xs := h4
      cases h5
      simp only [PyData.shownAll, listText_nil]
      exact .listEmpty h1 h2 h3
    | cons x l => exact .list h1 h2 h3 na (by simpa using hk.length_eq) (fun i y e => hk.item i y (by simpa using e))
  | _, _, .tuple (a := a) (xs := xs) h1 h2 h3 h4, hs, z => by
    simp only [PyData.shown] at z
    obtain ⟨_, rx⟩ := RdEL.rd h4
    obtain ⟨bs, hb, hk⟩ := RdEL.k h4 (by simpa [PyData.showable] using hs) (fun t ht => Nat.le_trans (tupleText_mem_le ht) z)
    have rr : Reads h (.ref a) (.tuple xs) _ := .tuple h1 h2 h3 rx
    have na : a ∉ bs := not_mem_of_deeper rr (by simp only [PyData.depth]; omega) hb
    refine ⟨a :: bs, .cons rr (by simp only [PyData.depth]; omega) hb, ?_⟩
    simp only [PyData.depth, PyData.shown]
    exact .tuple h1 h2 h3 na hk
  | _, _, .dict (a := a) (es := es) (kvs := kvs) h1 h2 h3 hy h4 h5, hs, z => by
    simp only [PyData.shown] at z
    obtain ⟨_, rx⟩ := RdEL.rd h4
    obtain ⟨_, ry⟩ := RdEL.rd h5
    obtain ⟨s1, s2⟩ := PyData.showableKv_split kvs (by simpa [PyData.showable] using hs)
    obtain ⟨b1, p1, k1⟩ := RdEL.k h4 s1 (fun t ht => let ⟨p, hp, hl⟩ := PyData.shownKv_key_le kvs t ht; Nat.le_trans hl (Nat.le_trans (dictText_mem_le hp) z))
    obtain ⟨b2, p2, k2⟩ := RdEL.k h5 s2 (fun t ht => let ⟨p, hp, hl⟩ := PyData.shownKv_val_le kvs t ht; Nat.le_trans hl (Nat.le_trans (dictText_mem_le hp) z))
    have rr : Reads h (.ref a) (.dict kvs) _ := .dict h1 h2 h3 rx ry
    have hb : ReadAtMost h (PyData.depthKv kvs) (b1 ++ b2) := (p1.mono (PyData.depthAll_keys_le kvs)).append (p2.mono (PyData.depthAll_vals_le kvs))
    have na : a ∉ b1 ++ b2 := not_mem_of_deeper rr (by simp only [PyData.depth]; omega) hb
    refine ⟨a :: (b1 ++ b2), .cons rr (by simp only [PyData.depth]; omega) hb, ?_⟩
    simp only [PyData.depth, PyData.shown, PyData.shownKv_eq]
    exact .dict h1 h2 h3 hy na (.of_two es.toList _ _ (k1.more_le (fun b m => List.mem_append_left _ m) (PyData.depthAll_keys_le kvs)) (k2.more_le (fun b m => List.mem_append_right _ m) (PyData.depthAll_vals_le kvs)))
theorem RdEL.k : ∀ {vs : List Value} {ds : List PyData}, RdEL h vs ds → PyData.showableAll ds = true → (∀ t ∈ PyData.shownAll ds, t.length ≤ sizeLine) → ∃ bs, ReadAtMost h (PyData.depthAll ds) bs ∧ ReprAllK prog w bs h (PyData.depthAll ds) vs (PyData.shownAll ds)
  | _, _, .nil, _, _ => ⟨[], nofun, by simp only [PyData.shownAll]; exact .nil⟩
  | _, _, .cons (d := d) (ds := ds) r rs, hs, z => by
    simp only [PyData.showableAll, Bool.and_eq_true] at hs
    simp only [PyData.shownAll, List.forall_mem_cons] at z
    obtain ⟨b1, p1, k1⟩ := RdE.k r hs.1 z.1
    obtain ⟨b2, p2, k2⟩ := RdEL.k rs hs.2 z.2
    simp only [PyData.depthAll, PyData.shownAll]
    refine ⟨b1 ++ b2, (p1.mono (Nat.le_max_left _ _)).append (p2.mono (Nat.le_max_right _ _)), ?_⟩
    exact .cons ((k1.more fun b m => List.mem_append_left _ m).level_le (Nat.le_max_left _ _)) (k2.more_le (fun b m => List.mem_append_right _ m) (Nat.le_max_right _ _))
end
theorem RdE.shows {a : Addr} {d : PyData} (r : RdE h (.ref a) d) (hs : d.showable = true) (z : d.shown.length ≤ sizeLine) : ∃ T idr, ShowsBy prog w h a d T idr := by
  cases r with
  | list h1 h2 h3 h4 =>
    rename_i o vs n xs
    simp only [PyData.shown] at z
    obtain ⟨_, rx⟩ := RdEL.rd h4
    obtain ⟨bs, hb, hk⟩ := RdEL.k (prog := prog) (w := w) h4 (by simpa [PyData.showable] using hs) (fun t ht => Nat.le_trans (listText_mem_le ht) z)
    have na : a ∉ bs := not_mem_of_deeper (.list h1 h2 h3 rx) (by simp only [PyData.depth]; omega) hb
    refine ⟨"list", "list.__repr__", F.slot_list_repr.toG, F.slot_list_str, F.slot_list_format, fun s k0 => ⟨o, k0 _ _ h1, h2⟩, fun A E s Q hg hu k0 hQ => ?_⟩
    simp only [PyData.depth] at hu
    simp only [PyData.shown] at hQ
    obtain ⟨l⟩ := vs
    cases l with
    | nil =>
      have h5 : RdEL h [] xs := h4
      cases h5
      simp only [PyData.shownAll, listText_nil] at hQ
      exact call_list_repr_empty ⟨o, k0 _ _ h1, h2⟩ (k0 _ _ h1) h3 (hQ s.heap _ _ fun _ _ e => e)
    | cons x l => exact call_list_reprK h1 h2 h3 na (by simpa using hk.length_eq) (fun i y e => hk.item i y (by simpa using e)) hg (fun b _ => .nil b) hu k0 hQ z
  | tuple h1 h2 h3 h4 =>
    rename_i o vs n xs
    simp only [PyData.shown] at z
    obtain ⟨_, rx⟩ := RdEL.rd h4
    obtain ⟨bs, hb, hk⟩ := RdEL.k (prog := prog) (w := w) h4 (by simpa [PyData.showable] using hs) (fun t ht => Nat.le_trans (tupleText_mem_le ht) z)
    have na : a ∉ bs := not_mem_of_deeper (.tuple h1 h2 h3 rx) (by simp only [PyData.depth]; omega) hb
    refine ⟨"tuple", "tuple.__repr__", F.slot_tuple_repr, F.slot_tuple_str, F.slot_tuple_format, fun s k0 => ⟨o, k0 _ _ h1, h2⟩, fun A E s Q hg hu k0 hQ => ?_⟩
    simp only [PyData.depth] at hu
    simp only [PyData.shown] at hQ
    exact call_tuple_reprK h1 h2 h3 na hk hg (fun b _ => .nil b) hu k0 hQ z
  | dict h1 h2 h3 hy h4 h5 =>
    rename_i o es n kvs
    simp only [PyData.shown] at z
    obtain ⟨_, rx⟩ := RdEL.rd h4
    obtain ⟨_, ry⟩ := RdEL.rd h5
    obtain ⟨s1, s2⟩ := PyData.showableKv_split kvs (by simpa [PyData.showable] using hs)
    obtain ⟨b1, p1, k1⟩ := RdEL.k (prog := prog) (w := w) h4 s1 (fun t ht => let ⟨p, hp, hl⟩ := PyData.shownKv_key_le kvs t ht; Nat.le_trans hl (Nat.le_trans (dictText_mem_le hp) z))
    obtain ⟨b2, p2, k2⟩ := RdEL.k (prog := prog) (w := w) h5 s2 (fun t ht => let ⟨p, hp, hl⟩ := PyData.shownKv_val_le kvs t ht; Nat.le_trans hl (Nat.le_trans (dictText_mem_le hp) z))
    have hb : ReadAtMost h (PyData.depthKv kvs) (b1 ++ b2) := (p1.mono (PyData.depthAll_keys_le kvs)).append (p2.mono (PyData.depthAll_vals_le kvs))
    have na : a ∉ b1 ++ b2 := not_mem_of_deeper (.dict h1 h2 h3 rx ry) (by simp only [PyData.depth]; omega) hb
    refine ⟨"dict", "dict.__repr__", F.slot_dict_repr, F.slot_dict_str, F.slot_dict_format, fun s k0 => ⟨o, k0 _ _ h1, h2⟩, fun A E s Q hg hu k0 hQ => ?_⟩
    simp only [PyData.depth] at hu
    simp only [PyData.shown, PyData.shownKv_eq] at hQ
    exact call_dict_reprK h1 h2 h3 hy na (.of_two es.toList _ _ (k1.more_le (fun b m => List.mem_append_left _ m) (PyData.depthAll_keys_le kvs)) (k2.more_le (fun b m => List.mem_append_right _ m) (PyData.depthAll_vals_le kvs))) hg (fun b _ => .nil b) hu k0 hQ (by rw [← PyData.shownKv_eq]; exact z)
theorem RdE.repr {A : Around} {E : Value → Shared → Prop} {s : Shared} {Q : Value → Shared → Prop} {a : Addr} {d : PyData} (r : RdE s.heap (.ref a) d) (hs : d.showable = true) (z : d.shown.length ≤ sizeLine) (hg : A.guards = some []) (hu : A.units + (d.depth + 1) < cLine)
    (hQ : ∀ h' u tk, (∀ b o, s.heap.get? b = some o → h'.get? b = some o) → Q (.str d.shown u) { s with heap := h', toks := tk }) : wpAny (model prog w) A (call (.builtin "repr") [.ref a]) Q E s := by
  obtain ⟨T, idr, S⟩ := RdE.shows (prog := prog) (w := w) r hs z
  exact call_repr_slot (by omega) (S.typeIs s fun _ _ e => e) S.slotRepr (S.call A.in1 E s _ hg (by show A.units + 1 + d.depth < cLine; omega) (fun _ _ e => e) fun h' u tk hk => ⟨_, _, rfl, hQ h' u tk hk⟩)
end
theorem dk_vals [Tb] {P : Program} {w : World} : ∀ {kvs : List (Key × V)} {vs : List (Key × Value)} {es : List DictEntry}, KV kvs vs → Pairs (mixKind P w) es vs → Vals (kvs.map fun p => kV p.1) (es.map (·.key)) ∧ Vals (kvs.map (·.2)) (es.map (·.val))
  | _, _, _, .nil, .nil => ⟨.nil, .nil⟩
  | _, _, _, .cons ⟨h1, h2⟩ t, .cons (e := e) k v r => by
    obtain ⟨a, b⟩ := dk_vals t r
    refine ⟨.cons ?_ a, .cons (by show RelV _ e.val; rw [v]; exact h2) b⟩
    show RelV (kV _) e.key
    rw [h1]
    rcases keyIs_shape k with ⟨i, t, e1, e2⟩ | ⟨x, t, e1, e2⟩
    · rw [e1, e2]; exact ⟨t, rfl⟩
    · rw [e1, e2]; exact ⟨t, rfl⟩
section
variable [Tb] {X : Cx} {pins : List (Addr × Obj)} {σ : St} {H : Hp} {s : Shared} {Z : Addr → Prop}
mutual
theorem RSh.rdE (I : Inv X pins σ H s) : ∀ (n : Nat) (d : D) (v : V) (u : Value), D.okE n d = true → RSh X.K Z H d v → RelV v u → RdE s.heap u d.pyE
  | _, .non, v, u, _, h, r => by
    simp only [RSh] at h; subst h; cases r; simp only [D.pyE]; exact .none
  | _, .bl b, v, u, _, h, r => by
    simp only [RSh] at h; subst h; cases r; simp only [D.pyE]; exact .bool b
  | _, .int i, v, u, _, h, r => by
    simp only [RSh] at h; subst h; obtain ⟨t, rfl⟩ := r; simp only [D.pyE]; exact .int i t
  | _, .str x, v, u, _, h, r => by
    simp only [RSh] at h; subst h; obtain ⟨t, rfl⟩ := r; simp only [D.pyE]; exact .str x t
  | n + 1, .tup l, v, u, o, h, r => by
    simp only [D.okE] at o
    simp only [RSh] at h
    obtain ⟨a, xs, rfl, hs, hl⟩ := h
    cases r
    simp only [D.pyE]
    obtain ⟨its, rv, ⟨ob, ho, hc, n, hd⟩, _⟩ := I.tuple hs
    exact .tuple ho hc hd (RShL.rdE I _ l xs its o hl rv)
  | n + 1, .lst l, v, u, o, h, r => by
    simp only [D.okE] at o
    simp only [RSh] at h
    obtain ⟨a, xs, rfl, z, hs, hl⟩ := h
    cases r
    simp only [D.pyE]
    obtain ⟨its, rv, ⟨ob, n, ho, hc, _, hd⟩, _⟩ := I.list (SqL.of hs)
    exact .list ho hc hd (RShL.rdE I _ l xs its o hl rv)
  | n + 1, .dct ks vs, v, u, o, h, r => by
    simp only [D.okE, Bool.and_eq_true, decide_eq_true_eq] at o
    simp only [RSh] at h
    obtain ⟨a, kvs, rfl, z, hs, hk, hv⟩ := h
    cases r
    simp only [D.pyE]
    obtain ⟨_, hsys, vs', kv, ob, es, ep, e1, ex, e2, _, pr, _⟩ := (show ObjOk X.prog X.w H s.heap a (.dK kvs) from I.hok a _ hs)
    obtain ⟨v1, v2⟩ := dk_vals kv pr
    have h1 := RShL.rdE I _ ks _ _ o.1.1 hk v1
    have h2 := RShL.rdE I _ vs _ _ o.1.2 hv v2
    have el : (D.pyEL ks).length = (D.pyEL vs).length := by rw [pyEL_len, pyEL_len]; exact o.2
    exact .dict (kvs := (D.pyEL ks).zip (D.pyEL vs)) e1 ex.1 e2 hsys (by rw [List.map_fst_zip (by omega)]; exact h1) (by rw [List.map_snd_zip (by omega)]; exact h2)
  | 0, .tup l, _, _, o, _, _ => by simp [D.okE] at o
  | 0, .lst l, _, _, o, _, _ => by simp [D.okE] at o
  | 0, .dct _ _, _, _, o, _, _ => by simp [D.okE] at o
  | _, .kdc _ _, _, _, o, _, _ => by simp [D.okE] at o
  | _, .ins _ _ _, _, _, o, _, _ => by simp [D.okE] at o
  | _, .scr _, _, _, o, _, _ => by simp [D.okE] at o
theorem RShL.rdE (I : Inv X pins σ H s) : ∀ (n : Nat) (l : List D) (vs : List V) (us : List Value), D.okEL n l = true → RShL X.K Z H l vs → Vals vs us → RdEL s.heap us (D.pyEL l)
  | _, [], vs, us, _, h, r => by
    simp only [RShL] at h; subst h; cases r; simp only [D.pyEL]; exact .nil
  | n, d :: ds, vs, us, o, h, r => by
    simp only [D.okEL, Bool.and_eq_true] at o
    simp only [RShL] at h
    obtain ⟨w, ws, rfl, h1, h2⟩ := h
    cases r with
    | cons r1 r2 =>
      simp only [D.pyEL]
      exact .cons (RSh.rdE I n d w _ o.1 h1 r1) (RShL.rdE I n ds ws _ o.2 h2 r2)
end
end
theorem Pk0.rdE [Tb] {X : Cx} {pins : List (Addr × Obj)} {σ : St} {H : Hp} {s : Shared} {Z : Addr → Prop} (I : Inv X pins σ H s) {n : Nat} {d : D} {v : V} {u : Value} (o : D.okE n d = true) (h : Pk0 X.K Z H d v) (r : RelV v u) : RdE s.heap u d.pyE := by
  rcases h with h | ⟨l, a, xs, rfl, rfl, hs, hl⟩
  · exact RSh.rdE I n d v u o h r
  · cases n with
    | zero => simp [D.okE] at o
    | succ n =>
      simp only [D.okE] at o
      cases r
      simp only [D.pyE]
      obtain ⟨its, rv, ⟨ob, n, ho, hc, _, hd⟩, _⟩ := I.list (SqL.of hs)
      exact .list ho hc hd (RShL.rdE I _ l xs its o hl rv)
section
variable [Tb] {X : Cx}
end
end CL
namespace CL
open PySem PySem.Spec L2
set_option autoImplicit false
local macro_rules | `(tactic| walk_at "o") => `(tactic| ((try simp only [backA, List.set_cons_zero, List.set_cons_succ, wipeD, List.map_cons, List.map_nil, List.cons_append, List.nil_append, List.replicate_succ, List.replicate_zero]); first | done | rfl))
local macro_rules | `(tactic| walk_at "b") => `(tactic| first
  | with_reducible exact Nb.lit
  | ((with_reducible apply Nb.mul) <;> walk_at "b")
  | ((with_reducible apply Nb.add) <;> walk_at "b")
  | ((with_reducible apply Nb.sub) <;> walk_at "b")
  | ((with_reducible apply Nb.neg) <;> walk_at "b")
  | ((with_reducible apply Nb.fdiv) <;> walk_at "b")
  | ((with_reducible apply Nb.fmod); (· walk_at "z"); (· walk_at "b"))
  | ((with_reducible apply Nb.max) <;> walk_at "b")
  | ((with_reducible apply Nb.min) <;> walk_at "b")
  | ((with_reducible apply Nb.ite) <;> walk_at "b")
  | with_reducible assumption
  | with_reducible exact Nb.le (by assumption)
  | with_reducible exact Nb.nle (by assumption)
  | with_reducible exact Nb.lt (by assumption)
  | ((with_reducible apply Nb.rng (by assumption) (by assumption)) <;> walk_at "b")
  | ((with_reducible apply Nb.rngE (by assumption) (by assumption)) <;> walk_at "b")
  | with_reducible exact Nb.self _)
local macro_rules | `(tactic| walk_at "z") => `(tactic| first | decide | assumption | omega | exact fmod_nn (by omega) | exact fmod_lt (by omega))
local macro_rules | `(tactic| walk_at "e") => `(tactic| first
  | ((with_reducible refine is_ev ?_); first
    | ((with_reducible apply mul_st); (· walk_at "b"); (· walk_at "b"); (· rfl))
    | ((with_reducible apply mul_s1); (· walk_at "b"); (· rfl))
    | ((with_reducible apply mul_s2); (· walk_at "b"); (· rfl))
    | ((with_reducible apply div_st); (· walk_at "z"); (· walk_at "b"); (· rfl))
    | ((with_reducible apply mod_st); (· walk_at "z"))
    | with_reducible apply tup_pt
    | with_reducible apply tup_ln
    | ((with_reducible apply tup_st); (· rfl))
    | ((with_reducible apply lst_st); (· rfl))
    | with_reducible apply eqi_st
    | with_reducible apply nei_st
    | with_reducible apply eqp_st
    | with_reducible apply nep_st
    | with_reducible apply eqp_st'
    | with_reducible apply nep_st'
    | with_reducible apply eqb_st
    | with_reducible apply neb_st
    | with_reducible apply isb_st
    | with_reducible apply eqs_st
    | with_reducible apply nes_st
    | with_reducible refine ix2bi (fun _ _ _ => ?_)
    | ((with_reducible refine ix4i ?_ ?_ (fun _ _ _ => ?_)); (· walk_at "z"); (· walk_at "z"))
    | ((with_reducible refine ix2i ?_ ?_ (fun _ _ _ => ?_)); (· walk_at "z"); (· walk_at "z"))
    | ((with_reducible refine ix3i ?_ ?_ (fun _ _ _ => ?_)); (· walk_at "z"); (· walk_at "z"))
    | refine ⟨_, rfl, ?_⟩)
  | ((with_reducible refine fill_st ?_); refine ⟨_, rfl, ?_⟩; (try dsimp only))
  | ((with_reducible apply and_go rfl); (· (intro _; (repeat walk_at "s"); with_reducible exact ⟨rfl, rfl⟩)))
  | ((with_reducible refine is_chain ?_); (apply chain_go rfl); (· (intro _; (repeat walk_at "s"); exact ⟨rfl, rfl⟩)))
  | ((with_reducible refine draw_step (by assumption) ?_ ?_ (fun _ _ _ _ _ => ?_)); (· walk_at "z"); (· walk_at "z"))
  | ((with_reducible refine CLY.draw_step (by assumption) ?_ ?_ (fun _ _ _ _ _ => ?_)); (· walk_at "z"); (· walk_at "z"))
  | ((with_reducible refine is_evA ?_); refine ⟨_, rfl, ?_⟩)
  | ((with_reducible refine is_evL ?_); refine ⟨_, rfl, ?_⟩)
  | ((with_reducible refine is_evI ?_); refine ⟨_, rfl, ?_⟩)
  | ((with_reducible refine is_evR ?_); refine ⟨_, rfl, ?_⟩))
local macro_rules | `(tactic| walk_at "f") => `(tactic| first
  | with_reducible refine W_mV.mpr ?_
  | with_reducible refine W_mCons.mpr ?_
  | with_reducible refine W_m2.mpr ?_
  | with_reducible refine W_mC.mpr ?_
  | with_reducible refine W_mNil.mpr ?_
  | with_reducible refine W_mN.mpr ?_
  | with_reducible refine W_sSeq.mpr ?_
  | with_reducible refine W_sAsg.mpr ?_
  | with_reducible refine W_m1.mpr ?_
  | with_reducible refine W_mCallP.mpr ?_
  | with_reducible refine W_mCall.mpr ?_
  | with_reducible refine X_evI.mpr ?_
  | with_reducible refine X_evE.mpr ?_
  | with_reducible refine X_evN.mpr ?_
  | with_reducible refine X_if ?_
  | with_reducible refine W_sRet.mpr ?_
  | with_reducible refine W_sK.mpr ?_
  | with_reducible refine X_and ?_
  | with_reducible refine X_or ?_
  | with_reducible refine W_sPar.mpr ?_
  | with_reducible refine W_mSl.mpr ?_
  | with_reducible refine W_mPtN.mpr ?_
  | with_reducible refine W_mPtS.mpr ?_
  | with_reducible refine W_mIt.mpr ?_
  | with_reducible refine W_mItN.mpr ?_
  | with_reducible refine W_mComp.mpr ?_
  | ((with_reducible refine is_comp ?_); first | (apply X_compN; (· walk_at "o")) | ((with_reducible apply X_compY); (· walk_at "o"); (· rfl)))
  | with_reducible refine W_sFor.mpr ?_
  | ((with_reducible refine is_for ?_); refine W_forNil.mpr ?_)
  | with_reducible refine X_chain ?_
  | with_reducible refine W_sExp.mpr ?_
  | with_reducible refine W_mL.mpr ?_
  | with_reducible refine X_mif ?_
  | with_reducible refine W_mIxS.mpr ?_
  | with_reducible refine W_mYes.mpr ?_
  | with_reducible refine W_sPar3.mpr ?_
  | with_reducible refine W_mApp.mpr ?_
  | with_reducible refine W_mBor.mpr ?_
  | with_reducible refine CLX.W_sFz.mpr ?_)
local macro_rules | `(tactic| walk_at "s") => `(tactic| first
  | ((with_reducible refine is_W ?_); walk_at "f")
  | ((with_reducible refine is_ex ?_); first
    | ((with_reducible refine is_evS ?_); refine ⟨_, rfl, ?_⟩)
    | ((with_reducible apply call_st); (· with_reducible assumption))
    | walk_at "e")
  | ((with_reducible apply X_nx); (· walk_at "o"))
  | with_reducible refine Kq_ret.mpr ?_
  | with_reducible refine Kq_brk.mpr ?_
  | with_reducible refine Kq_cnt.mpr ?_
  | ((with_reducible apply X_fnx); (· walk_at "o"))
  | ((with_reducible apply X_fcnt); (· walk_at "o"))
  | with_reducible refine X_fbrk ?_
  | with_reducible refine X_fret ?_
  | ((with_reducible refine is_ltA ?_); refine ⟨?_, ?_⟩; (· first | decide | omega | (simp; omega) | (simp; done)))
  | with_reducible refine parW_mk.mpr ?_
  | with_reducible refine par3W_mk.mpr ?_)
local macro_rules | `(tactic| walk_at "r") => `(tactic| repeat walk_at "s")
local macro_rules | `(tactic| walk_at "u") => `(tactic| first | ((apply X_forC); (· walk_at "o"); (· rfl)) | ((apply X_compY); (· walk_at "o"); (· rfl)) | ((apply X_compC); (· walk_at "o"); (· rfl)))
local macro_rules | `(tactic| walk_at "g") => `(tactic| repeat first | walk_at "s" | (with_reducible refine go_ifF (rfl : _ = false) ?_) | (with_reducible refine go_ifT (rfl : _ = true) ?_) | (refine go_ifF (rfl : _ = false) ?_) | (refine go_ifT (rfl : _ = true) ?_) | walk_at "u")
mutual
/-- data: ints below 2 ^ b, at most so deep, texts not long -/
def D.gd (b : Nat) : Nat → D → Bool
  | _, .non => true
  | _, .bl _ => true
  | _, .int i => decide (i.natAbs < 2 ^ b)
  | _, .str x => x.cps.all (· < 128) && decide (x.length ≤ 200 + b)
  | n + 1, .tup l => D.gdL b n l
  | n + 1, .lst l => D.gdL b n l
  | n + 1, .dct ks vs => D.gdL b n ks && D.gdL b n vs && decide (ks.length = vs.length)
  | _, _ => false
def D.gdL (b : Nat) : Nat → List D → Bool
  | _, [] => true
  | n, d :: ds => D.gd b n d && D.gdL b n ds
end
theorem gdL_iff {b n : Nat} : ∀ {l : List D}, D.gdL b n l = true ↔ ∀ x ∈ l, D.gd b n x = true
  | [] => by simp [D.gdL]
  | d :: l => by simp [D.gdL, gdL_iff (l := l)]
mutual
theorem gd_mono {b c : Nat} (hb : b ≤ c) : ∀ {n m : Nat} (d : D), n ≤ m → D.gd b n d = true → D.gd c m d = true
  | _, _, .non, _, _ => by simp [D.gd]
  | _, _, .bl _, _, _ => by simp [D.gd]
  | _, _, .int i, _, h => by
    simp only [D.gd, decide_eq_true_eq] at h ⊢
    exact Nat.lt_of_lt_of_le h (Nat.pow_le_pow_right (by decide) hb)
  | _, _, .str x, _, h => by
    simp only [D.gd, Bool.and_eq_true, decide_eq_true_eq] at h ⊢
    exact ⟨h.1, by omega⟩
  | n + 1, m + 1, .tup l, hn, h => by simp only [D.gd] at h ⊢; exact gdL_mono hb l (by omega) h
  | n + 1, m + 1, .lst l, hn, h => by simp only [D.gd] at h ⊢; exact gdL_mono hb l (by omega) h
  | n + 1, m + 1, .dct ks vs, hn, h => by
    simp only [D.gd, Bool.and_eq_true] at h ⊢
    exact ⟨⟨gdL_mono hb ks (by omega) h.1.1, gdL_mono hb vs (by omega) h.1.2⟩, h.2⟩
  | 0, _, .tup l, _, h => by simp [D.gd] at h
  | 0, _, .lst l, _, h => by simp [D.gd] at h
  | 0, _, .dct _ _, _, h => by simp [D.gd] at h
  | n + 1, 0, _, hn, _ => by omega
  | _, _, .kdc _ _, _, h => by simp [D.gd] at h
  | _, _, .ins _ _ _, _, h => by simp [D.gd] at h
  | _, _, .scr _, _, h => by simp [D.gd] at h
theorem gdL_mono {b c : Nat} (hb : b ≤ c) : ∀ {n m : Nat} (l : List D), n ≤ m → D.gdL b n l = true → D.gdL c m l = true
  | _, _, [], _, _ => by simp [D.gdL]
  | n, m, d :: ds, hn, h => by
    simp only [D.gdL, Bool.and_eq_true] at h ⊢
    exact ⟨gd_mono hb d hn h.1, gdL_mono hb ds hn h.2⟩
end
mutual
theorem gd_okE {b : Nat} (hb : b ≤ 400) : ∀ (n : Nat) (d : D), D.gd b n d = true → D.okE n d = true
  | _, .non, _ => by simp [D.okE]
  | _, .bl _, _ => by simp [D.okE]
  | _, .int i, h => by
    simp only [D.gd, decide_eq_true_eq] at h
    simp only [D.okE, decide_eq_true_eq]
    exact Nat.lt_of_lt_of_le h (Nat.pow_le_pow_right (by decide) hb)
  | _, .str x, h => by simp [D.okE]
  | n + 1, .tup l, h => by simp only [D.gd] at h; simp only [D.okE]; exact gdL_okE hb n l h
  | n + 1, .lst l, h => by simp only [D.gd] at h; simp only [D.okE]; exact gdL_okE hb n l h
  | n + 1, .dct ks vs, h => by
    simp only [D.gd, Bool.and_eq_true] at h
    simp only [D.okE, Bool.and_eq_true]
    exact ⟨⟨gdL_okE hb n ks h.1.1, gdL_okE hb n vs h.1.2⟩, h.2⟩
  | 0, .tup l, h => by simp [D.gd] at h
  | 0, .lst l, h => by simp [D.gd] at h
  | 0, .dct _ _, h => by simp [D.gd] at h
  | _, .kdc _ _, h => by simp [D.gd] at h
  | _, .ins _ _ _, h => by simp [D.gd] at h
  | _, .scr _, h => by simp [D.gd] at h
theorem gdL_okE {b : Nat} (hb : b ≤ 400) : ∀ (n : Nat) (l : List D), D.gdL b n l = true → D.okEL n l = true
  | _, [], _ => by simp [D.okEL]
  | n, d :: ds, h => by
    simp only [D.gdL, Bool.and_eq_true] at h
    simp only [D.okEL, Bool.and_eq_true]
    exact ⟨gd_okE hb n d h.1, gdL_okE hb n ds h.2⟩
end
theorem repr_gd {b n : Nat} {d : D} (h : D.gd b n d = true) (hb : b ≤ 400) (hn : n ≤ 60) (hw : d.wtE ≤ 100000) : bReprE [d] = some (.str d.shownE) := by
  simp only [bReprE]
  rw [if_pos ⟨gd_okE hb 60 d (gd_mono (Nat.le_refl _) d hn h), hw⟩]
theorem At.gd {b : Nat} : ∀ {d : D} {p : List Nat} {e : D} {n : Nat}, At d p e → D.gd b n d = true → ∃ m, m + p.length ≤ n ∧ D.gd b m e = true
  | _, _, _, n, .nil d, h => ⟨n, by simp, h⟩
  | _, _, _, n + 1, .cons hk r, h => by
    simp only [D.gd] at h
    obtain ⟨m, h1, h2⟩ := r.gd (gdL_iff.mp h _ (List.mem_of_getElem? hk))
    exact ⟨m, by simp; omega, h2⟩
  | _, _, _, 0, .cons hk r, h => by simp [D.gd] at h
def intsF (k m : Nat) : List D := (List.range m).map fun i => .int ((k + i : Nat))
theorem intsF_succ {k m : Nat} : intsF k (m + 1) = .int (k : Nat) :: intsF (k + 1) m := by
  unfold intsF
  rw [List.range_succ_eq_map, List.map_cons, List.map_map]
  congr 1
  refine List.map_congr_left fun i _ => ?_
  simp only [Function.comp_apply]
  congr 2
  omega
theorem rangeL_ints (n : Nat) : rangeL 0 (n : Int) = intsF 0 n := by
  unfold rangeL intsF
  simp
/-- what is put in a part's place -/
def New (b m w : Nat) (v : D) : Prop := D.gd b m v = true ∧ v.wtE ≤ w
theorem New.leaf {b m w : Nat} {v : D} (h : D.gd b 0 v = true) (hw : v.wtE ≤ 6000) (k : 6000 ≤ w) : New b m w v := ⟨gd_mono (Nat.le_refl _) v (Nat.zero_le _) h, by omega⟩
end CL
namespace CL
open PySem PySem.Spec L2
set_option autoImplicit false
mutual
theorem nk_hash {w : World} : ∀ (d : D) (k : NestedKey), D.nk d = some k → k.hash w = hashK k
  | .int i, k, h => by simp only [D.nk] at h; cases h; simp only [NestedKey.hash, hashK]
  | .tup l, k, h => by
    simp only [D.nk] at h
    obtain ⟨ks, hk, rfl⟩ := Option.map_eq_some_iff.mp h
    simp only [NestedKey.hash, hashK]
    rw [nk_hashes l ks hk]
  | .non, k, h => by simp [D.nk] at h
  | .bl _, k, h => by simp [D.nk] at h
  | .str _, k, h => by simp [D.nk] at h
  | .lst _, k, h => by simp [D.nk] at h
  | .scr _, k, h => by simp [D.nk] at h
  | .dct _ _, k, h => by simp [D.nk] at h
  | .kdc _ _, k, h => by simp [D.nk] at h
  | .ins _ _ _, k, h => by simp [D.nk] at h
theorem nk_hashes {w : World} : ∀ (l : List D) (ks : List NestedKey), D.nkL l = some ks → NestedKey.hashes w ks = hashKs ks
  | [], ks, h => by simp only [D.nkL] at h; cases h; simp only [NestedKey.hashes, hashKs]
  | d :: ds, ks, h => by
    simp only [D.nkL] at h
    split at h
    · rename_i k ks' h1 h2
      cases h
      simp only [NestedKey.hashes, hashKs]
      rw [nk_hash d k h1, nk_hashes ds ks' h2]
    · cases h
end
theorem nkL_get : ∀ {l : List D} {ks : List NestedKey} {i : Nat} {k : NestedKey}, D.nkL l = some ks → ks[i]? = some k → ∃ d, l[i]? = some d ∧ D.nk d = some k
  | [], ks, i, k, h, e => by simp only [D.nkL] at h; cases h; simp at e
  | d :: ds, ks, i, k, h, e => by
    simp only [D.nkL] at h
    split at h
    · rename_i k' ks' h1 h2
      cases h
      cases i with
      | zero => simp at e; subst e; exact ⟨d, by simp, h1⟩
      | succ i =>
        obtain ⟨d', a, b⟩ := nkL_get h2 (i := i) (k := k) (by simpa using e)
        exact ⟨d', by simpa using a, b⟩
    · cases h
theorem nkL_app {l : List D} {d : D} {ks : List NestedKey} {k : NestedKey} (h : D.nkL l = some ks) (e : D.nk d = some k) : D.nkL (l ++ [d]) = some (ks ++ [k]) := by
  induction l generalizing ks with
  | nil => simp only [D.nkL] at h; cases h; simp [D.nkL, e]
  | cons a l ih =>
    simp only [D.nkL] at h
    split at h
    · rename_i k' ks' h1 h2
      cases h
      simp only [List.cons_append, D.nkL, h1, ih h2]
    · cases h
section
variable [Tb] {X : Cx} {pins : List (Addr × Obj)} {σ : St} {H : Hp} {s : Shared} {Z : Addr → Prop}
mutual
theorem RSh.nkIs (I : Inv X pins σ H s) : ∀ (d : D) (v : V) (u : Value) (k : NestedKey), RSh X.K Z H d v → D.nk d = some k → RelV v u → NestedIs s.heap k u
  | .int i, v, u, k, h, e, r => by
    simp only [RSh] at h; subst h
    obtain ⟨t, rfl⟩ := r
    simp only [D.nk] at e; cases e
    exact .int i t
  | .tup l, v, u, k, h, e, r => by
    simp only [RSh] at h
    obtain ⟨a, xs, rfl, hs, hl⟩ := h
    cases r
    simp only [D.nk] at e
    obtain ⟨ks, hk, rfl⟩ := Option.map_eq_some_iff.mp e
    obtain ⟨its, rv, ⟨ob, ho, hc, n, hd⟩, _⟩ := I.tuple hs
    exact .tup ho hc hd (RShL.nkIs I l xs its ks hl hk rv)
  | .non, _, _, k, _, h, _ => by simp [D.nk] at h
  | .bl _, _, _, k, _, h, _ => by simp [D.nk] at h
  | .str _, _, _, k, _, h, _ => by simp [D.nk] at h
  | .lst _, _, _, k, _, h, _ => by simp [D.nk] at h
  | .scr _, _, _, k, _, h, _ => by simp [D.nk] at h
  | .dct _ _, _, _, k, _, h, _ => by simp [D.nk] at h
  | .kdc _ _, _, _, k, _, h, _ => by simp [D.nk] at h
  | .ins _ _ _, _, _, k, _, h, _ => by simp [D.nk] at h
theorem RShL.nkIs (I : Inv X pins σ H s) : ∀ (l : List D) (vs : List V) (us : List Value) (ks : List NestedKey), RShL X.K Z H l vs → D.nkL l = some ks → Vals vs us → NestedAll s.heap ks us
  | [], vs, us, ks, h, e, r => by
    simp only [RShL] at h; subst h
    cases r
    simp only [D.nkL] at e; cases e
    exact .nil
  | d :: ds, vs, us, ks, h, e, r => by
    simp only [RShL] at h
    obtain ⟨w, ws, rfl, h1, h2⟩ := h
    cases r with
    | cons r1 r2 =>
      simp only [D.nkL] at e
      split at e
      · rename_i k ks' e1 e2
        cases e
        exact .cons (RSh.nkIs I d w _ k h1 e1 r1) (RShL.nkIs I ds ws _ ks' h2 e2 r2)
      · cases e
end
end
/-- the entries with their values -/
def zu : List (NestedKey × Addr × V) → List Value → List (NestedKey × Addr × Value)
  | x :: xs, u :: us => (x.1, x.2.1, u) :: zu xs us
  | _, _ => []
theorem zu_keys : ∀ {xs : List (NestedKey × Addr × V)} {us : List Value}, Vals (xs.map (·.2.2)) us → (zu xs us).map (·.1) = xs.map (·.1) ∧ (zu xs us).length = xs.length
  | [], _, .nil => ⟨rfl, rfl⟩
  | x :: xs, _, .cons h t => by
    obtain ⟨a, b⟩ := zu_keys t
    exact ⟨by simp [zu, a], by simp [zu, b]⟩
theorem zu_mem : ∀ {xs : List (NestedKey × Addr × V)} {us : List Value}, Vals (xs.map (·.2.2)) us → ∀ y ∈ zu xs us, ∃ x ∈ xs, y.1 = x.1 ∧ y.2.1 = x.2.1 ∧ RelV x.2.2 y.2.2
  | [], _, .nil, y, hy => by simp [zu] at hy
  | x :: xs, _, .cons h t, y, hy => by
    simp only [zu, List.mem_cons] at hy
    rcases hy with rfl | hy
    · exact ⟨x, by simp, rfl, rfl, h⟩
    · obtain ⟨z, hz, r⟩ := zu_mem t y hy
      exact ⟨z, by simp [hz], r⟩
theorem ents_zu [Tb] {P : Program} {w : World} : ∀ {xs : List (NestedKey × Addr × V)} {us : List Value}, (∀ x ∈ xs, x.1.hash w = hashK x.1) → ents xs us = (zu xs us).map (entryOfKey (nestedKind P w))
  | [], us, _ => by simp [ents, zu]
  | x :: xs, [], _ => by simp [ents, zu]
  | x :: xs, u :: us, h => by
    simp only [ents, zu, List.map_cons]
    rw [ents_zu (P := P) fun y hy => h y (by simp [hy])]
    congr 1
    show _ = (⟨x.1.hash w, _, _⟩ : DictEntry)
    rw [h x (by simp)]
theorem kd_stay {a : Addr} {xs : List (NestedKey × Addr × V)} {P : Program} {w : World} {H : Hp} {h : Heap} (z : xs.length ≤ sizeLine) (hs : (a == sysModules) = false) (nd : (xs.map (·.1)).Nodup) (ko : (xs.all fun x => kOk x.1) = true)
    {us : List Value} (va : Vals (xs.map (·.2.2)) us) {o : Obj} {es : Array DictEntry} {ep : Nat} (e1 : h.get? a = some o) (e2 : o.ExactDict) (e3 : o.data = .dict es ep) (e4 : es.toList = ents xs us) : ObjOk P w H h a (KdO a xs) :=
  ⟨⟨z, hs, nd, ko, us, va, o, es, ep, e1, e2, e3, e4⟩, ⟨o, e1⟩, fun h1 h2 ⟨z, hs, nd, ko, us, va, o, es, ep, e1, e2, e3, e4⟩ k => ⟨z, hs, nd, ko, us, va, o, es, ep, k o e1, e2, e3, e4⟩⟩
section
variable [Tb] {X : Cx} {pins : List (Addr × Obj)} {σ : St} {H : Hp} {s : Shared} {Z : Addr → Prop} {a : Addr} {xs : List (NestedKey × Addr × V)} {ks : List D}
theorem kd_at (I : Inv X pins σ H s) (e : H a = some (KdO a xs)) (hk : D.nkL ks = some (xs.map (·.1))) (hr : RShL X.K Z H ks (xs.map fun x => .ref x.2.1)) :
    xs.length ≤ sizeLine ∧ (a == sysModules) = false ∧ (xs.all fun x => kOk x.1) = true ∧ ∃ us, Vals (xs.map (·.2.2)) us ∧ s.heap.DictOfH (nestedKind X.prog X.w) a (zu xs us) ∧ (zu xs us).length ≤ sizeLine := by
  obtain ⟨⟨z, hs, nd, ko, us, va, o, es, ep, e1, e2, e3, e4⟩, _, _⟩ := (show ObjOk X.prog X.w H s.heap a (KdO a xs) from I.hok a _ e)
  have hh : ∀ x ∈ xs, x.1.hash X.w = hashK x.1 := fun x hx => by
    obtain ⟨i, hi⟩ := List.getElem?_of_mem hx
    obtain ⟨d, _, hd⟩ := nkL_get hk (i := i) (k := x.1) (by rw [List.getElem?_map, hi]; rfl)
    exact nk_hash d _ hd
  refine ⟨z, hs, ko, us, va, ⟨o, es, ep, e1, e2, e3, by rw [e4]; exact ents_zu hh, fun y hy => ?_, by rw [(zu_keys va).1]; exact nd⟩, by rw [(zu_keys va).2]; exact z⟩
  obtain ⟨x, hx, q1, q2, _⟩ := zu_mem va y hy
  obtain ⟨i, hi⟩ := List.getElem?_of_mem hx
  obtain ⟨d, hd1, hd2⟩ := nkL_get hk (i := i) (k := x.1) (by rw [List.getElem?_map, hi]; rfl)
  obtain ⟨v, hv1, hv2⟩ := hr.get hd1
  rw [List.getElem?_map, hi] at hv1
  cases hv1
  rw [q1, q2]
  refine ⟨RSh.nkIs I d _ _ _ hv2 hd2 rfl, ?_⟩
  have := List.all_eq_true.mp ko x hx
  unfold kOk at this
  split at this
  · rename_i l e; rw [e]; simpa using this
  · cases this
end
def kset : List NestedKey → List D → NestedKey → D → List D
  | a :: ks, v :: vs, k, d => (if a = k then d else v) :: kset ks vs k d
  | _, vs, _, _ => vs
theorem atKey_some : ∀ {xs : List (NestedKey × Addr × V)} {us : List Value} {k : NestedKey}, Vals (xs.map (·.2.2)) us → (atKey (zu xs us) k).isSome = decide (k ∈ xs.map (·.1))
  | [], _, k, .nil => by simp [zu, atKey]
  | x :: xs, _, k, .cons h t => by
    have ih := atKey_some (k := k) t
    by_cases e : x.1 = k
    · simp [zu, atKey, e]
    · have e' : ¬ k = x.1 := fun z => e z.symm
      simp only [zu, atKey, List.find?_cons, e, decide_false, List.map_cons, List.mem_cons, e', false_or] at ih ⊢
      exact ih
/-- one entry put in -/
def putX (xs : List (NestedKey × Addr × V)) (k : NestedKey) (b : Addr) (v : V) : List (NestedKey × Addr × V) := if k ∈ xs.map (·.1) then xs.map (fun x => if x.1 = k then (x.1, x.2.1, v) else x) else xs ++ [(k, b, v)]
theorem zu_put : ∀ {xs : List (NestedKey × Addr × V)} {us : List Value} {k : NestedKey} {v : V} {u : Value}, Vals (xs.map (·.2.2)) us → RelV v u → ∃ us', (zu xs us).map (PySem.putAt k u) = zu (xs.map (fun x => if x.1 = k then (x.1, x.2.1, v) else x)) us' ∧ Vals ((xs.map (fun x => if x.1 = k then (x.1, x.2.1, v) else x)).map (·.2.2)) us'
  | [], _, k, v, u, .nil, r => ⟨[], rfl, .nil⟩
  | x :: xs, _, k, v, u, .cons (b := w) h t, r => by
    obtain ⟨us', a, b⟩ := zu_put (k := k) t r
    by_cases e : x.1 = k
    · exact ⟨u :: us', by simp [zu, PySem.putAt, e, a], by simp only [List.map_cons, e, if_true]; exact .cons r b⟩
    · exact ⟨w :: us', by simp [zu, PySem.putAt, e, a], by simp only [List.map_cons, e, if_false]; exact .cons h b⟩
theorem zu_app : ∀ {xs : List (NestedKey × Addr × V)} {us : List Value} {k : NestedKey} {b : Addr} {v : V} {u : Value}, Vals (xs.map (·.2.2)) us → RelV v u → zu xs us ++ [(k, b, u)] = zu (xs ++ [(k, b, v)]) (us ++ [u]) ∧ Vals ((xs ++ [(k, b, v)]).map (·.2.2)) (us ++ [u])
  | [], _, k, b, v, u, .nil, r => ⟨rfl, .cons r .nil⟩
  | x :: xs, _, k, b, v, u, .cons h t, r => by
    obtain ⟨p, q⟩ := zu_app (k := k) (b := b) t r
    exact ⟨by simp [zu, p], .cons h q⟩
theorem zu_stored {xs : List (NestedKey × Addr × V)} {us : List Value} {k : NestedKey} {b : Addr} {v : V} {u : Value} (va : Vals (xs.map (·.2.2)) us) (r : RelV v u) : ∃ us', storedH (zu xs us) k b u = zu (putX xs k b v) us' ∧ Vals ((putX xs k b v).map (·.2.2)) us' := by
  unfold storedH putX
  rw [atKey_some va]
  by_cases h : k ∈ xs.map (·.1)
  · rw [if_pos h, if_pos (decide_eq_true h)]
    exact zu_put va r
  · rw [if_neg h, if_neg (by simp [h])]
    obtain ⟨p, q⟩ := zu_app (k := k) (b := b) va r
    exact ⟨_, p, q⟩
theorem putX_keys {xs : List (NestedKey × Addr × V)} {k : NestedKey} {b : Addr} {v : V} : (putX xs k b v).map (·.1) = if k ∈ xs.map (·.1) then xs.map (·.1) else xs.map (·.1) ++ [k] := by
  unfold putX
  split
  · rw [List.map_map]
    refine List.map_congr_left fun x _ => ?_
    simp only [Function.comp_apply]
    split <;> rfl
  · simp
/-- the keys and values behind d[k] = v -/
def kput (ks vs : List D) (nks : List NestedKey) (kd : D) (k : NestedKey) (d : D) : D := if k ∈ nks then .kdc ks (kset nks vs k d) else .kdc (ks ++ [kd]) (vs ++ [d])
theorem kset_rel [Tb] {K : PySem.W.Frag} {Z : Addr → Prop} {H : Hp} {k : NestedKey} {d : D} {v : V} (rv : RSh K Z H d v) : ∀ {xs : List (NestedKey × Addr × V)} {vs : List D}, RShL K Z H vs (xs.map (·.2.2)) → RShL K Z H (kset (xs.map (·.1)) vs k d) ((xs.map (fun x => if x.1 = k then (x.1, x.2.1, v) else x)).map (·.2.2))
  | [], vs, r => by
    simp only [List.map_nil] at r ⊢
    have : vs = [] := List.eq_nil_of_length_eq_zero (by simpa using r.len)
    subst this
    simpa only [kset] using r
  | x :: xs, vs, r => by
    cases vs with
    | nil => simp only [List.map_cons, RShL] at r; cases r
    | cons z vs =>
      simp only [List.map_cons, RShL] at r
      obtain ⟨w, ws, e0, r1, r2⟩ := r
      cases e0
      simp only [List.map_cons, kset]
      by_cases e : x.1 = k
      · rw [if_pos e, if_pos e]
        simp only [RShL]
        exact ⟨v, _, rfl, rv, kset_rel rv r2⟩
      · rw [if_neg e, if_neg e]
        simp only [RShL]
        exact ⟨x.2.2, _, rfl, r1, kset_rel rv r2⟩
def keyOf (d : D) : Option NestedKey := d.nk.bind fun k => if kOk k = true then some k else none
theorem keyOf_ok {d : D} {k : NestedKey} (h : keyOf d = some k) : D.nk d = some k ∧ kOk k = true := by
  unfold keyOf at h
  obtain ⟨k', h1, h2⟩ := Option.bind_eq_some_iff.mp h
  split at h2
  · rename_i hk; cases h2; exact ⟨h1, hk⟩
  · cases h2
theorem keyOf_tup {d : D} {k : NestedKey} (h : keyOf d = some k) : ∃ l, d = .tup l := by
  obtain ⟨h1, h2⟩ := keyOf_ok h
  cases d with
  | tup l => exact ⟨l, rfl⟩
  | int i => simp only [D.nk] at h1; cases h1; simp [kOk] at h2
  | _ => simp [D.nk] at h1
theorem kOk_depth {k : NestedKey} (h : kOk k = true) : k.depth ≤ 8 := by
  unfold kOk at h
  split at h
  · simpa using h
  · cases h
theorem Pk0.kdc [Tb] {K : PySem.W.Frag} {Z : Addr → Prop} {H : Hp} {ks vs : List D} {v : V} (h : Pk0 K Z H (.kdc ks vs) v) : ∃ a xs, v = .ref a ∧ H a = some (KdO a xs) ∧ D.nkL ks = some (xs.map (·.1)) ∧ RShL K Z H ks (xs.map fun x => .ref x.2.1) ∧ RShL K Z H vs (xs.map (·.2.2)) := by
  rcases h with h | ⟨_, _, _, e, _⟩
  · simp only [RSh] at h
    obtain ⟨a, xs, e, _, q⟩ := h
    exact ⟨a, xs, e, q⟩
  · cases e
theorem key_at [Tb] {X : Cx} {pins : List (Addr × Obj)} {σ : St} {H : Hp} {s : Shared} {Z : Addr → Prop} {kd : D} {k : NestedKey} {v : V} {u : Value} (I : Inv X pins σ H s) (h : keyOf kd = some k) (p : Pk0 X.K Z H kd v) (r : RelV v u) : ∃ b, v = .ref b ∧ u = .ref b ∧ (nestedKind X.prog X.w).is s.heap k b := by
  obtain ⟨l, rfl⟩ := keyOf_tup h
  obtain ⟨h1, h2⟩ := keyOf_ok h
  rcases p with p | ⟨_, _, _, e, _⟩
  · have p0 := p
    simp only [RSh] at p
    obtain ⟨b, xs, rfl, _⟩ := p
    cases r
    exact ⟨b, rfl, rfl, RSh.nkIs I _ _ _ _ p0 h1 rfl, kOk_depth h2⟩
  · cases e
section
variable [Tb] {X : Cx}
end
end CL
namespace CL
open PySem PySem.Spec L2
set_option autoImplicit false
section
variable [Tb] {X : Cx}
/-- d[k] = v of a dict of one's own -/
def rSetK [Tb] (K : PySem.W.Frag) : V → V → V → Hp → (Hp → Prop) → Prop := fun o i v H Q => ∃ (Z : Addr → Prop) (a : Addr) (xs : List (NestedKey × Addr × V)) (ks : List D) (kd : D) (k : NestedKey) (b : Addr), o = .ref a ∧ H a = some (KdO a xs) ∧ D.nkL ks = some (xs.map (·.1)) ∧ RShL K Z H ks (xs.map fun x => .ref x.2.1) ∧ keyOf kd = some k ∧ i = .ref b ∧ RSh K Z H kd i ∧ xs.length < sizeLine ∧ Q (upd H a (KdO a (putX xs k b v)))
theorem putX_len {xs : List (NestedKey × Addr × V)} {k : NestedKey} {b : Addr} {v : V} : (putX xs k b v).length ≤ xs.length + 1 := by
  unfold putX
  split <;> simp
theorem putX_ok {xs : List (NestedKey × Addr × V)} {k : NestedKey} {b : Addr} {v : V} (h : (xs.all fun x => kOk x.1) = true) (hk : kOk k = true) : ((putX xs k b v).all fun x => kOk x.1) = true := by
  rw [List.all_eq_true] at h ⊢
  intro x hx
  have hm : x.1 ∈ (putX xs k b v).map (·.1) := List.mem_map_of_mem hx
  rw [putX_keys] at hm
  split at hm
  · obtain ⟨y, hy, e⟩ := List.mem_map.mp hm
    rw [← e]; exact h y hy
  · rcases List.mem_append.mp hm with hm | hm
    · obtain ⟨y, hy, e⟩ := List.mem_map.mp hm
      rw [← e]; exact h y hy
    · rw [List.mem_singleton.mp hm]; exact hk
theorem set_kd (hu : X.A.units + 64 < cLine) : PSet X (rSetK X.K) := by
  intro pins s σ H o i v ov iv u Q I ro ri rv h
  obtain ⟨Z, a, xs, ks, kd, k, b, rfl, g1, g2, g3, hk, rfl, rk, hl, q⟩ := h
  cases ro
  obtain ⟨z, hs, ko, us, va, dd, hz⟩ := kd_at I g1 g2 g3
  obtain ⟨b', e1, e2, ki⟩ := key_at I hk (.inl rk) ri
  cases e1
  subst e2
  refine wpAny_setItem_heap (hsz := hz) (show X.A.in1.units + 8 < cLine by show X.A.units + 1 + 8 < cLine; omega) ki dd fun h' dd' hsb => ?_
  obtain ⟨us', eu, va'⟩ := zu_stored (k := k) (b := b) va rv
  rw [eu] at dd'
  obtain ⟨ob, es, ep, hq, h2, h3, h4, hi, h5⟩ := dd'
  refine ⟨_, d_write I (by rw [g1]; exact True.intro) hsb ⟨ob, hq⟩ (kd_stay (by have := putX_len (xs := xs) (k := k) (b := b) (v := v); omega) hs (by rw [← (zu_keys va').1]; exact h5) (putX_ok ko (keyOf_ok hk).2) va' hq h2 h3 ?_), q⟩
  rw [h4]
  refine (ents_zu fun x hx => ?_).symm
  have hm : x.1 ∈ (putX xs k b v).map (·.1) := List.mem_map_of_mem hx
  have old : ∀ y ∈ xs.map (·.1), NestedKey.hash X.w y = hashK y := fun y hy => by
    obtain ⟨i, hi⟩ := List.getElem?_of_mem hy
    obtain ⟨d, _, hd⟩ := nkL_get g2 hi
    exact nk_hash d _ hd
  rw [putX_keys] at hm
  split at hm
  · exact old _ hm
  · rcases List.mem_append.mp hm with hm | hm
    · exact old _ hm
    · rw [List.mem_singleton.mp hm]; exact nk_hash kd _ (keyOf_ok hk).1
end
section
variable [Tb] {K : PySem.W.Frag} {τ : Nat → OT} {Z : Addr → Prop} {own : Addr → Option Nat} {H : Hp} {ρ : Sl} {σ : St} {i : Nat}
theorem RS.updOwnG {a : Addr} {u0 u1 : HO} {v : V} {d : D} (m0 : Mut u0) (m1 : Mut u1) (h : RS K τ Z own H ρ σ) (ho : own a = some i) (ha : H a = some u0) (hv : σ[i]? = some (some v)) (hn : R K Z (upd H a u1) (τ i) d v (fun b => own b = some i)) :
    RS K τ Z own (upd H a u1) (ρ.set i (some d)) σ ∧ Ext false Z own H Z own (upd H a u1) := by
  have hz := h.dz a i ho
  have nl : NL H (upd H a u1) := fun b o e hm _ => by
    rw [upd_ne (fun w => by subst w; rw [ha] at e; cases e; exact hm m0)]; exact e
  have sq : ∀ b o, Z b → H b = some o → NT o → upd H a u1 b = some o := fun b o z s _ => by
    rw [upd_ne (fun e => by subst e; exact hz z)]; exact s
  refine ⟨⟨fun j d' e => ?_, fun b j e => ?_, h.dz, fun b z e => ?_, by simpa using h.len, (upd_tk ha m0).ok h.tb⟩, fun _ z => z, fun _ z => .inl z, fun _ _ z => .inl z, fun b o e hb _ => ?_, fun b e n => ?_, upd_tk ha m0⟩
  · by_cases hij : i = j
    · subst hij
      rw [List.getElem?_set] at e
      split at e
      · split at e
        · cases e; exact ⟨v, hv, hn⟩
        · cases e
      · rename_i n; exact absurd rfl n
    · rw [List.getElem?_set_ne hij] at e
      obtain ⟨w, e1, e2⟩ := h.sl j d' e
      refine ⟨w, e1, R.pres (fun _ z => z) nl sq (fun b zs s hb _ => ?_) e2⟩
      rw [upd_ne (fun e => by subst e; rw [ho] at s; cases s; exact hij rfl)]; exact hb
  · by_cases hb : b = a
    · subst hb; exact ⟨_, upd_same, m1⟩
    · obtain ⟨zs, hx, hm⟩ := h.ls b j e
      exact ⟨zs, by rw [upd_ne hb]; exact hx, hm⟩
  · rw [upd_ne (fun w => by subst w; exact hz z)] at e
    exact h.zt b z e
  · rcases hb with hb | hb
    · rw [upd_ne (fun w => by subst w; rw [ho] at hb; cases hb)]; exact e
    · cases hb
  · by_cases hb : b = a
    · subst hb; rw [upd_same] at n; cases n
    · rw [upd_ne hb] at n; exact e n
theorem putX_refs {xs : List (NestedKey × Addr × V)} {k : NestedKey} {b : Addr} {v : V} : (putX xs k b v).map (fun x => V.ref x.2.1) = if k ∈ xs.map (·.1) then xs.map (fun x => V.ref x.2.1) else xs.map (fun x => V.ref x.2.1) ++ [.ref b] := by
  unfold putX
  split
  · rw [List.map_map]
    refine List.map_congr_left fun x _ => ?_
    simp only [Function.comp_apply]
    split <;> rfl
  · simp
theorem kput_rel {ks vs : List D} {xs : List (NestedKey × Addr × V)} {kd d : D} {k : NestedKey} {b : Addr} {v : V} (hk : D.nk kd = some k) (g2 : D.nkL ks = some (xs.map (·.1))) (g3 : RShL K Z H ks (xs.map fun x => .ref x.2.1)) (g4 : RShL K Z H vs (xs.map (·.2.2))) (rk : RSh K Z H kd (.ref b)) (rv : RSh K Z H d v) :
    ∃ ks' vs', kput ks vs (xs.map (·.1)) kd k d = .kdc ks' vs' ∧ D.nkL ks' = some ((putX xs k b v).map (·.1)) ∧ RShL K Z H ks' ((putX xs k b v).map fun x => .ref x.2.1) ∧ RShL K Z H vs' ((putX xs k b v).map (·.2.2)) := by
  rw [putX_keys, putX_refs]
  unfold kput putX
  by_cases h : k ∈ xs.map (·.1)
  · rw [if_pos h, if_pos h, if_pos h, if_pos h]
    exact ⟨_, _, rfl, g2, g3, kset_rel rv g4⟩
  · rw [if_neg h, if_neg h, if_neg h, if_neg h]
    refine ⟨_, _, rfl, nkL_app g2 hk, g3.append (.one rk), ?_⟩
    rw [List.map_append]
    exact g4.append (.one rv)
theorem RS.ownK {ks vs : List D} (h : RS K τ Z own H ρ σ) (ht : τ i = .od) (hi : ρ[i]? = some (some (.kdc ks vs))) : ∃ a xs, σ[i]? = some (some (.ref a)) ∧ H a = some (KdO a xs) ∧ own a = some i ∧ D.nkL ks = some (xs.map (·.1)) ∧ RShL K Z H ks (xs.map fun x => .ref x.2.1) ∧ RShL K Z H vs (xs.map (·.2.2)) ∧
    ∀ ks' vs' ys, D.nkL ks' = some (ys.map (·.1)) → RShL K Z H ks' (ys.map fun x => .ref x.2.1) → RShL K Z H vs' (ys.map (·.2.2)) → RS K τ Z own (upd H a (KdO a ys)) (ρ.set i (some (.kdc ks' vs'))) σ ∧ Ext false Z own H Z own (upd H a (KdO a ys)) := by
  obtain ⟨v, hv, r⟩ := h.sl i _ hi
  rw [ht] at r
  obtain ⟨ks0, vs0, a, xs, e1, rfl, e3, e4, e5, e6, e7⟩ := r
  cases e1
  refine ⟨a, xs, hv, e3, e4, e5, e6, e7, fun ks' vs' ys n1 n2 n3 => h.updOwnG mutK mutK e4 e3 hv ?_⟩
  rw [ht]
  have hz := h.dz a i e4
  have nl : NL H (upd H a (KdO a ys)) := fun b o e hm _ => by
    rw [upd_ne (fun w => by subst w; rw [e3] at e; cases e; exact hm mutK)]; exact e
  have sq : ∀ b o, Z b → H b = some o → NT o → upd H a (KdO a ys) b = some o := fun b o z s _ => by
    rw [upd_ne (fun e => by subst e; exact hz z)]; exact s
  exact ⟨ks', vs', a, ys, rfl, rfl, upd_same, e4, n1, RShL.pres (fun _ z => z) nl sq _ _ n2, RShL.pres (fun _ z => z) nl sq _ _ n3⟩
end
def sStoK (i : Nat) (mi m : M D) : MS := bind m fun d => bind (mV i) fun _ => bind mi fun kd => fun ρ => match ρ[i]? with
  | some (some (.kdc ks vs)) => (match keyOf kd, D.nkL ks with
    | some k, some nks => if ks.length < 16777216 then .ok (.nx, ρ.set i (some (kput ks vs nks kd k d))) else .bad
    | _, _ => .bad)
  | _ => .bad
section
variable [Tb] {X : Cx} {F : Fr} {q q2 : Bool} {e b : Expr} {ma mi : M D} {pos p1 p0 : Pos} {x : Str}
theorem s_stoK (i : Nat) (hu : X.A.units + 64 < cLine) (he : PE X e (tE X.K F.τ q .sh ma)) (hb : PE X b (tE X.K F.τ q2 .sh mi)) (ht : F.τ i = .od := by rfl) (hN : X.N[i]? = some x := by rfl) (hv : Vis X.env.scope x := by first | exact Or.inl rfl | exact Or.inr (Or.inl rfl) | exact Or.inr (Or.inr rfl)) (hd : (x == ("__debug__" : Str)) = false := by decide)
    (hcd : (x == ("__classdict__" : Str)) = false := by decide)
    (ha : ∀ v, assign (.Subscript (.Name x p1) b p0) X.env v = (do
      let ov ← holding [v] (eval (.Name x p1) X.env)
      let iv ← holding [v, ov] (eval b X.env)
      standAt p0
      holding [v, ov, iv] (setItem ov iv v)
      release [v, ov, iv] []) := by intro _; rfl)
    (hs : swapsWithSole [.Subscript (.Name x p1) b p0] e pos.line X.env = pure false := by rfl) (hw : swappedStores [.Subscript (.Name x p1) b p0] e X.env = pure none := by rfl)
    (h1 : (assignEach [.Subscript (.Name x p1) b p0] X.env).map (·.2) = [assign (.Subscript (.Name x p1) b p0) X.env] := by rfl) :
    PS X (.Assign [.Subscript (.Name x p1) b p0] e pos) (tS X.K F (sStoK i mi ma)) := (ps_asg he (pg_sub (pv i hN hv hd hcd) hb (set_kd hu) ha) hs hw h1).mono fun E σ H ⟨Z, own, ρ, f, ρ', rs, e, o⟩ => by
  obtain ⟨d1, ρ1, e1, f1⟩ := bind_ok e
  obtain ⟨y, ρ1', e0, f3⟩ := bind_ok f1
  obtain ⟨e0, rfl⟩ := mV_ok e0
  obtain ⟨kd, ρ2, e2, f2⟩ := bind_ok f3
  split at f2
  · rename_i ks vs hl
    split at f2
    · rename_i k nks hk hnk
      split at f2
      · rename_i hlen
        cases f2
        refine ⟨Z, own, ρ, d1, _, rs, e1, fun v Z1 own1 H1 S rs1 rm n x1 => ?_⟩
        obtain ⟨u, hv1, hr⟩ := rs1.sl i y e0
        rw [ht] at hr
        obtain ⟨ks0, vs0, a, xs0, k1, rfl, k3, k4, k5⟩ := hr
        refine ⟨.ref a, hv1, Z1, own1, _, kd, ρ2, rs1, e2, fun w Z2 own2 H2 S2 rs2 rm2 n2 x2 => ?_⟩
        have rm2' : RSh X.K Z2 H2 kd w := rm2
        obtain ⟨a', xs, g1, g2, g3, g4, g5, g6, g7⟩ := rs2.ownK ht hl
        rw [hv1] at g1; cases g1
        rw [g4] at hnk; cases hnk
        obtain ⟨tl, rfl⟩ := keyOf_tup hk
        have rm3 := rm2'
        simp only [RSh] at rm3
        obtain ⟨bb, zs, rfl, _⟩ := rm3
        have hlen' : xs.length < sizeLine := by
          have := g5.len
          rw [szL]
          simp at this
          omega
        obtain ⟨ks', vs', q1, q2, q3, q4⟩ := kput_rel (v := v) (d := d1) (keyOf_ok hk).1 g4 g5 g6 rm2' (rs1.sh x2 rm)
        obtain ⟨rs3, x3⟩ := g7 ks' vs' _ q2 q3 q4
        rw [← q1] at rs3
        exact ⟨Z2, a, xs, ks, _, k, bb, rfl, g2, g4, g5, hk, rfl, rm2', hlen', o σ Z2 own2 _ rs3 Fix.refl (((x1.weak.any).transF (x2.weak.any)).transF x3.any)⟩
      · cases f2
    · cases f2
  · cases f2
end
theorem W_sStoK {i : Nat} {mi m : M D} {ρ : Sl} {Q : Fl → Sl → Prop} : W (sStoK i mi m) ρ Q ↔ W m ρ fun d ρ1 => W (mV i) ρ1 fun _ ρ2 => W mi ρ2 fun kd ρ3 => ∃ ks vs k nks, ρ3[i]? = some (some (.kdc ks vs)) ∧ keyOf kd = some k ∧ D.nkL ks = some nks ∧ ks.length < 16777216 ∧ Q .nx (ρ3.set i (some (kput ks vs nks kd k d))) := by
  simp only [sStoK, W_bind]
  constructor <;> refine fun h => h.mono fun d ρ1 q => q.mono fun _ ρ2 q => q.mono fun kd ρ3 q => ?_
  · obtain ⟨f, ρ', e, q⟩ := q
    dsimp only at e
    split at e
    · rename_i ks vs hl
      split at e
      · rename_i k nks h1 h2
        split at e
        · rename_i h3
          cases e
          exact ⟨ks, vs, k, nks, hl, h1, h2, h3, q⟩
        · cases e
      · cases e
    · cases e
  · obtain ⟨ks, vs, k, nks, hl, h1, h2, h3, q⟩ := q
    exact ⟨.nx, _, by simp only [hl, h1, h2, h3, if_true], q⟩
section
variable [Tb] {X : Cx} {τ : Nat → OT} {q : Bool} {a : Expr} {ma : M D} {pos : Pos}
theorem kd_empty [Tb] {P : Program} {w : World} {H : Hp} (h : Heap) (hb : sysModules < h.objs.size) : ObjOk P w H (h.push { cls := .type "dict", data := .dict #[] }) h.objs.size (KdO h.objs.size []) :=
  kd_stay (us := []) (by simp [szL]) (beq_eq_false_iff_ne.mpr (Ne.symm (Nat.ne_of_lt hb))) (by simp) (by simp) .nil (Heap.get?_push_size _ rfl) ⟨rfl, rfl, rfl⟩ rfl rfl
theorem pe_kdnew : PE X (.Dict [] [] pos) (fun _ H Q => ∀ p, H p = none → Q (.ref p) (upd H p (KdO p []))) := ⟨fun pins s σ H Q I h =>
  wpAny_Dict_empty ⟨.ref s.heap.objs.size, _, I.laid (a := s.heap.objs.size) (o := KdO s.heap.objs.size []) (t' := s.toks) (fun _ _ q => Heap.get?_push_of_some _ q) (Nat.le_refl _) (kd_empty s.heap I.big), rfl, h _ (I.hok.fresh (Nat.le_refl _))⟩⟩
theorem e_kd0 : PE X (.Dict [] [] pos) (tE X.K τ true (.ow .od) (mC (.kdc [] []))) := pe_kdnew.mono fun σ H Q ⟨Z, own, ρ, d, ρ', rs, e, k⟩ => by
  unfold mC at e; cases e
  intro p hp
  have g : Grow H (upd H p (KdO p [])) := Grow.new hp
  refine k _ Z own _ (fun a => a = p) (rs.growO g) ⟨[], [], p, [], rfl, rfl, upd_same, rfl, rfl, by simp only [List.map_nil, RShL], by simp only [List.map_nil, RShL]⟩ (fun a e => ?_) (ExtF.growO g)
  subst e
  refine ⟨hp, ?_, fun z => rs.zt a z hp, _, upd_same, mutK⟩
  cases ho : own a with
  | none => rfl
  | some j =>
    obtain ⟨o, h1, _⟩ := rs.ls a j ho
    rw [hp] at h1; cases h1
end
end CL
namespace CL
open PySem PySem.Spec L2 PySem.W PySem.Calls PyProof.Rows
set_option autoImplicit false
def sortDK : List D → Option (List D)
  | [.kdc ks _] => if (dataOk ks && sortB ks) = true then some (ks.mergeSort leD) else none
  | _ => none
theorem sortedHeap_at {h : Heap} {a : Addr} {vs : List Value} {out : Array Value} {n : Nat} (e : h.get? a = some (seqObj "list" vs.toArray n)) : ∃ m, (sortedHeap h a vs out).get? a = some { cls := .type "list", data := .seq out m } := by
  unfold sortedHeap
  have h1 : (h.update a (Obj.mapSeq fun _ => #[])).get? a = some (Obj.mapSeq (fun _ => #[]) (seqObj "list" vs.toArray n)) := Heap.get?_update_self _ e rfl
  have h2 := Heap.get?_push_of_some (seqObj "tuple" vs.toArray 0) h1
  have h3 := Heap.get?_push_of_some (seqObj "list" #[] 0) h2
  exact ⟨_, Heap.get?_update_self _ h3 rfl⟩
theorem sortedHeap_old {h : Heap} {a b : Addr} {vs : List Value} {out : Array Value} {o : Obj} (hb : b ≠ a) (e : h.get? b = some o) : (sortedHeap h a vs out).get? b = some o := by
  unfold sortedHeap
  refine (Heap.SameBut.update ..).2 b hb |>.trans ?_
  refine Heap.get?_push_of_some _ (Heap.get?_push_of_some _ ?_)
  exact ((Heap.SameBut.update ..).2 b hb).trans e
mutual
theorem Reads_live {h : Heap} : ∀ {v : Value} {d : PyData} {as : List Addr}, Reads h v d as → ∀ b ∈ as, ∃ o, h.get? b = some o
  | _, _, _, .none, b, hb => by simp at hb
  | _, _, _, .bool _, b, hb => by simp at hb
  | _, _, _, .int _ _, b, hb => by simp at hb
  | _, _, _, .str _ _, b, hb => by simp at hb
  | _, _, _, .list h1 _ _ r, b, hb => by
    rcases List.mem_cons.mp hb with rfl | hb
    · exact ⟨_, h1⟩
    · exact ReadsAll_live r b hb
  | _, _, _, .tuple _ _ _ r, b, hb => ReadsAll_live r b hb
  | _, _, _, .dict h1 _ _ r r', b, hb => by
    rcases List.mem_append.mp hb with hb | hb
    · rcases List.mem_cons.mp hb with rfl | hb
      · exact ⟨_, h1⟩
      · exact ReadsAll_live r b hb
    · exact ReadsAll_live r' b hb
theorem ReadsAll_live {h : Heap} : ∀ {v : List Value} {d : List PyData} {as : List Addr}, ReadsAll h v d as → ∀ b ∈ as, ∃ o, h.get? b = some o
  | _, _, _, .nil, b, hb => by simp at hb
  | _, _, _, .cons r rs, b, hb => by
    rcases List.mem_append.mp hb with hb | hb
    · exact Reads_live r b hb
    · exact ReadsAll_live rs b hb
end
theorem c_sortedK [Tb] {X : Cx} (hr : X.calm = true) (hu : X.A.units + 65 < cLine) : CallR X (.builtin "sorted") (rLn X.K sortDK) := by
  intro pins s σ H xs us Q I r h
  obtain ⟨Z, ds, l, pl, e, k⟩ := h
  unfold sortDK at e
  split at e
  · rename_i ks vs
    split at e
    · rename_i ho
      cases e
      simp only [Bool.and_eq_true] at ho
      obtain ⟨ho, hsb⟩ := ho
      have ho1 : D.okL 58 ks = true := by simp only [dataOk, Bool.and_eq_true] at ho; exact ho.1.1
      have hn : ∀ d ∈ ks, d.isNon = false := by
        simp only [dataOk, Bool.and_eq_true, List.all_eq_true, Bool.not_eq_true'] at ho
        exact ho.2
      have hal : AllAlike (ks.map D.py) := by
        have := (dataOk_alike ho).1
        rw [pyL_map] at this
        exact this
      obtain ⟨v, rfl, p⟩ := pl.one
      obtain ⟨a, xs, rfl, g1, g2, g3, g4⟩ := p.kdc
      rw [Vals.ref1 r]
      obtain ⟨z, hs, ko, us, va, dd, hz⟩ := kd_at I g1 g2 g3
      obtain ⟨o, es, ep, e1, e2, e3, e4, _, _⟩ := dd
      have hsz : es.size = xs.length := by
        have := congrArg List.length e4
        rw [List.length_map, (zu_keys va).2] at this
        simpa using this
      refine call_function_entry kind_sorted plain_sorted entry_sorted (args_sorted1 _) ?_
      unfold Builtin.«sorted»
      refine wpAny_bind (m := checkCount "sorted" 1 1 _) (wpAny_pure ?_)
      refine wpAny_bind (kdu_collect (A := X.A.in1) (KdlSrc.rawDict (es := es) (ep := ep) hs) (I.ok.hd hr) ⟨o, e1, e2, e3⟩ (by rw [hsz]; exact z) fun h' tk acc hk hacc => ?_)
      have ha : acc.toList = xs.map fun x => Value.ref x.2.1 := by
        refine List.ext_getElem? fun j => ?_
        by_cases hj : j < acc.size
        · have h1 : acc[j]? = some acc[j] := Array.getElem?_eq_getElem hj
          obtain ⟨hi, ev⟩ := hacc.2 j _ h1
          rw [Array.getElem?_toList, h1, ev]
          have h2 : es.toList[j]? = some es[j] := by rw [Array.getElem?_toList]; exact Array.getElem?_eq_getElem hi
          rw [e4, List.getElem?_map] at h2
          obtain ⟨y, hy, ey⟩ := Option.map_eq_some_iff.mp h2
          have zk : ∀ {xs : List (NestedKey × Addr × V)} {us : List Value} {j : Nat} {y : NestedKey × Addr × Value}, (zu xs us)[j]? = some y → ∃ x, xs[j]? = some x ∧ x.2.1 = y.2.1 := by
            intro xs
            induction xs with
            | nil => intro us j y h; simp [zu] at h
            | cons x xs ih =>
              intro us j y h
              cases us with
              | nil => simp [zu] at h
              | cons u us =>
                cases j with
                | zero => simp [zu] at h; subst h; exact ⟨x, by simp, rfl⟩
                | succ j => simp only [zu, List.getElem?_cons_succ] at h ⊢; exact ih h
          obtain ⟨x, hx, hxy⟩ := zk hy
          rw [List.getElem?_map, hx, ← ey]
          show some (Value.ref y.2.1) = some (Value.ref x.2.1)
          rw [hxy]
        · rw [List.getElem?_eq_none (by simpa using hj), List.getElem?_eq_none]
          have := hacc.1
          simp
          omega
      have hlen : acc.toList.length = ks.length := by rw [ha, g3.len]; simp
      have hl1 : ks.length ≤ sizeLine := by rw [g3.len]; simpa using z
      refine wpAny_bind (wpAny_newList ?_ (by rw [hlen]; exact hl1))
      have rv : Vals (xs.map fun x => V.ref x.2.1) (xs.map fun x => Value.ref x.2.1) := by
        have : ∀ l : List (NestedKey × Addr × V), Vals (l.map fun x => V.ref x.2.1) (l.map fun x => Value.ref x.2.1) := fun l => by
          induction l with
          | nil => exact .nil
          | cons x l ih => exact .cons rfl ih
        exact this xs
      have ea : EachIs (fun v d => ∃ y, RSh X.K Z H d y ∧ RelV y v) acc.toList ks := by rw [ha]; exact each_of g3 rv
      have er := each_reads I ho1 ea
      have hnl : ∀ b o', s.heap.get? b = some o' → h'.get? b = some o' := hk
      have I0 : Inv X pins σ H { s with heap := h', toks := tk } := I.kept (t' := tk) hk
      have er1 : EachIs (fun v b => ∃ as, Reads (h'.push { cls := .type "list", data := .seq acc.toList.toArray }) v (D.py b) as ∧ h'.objs.size ∉ as) acc.toList ks := er.mono fun v b ⟨as, q⟩ => by
        refine ⟨as, PyProof.Rows.Reads.keeps (fun b o' q => Heap.get?_push_of_some _ (hk b o' q)) q, fun hm => ?_⟩
        obtain ⟨o', ho'⟩ := Reads_live q _ hm
        exact Nat.lt_irrefl _ (Heap.lt_size (hk _ _ ho'))
      have srt := list_sort_data (prog := X.prog) (w := X.w) (A := X.A.in1) (E := X.xe) (s := { s with heap := h'.push { cls := .type "list", data := .seq acc.toList.toArray }, toks := tk }) (a := h'.objs.size) (n := 0)
        (Q := fun _ s' => EP X pins σ Q (.ref h'.objs.size) s') (Heap.get?_push_size _ rfl) ea er1 hal (sortB_is ho1 hn hsb) hl1 (fun b hb => by
          have := (ok_lay 58 b (okL_mem ho1 b hb)).2
          show X.A.units + 1 + 1 + b.py.depth < cLine
          omega) fun out hol eo => by
            obtain ⟨ys', r1, r2⟩ := of_each eo
            obtain ⟨m, hm⟩ := sortedHeap_at (h := h'.push { cls := .type "list", data := .seq acc.toList.toArray }) (a := h'.objs.size) (vs := acc.toList) (out := out.toArray) (n := 0) (Heap.get?_push_size _ rfl)
            have hl' : ys'.length ≤ sizeLine := by
              have h1 := r2.length
              rw [h1, hol]; exact hl1
            refine ⟨.ref _, upd H h'.objs.size (.lst ys'), I0.laid (t' := tk) (fun b o' q => ?_) (Nat.le_refl _) ⟨hl', out, m, r2, hm⟩, rfl, k _ ys' (I0.hok.fresh (Nat.le_refl _)) r1⟩
            exact sortedHeap_old (Nat.ne_of_lt (Heap.lt_size q)) (Heap.get?_push_of_some _ q)
      refine wpAny_bind (wpAny_holding (wpAny_mono srt (fun _ s' x => ?_) fun _ _ e => e))
      exact wpAny_pure ⟨_, rfl, x⟩
    · cases e
  · cases e
end CL
namespace CLK
open PySem PySem.Spec L2 CL CLG CLX
def B__law_turn : MS := (sRet (m2 bSub (m2 bMul (m2 bIx (mV 0) (mC (.int 0))) (m2 bIx (mV 1) (mC (.int 1)))) (m2 bMul (m2 bIx (mV 0) (mC (.int 1))) (m2 bIx (mV 1) (mC (.int 0))))))
def F__law_turn : List D → Res D := runP 0 B__law_turn
def B__law_less : MS := (sRet (mN bTup (mCons (m2 bSub (m2 bIx (mV 0) (mC (.int 0))) (m2 bIx (mV 1) (mC (.int 0)))) (mCons (m2 bSub (m2 bIx (mV 0) (mC (.int 1))) (m2 bIx (mV 1) (mC (.int 1)))) mNil))))
def F__law_less : List D → Res D := runP 0 B__law_less
def B__law_common : MS := (sSeq (sAsg (pT 2 (psC (pT 2 (psC (pN 2) (psC (pN 3) psN))) (psC (pT 2 (psC (pN 4) (psC (pN 5) psN))) psN))) (mN bTup (mCons (mV 0) (mCons (mV 1) mNil)))) (sSeq (sPar3 6 7 8 (mCons (mCallP F__law_less (mCons (mV 3) (mCons (mV 2) mNil))) (mCons (mCallP F__law_less (mCons (mV 5) (mCons (mV 4) mNil))) (mCons (mCallP F__law_less (mCons (mV 4) (mCons (mV 2) mNil))) mNil)))) (sSeq (sAsg (pN 9) (mCallP F__law_turn (mCons (mV 6) (mCons (mV 7) mNil)))) (sSeq (sIf (m2 bEq (mV 9) (mC (.int 0))) (sSeq (sIf (m2 bNe (mCallP F__law_turn (mCons (mV 8) (mCons (mV 6) mNil))) (mC (.int 0))) (sRet (mN bLst mNil)) (sK .nx)) (sSeq (sAsg (pN 10) (mN bMax2D (mCons (mN bMin2D (mCons (mV 2) (mCons (mV 3) mNil))) (mCons (mN bMin2D (mCons (mV 4) (mCons (mV 5) mNil))) mNil)))) (sSeq (sAsg (pN 11) (mN bMin2D (mCons (mN bMax2D (mCons (mV 2) (mCons (mV 3) mNil))) (mCons (mN bMax2D (mCons (mV 4) (mCons (mV 5) mNil))) mNil)))) (sRet (mComp [14] (pN 14) (mIt (mSl (mN bLst (mCons (mV 10) (mCons (mV 11) mNil))) (some (mN bInt (mCons (m2 bEq (mV 10) (mV 11)) mNil))) none)) (m2 bLeD (mV 10) (mV 11)) (m2 bAdd (mV 14) (mN bTup (mCons (mC (.int 1)) mNil)))))))) (sK .nx)) (sSeq (sAsg (pN 12) (m2 bIx (mN bLst (mCons (m1 bNeg (mC (.int 1))) (mCons (mC (.int 1)) mNil))) (mN bInt (mCons (m2 bGt (mV 9) (mC (.int 0))) mNil)))) (sSeq (sAsg (pN 9) (m2 bMul (mV 9) (mV 12))) (sSeq (sAsg (pN 13) (m2 bMul (mCallP F__law_turn (mCons (mV 8) (mCons (mV 7) mNil))) (mV 12))) (sSeq (sIf (mOr (m1 bNot (mChain bLe bLe (mC (.int 0)) (mV 13) (mV 9))) (m1 bNot (mChain bLe bLe (mC (.int 0)) (m2 bMul (mCallP F__law_turn (mCons (mV 8) (mCons (mV 6) mNil))) (mV 12)) (mV 9)))) (sRet (mN bLst mNil)) (sK .nx)) (sRet (mN bLst (mCons (mN bTup (mCons (m2 bAdd (m2 bMul (m2 bIx (mV 2) (mC (.int 0))) (mV 9)) (m2 bMul (m2 bIx (mV 6) (mC (.int 0))) (mV 13))) (mCons (m2 bAdd (m2 bMul (m2 bIx (mV 2) (mC (.int 1))) (mV 9)) (m2 bMul (m2 bIx (mV 6) (mC (.int 1))) (mV 13))) (mCons (mV 9) mNil)))) mNil)))))))))))
def F__law_common : List D → Res D := runP 13 B__law_common
local macro_rules | `(tactic| walk_at "o") => `(tactic| ((try simp only [backA, List.set_cons_zero, List.set_cons_succ, wipeD, List.map_cons, List.map_nil, List.cons_append, List.nil_append, List.replicate_succ, List.replicate_zero]); first | done | rfl))
local macro_rules | `(tactic| walk_at "b") => `(tactic| first
  | with_reducible exact Nb.lit
  | ((with_reducible apply Nb.mul) <;> walk_at "b")
  | ((with_reducible apply Nb.add) <;> walk_at "b")
  | ((with_reducible apply Nb.sub) <;> walk_at "b")
  | ((with_reducible apply Nb.neg) <;> walk_at "b")
  | ((with_reducible apply Nb.fdiv) <;> walk_at "b")
  | ((with_reducible apply Nb.fmod); (· walk_at "z"); (· walk_at "b"))
  | ((with_reducible apply Nb.max) <;> walk_at "b")
  | ((with_reducible apply Nb.min) <;> walk_at "b")
  | ((with_reducible apply Nb.ite) <;> walk_at "b")
  | with_reducible assumption
  | with_reducible exact Nb.le (by assumption)
  | with_reducible exact Nb.nle (by assumption)
  | with_reducible exact Nb.lt (by assumption)
  | ((with_reducible apply Nb.rng (by assumption) (by assumption)) <;> walk_at "b")
  | ((with_reducible apply Nb.rngE (by assumption) (by assumption)) <;> walk_at "b")
  | with_reducible exact Nb.self _)
local macro_rules | `(tactic| walk_at "z") => `(tactic| first | decide | assumption | omega | exact fmod_nn (by omega) | exact fmod_lt (by omega))
local macro_rules | `(tactic| walk_at "e") => `(tactic| first
  | ((with_reducible refine is_ev ?_); first
    | ((with_reducible apply mul_st); (· walk_at "b"); (· walk_at "b"); (· rfl))
    | ((with_reducible apply mul_s1); (· walk_at "b"); (· rfl))
    | ((with_reducible apply mul_s2); (· walk_at "b"); (· rfl))
    | ((with_reducible apply div_st); (· walk_at "z"); (· walk_at "b"); (· rfl))
    | ((with_reducible apply mod_st); (· walk_at "z"))
    | with_reducible apply tup_pt
    | with_reducible apply tup_ln
    | ((with_reducible apply tup_st); (· rfl))
    | ((with_reducible apply lst_st); (· rfl))
    | with_reducible apply eqi_st
    | with_reducible apply nei_st
    | with_reducible apply eqp_st
    | with_reducible apply nep_st
    | with_reducible apply eqp_st'
    | with_reducible apply nep_st'
    | with_reducible apply eqb_st
    | with_reducible apply neb_st
    | with_reducible apply isb_st
    | with_reducible apply eqs_st
    | with_reducible apply nes_st
    | with_reducible refine ix2bi (fun _ _ _ => ?_)
    | ((with_reducible refine ix4i ?_ ?_ (fun _ _ _ => ?_)); (· walk_at "z"); (· walk_at "z"))
    | ((with_reducible refine ix2i ?_ ?_ (fun _ _ _ => ?_)); (· walk_at "z"); (· walk_at "z"))
    | ((with_reducible refine ix3i ?_ ?_ (fun _ _ _ => ?_)); (· walk_at "z"); (· walk_at "z"))
    | refine ⟨_, rfl, ?_⟩)
  | ((with_reducible refine fill_st ?_); refine ⟨_, rfl, ?_⟩; (try dsimp only))
  | ((with_reducible apply and_go rfl); (· (intro _; (repeat walk_at "s"); with_reducible exact ⟨rfl, rfl⟩)))
  | ((with_reducible refine is_chain ?_); (apply chain_go rfl); (· (intro _; (repeat walk_at "s"); exact ⟨rfl, rfl⟩)))
  | ((with_reducible refine draw_step (by assumption) ?_ ?_ (fun _ _ _ _ _ => ?_)); (· walk_at "z"); (· walk_at "z"))
  | ((with_reducible refine CLY.draw_step (by assumption) ?_ ?_ (fun _ _ _ _ _ => ?_)); (· walk_at "z"); (· walk_at "z"))
  | ((with_reducible refine is_evA ?_); refine ⟨_, rfl, ?_⟩)
  | ((with_reducible refine is_evL ?_); refine ⟨_, rfl, ?_⟩)
  | ((with_reducible refine is_evI ?_); refine ⟨_, rfl, ?_⟩)
  | ((with_reducible refine is_evR ?_); refine ⟨_, rfl, ?_⟩))
local macro_rules | `(tactic| walk_at "f") => `(tactic| first
  | with_reducible refine W_mV.mpr ?_
  | with_reducible refine W_mCons.mpr ?_
  | with_reducible refine W_m2.mpr ?_
  | with_reducible refine W_mC.mpr ?_
  | with_reducible refine W_mNil.mpr ?_
  | with_reducible refine W_mN.mpr ?_
  | with_reducible refine W_sSeq.mpr ?_
  | with_reducible refine W_sAsg.mpr ?_
  | with_reducible refine W_m1.mpr ?_
  | with_reducible refine W_mCallP.mpr ?_
  | with_reducible refine W_mCall.mpr ?_
  | with_reducible refine X_evI.mpr ?_
  | with_reducible refine X_evE.mpr ?_
  | with_reducible refine X_evN.mpr ?_
  | with_reducible refine X_if ?_
  | with_reducible refine W_sRet.mpr ?_
  | with_reducible refine W_sK.mpr ?_
  | with_reducible refine X_and ?_
  | with_reducible refine X_or ?_
  | with_reducible refine W_sPar.mpr ?_
  | with_reducible refine W_mSl.mpr ?_
  | with_reducible refine W_mPtN.mpr ?_
  | with_reducible refine W_mPtS.mpr ?_
  | with_reducible refine W_mIt.mpr ?_
  | with_reducible refine W_mItN.mpr ?_
  | with_reducible refine W_mComp.mpr ?_
  | ((with_reducible refine is_comp ?_); first | (apply X_compN; (· walk_at "o")) | ((with_reducible apply X_compY); (· walk_at "o"); (· rfl)))
  | with_reducible refine W_sFor.mpr ?_
  | ((with_reducible refine is_for ?_); refine W_forNil.mpr ?_)
  | with_reducible refine X_chain ?_
  | with_reducible refine W_sExp.mpr ?_
  | with_reducible refine W_mL.mpr ?_
  | with_reducible refine X_mif ?_
  | with_reducible refine W_mIxS.mpr ?_
  | with_reducible refine W_mYes.mpr ?_
  | with_reducible refine W_sPar3.mpr ?_
  | with_reducible refine W_mApp.mpr ?_
  | with_reducible refine W_mBor.mpr ?_
  | with_reducible refine CLX.W_sFz.mpr ?_)
local macro_rules | `(tactic| walk_at "s") => `(tactic| first
  | ((with_reducible refine is_W ?_); walk_at "f")
  | ((with_reducible refine is_ex ?_); first
    | ((with_reducible refine is_evS ?_); refine ⟨_, rfl, ?_⟩)
    | ((with_reducible apply call_st); (· with_reducible assumption))
    | with_reducible refine ⟨_, by with_reducible assumption, ?_⟩
    | with_reducible refine min_two ?_
    | with_reducible refine max_two ?_
    | with_reducible refine le_st ?_
    | with_reducible refine eqn_st ?_
    | with_reducible refine add1_st ?_
    | walk_at "e")
  | ((with_reducible apply X_nx); (· walk_at "o"))
  | with_reducible refine Kq_ret.mpr ?_
  | with_reducible refine Kq_brk.mpr ?_
  | with_reducible refine Kq_cnt.mpr ?_
  | ((with_reducible apply X_fnx); (· walk_at "o"))
  | ((with_reducible apply X_fcnt); (· walk_at "o"))
  | with_reducible refine X_fbrk ?_
  | with_reducible refine X_fret ?_
  | ((with_reducible refine is_ltA ?_); refine ⟨?_, ?_⟩; (· first | decide | omega | (simp; omega) | (simp; done)))
  | with_reducible refine parW_mk.mpr ?_
  | with_reducible refine par3W_mk.mpr ?_)
local macro_rules | `(tactic| walk_at "r") => `(tactic| repeat walk_at "s")
local macro_rules | `(tactic| walk_at "u") => `(tactic| first | ((apply X_forC); (· walk_at "o"); (· rfl)) | ((apply X_compY); (· walk_at "o"); (· rfl)) | ((apply X_compC); (· walk_at "o"); (· rfl)))
local macro_rules | `(tactic| walk_at "g") => `(tactic| repeat first | walk_at "s" | (with_reducible refine go_ifF (rfl : _ = false) ?_) | (with_reducible refine go_ifT (rfl : _ = true) ?_) | (refine go_ifF (rfl : _ = false) ?_) | (refine go_ifT (rfl : _ = true) ?_) | walk_at "u")
theorem less_is {a b c d : Int} : F__law_less [pt a b, pt c d] = .ok (pt (a - c) (b - d)) := by
  refine runP_of ?_
  unfold B__law_less
  walk_at "r"
  rfl
theorem turn_is' {a b c d : Int} (ha : a.natAbs ≤ 100000000) (hb : b.natAbs ≤ 100000000) (hc : c.natAbs ≤ 100000000) (hd : d.natAbs ≤ 100000000) : F__law_turn [pt a b, pt c d] = .ok (.int (turn a b c d)) := by
  refine runP_of ?_
  unfold B__law_turn
  walk_at "r"
  rfl
/-- what is told, not in lowest terms -/
def raw (p q : Li) : List CLG.Sp := if p.m q = 0 then (if p.far q = 0 then p.along q else []) else if p.meetB q then [⟨p.x * (sg (p.m q) * p.m q) + (p.u - p.x) * (sg (p.m q) * p.k q), p.y * (sg (p.m q) * p.m q) + (p.v - p.y) * (sg (p.m q) * p.k q), sg (p.m q) * p.m q⟩] else []
theorem along_low {p q : Li} : (p.along q).map (fun s => low s.n s.m s.d) = p.along q := by
  unfold Li.along
  split
  · rfl
  · split <;> simp [low_one]
theorem raw_low {p q : Li} : (raw p q).map (fun s => low s.n s.m s.d) = p.common q := by
  unfold raw Li.common
  split
  · split
    · exact along_low
    · rfl
  · split
    · simp only [List.map_cons, List.map_nil, Li.spot]
      rw [Int.mul_comm (p.u - p.x), Int.mul_comm (p.v - p.y)]
    · rfl
theorem sign_is {m : Int} (h : m ≠ 0) : (if decide (m > 0) = true then (1 : Int) else -1) = sg m := by
  unfold sg
  by_cases h1 : m > 0
  · rw [if_pos (by simpa using h1), if_neg (by omega)]
  · rw [if_neg (by simpa using h1), if_pos (by omega)]
set_option maxHeartbeats 0 in
theorem lcommon_is {p q : Li} (hp : Sml p) (hq : Sml q) : F__law_common [lnD p, lnD q] = .ok (.lst ((raw p q).map spD)) := by
  have L1 := less_is (a := p.u) (b := p.v) (c := p.x) (d := p.y)
  have L2 := less_is (a := q.u) (b := q.v) (c := q.x) (d := q.y)
  have L3 := less_is (a := q.x) (b := q.y) (c := p.x) (d := p.y)
  have T1 := turn_is' (sub8 hp.u hp.x) (sub8 hp.v hp.y) (sub8 hq.u hq.x) (sub8 hq.v hq.y)
  have T2 := turn_is' (sub8 hq.x hp.x) (sub8 hq.y hp.y) (sub8 hp.u hp.x) (sub8 hp.v hp.y)
  have T3 := turn_is' (sub8 hq.x hp.x) (sub8 hq.y hp.y) (sub8 hq.u hq.x) (sub8 hq.v hq.y)
  obtain ⟨b1, b2, b3⟩ := m_bd hp hq
  have t1 := turn_bd (sub8 hp.u hp.x) (sub8 hp.v hp.y) (sub8 hq.u hq.x) (sub8 hq.v hq.y)
  have t2 := turn_bd (sub8 hq.x hp.x) (sub8 hq.y hp.y) (sub8 hp.u hp.x) (sub8 hp.v hp.y)
  have t3 := turn_bd (sub8 hq.x hp.x) (sub8 hq.y hp.y) (sub8 hq.u hq.x) (sub8 hq.v hq.y)
  change F__law_turn _ = .ok (.int (p.m q)) at T1
  change F__law_turn _ = .ok (.int (p.l q)) at T2
  change F__law_turn _ = .ok (.int (p.k q)) at T3
  change (p.m q).natAbs ≤ _ at t1
  change (p.l q).natAbs ≤ _ at t2
  change (p.k q).natAbs ≤ _ at t3
  have hl : p.l q = -p.far q := by simp only [Li.l, Li.far, turn]; grind
  have a1 := hp.x
  have a2 := hp.y
  have a3 := hp.u
  have a4 := hp.v
  refine runP_of ?_
  unfold B__law_common raw
  walk_at "r"
  refine go_ifP (fun h => ?_) fun h => ?_
  · rw [if_pos h]
    walk_at "r"
    refine go_ifN (fun h2 => ?_) fun h2 => ?_
    · rw [if_neg (by omega)]
      walk_at "r"
      rfl
    · rw [if_pos (by omega)]
      have m1 : bMin2D [pt p.x p.y, pt p.u p.v] = some (pnD p.lo) := (min_two (a := p.a) (b := p.b) (P := fun d => d = pnD p.lo) rfl).elim fun d h => h.2 ▸ h.1
      have m2 : bMin2D [pt q.x q.y, pt q.u q.v] = some (pnD q.lo) := (min_two (a := q.a) (b := q.b) (P := fun d => d = pnD q.lo) rfl).elim fun d h => h.2 ▸ h.1
      have m3 : bMax2D [pt p.x p.y, pt p.u p.v] = some (pnD p.hi) := (max_two (a := p.a) (b := p.b) (P := fun d => d = pnD p.hi) rfl).elim fun d h => h.2 ▸ h.1
      have m4 : bMax2D [pt q.x q.y, pt q.u q.v] = some (pnD q.hi) := (max_two (a := q.a) (b := q.b) (P := fun d => d = pnD q.hi) rfl).elim fun d h => h.2 ▸ h.1
      walk_at "r"
      by_cases he : pmax p.lo q.lo = pmin p.hi q.hi
      · have hlt : (pmin p.hi q.hi).lt (pmax p.lo q.lo) = false := by
          rw [he, Pn.nlt_iff]; omega
        have ea : p.along q = [⟨(pmin p.hi q.hi).x, (pmin p.hi q.hi).y, 1⟩] := by
          unfold Li.along
          rw [hlt]
          simp [he]
        rw [decide_eq_true he, ea]
        show W (compL _ _ _ _ [pnD (pmin p.hi q.hi)]) _ _
        walk_at "u"
        walk_at "r"
        rw [hlt]
        refine go_ifT rfl ?_
        walk_at "r"
        rfl
      · rw [decide_eq_false he]
        show W (compL _ _ _ _ [pnD (pmax p.lo q.lo), pnD (pmin p.hi q.hi)]) _ _
        cases hlt : (pmin p.hi q.hi).lt (pmax p.lo q.lo) with
        | true =>
          have ea : p.along q = [] := by
            unfold Li.along
            rw [hlt]
            simp
          rw [ea]
          walk_at "u"
          walk_at "r"
          rw [hlt]
          refine go_ifF rfl ?_
          walk_at "u"
          walk_at "r"
          rw [hlt]
          refine go_ifF rfl ?_
          walk_at "r"
          rfl
        | false =>
          have ea : p.along q = [⟨(pmax p.lo q.lo).x, (pmax p.lo q.lo).y, 1⟩, ⟨(pmin p.hi q.hi).x, (pmin p.hi q.hi).y, 1⟩] := by
            unfold Li.along
            rw [hlt]
            simp [he]
          rw [ea]
          walk_at "u"
          walk_at "r"
          rw [hlt]
          refine go_ifT rfl ?_
          walk_at "r"
          walk_at "u"
          walk_at "r"
          rw [hlt]
          refine go_ifT rfl ?_
          walk_at "r"
          rfl
  · rw [if_neg h]
    walk_at "r"
    rename_i z hz _
    rw [sign_is h] at hz
    subst hz
    rw [Int.mul_comm (p.k q), Int.mul_comm (p.m q), Int.mul_comm (p.l q)]
    cases hm : p.meetB q with
    | true =>
      refine go_ifF ?_ ?_
      · unfold Li.meetB at hm
        simp only [Bool.decide_and] at hm
        revert hm
        generalize (decide (0 ≤ sg (p.m q) * p.k q) && decide (sg (p.m q) * p.k q ≤ sg (p.m q) * p.m q)) = a
        generalize (decide (0 ≤ sg (p.m q) * p.l q) && decide (sg (p.m q) * p.l q ≤ sg (p.m q) * p.m q)) = b
        cases a <;> cases b <;> simp
      · rw [if_pos rfl]
        walk_at "r"
        rfl
    | false =>
      refine go_ifT ?_ ?_
      · unfold Li.meetB at hm
        simp only [Bool.decide_and] at hm
        revert hm
        generalize (decide (0 ≤ sg (p.m q) * p.k q) && decide (sg (p.m q) * p.k q ≤ sg (p.m q) * p.m q)) = a
        generalize (decide (0 ≤ sg (p.m q) * p.l q) && decide (sg (p.m q) * p.l q ≤ sg (p.m q) * p.m q)) = b
        cases a <;> cases b <;> simp
      · rw [if_neg (by decide)]
        walk_at "r"
        rfl
end CLK
namespace CLK
open PySem PySem.Spec L2 CL CLG CLX PySem.W
local macro_rules | `(tactic| walk_at "o") => `(tactic| ((try simp only [backA, List.set_cons_zero, List.set_cons_succ, wipeD, List.map_cons, List.map_nil, List.cons_append, List.nil_append, List.replicate_succ, List.replicate_zero]); first | done | rfl))
local macro_rules | `(tactic| walk_at "b") => `(tactic| first
  | with_reducible exact Nb.lit
  | ((with_reducible apply Nb.mul) <;> walk_at "b")
  | ((with_reducible apply Nb.add) <;> walk_at "b")
  | ((with_reducible apply Nb.sub) <;> walk_at "b")
  | ((with_reducible apply Nb.neg) <;> walk_at "b")
  | ((with_reducible apply Nb.fdiv) <;> walk_at "b")
  | ((with_reducible apply Nb.fmod); (· walk_at "z"); (· walk_at "b"))
  | ((with_reducible apply Nb.max) <;> walk_at "b")
  | ((with_reducible apply Nb.min) <;> walk_at "b")
  | ((with_reducible apply Nb.ite) <;> walk_at "b")
  | with_reducible assumption
  | with_reducible exact Nb.le (by assumption)
  | with_reducible exact Nb.nle (by assumption)
  | with_reducible exact Nb.lt (by assumption)
  | ((with_reducible apply Nb.rng (by assumption) (by assumption)) <;> walk_at "b")
  | ((with_reducible apply Nb.rngE (by assumption) (by assumption)) <;> walk_at "b")
  | with_reducible exact Nb.self _)
local macro_rules | `(tactic| walk_at "z") => `(tactic| first | decide | assumption | omega | exact fmod_nn (by omega) | exact fmod_lt (by omega))
local macro_rules | `(tactic| walk_at "e") => `(tactic| first
  | ((with_reducible refine is_ev ?_); first
    | ((with_reducible apply mul_st); (· walk_at "b"); (· walk_at "b"); (· rfl))
    | ((with_reducible apply mul_s1); (· walk_at "b"); (· rfl))
    | ((with_reducible apply mul_s2); (· walk_at "b"); (· rfl))
    | ((with_reducible apply div_st); (· walk_at "z"); (· walk_at "b"); (· rfl))
    | ((with_reducible apply mod_st); (· walk_at "z"))
    | with_reducible apply tup_pt
    | with_reducible apply tup_ln
    | ((with_reducible apply tup_st); (· rfl))
    | ((with_reducible apply lst_st); (· rfl))
    | with_reducible apply eqi_st
    | with_reducible apply nei_st
    | with_reducible apply eqp_st
    | with_reducible apply nep_st
    | with_reducible apply eqp_st'
    | with_reducible apply nep_st'
    | with_reducible apply eqb_st
    | with_reducible apply neb_st
    | with_reducible apply isb_st
    | with_reducible apply eqs_st
    | with_reducible apply nes_st
    | with_reducible refine ix2bi (fun _ _ _ => ?_)
    | ((with_reducible refine ix4i ?_ ?_ (fun _ _ _ => ?_)); (· walk_at "z"); (· walk_at "z"))
    | ((with_reducible refine ix2i ?_ ?_ (fun _ _ _ => ?_)); (· walk_at "z"); (· walk_at "z"))
    | ((with_reducible refine ix3i ?_ ?_ (fun _ _ _ => ?_)); (· walk_at "z"); (· walk_at "z"))
    | refine ⟨_, rfl, ?_⟩)
  | ((with_reducible refine fill_st ?_); refine ⟨_, rfl, ?_⟩; (try dsimp only))
  | ((with_reducible apply and_go rfl); (· (intro _; (repeat walk_at "s"); with_reducible exact ⟨rfl, rfl⟩)))
  | ((with_reducible refine is_chain ?_); (apply chain_go rfl); (· (intro _; (repeat walk_at "s"); exact ⟨rfl, rfl⟩)))
  | ((with_reducible refine draw_step (by assumption) ?_ ?_ (fun _ _ _ _ _ => ?_)); (· walk_at "z"); (· walk_at "z"))
  | ((with_reducible refine CLY.draw_step (by assumption) ?_ ?_ (fun _ _ _ _ _ => ?_)); (· walk_at "z"); (· walk_at "z"))
  | ((with_reducible refine is_evA ?_); refine ⟨_, rfl, ?_⟩)
  | ((with_reducible refine is_evL ?_); refine ⟨_, rfl, ?_⟩)
  | ((with_reducible refine is_evI ?_); refine ⟨_, rfl, ?_⟩)
  | ((with_reducible refine is_evR ?_); refine ⟨_, rfl, ?_⟩))
local macro_rules | `(tactic| walk_at "f") => `(tactic| first
  | with_reducible refine W_mV.mpr ?_
  | with_reducible refine W_mCons.mpr ?_
  | with_reducible refine W_m2.mpr ?_
  | with_reducible refine W_mC.mpr ?_
  | with_reducible refine W_mNil.mpr ?_
  | with_reducible refine W_mN.mpr ?_
  | with_reducible refine W_sSeq.mpr ?_
  | with_reducible refine W_sAsg.mpr ?_
  | with_reducible refine W_m1.mpr ?_
  | with_reducible refine W_mCallP.mpr ?_
  | with_reducible refine W_mCall.mpr ?_
  | with_reducible refine X_evI.mpr ?_
  | with_reducible refine X_evE.mpr ?_
  | with_reducible refine X_evN.mpr ?_
  | with_reducible refine X_if ?_
  | with_reducible refine W_sRet.mpr ?_
  | with_reducible refine W_sK.mpr ?_
  | with_reducible refine X_and ?_
  | with_reducible refine X_or ?_
  | with_reducible refine W_sPar.mpr ?_
  | with_reducible refine W_mSl.mpr ?_
  | with_reducible refine W_mPtN.mpr ?_
  | with_reducible refine W_mPtS.mpr ?_
  | with_reducible refine W_mIt.mpr ?_
  | with_reducible refine W_mItN.mpr ?_
  | with_reducible refine W_mComp.mpr ?_
  | ((with_reducible refine is_comp ?_); first | (apply X_compN; (· walk_at "o")) | ((with_reducible apply X_compY); (· walk_at "o"); (· rfl)))
  | with_reducible refine W_sFor.mpr ?_
  | ((with_reducible refine is_for ?_); refine W_forNil.mpr ?_)
  | with_reducible refine X_chain ?_
  | with_reducible refine W_sExp.mpr ?_
  | with_reducible refine W_mL.mpr ?_
  | with_reducible refine X_mif ?_
  | with_reducible refine W_mIxS.mpr ?_
  | with_reducible refine W_mYes.mpr ?_
  | with_reducible refine W_sPar3.mpr ?_
  | with_reducible refine W_mApp.mpr ?_
  | with_reducible refine W_mBor.mpr ?_
  | with_reducible refine CLX.W_sFz.mpr ?_)
local macro_rules | `(tactic| walk_at "s") => `(tactic| first
  | ((with_reducible refine is_W ?_); walk_at "f")
  | ((with_reducible refine is_ex ?_); first
    | ((with_reducible refine is_evS ?_); refine ⟨_, rfl, ?_⟩)
    | ((with_reducible apply call_st); (· with_reducible assumption))
    | walk_at "e")
  | ((with_reducible apply X_nx); (· walk_at "o"))
  | with_reducible refine Kq_ret.mpr ?_
  | with_reducible refine Kq_brk.mpr ?_
  | with_reducible refine Kq_cnt.mpr ?_
  | ((with_reducible apply X_fnx); (· walk_at "o"))
  | ((with_reducible apply X_fcnt); (· walk_at "o"))
  | with_reducible refine X_fbrk ?_
  | with_reducible refine X_fret ?_
  | ((with_reducible refine is_ltA ?_); refine ⟨?_, ?_⟩; (· first | decide | omega | (simp; omega) | (simp; done)))
  | with_reducible refine parW_mk.mpr ?_
  | with_reducible refine par3W_mk.mpr ?_)
local macro_rules | `(tactic| walk_at "r") => `(tactic| repeat walk_at "s")
local macro_rules | `(tactic| walk_at "u") => `(tactic| first | ((apply X_forC); (· walk_at "o"); (· rfl)) | ((apply X_compY); (· walk_at "o"); (· rfl)) | ((apply X_compC); (· walk_at "o"); (· rfl)))
local macro_rules | `(tactic| walk_at "g") => `(tactic| repeat first | walk_at "s" | (with_reducible refine go_ifF (rfl : _ = false) ?_) | (with_reducible refine go_ifT (rfl : _ = true) ?_) | (refine go_ifF (rfl : _ = false) ?_) | (refine go_ifT (rfl : _ = true) ?_) | walk_at "u")
theorem leD_total : TotalLe leD := sortLe_total _ false _
theorem leD_toks {a b : D} (h1 : leD a b = true) (h2 : leD b a = true) : keyToks a.py = keyToks b.py := by
  unfold leD dataLe sortLe at h1 h2
  simp only [cond_false, Bool.not_eq_true'] at h1 h2
  exact (PyProof.Rows.listOrd PyProof.Rows.itemOrd).total _ _ h2 h1
theorem sort_eq {A B : List D} (nA : A.Nodup) (nB : B.Nodup) (h : ∀ x, x ∈ A ↔ x ∈ B) (inj : ∀ a ∈ A, ∀ b ∈ B, keyToks a.py = keyToks b.py → a = b) : A.mergeSort leD = B.mergeSort leD := by
  refine List.Perm.eq_of_pairwise (le := fun a b => leD a b = true) (fun a b ha hb h1 h2 => ?_) (sort_pairwise leD_total A) (sort_pairwise leD_total B) ?_
  · exact inj a ((List.mergeSort_perm A leD).mem_iff.mp ha) b ((List.mergeSort_perm B leD).mem_iff.mp hb) (leD_toks h1 h2)
  · exact (List.mergeSort_perm A leD).trans (((List.perm_ext_iff_of_nodup nA nB).mpr h).trans (List.mergeSort_perm B leD).symm)
theorem sp_inj {s t : CLG.Sp} (h : CLX.spD s = CLX.spD t) : s = t := by
  unfold CLX.spD at h
  simp only [D.tup.injEq, List.cons.injEq, D.int.injEq, and_true] at h
  cases s; cases t; simp only [CLG.Sp.mk.injEq]; exact h
theorem sp_toks {s t : CLG.Sp} (h : keyToks (CLX.spD s).py = keyToks (CLX.spD t).py) : s = t := by
  simp only [CLX.spD, D.py, D.pyL, keyToks, keyToksAll] at h
  simp at h
  cases s; cases t; simp only [CLG.Sp.mk.injEq]; exact h
theorem sp_sort {S T : List CLG.Sp} (nS : S.Nodup) (nT : T.Nodup) (h : ∀ s, s ∈ S ↔ s ∈ T) : (S.map CLX.spD).mergeSort leD = (T.map CLX.spD).mergeSort leD := by
  have nd : ∀ {U : List CLG.Sp}, U.Nodup → (U.map CLX.spD).Nodup := fun hU => List.Pairwise.map _ (fun _ _ n e => n (sp_inj e)) hU
  refine sort_eq (nd nS) (nd nT) (fun x => ?_) fun a ha b hb e => ?_
  · simp only [List.mem_map]
    constructor
    · rintro ⟨s, hs, rfl⟩; exact ⟨s, (h s).mp hs, rfl⟩
    · rintro ⟨s, hs, rfl⟩; exact ⟨s, (h s).mpr hs, rfl⟩
  · obtain ⟨s, _, rfl⟩ := List.mem_map.mp ha
    obtain ⟨t, _, rfl⟩ := List.mem_map.mp hb
    rw [sp_toks e]
def nkS (s : CLG.Sp) : NestedKey := .tup [.num s.n, .num s.m, .num s.d]
theorem key_sp {s : CLG.Sp} : CL.keyOf (CLX.spD s) = some (nkS s) := by
  have h : D.nk (CLX.spD s) = some (nkS s) := rfl
  unfold CL.keyOf
  rw [h]
  rfl
theorem nkL_sp : ∀ {S : List CLG.Sp}, D.nkL (S.map CLX.spD) = some (S.map nkS)
  | [] => rfl
  | s :: S => by
    have h : D.nk (CLX.spD s) = some (nkS s) := rfl
    simp only [List.map_cons, D.nkL, h, nkL_sp (S := S)]
theorem nkS_inj {s t : CLG.Sp} (h : nkS s = nkS t) : s = t := by
  unfold nkS at h
  simp only [NestedKey.tup.injEq, List.cons.injEq, NestedKey.num.injEq, and_true] at h
  cases s; cases t; simp only [CLG.Sp.mk.injEq]; exact h
theorem nkS_mem {s : CLG.Sp} {S : List CLG.Sp} : nkS s ∈ S.map nkS ↔ s ∈ S := by
  constructor
  · intro h
    obtain ⟨t, ht, e⟩ := List.mem_map.mp h
    rw [← nkS_inj e]; exact ht
  · exact fun h => List.mem_map_of_mem h
def ins (S : List CLG.Sp) (s : CLG.Sp) : List CLG.Sp := if s ∈ S then S else S ++ [s]
theorem mem_ins {S : List CLG.Sp} {s t : CLG.Sp} : t ∈ ins S s ↔ t ∈ S ∨ t = s := by
  unfold ins
  split
  · rename_i h
    exact ⟨.inl, fun z => z.elim id fun e => e ▸ h⟩
  · simp
theorem nodup_ins {S : List CLG.Sp} {s : CLG.Sp} (h : S.Nodup) : (ins S s).Nodup := by
  unfold ins
  split
  · exact h
  · rename_i n
    rw [List.nodup_append]
    exact ⟨h, by simp, fun a ha b hb => by rw [List.mem_singleton.mp hb]; exact fun e => n (e ▸ ha)⟩
theorem len_ins {S : List CLG.Sp} {s : CLG.Sp} : (ins S s).length ≤ S.length + 1 := by
  unfold ins
  split <;> simp
theorem kput_sp {S : List CLG.Sp} {vs : List D} {s : CLG.Sp} {v : D} : ∃ vs', kput (S.map CLX.spD) vs (S.map nkS) (CLX.spD s) (nkS s) v = .kdc ((ins S s).map CLX.spD) vs' := by
  unfold kput ins
  by_cases h : s ∈ S
  · rw [if_pos (nkS_mem.mpr h), if_pos h]; exact ⟨_, rfl⟩
  · rw [if_neg (fun z => h (nkS_mem.mp z)), if_neg h]; exact ⟨_, by rw [List.map_append]; rfl⟩
/-- a spot is put in -/
theorem sto_sp {i : Nat} {mi m : M D} {ρ : Sl} {Q : Fl → Sl → Prop} (h : W m ρ fun _ ρ1 => ∃ d0, ρ1[i]? = some (some d0) ∧ W mi ρ1 fun kd ρ3 => ∃ S vs s, ρ3[i]? = some (some (.kdc (S.map CLX.spD) vs)) ∧ kd = CLX.spD s ∧ S.length < 16777216 ∧ ∀ vs', Q .nx (ρ3.set i (some (.kdc ((ins S s).map CLX.spD) vs')))) : W (sStoK i mi m) ρ Q := by
  refine W_sStoK.mpr (h.mono fun d ρ1 ⟨d0, h0, h1⟩ => W_mV.mpr ⟨d0, h0, h1.mono fun kd ρ3 ⟨S, vs, s, h2, h3, h4, h5⟩ => ?_⟩)
  subst h3
  obtain ⟨vs', e⟩ := kput_sp (S := S) (vs := vs) (s := s) (v := d)
  exact ⟨_, _, _, _, h2, key_sp, nkL_sp, by simpa using h4, by rw [e]; exact h5 vs'⟩
theorem alike_sp {s t : CLG.Sp} : alike (CLX.spD s).py (CLX.spD t).py = true := by simp [CLX.spD, D.py, D.pyL, alike, alikeAll]
theorem dok_sp {S : List CLG.Sp} : (dataOk (S.map CLX.spD) && sortB (S.map CLX.spD)) = true := by
  rw [Bool.and_eq_true]
  constructor
  · have h1 : ∀ U : List CLG.Sp, D.okL 58 (U.map CLX.spD) = true := fun U => by
      induction U with
      | nil => simp [D.okL]
      | cons s U ih => simp only [List.map_cons, D.okL, ih, Bool.and_true]; simp [CLX.spD, D.okB, D.okL]
    simp only [dataOk, Bool.and_eq_true, List.all_eq_true]
    refine ⟨⟨h1 S, fun a ha b hb => ?_⟩, fun a ha => ?_⟩
    · obtain ⟨s, _, rfl⟩ := List.mem_map.mp ha
      obtain ⟨t, _, rfl⟩ := List.mem_map.mp hb
      exact alike_sp
    · obtain ⟨s, _, rfl⟩ := List.mem_map.mp ha
      rfl
  · simp only [sortB, Bool.or_eq_true]
    left
    rw [List.all_eq_true]
    intro d hd
    obtain ⟨s, _, rfl⟩ := List.mem_map.mp hd
    rfl
theorem sort_sp {S : List CLG.Sp} {vs : List D} {P : List D → Prop} (k : P ((S.map CLX.spD).mergeSort leD)) : ∃ l, sortDK [.kdc (S.map CLX.spD) vs] = some l ∧ P l := ⟨_, by simp only [sortDK]; rw [if_pos dok_sp], k⟩
end CLK
namespace CLK
open PySem PySem.Spec L2 CL CLG CLX PySem.W
def knotsB : MS := (sSeq (sAsg (pN 1) (mC (.kdc [] []))) (sSeq (sFor (pT 2 (psC (pN 2) (psC (pN 3) psN))) (mItN enumL (mCons (mV 0) mNil)) (sSeq (sFor (pT 2 (psC (pN 4) (psC (pN 5) psN))) (mIt (mV 3)) (sStoK 1 (mN bTup (mCons (mV 4) (mCons (mV 5) (mCons (mC (.int 1)) mNil)))) (mC (.bl true)))) (sFor (pN 6) (mIt (mSl (mV 0) none (some (mV 2)))) (sFor (pN 7) (mIt (mCallP CLX.F_common (mCons (mV 3) (mCons (mV 6) mNil)))) (sStoK 1 (mV 7) (mC (.bl true))))))) (sFz 1 (sRet (mN bTuple (mCons (mL sortDK (mCons (mV 1) mNil)) mNil))))))
def knotsF : List D → Res D := runP 7 knotsB
def lknotsB : MS := (sSeq (sAsg (pN 1) (mC (.kdc [] []))) (sSeq (sFor (pN 2) (mItN range1 (mCons (mN bLen (mCons (mV 0) mNil)) mNil)) (sSeq (sFor (pT 2 (psC (pN 3) (psC (pN 4) psN))) (mIt (m2 bIx (mV 0) (mV 2))) (sStoK 1 (mN bTup (mCons (mV 3) (mCons (mV 4) (mCons (mC (.int 1)) mNil)))) (mC (.bl true)))) (sFor (pN 5) (mIt (mSl (mV 0) none (some (mV 2)))) (sFor (pT 3 (psC (pN 6) (psC (pN 7) (psC (pN 8) psN)))) (mIt (mCallP CLK.F__law_common (mCons (m2 bIx (mV 0) (mV 2)) (mCons (mV 5) mNil)))) (sStoK 1 (mCallP CLX.F__law_lowest (mCons (mV 6) (mCons (mV 7) (mCons (mV 8) mNil)))) (mC (.bl true))))))) (sFz 1 (sRet (mN bTuple (mCons (mL sortDK (mCons (mV 1) mNil)) mNil))))))
def lknotsF : List D → Res D := runP 8 lknotsB
local macro_rules | `(tactic| walk_at "o") => `(tactic| ((try simp only [backA, List.set_cons_zero, List.set_cons_succ, wipeD, List.map_cons, List.map_nil, List.cons_append, List.nil_append, List.replicate_succ, List.replicate_zero]); first | done | rfl))
local macro_rules | `(tactic| walk_at "b") => `(tactic| first
  | with_reducible exact Nb.lit
  | ((with_reducible apply Nb.mul) <;> walk_at "b")
  | ((with_reducible apply Nb.add) <;> walk_at "b")
  | ((with_reducible apply Nb.sub) <;> walk_at "b")
  | ((with_reducible apply Nb.neg) <;> walk_at "b")
  | ((with_reducible apply Nb.fdiv) <;> walk_at "b")
  | ((with_reducible apply Nb.fmod); (· walk_at "z"); (· walk_at "b"))
  | ((with_reducible apply Nb.max) <;> walk_at "b")
  | ((with_reducible apply Nb.min) <;> walk_at "b")
  | ((with_reducible apply Nb.ite) <;> walk_at "b")
  | with_reducible assumption
  | with_reducible exact Nb.le (by assumption)
  | with_reducible exact Nb.nle (by assumption)
  | with_reducible exact Nb.lt (by assumption)
  | ((with_reducible apply Nb.rng (by assumption) (by assumption)) <;> walk_at "b")
  | ((with_reducible apply Nb.rngE (by assumption) (by assumption)) <;> walk_at "b")
  | with_reducible exact Nb.self _)
local macro_rules | `(tactic| walk_at "z") => `(tactic| first | decide | assumption | omega | exact fmod_nn (by omega) | exact fmod_lt (by omega))
local macro_rules | `(tactic| walk_at "e") => `(tactic| first
  | ((with_reducible refine is_ev ?_); first
    | ((with_reducible apply mul_st); (· walk_at "b"); (· walk_at "b"); (· rfl))
    | ((with_reducible apply mul_s1); (· walk_at "b"); (· rfl))
    | ((with_reducible apply mul_s2); (· walk_at "b"); (· rfl))
    | ((with_reducible apply div_st); (· walk_at "z"); (· walk_at "b"); (· rfl))
    | ((with_reducible apply mod_st); (· walk_at "z"))
    | with_reducible apply tup_pt
    | with_reducible apply tup_ln
    | ((with_reducible apply tup_st); (· rfl))
    | ((with_reducible apply lst_st); (· rfl))
    | with_reducible apply eqi_st
    | with_reducible apply nei_st
    | with_reducible apply eqp_st
    | with_reducible apply nep_st
    | with_reducible apply eqp_st'
    | with_reducible apply nep_st'
    | with_reducible apply eqb_st
    | with_reducible apply neb_st
    | with_reducible apply isb_st
    | with_reducible apply eqs_st
    | with_reducible apply nes_st
    | with_reducible refine ix2bi (fun _ _ _ => ?_)
    | ((with_reducible refine ix4i ?_ ?_ (fun _ _ _ => ?_)); (· walk_at "z"); (· walk_at "z"))
    | ((with_reducible refine ix2i ?_ ?_ (fun _ _ _ => ?_)); (· walk_at "z"); (· walk_at "z"))
    | ((with_reducible refine ix3i ?_ ?_ (fun _ _ _ => ?_)); (· walk_at "z"); (· walk_at "z"))
    | refine ⟨_, rfl, ?_⟩)
  | ((with_reducible refine fill_st ?_); refine ⟨_, rfl, ?_⟩; (try dsimp only))
  | ((with_reducible apply and_go rfl); (· (intro _; (repeat walk_at "s"); with_reducible exact ⟨rfl, rfl⟩)))
  | ((with_reducible refine is_chain ?_); (apply chain_go rfl); (· (intro _; (repeat walk_at "s"); exact ⟨rfl, rfl⟩)))
  | ((with_reducible refine draw_step (by assumption) ?_ ?_ (fun _ _ _ _ _ => ?_)); (· walk_at "z"); (· walk_at "z"))
  | ((with_reducible refine CLY.draw_step (by assumption) ?_ ?_ (fun _ _ _ _ _ => ?_)); (· walk_at "z"); (· walk_at "z"))
  | ((with_reducible refine is_evA ?_); refine ⟨_, rfl, ?_⟩)
  | ((with_reducible refine is_evL ?_); refine ⟨_, rfl, ?_⟩)
  | ((with_reducible refine is_evI ?_); refine ⟨_, rfl, ?_⟩)
  | ((with_reducible refine is_evR ?_); refine ⟨_, rfl, ?_⟩))
local macro_rules | `(tactic| walk_at "f") => `(tactic| first
  | with_reducible refine W_mV.mpr ?_
  | with_reducible refine W_mCons.mpr ?_
  | with_reducible refine W_m2.mpr ?_
  | with_reducible refine W_mC.mpr ?_
  | with_reducible refine W_mNil.mpr ?_
  | with_reducible refine W_mN.mpr ?_
  | with_reducible refine W_sSeq.mpr ?_
  | with_reducible refine W_sAsg.mpr ?_
  | with_reducible refine W_m1.mpr ?_
  | with_reducible refine W_mCallP.mpr ?_
  | with_reducible refine W_mCall.mpr ?_
  | with_reducible refine X_evI.mpr ?_
  | with_reducible refine X_evE.mpr ?_
  | with_reducible refine X_evN.mpr ?_
  | with_reducible refine X_if ?_
  | with_reducible refine W_sRet.mpr ?_
  | with_reducible refine W_sK.mpr ?_
  | with_reducible refine X_and ?_
  | with_reducible refine X_or ?_
  | with_reducible refine W_sPar.mpr ?_
  | with_reducible refine W_mSl.mpr ?_
  | with_reducible refine W_mPtN.mpr ?_
  | with_reducible refine W_mPtS.mpr ?_
  | with_reducible refine W_mIt.mpr ?_
  | with_reducible refine W_mItN.mpr ?_
  | with_reducible refine W_mComp.mpr ?_
  | ((with_reducible refine is_comp ?_); first | (apply X_compN; (· walk_at "o")) | ((with_reducible apply X_compY); (· walk_at "o"); (· rfl)))
  | with_reducible refine W_sFor.mpr ?_
  | ((with_reducible refine is_for ?_); refine W_forNil.mpr ?_)
  | with_reducible refine X_chain ?_
  | with_reducible refine W_sExp.mpr ?_
  | with_reducible refine W_mL.mpr ?_
  | with_reducible refine X_mif ?_
  | with_reducible refine W_mIxS.mpr ?_
  | with_reducible refine W_mYes.mpr ?_
  | with_reducible refine W_sPar3.mpr ?_
  | with_reducible refine W_mApp.mpr ?_
  | with_reducible refine W_mBor.mpr ?_
  | with_reducible refine CLX.W_sFz.mpr ?_)
local macro_rules | `(tactic| walk_at "s") => `(tactic| first
  | ((with_reducible refine is_W ?_); walk_at "f")
  | ((with_reducible refine is_ex ?_); first
    | ((with_reducible refine is_evS ?_); refine ⟨_, rfl, ?_⟩)
    | ((with_reducible apply call_st); (· with_reducible assumption))
    | walk_at "e")
  | ((with_reducible apply X_nx); (· walk_at "o"))
  | with_reducible refine Kq_ret.mpr ?_
  | with_reducible refine Kq_brk.mpr ?_
  | with_reducible refine Kq_cnt.mpr ?_
  | ((with_reducible apply X_fnx); (· walk_at "o"))
  | ((with_reducible apply X_fcnt); (· walk_at "o"))
  | with_reducible refine X_fbrk ?_
  | with_reducible refine X_fret ?_
  | ((with_reducible refine is_ltA ?_); refine ⟨?_, ?_⟩; (· first | decide | omega | (simp; omega) | (simp; done)))
  | with_reducible refine parW_mk.mpr ?_
  | with_reducible refine par3W_mk.mpr ?_)
local macro_rules | `(tactic| walk_at "r") => `(tactic| repeat walk_at "s")
local macro_rules | `(tactic| walk_at "u") => `(tactic| first | ((apply X_forC); (· walk_at "o"); (· rfl)) | ((apply X_compY); (· walk_at "o"); (· rfl)) | ((apply X_compC); (· walk_at "o"); (· rfl)))
local macro_rules | `(tactic| walk_at "g") => `(tactic| repeat first | walk_at "s" | (with_reducible refine go_ifF (rfl : _ = false) ?_) | (with_reducible refine go_ifT (rfl : _ = true) ?_) | (refine go_ifF (rfl : _ = false) ?_) | (refine go_ifT (rfl : _ = true) ?_) | walk_at "u")
def Ends (l : List Li) (s : CLG.Sp) : Prop := ∃ p ∈ l, s = ⟨p.x, p.y, 1⟩ ∨ s = ⟨p.u, p.v, 1⟩
def Prs : List Li → CLG.Sp → Prop
  | [], _ => False
  | p :: l, s => Prs l s ∨ ∃ q ∈ l, s ∈ p.common q
def Kn (l : List Li) (s : CLG.Sp) : Prop := Ends l s ∨ Prs l s
theorem prs_app {q : Li} {s : CLG.Sp} : ∀ {l : List Li}, Prs (l ++ [q]) s ↔ Prs l s ∨ ∃ p ∈ l, s ∈ p.common q
  | [] => by simp [Prs]
  | p :: l => by
    simp only [List.cons_append, Prs, prs_app (l := l), List.mem_append, List.mem_cons, List.not_mem_nil, or_false]
    constructor
    · rintro ((h | ⟨z, hz, h⟩) | ⟨z, hz | rfl, h⟩)
      · exact .inl (.inl h)
      · exact .inr ⟨z, .inr hz, h⟩
      · exact .inl (.inr ⟨z, hz, h⟩)
      · exact .inr ⟨p, .inl rfl, h⟩
    · rintro ((h | ⟨z, hz, h⟩) | ⟨z, rfl | hz, h⟩)
      · exact .inl (.inl h)
      · exact .inr ⟨z, .inl hz, h⟩
      · exact .inr ⟨q, .inr rfl, h⟩
      · exact .inl (.inr ⟨z, hz, h⟩)
theorem prs_rev {s : CLG.Sp} : ∀ {l : List Li}, (∀ p ∈ l, p.ok) → (Prs l.reverse s ↔ Prs l s)
  | [], _ => Iff.rfl
  | p :: l, h => by
    have hp := h p (by simp)
    have hl : ∀ q ∈ l, q.ok := fun q hq => h q (by simp [hq])
    rw [List.reverse_cons, prs_app, prs_rev hl]
    simp only [Prs, List.mem_reverse]
    constructor
    · rintro (h | ⟨q, hq, h⟩)
      · exact .inl h
      · exact .inr ⟨q, hq, by rw [← Li.common_comm _ _ hp (hl q hq)]; exact h⟩
    · rintro (h | ⟨q, hq, h⟩)
      · exact .inl h
      · exact .inr ⟨q, hq, by rw [Li.common_comm _ _ hp (hl q hq)]; exact h⟩
theorem prs_back {s : CLG.Sp} : ∀ {l : List Li}, (∀ p ∈ l, p.ok) → (Prs (l.map Li.rev) s ↔ Prs l s)
  | [], _ => Iff.rfl
  | p :: l, h => by
    have hp := h p (by simp)
    have hl : ∀ q ∈ l, q.ok := fun q hq => h q (by simp [hq])
    have hr : p.rev.ok := fun z => hp ⟨z.1.symm, z.2.symm⟩
    simp only [List.map_cons, Prs, prs_back hl, List.mem_map]
    constructor
    · rintro (h | ⟨_, ⟨q, hq, rfl⟩, h⟩)
      · exact .inl h
      · exact .inr ⟨q, hq, by rw [Li.common_rev2 _ _ hr (hl q hq), Li.common_rev _ _ hp] at h; exact h⟩
    · rintro (h | ⟨q, hq, h⟩)
      · exact .inl h
      · exact .inr ⟨q.rev, ⟨q, hq, rfl⟩, by rw [Li.common_rev2 _ _ hr (hl q hq), Li.common_rev _ _ hp]; exact h⟩
theorem ends_rev {l : List Li} {s : CLG.Sp} : Ends l.reverse s ↔ Ends l s := by simp [Ends]
theorem ends_back {l : List Li} {s : CLG.Sp} : Ends (l.map Li.rev) s ↔ Ends l s := by
  unfold Ends
  constructor
  · rintro ⟨_, hp, h⟩
    obtain ⟨p, hq, rfl⟩ := List.mem_map.mp hp
    exact ⟨p, hq, h.symm⟩
  · rintro ⟨p, hp, h⟩
    exact ⟨p.rev, List.mem_map_of_mem hp, h.symm⟩
theorem kn_rev {l : List Li} {s : CLG.Sp} (h : ∀ p ∈ l, p.ok) : Kn l.reverse s ↔ Kn l s := by unfold Kn; rw [ends_rev, prs_rev h]
theorem kn_back {l : List Li} {s : CLG.Sp} (h : ∀ p ∈ l, p.ok) : Kn (l.map Li.rev) s ↔ Kn l s := by unfold Kn; rw [ends_back, prs_back h]
theorem kn_cons {p : Li} {l : List Li} {s : CLG.Sp} : Kn (p :: l) s ↔ Kn l s ∨ (s = ⟨p.x, p.y, 1⟩ ∨ s = ⟨p.u, p.v, 1⟩) ∨ ∃ q ∈ l, s ∈ p.common q := by
  unfold Kn Ends
  simp only [Prs, List.mem_cons]
  constructor
  · rintro (⟨z, rfl | hz, h⟩ | h | h)
    · exact .inr (.inl h)
    · exact .inl (.inl ⟨z, hz, h⟩)
    · exact .inl (.inr h)
    · exact .inr (.inr h)
  · rintro ((⟨z, hz, h⟩ | h) | h | h)
    · exact .inl ⟨z, .inr hz, h⟩
    · exact .inr (.inl h)
    · exact .inl ⟨p, .inl rfl, h⟩
    · exact .inr (.inr h)
theorem spots_loop {o0 o2 o3 o4 o5 o6 : Option D} {Q : Fl → Sl → Prop} : ∀ (T S : List CLG.Sp) (vs : List D) (o7 : Option D), S.Nodup → S.length + T.length ≤ 100000 →
    (∀ (S' : List CLG.Sp) (vs' : List D) (o7' : Option D), S'.Nodup → (∀ s, s ∈ S' ↔ s ∈ S ∨ s ∈ T) → S'.length ≤ S.length + T.length → Q .nx [o0, some (.kdc (S'.map CLX.spD) vs'), o2, o3, o4, o5, o6, o7']) →
    W (forL (pN 7) (sStoK 1 (mV 7) (mC (.bl true))) (T.map CLX.spD)) [o0, some (.kdc (S.map CLX.spD) vs), o2, o3, o4, o5, o6, o7] Q
  | [], S, vs, o7, hn, _, k => W_forNil.mpr (k S vs o7 hn (by simp) (by simp))
  | t :: T, S, vs, o7, hn, hl, k => by
    simp only [List.length_cons] at hl
    refine W_forCons.mpr ⟨_, rfl, sto_sp (W_mC.mpr ⟨_, rfl, W_mV.mpr ⟨_, rfl, S, vs, t, rfl, rfl, by omega, fun vs' => .inl ⟨.inl rfl, ?_⟩⟩⟩)⟩
    have h1 := len_ins (S := S) (s := t)
    refine spots_loop T (ins S t) vs' _ (nodup_ins hn) (by omega) fun S' vs2 o7' n1 n2 n3 => k S' vs2 o7' n1 (fun s => ?_) (by simp only [List.length_cons]; omega)
    rw [n2, mem_ins]
    simp only [List.mem_cons]
    constructor
    · rintro ((h | h) | h)
      · exact .inl h
      · exact .inr (.inl h)
      · exact .inr (.inr h)
    · rintro (h | h | h)
      · exact .inl (.inl h)
      · exact .inl (.inr h)
      · exact .inr h
theorem commons_loop {p : Li} (hp : Sml p) {o0 o2 o4 o5 : Option D} {Q : Fl → Sl → Prop} : ∀ (T : List Li) (S : List CLG.Sp) (vs : List D) (o6 o7 : Option D), (∀ q ∈ T, Sml q) → S.Nodup → S.length + 2 * T.length ≤ 100000 →
    (∀ (S' : List CLG.Sp) (vs' : List D) (o6' o7' : Option D), S'.Nodup → (∀ s, s ∈ S' ↔ s ∈ S ∨ ∃ q ∈ T, s ∈ p.common q) → S'.length ≤ S.length + 2 * T.length → Q .nx [o0, some (.kdc (S'.map CLX.spD) vs'), o2, some (lnD p), o4, o5, o6', o7']) →
    W (forL (pN 6) (sFor (pN 7) (mIt (mCallP CLX.F_common (mCons (mV 3) (mCons (mV 6) mNil)))) (sStoK 1 (mV 7) (mC (.bl true)))) (T.map lnD)) [o0, some (.kdc (S.map CLX.spD) vs), o2, some (lnD p), o4, o5, o6, o7] Q
  | [], S, vs, o6, o7, _, hn, _, k => W_forNil.mpr (k S vs o6 o7 hn (by simp) (by simp))
  | q :: T, S, vs, o6, o7, hT, hn, hl, k => by
    simp only [List.length_cons] at hl
    have hq := hT q (by simp)
    have E := common_is hp hq
    have hb := (common_bd hp hq).2
    refine W_forCons.mpr ⟨_, rfl, ?_⟩
    walk_at "r"
    refine spots_loop (p.common q) S vs _ hn (by omega) fun S' vs' o7' n1 n2 n3 => .inl ⟨.inl rfl, ?_⟩
    refine commons_loop hp T S' vs' _ _ (fun z hz => hT z (by simp [hz])) n1 (by omega) fun S2 vs2 o6' o72 m1 m2 m3 => k S2 vs2 o6' o72 m1 (fun s => ?_) (by simp only [List.length_cons]; omega)
    rw [m2, n2]
    simp only [List.mem_cons]
    constructor
    · rintro ((h | h) | ⟨z, hz, h⟩)
      · exact .inl h
      · exact .inr ⟨q, .inl rfl, h⟩
      · exact .inr ⟨z, .inr hz, h⟩
    · rintro (h | ⟨z, rfl | hz, h⟩)
      · exact .inl (.inl h)
      · exact .inl (.inr h)
      · exact .inr ⟨z, hz, h⟩
theorem outer_loop {ps : List Li} (hS : ∀ p ∈ ps, Sml p) (hlen : ps.length ≤ 100) {Q : Fl → Sl → Prop} : ∀ (r pre : List Li) (S : List CLG.Sp) (vs : List D) (o2 o3 o4 o5 o6 o7 : Option D), ps = pre ++ r → S.Nodup → (∀ s, s ∈ S ↔ Kn pre.reverse s) → S.length ≤ 202 * pre.length →
    (∀ (S' : List CLG.Sp) (vs' : List D) (o2' o3' o4' o5' o6' o7' : Option D), S'.Nodup → (∀ s, s ∈ S' ↔ Kn ps.reverse s) → S'.length ≤ 20200 → Q .nx [some (.tup (ps.map lnD)), some (.kdc (S'.map CLX.spD) vs'), o2', o3', o4', o5', o6', o7']) →
    W (forL (pT 2 (psC (pN 2) (psC (pN 3) psN))) (sSeq (sFor (pT 2 (psC (pN 4) (psC (pN 5) psN))) (mIt (mV 3)) (sStoK 1 (mN bTup (mCons (mV 4) (mCons (mV 5) (mCons (mC (.int 1)) mNil)))) (mC (.bl true)))) (sFor (pN 6) (mIt (mSl (mV 0) none (some (mV 2)))) (sFor (pN 7) (mIt (mCallP CLX.F_common (mCons (mV 3) (mCons (mV 6) mNil)))) (sStoK 1 (mV 7) (mC (.bl true)))))) (enumFrom pre.length (r.map lnD))) [some (.tup (ps.map lnD)), some (.kdc (S.map CLX.spD) vs), o2, o3, o4, o5, o6, o7] Q
  | [], pre, S, vs, o2, o3, o4, o5, o6, o7, e, hn, hs, hl, k => by
    rw [List.append_nil] at e
    subst e
    exact W_forNil.mpr (k S vs o2 o3 o4 o5 o6 o7 hn hs (by omega))
  | p :: r, pre, S, vs, o2, o3, o4, o5, o6, o7, e, hn, hs, hl, k => by
    have hp := hS p (by rw [e]; simp)
    have hpl : pre.length ≤ 100 := by
      have := congrArg List.length e
      simp at this
      omega
    refine W_forCons.mpr ⟨[some (.tup (ps.map lnD)), some (.kdc (S.map CLX.spD) vs), some (.int pre.length), some (lnD p), o4, o5, o6, o7], rfl, ?_⟩
    refine W_sSeq.mpr (W_sFor.mpr (W_mIt.mpr (W_mV.mpr ⟨_, rfl, [pt p.x p.y, pt p.u p.v], rfl, ?_⟩)))
    refine W_forCons.mpr ⟨_, rfl, sto_sp (W_mC.mpr ⟨_, rfl, ?_⟩)⟩
    walk_at "r"
    refine ⟨S, vs, ⟨p.x, p.y, 1⟩, rfl, rfl, by omega, fun vs1 => .inl ⟨.inl rfl, ?_⟩⟩
    have h1 := len_ins (S := S) (s := ⟨p.x, p.y, 1⟩)
    refine W_forCons.mpr ⟨_, rfl, sto_sp (W_mC.mpr ⟨_, rfl, ?_⟩)⟩
    walk_at "r"
    refine ⟨ins S ⟨p.x, p.y, 1⟩, vs1, ⟨p.u, p.v, 1⟩, rfl, rfl, by omega, fun vs2 => .inl ⟨.inl rfl, ?_⟩⟩
    have h2 := len_ins (S := ins S ⟨p.x, p.y, 1⟩) (s := ⟨p.u, p.v, 1⟩)
    refine W_forNil.mpr (Kq_nx.mpr ?_)
    have hc : cutD (ps.map lnD) none (some (pre.length : Int)) = pre.map lnD := by
      rw [cut_to (by rw [e]; simp), e, List.map_append, List.take_left' (by simp)]
    refine W_sFor.mpr (W_mIt.mpr (W_mSl.mpr (W_mV.mpr ⟨_, rfl, W_mPtN.mpr (W_mPtS.mpr (W_mV.mpr ⟨_, rfl, _, rfl, _, rfl, _, by simp only [itemsOf]; rw [hc], ?_⟩))⟩)))
    refine commons_loop hp pre _ vs2 _ _ (fun q hq => hS q (by rw [e]; simp [hq])) (nodup_ins (nodup_ins hn)) (by omega) fun S' vs' o6' o7' n1 n2 n3 => .inl ⟨.inl rfl, ?_⟩
    have hln : (pre ++ [p]).length = pre.length + 1 := by simp
    have := outer_loop hS hlen (Q := Q) r (pre ++ [p]) S' vs' (some (.int pre.length)) (some (lnD p)) (some (.int p.u)) (some (.int p.v)) o6' o7' (by rw [e]; simp) n1 (fun s => ?_) (by rw [hln]; omega) k
    · rw [hln] at this
      exact this
    · rw [n2, mem_ins, mem_ins, hs, List.reverse_append]
      simp only [List.reverse_cons, List.reverse_nil, List.nil_append, List.singleton_append, kn_cons, List.mem_reverse]
      constructor
      · rintro (((h | h) | h) | h)
        · exact .inl h
        · exact .inr (.inl (.inl h))
        · exact .inr (.inl (.inr h))
        · exact .inr (.inr h)
      · rintro (h | (h | h) | h)
        · exact .inl (.inl (.inl h))
        · exact .inl (.inl (.inr h))
        · exact .inl (.inr h)
        · exact .inr h
/-- what the program tells -/
theorem knots_is {ps : List Li} (hS : ∀ p ∈ ps, Sml p) (hlen : ps.length ≤ 100) : ∃ S : List CLG.Sp, S.Nodup ∧ (∀ s, s ∈ S ↔ Kn ps.reverse s) ∧ S.length ≤ 20200 ∧ knotsF [.tup (ps.map lnD)] = .ok (.tup ((S.map CLX.spD).mergeSort leD)) := by
  have key : ∃ d, knotsF [.tup (ps.map lnD)] = .ok d ∧ ∃ S : List CLG.Sp, S.Nodup ∧ (∀ s, s ∈ S ↔ Kn ps.reverse s) ∧ S.length ≤ 20200 ∧ d = .tup ((S.map CLX.spD).mergeSort leD) := by
    refine runP_ex ?_
    unfold knotsB
    walk_at "r"
    refine outer_loop hS hlen ps [] [] [] _ _ _ _ _ _ rfl (by simp) (fun s => by simp [Kn, Ends, Prs]) (by simp) fun S' vs' o2 o3 o4 o5 o6 o7 n1 n2 n3 => ?_
    walk_at "r"
    refine sort_sp ?_
    walk_at "r"
    exact ⟨S', n1, n2, n3, rfl⟩
  obtain ⟨d, e, S, h1, h2, h3, rfl⟩ := key
  exact ⟨S, h1, h2, h3, e⟩
end CLK
namespace CLK
open PySem PySem.Spec L2 CL CLG CLX PySem.W
local macro_rules | `(tactic| walk_at "o") => `(tactic| ((try simp only [backA, List.set_cons_zero, List.set_cons_succ, wipeD, List.map_cons, List.map_nil, List.cons_append, List.nil_append, List.replicate_succ, List.replicate_zero]); first | done | rfl))
local macro_rules | `(tactic| walk_at "b") => `(tactic| first
  | with_reducible exact Nb.lit
  | ((with_reducible apply Nb.mul) <;> walk_at "b")
  | ((with_reducible apply Nb.add) <;> walk_at "b")
  | ((with_reducible apply Nb.sub) <;> walk_at "b")
  | ((with_reducible apply Nb.neg) <;> walk_at "b")
  | ((with_reducible apply Nb.fdiv) <;> walk_at "b")
  | ((with_reducible apply Nb.fmod); (· walk_at "z"); (· walk_at "b"))
  | ((with_reducible apply Nb.max) <;> walk_at "b")
  | ((with_reducible apply Nb.min) <;> walk_at "b")
  | ((with_reducible apply Nb.ite) <;> walk_at "b")
  | with_reducible assumption
  | with_reducible exact Nb.le (by assumption)
  | with_reducible exact Nb.nle (by assumption)
  | with_reducible exact Nb.lt (by assumption)
  | ((with_reducible apply Nb.rng (by assumption) (by assumption)) <;> walk_at "b")
  | ((with_reducible apply Nb.rngE (by assumption) (by assumption)) <;> walk_at "b")
  | with_reducible exact Nb.self _)
local macro_rules | `(tactic| walk_at "z") => `(tactic| first | decide | assumption | omega | exact fmod_nn (by omega) | exact fmod_lt (by omega))
local macro_rules | `(tactic| walk_at "e") => `(tactic| first
  | ((with_reducible refine is_ev ?_); first
    | ((with_reducible apply mul_st); (· walk_at "b"); (· walk_at "b"); (· rfl))
    | ((with_reducible apply mul_s1); (· walk_at "b"); (· rfl))
    | ((with_reducible apply mul_s2); (· walk_at "b"); (· rfl))
    | ((with_reducible apply div_st); (· walk_at "z"); (· walk_at "b"); (· rfl))
    | ((with_reducible apply mod_st); (· walk_at "z"))
    | with_reducible apply tup_pt
    | with_reducible apply tup_ln
    | ((with_reducible apply tup_st); (· rfl))
    | ((with_reducible apply lst_st); (· rfl))
    | with_reducible apply eqi_st
    | with_reducible apply nei_st
    | with_reducible apply eqp_st
    | with_reducible apply nep_st
    | with_reducible apply eqp_st'
    | with_reducible apply nep_st'
    | with_reducible apply eqb_st
    | with_reducible apply neb_st
    | with_reducible apply isb_st
    | with_reducible apply eqs_st
    | with_reducible apply nes_st
    | with_reducible refine ix2bi (fun _ _ _ => ?_)
    | ((with_reducible refine ix4i ?_ ?_ (fun _ _ _ => ?_)); (· walk_at "z"); (· walk_at "z"))
    | ((with_reducible refine ix2i ?_ ?_ (fun _ _ _ => ?_)); (· walk_at "z"); (· walk_at "z"))
    | ((with_reducible refine ix3i ?_ ?_ (fun _ _ _ => ?_)); (· walk_at "z"); (· walk_at "z"))
    | refine ⟨_, rfl, ?_⟩)
  | ((with_reducible refine fill_st ?_); refine ⟨_, rfl, ?_⟩; (try dsimp only))
  | ((with_reducible apply and_go rfl); (· (intro _; (repeat walk_at "s"); with_reducible exact ⟨rfl, rfl⟩)))
  | ((with_reducible refine is_chain ?_); (apply chain_go rfl); (· (intro _; (repeat walk_at "s"); exact ⟨rfl, rfl⟩)))
  | ((with_reducible refine draw_step (by assumption) ?_ ?_ (fun _ _ _ _ _ => ?_)); (· walk_at "z"); (· walk_at "z"))
  | ((with_reducible refine CLY.draw_step (by assumption) ?_ ?_ (fun _ _ _ _ _ => ?_)); (· walk_at "z"); (· walk_at "z"))
  | ((with_reducible refine is_evA ?_); refine ⟨_, rfl, ?_⟩)
  | ((with_reducible refine is_evL ?_); refine ⟨_, rfl, ?_⟩)
  | ((with_reducible refine is_evI ?_); refine ⟨_, rfl, ?_⟩)
  | ((with_reducible refine is_evR ?_); refine ⟨_, rfl, ?_⟩))
local macro_rules | `(tactic| walk_at "f") => `(tactic| first
  | with_reducible refine W_mV.mpr ?_
  | with_reducible refine W_mCons.mpr ?_
  | with_reducible refine W_m2.mpr ?_
  | with_reducible refine W_mC.mpr ?_
  | with_reducible refine W_mNil.mpr ?_
  | with_reducible refine W_mN.mpr ?_
  | with_reducible refine W_sSeq.mpr ?_
  | with_reducible refine W_sAsg.mpr ?_
  | with_reducible refine W_m1.mpr ?_
  | with_reducible refine W_mCallP.mpr ?_
  | with_reducible refine W_mCall.mpr ?_
  | with_reducible refine X_evI.mpr ?_
  | with_reducible refine X_evE.mpr ?_
  | with_reducible refine X_evN.mpr ?_
  | with_reducible refine X_if ?_
  | with_reducible refine W_sRet.mpr ?_
  | with_reducible refine W_sK.mpr ?_
  | with_reducible refine X_and ?_
  | with_reducible refine X_or ?_
  | with_reducible refine W_sPar.mpr ?_
  | with_reducible refine W_mSl.mpr ?_
  | with_reducible refine W_mPtN.mpr ?_
  | with_reducible refine W_mPtS.mpr ?_
  | with_reducible refine W_mIt.mpr ?_
  | with_reducible refine W_mItN.mpr ?_
  | with_reducible refine W_mComp.mpr ?_
  | ((with_reducible refine is_comp ?_); first | (apply X_compN; (· walk_at "o")) | ((with_reducible apply X_compY); (· walk_at "o"); (· rfl)))
  | with_reducible refine W_sFor.mpr ?_
  | ((with_reducible refine is_for ?_); refine W_forNil.mpr ?_)
  | with_reducible refine X_chain ?_
  | with_reducible refine W_sExp.mpr ?_
  | with_reducible refine W_mL.mpr ?_
  | with_reducible refine X_mif ?_
  | with_reducible refine W_mIxS.mpr ?_
  | with_reducible refine W_mYes.mpr ?_
  | with_reducible refine W_sPar3.mpr ?_
  | with_reducible refine W_mApp.mpr ?_
  | with_reducible refine W_mBor.mpr ?_
  | with_reducible refine CLX.W_sFz.mpr ?_)
local macro_rules | `(tactic| walk_at "s") => `(tactic| first
  | ((with_reducible refine is_W ?_); walk_at "f")
  | ((with_reducible refine is_ex ?_); first
    | ((with_reducible refine is_evS ?_); refine ⟨_, rfl, ?_⟩)
    | ((with_reducible apply call_st); (· with_reducible assumption))
    | walk_at "e")
  | ((with_reducible apply X_nx); (· walk_at "o"))
  | with_reducible refine Kq_ret.mpr ?_
  | with_reducible refine Kq_brk.mpr ?_
  | with_reducible refine Kq_cnt.mpr ?_
  | ((with_reducible apply X_fnx); (· walk_at "o"))
  | ((with_reducible apply X_fcnt); (· walk_at "o"))
  | with_reducible refine X_fbrk ?_
  | with_reducible refine X_fret ?_
  | ((with_reducible refine is_ltA ?_); refine ⟨?_, ?_⟩; (· first | decide | omega | (simp; omega) | (simp; done)))
  | with_reducible refine parW_mk.mpr ?_
  | with_reducible refine par3W_mk.mpr ?_)
local macro_rules | `(tactic| walk_at "r") => `(tactic| repeat walk_at "s")
local macro_rules | `(tactic| walk_at "u") => `(tactic| first | ((apply X_forC); (· walk_at "o"); (· rfl)) | ((apply X_compY); (· walk_at "o"); (· rfl)) | ((apply X_compC); (· walk_at "o"); (· rfl)))
local macro_rules | `(tactic| walk_at "g") => `(tactic| repeat first | walk_at "s" | (with_reducible refine go_ifF (rfl : _ = false) ?_) | (with_reducible refine go_ifT (rfl : _ = true) ?_) | (refine go_ifF (rfl : _ = false) ?_) | (refine go_ifT (rfl : _ = true) ?_) | walk_at "u")
def RawB (s : CLG.Sp) : Prop := s.m.natAbs < 2 ^ 100 ∧ 0 < s.d ∧ s.d < 2 ^ 100
theorem raw_bd {p q : Li} (hp : Sml p) (hq : Sml q) : ∀ s ∈ raw p q, RawB s := by
  have pn : ∀ (a : Pn), a.y.natAbs ≤ 10000000 → RawB ⟨a.x, a.y, 1⟩ := fun a h => ⟨Nat.lt_of_le_of_lt h (by decide), show (0 : Int) < 1 by decide, show (1 : Int) < 2 ^ 100 by decide⟩
  have lo : ∀ r : Li, Sml r → r.lo.y.natAbs ≤ 10000000 ∧ r.hi.y.natAbs ≤ 10000000 := fun r hr => by
    rcases lo_or r with e | e <;> rcases hi_or r with e' | e' <;> rw [e, e'] <;> exact ⟨by first | exact hr.y | exact hr.v, by first | exact hr.y | exact hr.v⟩
  have l1 := lo p hp
  have l2 := lo q hq
  have mx : RawB ⟨(pmax p.lo q.lo).x, (pmax p.lo q.lo).y, 1⟩ := by
    rcases pmax_or p.lo q.lo with e | e <;> rw [e]
    · exact pn p.lo l1.1
    · exact pn q.lo l2.1
  have mn : RawB ⟨(pmin p.hi q.hi).x, (pmin p.hi q.hi).y, 1⟩ := by
    rcases pmin_or p.hi q.hi with e | e <;> rw [e]
    · exact pn p.hi l1.2
    · exact pn q.hi l2.2
  unfold raw
  split
  · split
    · unfold Li.along
      split
      · simp
      · split
        · exact fun s hs => by rw [List.mem_singleton.mp hs]; exact mx
        · intro s hs
          rcases List.mem_cons.mp hs with rfl | hs
          · exact mx
          · rw [List.mem_singleton.mp hs]; exact mn
    · simp
  · rename_i hm
    split
    · intro s hs
      rw [List.mem_singleton.mp hs]
      obtain ⟨b1, b2, b3⟩ := m_bd hp hq
      have bY : Nb 100 (p.y * (sg (p.m q) * p.m q) + (p.v - p.y) * (sg (p.m q) * p.k q)) := (Nb.add (Nb.mul (Nb.le hp.y) (Nb.le b1)) (Nb.mul (Nb.le (sub8 hp.v hp.y)) (Nb.le b2))).mono (by decide)
      have hpos : 0 < sg (p.m q) * p.m q := by
        unfold sg
        split <;> omega
      refine ⟨bY, hpos, ?_⟩
      show sg (p.m q) * p.m q < 2 ^ 100
      have : (20000000000000000 : Int) < 2 ^ 100 := by decide
      omega
    · simp
theorem lspots_loop {o0 o2 o3 o4 o5 : Option D} {Q : Fl → Sl → Prop} : ∀ (T S : List CLG.Sp) (vs : List D) (o6 o7 o8 : Option D), (∀ t ∈ T, RawB t) → S.Nodup → S.length + T.length ≤ 100000 →
    (∀ (S' : List CLG.Sp) (vs' : List D) (o6' o7' o8' : Option D), S'.Nodup → (∀ s, s ∈ S' ↔ s ∈ S ∨ s ∈ T.map (fun s => low s.n s.m s.d)) → S'.length ≤ S.length + T.length → Q .nx [o0, some (.kdc (S'.map CLX.spD) vs'), o2, o3, o4, o5, o6', o7', o8']) →
    W (forL (pT 3 (psC (pN 6) (psC (pN 7) (psC (pN 8) psN)))) (sStoK 1 (mCallP CLX.F__law_lowest (mCons (mV 6) (mCons (mV 7) (mCons (mV 8) mNil)))) (mC (.bl true))) (T.map CLX.spD)) [o0, some (.kdc (S.map CLX.spD) vs), o2, o3, o4, o5, o6, o7, o8] Q
  | [], S, vs, o6, o7, o8, _, hn, _, k => W_forNil.mpr (k S vs o6 o7 o8 hn (by simp) (by simp))
  | t :: T, S, vs, o6, o7, o8, hT, hn, hl, k => by
    simp only [List.length_cons] at hl
    obtain ⟨b1, b2, b3⟩ := hT t (by simp)
    have E := lowest_is (n := t.n) b1 b2 b3
    refine W_forCons.mpr ⟨[o0, some (.kdc (S.map CLX.spD) vs), o2, o3, o4, o5, some (.int t.n), some (.int t.m), some (.int t.d)], rfl, sto_sp (W_mC.mpr ⟨_, rfl, ?_⟩)⟩
    walk_at "r"
    refine ⟨S, vs, low t.n t.m t.d, rfl, rfl, by omega, fun vs' => .inl ⟨.inl rfl, ?_⟩⟩
    have h1 := len_ins (S := S) (s := low t.n t.m t.d)
    refine lspots_loop T (ins S (low t.n t.m t.d)) vs' _ _ _ (fun z hz => hT z (by simp [hz])) (nodup_ins hn) (by omega) fun S' vs2 o6' o7' o8' n1 n2 n3 => k S' vs2 o6' o7' o8' n1 (fun s => ?_) (by simp only [List.length_cons]; omega)
    rw [n2, mem_ins]
    simp only [List.map_cons, List.mem_cons]
    constructor
    · rintro ((h | h) | h)
      · exact .inl h
      · exact .inr (.inl h)
      · exact .inr (.inr h)
    · rintro (h | h | h)
      · exact .inl (.inl h)
      · exact .inl (.inr h)
      · exact .inr h
theorem raw_len {p q : Li} : (raw p q).length = (p.common q).length := by rw [← raw_low, List.length_map]
theorem lcommons_loop {ps : List Li} {i : Nat} {p : Li} (hi : ps[i]? = some p) (hp : Sml p) {o3 o4 : Option D} {Q : Fl → Sl → Prop} : ∀ (T : List Li) (S : List CLG.Sp) (vs : List D) (o5 o6 o7 o8 : Option D), (∀ q ∈ T, Sml q) → S.Nodup → S.length + 2 * T.length ≤ 100000 →
    (∀ (S' : List CLG.Sp) (vs' : List D) (o5' o6' o7' o8' : Option D), S'.Nodup → (∀ s, s ∈ S' ↔ s ∈ S ∨ ∃ q ∈ T, s ∈ p.common q) → S'.length ≤ S.length + 2 * T.length → Q .nx [some (.tup (ps.map lnD)), some (.kdc (S'.map CLX.spD) vs'), some (.int (i : Nat)), o3, o4, o5', o6', o7', o8']) →
    W (forL (pN 5) (sFor (pT 3 (psC (pN 6) (psC (pN 7) (psC (pN 8) psN)))) (mIt (mCallP CLK.F__law_common (mCons (m2 bIx (mV 0) (mV 2)) (mCons (mV 5) mNil)))) (sStoK 1 (mCallP CLX.F__law_lowest (mCons (mV 6) (mCons (mV 7) (mCons (mV 8) mNil)))) (mC (.bl true)))) (T.map lnD)) [some (.tup (ps.map lnD)), some (.kdc (S.map CLX.spD) vs), some (.int (i : Nat)), o3, o4, o5, o6, o7, o8] Q
  | [], S, vs, o5, o6, o7, o8, _, hn, _, k => W_forNil.mpr (k S vs o5 o6 o7 o8 hn (by simp) (by simp))
  | q :: T, S, vs, o5, o6, o7, o8, hT, hn, hl, k => by
    simp only [List.length_cons] at hl
    have hq := hT q (by simp)
    have E := lcommon_is hp hq
    have hb := (common_bd hp hq).2
    have hr := raw_len (p := p) (q := q)
    have hx : bIx (.tup (ps.map lnD)) (.int (i : Nat)) = some (lnD p) := by
      simp only [bIx]
      exact at_nat (by simp [hi])
    refine W_forCons.mpr ⟨_, rfl, ?_⟩
    refine W_sFor.mpr (W_mIt.mpr (W_mCallP.mpr (W_mCons.mpr (W_m2.mpr (W_mV.mpr ⟨_, rfl, W_mV.mpr ⟨_, rfl, _, hx, W_mCons.mpr (W_mV.mpr ⟨_, rfl, W_mNil.mpr ⟨_, E, _, rfl, ?_⟩⟩)⟩⟩)))))
    refine lspots_loop (raw p q) S vs _ _ _ (raw_bd hp hq) hn (by omega) fun S' vs' o6' o7' o8' n1 n2 n3 => .inl ⟨.inl rfl, ?_⟩
    rw [raw_low] at n2
    refine lcommons_loop hi hp T S' vs' _ _ _ _ (fun z hz => hT z (by simp [hz])) n1 (by omega) fun S2 vs2 o5' o6' o72 o82 m1 m2 m3 => k S2 vs2 o5' o6' o72 o82 m1 (fun s => ?_) (by simp only [List.length_cons]; omega)
    rw [m2, n2]
    simp only [List.mem_cons]
    constructor
    · rintro ((h | h) | ⟨z, hz, h⟩)
      · exact .inl h
      · exact .inr ⟨q, .inl rfl, h⟩
      · exact .inr ⟨z, .inr hz, h⟩
    · rintro (h | ⟨z, rfl | hz, h⟩)
      · exact .inl (.inl h)
      · exact .inl (.inr h)
      · exact .inr ⟨z, hz, h⟩
theorem louter_loop {ps : List Li} (hS : ∀ p ∈ ps, Sml p) (hlen : ps.length ≤ 100) {Q : Fl → Sl → Prop} : ∀ (r pre : List Li) (S : List CLG.Sp) (vs : List D) (o2 o3 o4 o5 o6 o7 o8 : Option D), ps = pre ++ r → S.Nodup → (∀ s, s ∈ S ↔ Kn pre.reverse s) → S.length ≤ 202 * pre.length →
    (∀ (S' : List CLG.Sp) (vs' : List D) (o2' o3' o4' o5' o6' o7' o8' : Option D), S'.Nodup → (∀ s, s ∈ S' ↔ Kn ps.reverse s) → S'.length ≤ 20200 → Q .nx [some (.tup (ps.map lnD)), some (.kdc (S'.map CLX.spD) vs'), o2', o3', o4', o5', o6', o7', o8']) →
    W (forL (pN 2) (sSeq (sFor (pT 2 (psC (pN 3) (psC (pN 4) psN))) (mIt (m2 bIx (mV 0) (mV 2))) (sStoK 1 (mN bTup (mCons (mV 3) (mCons (mV 4) (mCons (mC (.int 1)) mNil)))) (mC (.bl true)))) (sFor (pN 5) (mIt (mSl (mV 0) none (some (mV 2)))) (sFor (pT 3 (psC (pN 6) (psC (pN 7) (psC (pN 8) psN)))) (mIt (mCallP CLK.F__law_common (mCons (m2 bIx (mV 0) (mV 2)) (mCons (mV 5) mNil)))) (sStoK 1 (mCallP CLX.F__law_lowest (mCons (mV 6) (mCons (mV 7) (mCons (mV 8) mNil)))) (mC (.bl true)))))) (intsF pre.length r.length)) [some (.tup (ps.map lnD)), some (.kdc (S.map CLX.spD) vs), o2, o3, o4, o5, o6, o7, o8] Q
  | [], pre, S, vs, o2, o3, o4, o5, o6, o7, o8, e, hn, hs, hl, k => by
    rw [List.append_nil] at e
    subst e
    exact W_forNil.mpr (k S vs o2 o3 o4 o5 o6 o7 o8 hn hs (by omega))
  | p :: r, pre, S, vs, o2, o3, o4, o5, o6, o7, o8, e, hn, hs, hl, k => by
    have hp := hS p (by rw [e]; simp)
    have hpl : pre.length ≤ 100 := by
      have := congrArg List.length e
      simp at this
      omega
    have hi : ps[pre.length]? = some p := by rw [e]; simp
    have hx : bIx (.tup (ps.map lnD)) (.int (pre.length : Nat)) = some (lnD p) := by
      simp only [bIx]
      exact at_nat (by simp [hi])
    rw [List.length_cons, intsF_succ]
    refine W_forCons.mpr ⟨[some (.tup (ps.map lnD)), some (.kdc (S.map CLX.spD) vs), some (.int (pre.length : Nat)), o3, o4, o5, o6, o7, o8], rfl, ?_⟩
    refine W_sSeq.mpr (W_sFor.mpr (W_mIt.mpr (W_m2.mpr (W_mV.mpr ⟨_, rfl, W_mV.mpr ⟨_, rfl, _, hx, [pt p.x p.y, pt p.u p.v], rfl, ?_⟩⟩))))
    refine W_forCons.mpr ⟨_, rfl, sto_sp (W_mC.mpr ⟨_, rfl, ?_⟩)⟩
    walk_at "r"
    refine ⟨S, vs, ⟨p.x, p.y, 1⟩, rfl, rfl, by omega, fun vs1 => .inl ⟨.inl rfl, ?_⟩⟩
    have h1 := len_ins (S := S) (s := ⟨p.x, p.y, 1⟩)
    refine W_forCons.mpr ⟨_, rfl, sto_sp (W_mC.mpr ⟨_, rfl, ?_⟩)⟩
    walk_at "r"
    refine ⟨ins S ⟨p.x, p.y, 1⟩, vs1, ⟨p.u, p.v, 1⟩, rfl, rfl, by omega, fun vs2 => .inl ⟨.inl rfl, ?_⟩⟩
    have h2 := len_ins (S := ins S ⟨p.x, p.y, 1⟩) (s := ⟨p.u, p.v, 1⟩)
    refine W_forNil.mpr (Kq_nx.mpr ?_)
    have hc : cutD (ps.map lnD) none (some (pre.length : Int)) = pre.map lnD := by
      rw [cut_to (by rw [e]; simp), e, List.map_append, List.take_left' (by simp)]
    refine W_sFor.mpr (W_mIt.mpr (W_mSl.mpr (W_mV.mpr ⟨_, rfl, W_mPtN.mpr (W_mPtS.mpr (W_mV.mpr ⟨_, rfl, _, rfl, _, rfl, _, by simp only [itemsOf]; rw [hc], ?_⟩))⟩)))
    refine lcommons_loop hi hp pre _ vs2 _ _ _ _ (fun q hq => hS q (by rw [e]; simp [hq])) (nodup_ins (nodup_ins hn)) (by omega) fun S' vs' o5' o6' o7' o8' n1 n2 n3 => .inl ⟨.inl rfl, ?_⟩
    have hln : (pre ++ [p]).length = pre.length + 1 := by simp
    have := louter_loop hS hlen (Q := Q) r (pre ++ [p]) S' vs' (some (.int (pre.length : Nat))) (some (.int p.u)) (some (.int p.v)) o5' o6' o7' o8' (by rw [e]; simp) n1 (fun s => ?_) (by rw [hln]; omega) k
    · rw [hln] at this
      exact this
    · rw [n2, mem_ins, mem_ins, hs, List.reverse_append]
      simp only [List.reverse_cons, List.reverse_nil, List.nil_append, List.singleton_append, kn_cons, List.mem_reverse]
      constructor
      · rintro (((h | h) | h) | h)
        · exact .inl h
        · exact .inr (.inl (.inl h))
        · exact .inr (.inl (.inr h))
        · exact .inr (.inr h)
      · rintro (h | (h | h) | h)
        · exact .inl (.inl (.inl h))
        · exact .inl (.inl (.inr h))
        · exact .inl (.inr h)
        · exact .inr h
theorem lknots_is {ps : List Li} (hS : ∀ p ∈ ps, Sml p) (hlen : ps.length ≤ 100) : ∃ S : List CLG.Sp, S.Nodup ∧ (∀ s, s ∈ S ↔ Kn ps.reverse s) ∧ S.length ≤ 20200 ∧ lknotsF [.tup (ps.map lnD)] = .ok (.tup ((S.map CLX.spD).mergeSort leD)) := by
  have key : ∃ d, lknotsF [.tup (ps.map lnD)] = .ok d ∧ ∃ S : List CLG.Sp, S.Nodup ∧ (∀ s, s ∈ S ↔ Kn ps.reverse s) ∧ S.length ≤ 20200 ∧ d = .tup ((S.map CLX.spD).mergeSort leD) := by
    refine runP_ex ?_
    unfold lknotsB
    have hr : range1 [.int ((ps.map lnD).length : Nat)] = some (intsF 0 ps.length) := by
      rw [← rangeL_ints, List.length_map]; simp [range1]; omega
    refine W_sSeq.mpr ?_
    walk_at "r"
    refine ⟨_, hr, ?_⟩
    refine louter_loop hS hlen ps [] [] [] _ _ _ _ _ _ _ rfl (by simp) (fun s => by simp [Kn, Ends, Prs]) (by simp) fun S' vs' o2 o3 o4 o5 o6 o7 o8 n1 n2 n3 => ?_
    walk_at "r"
    refine sort_sp ?_
    walk_at "r"
    exact ⟨S', n1, n2, n3, rfl⟩
  obtain ⟨d, e, S, h1, h2, h3, rfl⟩ := key
  exact ⟨S, h1, h2, h3, e⟩
end CLK
namespace CLK
open PySem PySem.Spec L2 CL CLG CLX PySem.W
noncomputable def farLinesB : MS := (sSeq (sAsg (pN 2) (mN bLst mNil)) (sSeq (sFor (pN 3) (mItN range1 (mCons (mV 1) mNil)) (sSeq (sAsg (pN 4) (mComp [5] (pN 5) (mItN range1 (mCons (mC (.int 4)) mNil)) mYes (m2 bSub (mCall drawF (.io 0 :: (.e (m2 bMul (mC (.int 2)) (m2 bPow (mC (.int 10)) (mC (.int 6)))) :: []))) (m2 bPow (mC (.int 10)) (mC (.int 6)))))) (sExp (mApp 2 (mCallP unlikeF (mCons (mN bTup (mCons (m2 bIx (mV 4) (mC (.int 0))) (mCons (m2 bIx (mV 4) (mC (.int 1))) mNil))) (mCons (mN bTup (mCons (m2 bIx (mV 4) (mC (.int 2))) (mCons (m2 bIx (mV 4) (mC (.int 3))) mNil))) mNil))))))) (sRet (mN bTuple (mCons (mV 2) mNil)))))
noncomputable def farLinesF : Fn := runF [DKt, .sh] 4 farLinesB
noncomputable def someLinesB : MS := (sSeq (sAsg (pN 3) (m2 bEq (mCall drawF (.io 0 :: (.e (mC (.int 6)) :: []))) (mC (.int 5)))) (sSeq (sAsg (pN 4) (m2 bEq (mCall drawF (.io 0 :: (.e (mC (.int 8)) :: []))) (mC (.int 5)))) (sSeq (sAsg (pN 5) (m2 bIx (mN bLst (mCons (m2 bAdd (mC (.int 1)) (mCall drawF (.io 0 :: (.e (mV 2) :: [])))) (mCons (mC (.int 12)) mNil))) (mN bInt (mCons (mV 4) mNil)))) (sSeq (sIf (mV 3) (sRet (mCall farLinesF (.io 0 :: (.e (mV 5) :: [])))) (sK .nx)) (sRet (mCall linesF (.io 0 :: (.e (mV 1) :: (.e (mV 5) :: [])))))))))
noncomputable def someLinesF : Fn := runF [DKt, .sh, .sh] 3 someLinesB
local macro_rules | `(tactic| walk_at "o") => `(tactic| ((try simp only [backA, List.set_cons_zero, List.set_cons_succ, wipeD, List.map_cons, List.map_nil, List.cons_append, List.nil_append, List.replicate_succ, List.replicate_zero]); first | done | rfl))
local macro_rules | `(tactic| walk_at "b") => `(tactic| first
  | with_reducible exact Nb.lit
  | ((with_reducible apply Nb.mul) <;> walk_at "b")
  | ((with_reducible apply Nb.add) <;> walk_at "b")
  | ((with_reducible apply Nb.sub) <;> walk_at "b")
  | ((with_reducible apply Nb.neg) <;> walk_at "b")
  | ((with_reducible apply Nb.fdiv) <;> walk_at "b")
  | ((with_reducible apply Nb.fmod); (· walk_at "z"); (· walk_at "b"))
  | ((with_reducible apply Nb.max) <;> walk_at "b")
  | ((with_reducible apply Nb.min) <;> walk_at "b")
  | ((with_reducible apply Nb.ite) <;> walk_at "b")
  | with_reducible assumption
  | with_reducible exact Nb.le (by assumption)
  | with_reducible exact Nb.nle (by assumption)
  | with_reducible exact Nb.lt (by assumption)
  | ((with_reducible apply Nb.rng (by assumption) (by assumption)) <;> walk_at "b")
  | ((with_reducible apply Nb.rngE (by assumption) (by assumption)) <;> walk_at "b")
  | with_reducible exact Nb.self _)
local macro_rules | `(tactic| walk_at "z") => `(tactic| first | decide | assumption | omega | exact fmod_nn (by omega) | exact fmod_lt (by omega))
local macro_rules | `(tactic| walk_at "e") => `(tactic| first
  | ((with_reducible refine is_ev ?_); first
    | ((with_reducible apply mul_st); (· walk_at "b"); (· walk_at "b"); (· rfl))
    | ((with_reducible apply mul_s1); (· walk_at "b"); (· rfl))
    | ((with_reducible apply mul_s2); (· walk_at "b"); (· rfl))
    | ((with_reducible apply div_st); (· walk_at "z"); (· walk_at "b"); (· rfl))
    | ((with_reducible apply mod_st); (· walk_at "z"))
    | with_reducible apply tup_pt
    | with_reducible apply tup_ln
    | ((with_reducible apply tup_st); (· rfl))
    | ((with_reducible apply lst_st); (· rfl))
    | with_reducible apply eqi_st
    | with_reducible apply nei_st
    | with_reducible apply eqp_st
    | with_reducible apply nep_st
    | with_reducible apply eqp_st'
    | with_reducible apply nep_st'
    | with_reducible apply eqb_st
    | with_reducible apply neb_st
    | with_reducible apply isb_st
    | with_reducible apply eqs_st
    | with_reducible apply nes_st
    | with_reducible refine ix2bi (fun _ _ _ => ?_)
    | ((with_reducible refine ix4i ?_ ?_ (fun _ _ _ => ?_)); (· walk_at "z"); (· walk_at "z"))
    | ((with_reducible refine ix2i ?_ ?_ (fun _ _ _ => ?_)); (· walk_at "z"); (· walk_at "z"))
    | ((with_reducible refine ix3i ?_ ?_ (fun _ _ _ => ?_)); (· walk_at "z"); (· walk_at "z"))
    | refine ⟨_, rfl, ?_⟩)
  | ((with_reducible refine fill_st ?_); refine ⟨_, rfl, ?_⟩; (try dsimp only))
  | ((with_reducible apply and_go rfl); (· (intro _; (repeat walk_at "s"); with_reducible exact ⟨rfl, rfl⟩)))
  | ((with_reducible refine is_chain ?_); (apply chain_go rfl); (· (intro _; (repeat walk_at "s"); exact ⟨rfl, rfl⟩)))
  | ((with_reducible refine draw_step (by assumption) ?_ ?_ (fun _ _ _ _ _ => ?_)); (· walk_at "z"); (· walk_at "z"))
  | ((with_reducible refine CLY.draw_step (by assumption) ?_ ?_ (fun _ _ _ _ _ => ?_)); (· walk_at "z"); (· walk_at "z"))
  | ((with_reducible refine is_evA ?_); refine ⟨_, rfl, ?_⟩)
  | ((with_reducible refine is_evL ?_); refine ⟨_, rfl, ?_⟩)
  | ((with_reducible refine is_evI ?_); refine ⟨_, rfl, ?_⟩)
  | ((with_reducible refine is_evR ?_); refine ⟨_, rfl, ?_⟩))
local macro_rules | `(tactic| walk_at "f") => `(tactic| first
  | with_reducible refine W_mV.mpr ?_
  | with_reducible refine W_mCons.mpr ?_
  | with_reducible refine W_m2.mpr ?_
  | with_reducible refine W_mC.mpr ?_
  | with_reducible refine W_mNil.mpr ?_
  | with_reducible refine W_mN.mpr ?_
  | with_reducible refine W_sSeq.mpr ?_
  | with_reducible refine W_sAsg.mpr ?_
  | with_reducible refine W_m1.mpr ?_
  | with_reducible refine W_mCallP.mpr ?_
  | with_reducible refine W_mCall.mpr ?_
  | with_reducible refine X_evI.mpr ?_
  | with_reducible refine X_evE.mpr ?_
  | with_reducible refine X_evN.mpr ?_
  | with_reducible refine X_if ?_
  | with_reducible refine W_sRet.mpr ?_
  | with_reducible refine W_sK.mpr ?_
  | with_reducible refine X_and ?_
  | with_reducible refine X_or ?_
  | with_reducible refine W_sPar.mpr ?_
  | with_reducible refine W_mSl.mpr ?_
  | with_reducible refine W_mPtN.mpr ?_
  | with_reducible refine W_mPtS.mpr ?_
  | with_reducible refine W_mIt.mpr ?_
  | with_reducible refine W_mItN.mpr ?_
  | with_reducible refine W_mComp.mpr ?_
  | ((with_reducible refine is_comp ?_); first | (apply X_compN; (· walk_at "o")) | ((with_reducible apply X_compY); (· walk_at "o"); (· rfl)))
  | with_reducible refine W_sFor.mpr ?_
  | ((with_reducible refine is_for ?_); refine W_forNil.mpr ?_)
  | with_reducible refine X_chain ?_
  | with_reducible refine W_sExp.mpr ?_
  | with_reducible refine W_mL.mpr ?_
  | with_reducible refine X_mif ?_
  | with_reducible refine W_mIxS.mpr ?_
  | with_reducible refine W_mYes.mpr ?_
  | with_reducible refine W_sPar3.mpr ?_
  | with_reducible refine W_mApp.mpr ?_
  | with_reducible refine W_mBor.mpr ?_
  | with_reducible refine CLX.W_sFz.mpr ?_)
local macro_rules | `(tactic| walk_at "s") => `(tactic| first
  | ((with_reducible refine is_W ?_); walk_at "f")
  | ((with_reducible refine is_ex ?_); first
    | ((with_reducible refine is_evS ?_); refine ⟨_, rfl, ?_⟩)
    | ((with_reducible apply call_st); (· with_reducible assumption))
    | with_reducible refine ⟨_, by with_reducible assumption, ?_⟩
    | walk_at "e")
  | ((with_reducible apply X_nx); (· walk_at "o"))
  | with_reducible refine Kq_ret.mpr ?_
  | with_reducible refine Kq_brk.mpr ?_
  | with_reducible refine Kq_cnt.mpr ?_
  | ((with_reducible apply X_fnx); (· walk_at "o"))
  | ((with_reducible apply X_fcnt); (· walk_at "o"))
  | with_reducible refine X_fbrk ?_
  | with_reducible refine X_fret ?_
  | ((with_reducible refine is_ltA ?_); refine ⟨?_, ?_⟩; (· first | decide | omega | (simp; omega) | (simp; done)))
  | with_reducible refine parW_mk.mpr ?_
  | with_reducible refine par3W_mk.mpr ?_)
local macro_rules | `(tactic| walk_at "r") => `(tactic| repeat walk_at "s")
local macro_rules | `(tactic| walk_at "u") => `(tactic| first | ((apply X_forC); (· walk_at "o"); (· rfl)) | ((apply X_compY); (· walk_at "o"); (· rfl)) | ((apply X_compC); (· walk_at "o"); (· rfl)))
local macro_rules | `(tactic| walk_at "g") => `(tactic| repeat first | walk_at "s" | (with_reducible refine go_ifF (rfl : _ = false) ?_) | (with_reducible refine go_ifT (rfl : _ = true) ?_) | (refine go_ifF (rfl : _ = false) ?_) | (refine go_ifT (rfl : _ = true) ?_) | walk_at "u")
theorem wtEL_sp : ∀ {l : List D}, (∀ x ∈ l, ∃ s, x = CLX.spD s) → D.wtEL l = 4 * l.length
  | [], _ => rfl
  | x :: l, h => by
    obtain ⟨s, rfl⟩ := h x (by simp)
    rw [D.wtEL, wtEL_sp fun y hy => h y (by simp [hy])]
    simp [CLX.spD, D.wtE, D.wtEL]
    omega
theorem kn_bd : ∀ {l : List Li}, (∀ p ∈ l, Sml p) → ∀ s, Kn l s → SpB s
  | [], _, s, h => by simp [Kn, Ends, Prs] at h
  | p :: l, h, s, hs => by
    have hp := h p (by simp)
    have hl : ∀ q ∈ l, Sml q := fun q hq => h q (by simp [hq])
    rcases kn_cons.mp hs with hs | hs | ⟨q, hq, hs⟩
    · exact kn_bd hl s hs
    · rcases hs with rfl | rfl
      · exact ⟨(Nb.le hp.x).mono (by decide), (Nb.le hp.y).mono (by decide), (Nb.lit (n := 1)).mono (by decide)⟩
      · exact ⟨(Nb.le hp.u).mono (by decide), (Nb.le hp.v).mono (by decide), (Nb.lit (n := 1)).mono (by decide)⟩
    · exact (common_bd hp (hl q hq)).1 s hs
theorem knots_gd {S : List CLG.Sp} (h : ∀ s ∈ S, SpB s) (hl : S.length ≤ 20200) : D.gd 200 2 (.tup ((S.map CLX.spD).mergeSort leD)) = true ∧ (D.tup ((S.map CLX.spD).mergeSort leD)).wtE ≤ 100000 := by
  have hm : ∀ x ∈ (S.map CLX.spD).mergeSort leD, ∃ s ∈ S, x = CLX.spD s := fun x hx => by
    obtain ⟨s, hs, rfl⟩ := List.mem_map.mp ((List.mergeSort_perm _ leD).mem_iff.mp hx)
    exact ⟨s, hs, rfl⟩
  constructor
  · simp only [D.gd]
    refine gdL_iff.mpr fun x hx => ?_
    obtain ⟨s, hs, rfl⟩ := hm x hx
    obtain ⟨a, b, c⟩ := h s hs
    simp only [CLX.spD, D.gd, D.gdL, Bool.and_eq_true, decide_eq_true_eq]
    exact ⟨a, b, c, trivial⟩
  · simp only [D.wtE]
    rw [wtEL_sp fun x hx => (hm x hx).imp fun _ h => h.2, (List.mergeSort_perm _ leD).length_eq, List.length_map]
    omega
theorem sml_rev {p : Li} (h : Sml p) : Sml p.rev := ⟨h.u, h.v, h.x, h.y⟩
theorem ok_rev {p : Li} (h : p.ok) : p.rev.ok := fun z => h ⟨z.1.symm, z.2.symm⟩
theorem knots_all {ps : List Li} (hS : ∀ p ∈ ps, Sml p ∧ p.ok) (hlen : ps.length ≤ 100) : ∃ K s, lknotsF [.tup (ps.map lnD)] = .ok K ∧ knotsF [.tup (ps.map lnD)] = .ok K ∧ knotsF [.tup ((ps.reverse.map Li.rev).map lnD)] = .ok K ∧ bReprE [K] = some (.str s) := by
  obtain ⟨S, a1, a2, a3, a4⟩ := knots_is (fun p hp => (hS p hp).1) hlen
  obtain ⟨T, b1, b2, b3, b4⟩ := lknots_is (fun p hp => (hS p hp).1) hlen
  obtain ⟨U, c1, c2, c3, c4⟩ := knots_is (ps := ps.reverse.map Li.rev) (fun p hp => by
    obtain ⟨q, hq, rfl⟩ := List.mem_map.mp hp
    exact sml_rev (hS q (List.mem_reverse.mp hq)).1) (by simpa using hlen)
  obtain ⟨g, w⟩ := knots_gd (S := S) (fun s hs => kn_bd (fun p hp => (hS p (List.mem_reverse.mp hp)).1) s ((a2 s).mp hs)) a3
  refine ⟨_, _, ?_, a4, ?_, repr_gd g (by decide) (by decide) w⟩
  · rw [b4, sp_sort b1 a1 fun s => by rw [b2, a2]]
  · rw [c4, sp_sort c1 a1 fun s => by
      rw [c2, a2, kn_rev (fun p hp => by
        obtain ⟨q, hq, rfl⟩ := List.mem_map.mp hp
        exact ok_rev (hS q (List.mem_reverse.mp hq)).2), kn_back fun p hp => (hS p (List.mem_reverse.mp hp)).2]]
theorem far_loop {o1 : Option D} {Q : Fl → Sl → Prop} : ∀ (xs : List D) (dk : D) (ls : List D) (o3 o4 : Option D), Deck dk → (∀ d ∈ ls, Ln 1000001 d) → ls.length + xs.length ≤ 1000000 →
    (∀ dk' ls' o3' o4', Deck dk' → (∀ d ∈ ls', Ln 1000001 d) → ls'.length = ls.length + xs.length → Q .nx [some dk', o1, some (.lst ls'), o3', o4', none]) →
    W (forL (pN 3) (sSeq (sAsg (pN 4) (mComp [5] (pN 5) (mItN range1 (mCons (mC (.int 4)) mNil)) mYes (m2 bSub (mCall drawF (.io 0 :: (.e (m2 bMul (mC (.int 2)) (m2 bPow (mC (.int 10)) (mC (.int 6)))) :: []))) (m2 bPow (mC (.int 10)) (mC (.int 6)))))) (sExp (mApp 2 (mCallP unlikeF (mCons (mN bTup (mCons (m2 bIx (mV 4) (mC (.int 0))) (mCons (m2 bIx (mV 4) (mC (.int 1))) mNil))) (mCons (mN bTup (mCons (m2 bIx (mV 4) (mC (.int 2))) (mCons (m2 bIx (mV 4) (mC (.int 3))) mNil))) mNil)))))) xs) [some dk, o1, some (.lst ls), o3, o4, none] Q
  | [], dk, ls, o3, o4, hd, hl, _, k => W_forNil.mpr (k dk ls o3 o4 hd hl (by simp))
  | x :: xs, dk, ls, o3, o4, hd, hl, hn, k => by
    simp only [List.length_cons] at hn
    refine W_forCons.mpr ⟨_, rfl, ?_⟩
    walk_at "r"
    rw [show rangeL 0 4 = [.int 0, .int 1, .int 2, .int 3] from rfl]
    walk_at "r"
    rename_i r1 _ a1 b1 _ r2 _ a2 b2 _ r3 _ a3 b3 _ r4 dk4 a4 b4 hd4 x1 c1 _ x2 c2 _ x3 c3 _ x4 c4 _
    have e6 : (10 : Int) ^ Int.toNat 6 = 1000000 := by decide
    rw [e6] at b1 b2 b3 b4 c1 c2 c3 c4
    have bd : ∀ z : Int, (z = r1 - 1000000 ∨ z = r2 - 1000000 ∨ z = r3 - 1000000 ∨ z = r4 - 1000000) → z.natAbs ≤ 1000000 := fun z h => by omega
    obtain ⟨d, e, hl'⟩ := unlike_ok (x := x1) (y := x2) (u := x3) (v := x4) (B := 1000001) (by have := bd _ c1; omega) (by have := bd _ c2; omega) (by have := bd _ c3; omega) (by have := bd _ c4; omega)
    refine ⟨d, e, ls, rfl, by omega, .inl ⟨.inl rfl, ?_⟩⟩
    refine far_loop xs dk4 (ls ++ [d]) _ _ hd4 (fun y hy => ?_) (by simp; omega) fun dk' ls' o3' o4' h1 h2 h3 => k dk' ls' o3' o4' h1 h2 (by rw [h3]; simp; omega)
    rcases List.mem_append.mp hy with hy | hy
    · exact hl y hy
    · rw [List.mem_singleton.mp hy]; exact hl'
theorem far_step {dk : D} {n : Int} {Q : D → List D → Prop} (hd : Deck dk) (n0 : 0 ≤ n) (n1 : n ≤ 100000) (k : ∀ ls dk', (∀ d ∈ ls, Ln 1000001 d) → (ls.length : Int) = n → Deck dk' → Q (.tup ls) [dk', .int n]) : ∃ r out, farLinesF [dk, .int n] = .ok (r, out) ∧ Q r out := by
  refine runF_ex ?_
  unfold farLinesB
  walk_at "r"
  have hr : range1 [.int n] = some (rangeL 0 n) := by simp [range1]; omega
  refine ⟨_, hr, ?_⟩
  have hlen : ((rangeL 0 n).length : Int) = n := by simp [rangeL]; omega
  refine far_loop _ dk [] _ _ hd (by simp) (by simp; omega) fun dk' ls' o3' o4' a b c => ?_
  walk_at "r"
  refine ⟨_, _, rfl, rfl, ?_⟩
  exact k _ _ b (by rw [c]; simpa using hlen) a
theorem lns {B : Nat} (hB : B ≤ 10000000) : ∀ {ls : List D}, (∀ d ∈ ls, Ln B d) → ∃ ps : List Li, ls = ps.map lnD ∧ ∀ p ∈ ps, Sml p ∧ p.ok
  | [], _ => ⟨[], rfl, by simp⟩
  | d :: ls, h => by
    obtain ⟨x, y, u, v, rfl, h1, h2, h3, h4, h5⟩ := h d (by simp)
    obtain ⟨ps, rfl, hp⟩ := lns hB (ls := ls) fun z hz => h z (by simp [hz])
    refine ⟨⟨x, y, u, v⟩ :: ps, rfl, fun p hp' => ?_⟩
    rcases List.mem_cons.mp hp' with rfl | hp'
    · exact ⟨⟨Nat.le_trans h1 hB, Nat.le_trans h2 hB, Nat.le_trans h3 hB, Nat.le_trans h4 hB⟩, h5⟩
    · exact hp p hp'
theorem some_lines {dk : D} {g n : Int} {Q : D → List D → Prop} (hd : Deck dk) (g0 : 0 < g) (g1 : g ≤ 1000) (n0 : 0 < n) (n1 : n ≤ 12) (k : ∀ (ps : List Li) dk', (∀ p ∈ ps, Sml p ∧ p.ok) → ps.length ≤ 12 → 0 < ps.length → Deck dk' → Q (.tup (ps.map lnD)) [dk', .int g, .int n]) : ∃ r out, someLinesF [dk, .int g, .int n] = .ok (r, out) ∧ Q r out := by
  refine runF_ex ?_
  unfold someLinesB
  walk_at "r"
  rename_i r1 _ _ _ _ r2 _ _ _ _ r3 dk3 a3 b3 hd3 m hm _
  have hm' : 0 < m ∧ m ≤ 12 := by
    rw [hm]
    split <;> omega
  refine go_if (fun _ => ?_) fun _ => ?_
  · walk_at "r"
    refine far_step hd3 (by omega) (by omega) fun ls dk' hl hn hd' => ?_
    obtain ⟨ps, rfl, hp⟩ := lns (by decide) hl
    rw [List.length_map] at hn
    walk_at "r"
    exact ⟨_, _, rfl, rfl, k ps _ hp (by omega) (by omega) hd'⟩
  · walk_at "r"
    refine CL.lines_step hd3 g0 g1 (by omega) (by omega) fun ls dk' hl hn hd' => ?_
    obtain ⟨ps, rfl, hp⟩ := lns (by omega) hl
    rw [List.length_map] at hn
    walk_at "r"
    exact ⟨_, _, rfl, rfl, k ps _ hp (by omega) (by omega) hd'⟩
end CLK
namespace CLE
open PySem PySem.Spec L2 CL CLG CLX PySem.W PyProof.Rows
/-- plain things as keys -/
structure KEnc {α : Type} (f : α → D) where
  nk : α → NestedKey
  nk_eq : ∀ a, D.nk (f a) = some (nk a)
  key : ∀ a, CL.keyOf (f a) = some (nk a)
  inj : ∀ a b, nk a = nk b → a = b
  toks : ∀ a b, keyToks (f a).py = keyToks (f b).py → a = b
  ok : ∀ a, D.okB 58 (f a) = true
  non : ∀ a, (f a).isNon = false
  alike : ∀ a b, alike (f a).py (f b).py = true
  some : ∀ a, ∃ x l, f a = .tup (x :: l)
section
variable {α : Type} [DecidableEq α] {f : α → D} (E : KEnc f)
include E
theorem f_inj {a b : α} (h : f a = f b) : a = b := E.toks a b (by rw [h])
theorem nkL_e : ∀ {S : List α}, D.nkL (S.map f) = some (S.map E.nk)
  | [] => rfl
  | s :: S => by simp only [List.map_cons, D.nkL, E.nk_eq, nkL_e (S := S)]
theorem nk_mem {s : α} {S : List α} : E.nk s ∈ S.map E.nk ↔ s ∈ S := by
  constructor
  · intro h
    obtain ⟨t, ht, e⟩ := List.mem_map.mp h
    rw [← E.inj _ _ e]; exact ht
  · exact fun h => List.mem_map_of_mem h
omit E in
def ins (S : List α) (s : α) : List α := if s ∈ S then S else S ++ [s]
omit E in
theorem mem_ins {S : List α} {s t : α} : t ∈ ins S s ↔ t ∈ S ∨ t = s := by
  unfold ins
  split
  · rename_i h
    exact ⟨.inl, fun z => z.elim id fun e => e ▸ h⟩
  · simp
omit E in
theorem nodup_ins {S : List α} {s : α} (h : S.Nodup) : (ins S s).Nodup := by
  unfold ins
  split
  · exact h
  · rename_i n
    rw [List.nodup_append]
    exact ⟨h, by simp, fun a ha b hb => by rw [List.mem_singleton.mp hb]; exact fun e => n (e ▸ ha)⟩
omit E in
theorem len_ins {S : List α} {s : α} : (ins S s).length ≤ S.length + 1 := by
  unfold ins
  split <;> simp
theorem kput_e {S : List α} {vs : List D} {s : α} {v : D} : ∃ vs', kput (S.map f) vs (S.map E.nk) (f s) (E.nk s) v = .kdc ((ins S s).map f) vs' := by
  unfold kput ins
  by_cases h : s ∈ S
  · rw [if_pos ((nk_mem E).mpr h), if_pos h]; exact ⟨_, rfl⟩
  · rw [if_neg (fun z => h ((nk_mem E).mp z)), if_neg h]; exact ⟨_, by rw [List.map_append]; rfl⟩
/-- a thing is put in -/
theorem sto_e {i : Nat} {mi m : M D} {ρ : Sl} {Q : Fl → Sl → Prop} (h : W m ρ fun _ ρ1 => ∃ d0, ρ1[i]? = some (some d0) ∧ W mi ρ1 fun kd ρ3 => ∃ S vs s, ρ3[i]? = some (some (.kdc (S.map f) vs)) ∧ kd = f s ∧ S.length < 16777216 ∧ ∀ vs', Q .nx (ρ3.set i (some (.kdc ((ins S s).map f) vs')))) : W (sStoK i mi m) ρ Q := by
  refine W_sStoK.mpr (h.mono fun d ρ1 ⟨d0, h0, h1⟩ => W_mV.mpr ⟨d0, h0, h1.mono fun kd ρ3 ⟨S, vs, s, h2, h3, h4, h5⟩ => ?_⟩)
  subst h3
  obtain ⟨vs', e⟩ := kput_e E (S := S) (vs := vs) (s := s) (v := d)
  exact ⟨_, _, _, _, h2, E.key s, nkL_e E, by simpa using h4, by rw [e]; exact h5 vs'⟩
theorem e_sort {S T : List α} (nS : S.Nodup) (nT : T.Nodup) (h : ∀ s, s ∈ S ↔ s ∈ T) : (S.map f).mergeSort leD = (T.map f).mergeSort leD := by
  have nd : ∀ {U : List α}, U.Nodup → (U.map f).Nodup := fun hU => List.Pairwise.map _ (fun _ _ n e => n (f_inj E e)) hU
  refine CLK.sort_eq (nd nS) (nd nT) (fun x => ?_) fun a ha b hb e => ?_
  · simp only [List.mem_map]
    constructor
    · rintro ⟨s, hs, rfl⟩; exact ⟨s, (h s).mp hs, rfl⟩
    · rintro ⟨s, hs, rfl⟩; exact ⟨s, (h s).mpr hs, rfl⟩
  · obtain ⟨s, _, rfl⟩ := List.mem_map.mp ha
    obtain ⟨t, _, rfl⟩ := List.mem_map.mp hb
    rw [E.toks _ _ e]
theorem dok_e {S : List α} : (dataOk (S.map f) && sortB (S.map f)) = true := by
  rw [Bool.and_eq_true]
  constructor
  · have h1 : ∀ U : List α, D.okL 58 (U.map f) = true := fun U => by
      induction U with
      | nil => simp [D.okL]
      | cons s U ih => simp only [List.map_cons, D.okL, ih, Bool.and_true]; exact E.ok s
    simp only [dataOk, Bool.and_eq_true, List.all_eq_true]
    refine ⟨⟨h1 S, fun a ha b hb => ?_⟩, fun a ha => ?_⟩
    · obtain ⟨s, _, rfl⟩ := List.mem_map.mp ha
      obtain ⟨t, _, rfl⟩ := List.mem_map.mp hb
      exact E.alike s t
    · obtain ⟨s, _, rfl⟩ := List.mem_map.mp ha
      rw [E.non s]; rfl
  · simp only [sortB, Bool.or_eq_true]
    left
    rw [List.all_eq_true]
    intro d hd
    obtain ⟨s, _, rfl⟩ := List.mem_map.mp hd
    obtain ⟨x, l, e⟩ := E.some s
    rw [e]
theorem sortK_e {S : List α} {vs : List D} {P : List D → Prop} (k : P ((S.map f).mergeSort leD)) : ∃ l, sortDK [.kdc (S.map f) vs] = some l ∧ P l := ⟨_, by simp only [sortDK]; rw [if_pos (dok_e E)], k⟩
end
end CLE
namespace CL
open PySem PySem.Spec L2 PySem.W PyProof.Rows
set_option autoImplicit false
def bReprF : List D → Option D
  | [d] => if D.okE 60 d = true ∧ d.shownE.length ≤ 16777216 then some (.str d.shownE) else none
  | _ => none
theorem c_reprF [Tb] {X : Cx} (hu : X.A.units + 64 < cLine) (hg : X.A.guards = some []) : CallR X (.builtin "repr") (rFn X.K bReprF) := by
  intro pins s σ H xs us Q I r h
  obtain ⟨Z, ds, d, pl, e, k⟩ := h
  unfold bReprF at e
  split at e
  · rename_i c
    split at e
    · rename_i ho
      cases e
      obtain ⟨v, rfl, p⟩ := pl.one
      obtain ⟨u, rfl, ru⟩ := r.one
      have rd := p.rdE I ho.1 ru
      have kk : Q (.str c.pyE.shown) H := fin0 (by simp only [RSh]; rfl) k
      obtain ⟨sh1, l2, sh2⟩ := shownE_le 60 c ho.1
      have hsz : c.pyE.shown.length ≤ sizeLine := by rw [szL]; exact ho.2
      have ref : ∀ a, u = .ref a → wpAny (model X.prog X.w) X.A (call (.builtin "repr") [u]) (EP X pins σ Q) X.xe s := fun a e => by
        subst e
        exact rd.repr sh1 hsz hg (by omega) (fun h' t tk hk => ⟨.str _, H, I.kept hk, ⟨_, rfl⟩, kk⟩)
      cases c with
      | non =>
        rw [p.non] at ru
        have ru : u = Value.none := ru
        subst ru
        simp only [D.pyE, PyData.shown] at kk
        exact PySem.P.repr_of_none ⟨.str _, H, I.tok _, ⟨_, rfl⟩, kk⟩
      | bl b =>
        rw [p.bl] at ru
        have ru : u = Value.bool b := ru
        subst ru
        simp only [D.pyE, PyData.shown] at kk
        refine PySem.P.repr_of_bool ⟨.str _, H, I.tok _, ⟨_, rfl⟩, ?_⟩
        cases b <;> exact kk
      | int i =>
        rw [p.int] at ru
        obtain ⟨t, rfl⟩ := ru
        simp only [D.pyE, PyData.shown] at kk
        have hi := sh1
        simp only [D.pyE, PyData.showable, decide_eq_true_eq] at hi
        exact PySem.P.repr_of_int hi ⟨.str _, H, I.tok _, ⟨_, rfl⟩, kk⟩
      | str z =>
        rw [p.str] at ru
        obtain ⟨t, rfl⟩ := ru
        simp only [D.pyE, PyData.shown] at kk hsz
        exact PySem.P.repr_of_str ⟨.str _, H, I.tok _, ⟨_, rfl⟩, kk⟩ hsz
      | tup l =>
        obtain ⟨a, ys, rfl, _⟩ := p.tup
        exact ref a ru
      | lst l =>
        obtain ⟨a, ys, rfl, _⟩ := p.lst
        exact ref a ru
      | scr l => simp [D.okE] at ho
      | dct ks vs =>
        rcases p with p | ⟨_, _, _, e, _⟩
        · simp only [RSh] at p
          obtain ⟨a, kvs, rfl, _⟩ := p
          exact ref a ru
        · cases e
      | kdc _ _ => simp [D.okE] at ho
      | ins _ _ _ => simp [D.okE] at ho
    · cases e
  · cases e
end CL
namespace CLN
open PySem CL CLG CLX CLE
end CLN
namespace CL
open PySem PySem.Spec L2 PySem.W PyProof.Rows
theorem reprF_gd {b n : Nat} {d : D} (h : D.gd b n d = true) (hb : b ≤ 400) (hn : n ≤ 60) (hw : d.wtE ≤ 100000) : bReprF [d] = some (.str d.shownE) := by
  have ho := gd_okE hb 60 d (gd_mono (Nat.le_refl _) d hn h)
  obtain ⟨_, _, h3⟩ := shownE_le 60 d ho
  simp only [bReprF]
  rw [if_pos ⟨ho, by unfold D.shownE; omega⟩]
theorem wtEL_map {α : Type} {f : α → D} {k : Nat} : ∀ {l : List α}, (∀ a ∈ l, (f a).wtE ≤ k) → D.wtEL (l.map f) ≤ k * l.length
  | [], _ => by simp [D.wtEL]
  | a :: l, h => by
    have h1 := h a (by simp)
    have h2 := wtEL_map (l := l) fun b hb => h b (by simp [hb])
    simp only [List.map_cons, D.wtEL, List.length_cons, Nat.mul_succ]
    omega
end CL
namespace CLN
open PySem CL CLG CLX CLE
end CLN
namespace CL
open PySem PySem.Spec L2
section
variable [Tb] {X : Cx} {τ : Nat → OT} {q q1 q2 : Bool} {md1 md2 : Md} {a b : Expr} {ma mb : M D} {pos : Pos}
theorem e_repO (ha : PE X a (tE X.K τ q1 md1 ma)) (hb : PE X b (tE X.K τ q2 md2 mb)) (hm1 : Hand md1 := by trivial) (hm2 : Hand md2 := by trivial) (hq : md1 = .sh ∨ q2 = true := by first | exact .inl rfl | exact .inr rfl) :
    PE X (.BinOp a .Mult b pos) (tE X.K τ (q1 && q2) (.ow (.ol .sh .sh)) (m2 bRep ma mb)) := (pe_op op_rep ha hb).mono fun σ H Q ⟨Z, own, ρ, d, ρ', rs, e, k⟩ => by
  obtain ⟨x, ρ1, e1, e⟩ := bind_ok e
  obtain ⟨y, ρ2, e2, e⟩ := bind_ok e
  obtain ⟨e3, rfl⟩ := ofO_ok e
  refine ⟨Z, own, ρ, x, ρ1, rs, e1, fun v Z1 own1 H1 S1 rs1 rm1 _ x1 => ⟨Z1, own1, ρ1, y, ρ', rs1, e2, fun w Z2 own2 H2 S2 rs2 rm2 _ x2 => ?_⟩⟩
  unfold bRep at e3
  split at e3
  · rename_i l j _
    split at e3
    · rename_i hl
      cases e3
      obtain ⟨a, xs, rfl, s1, l1⟩ := (rs1.pk0 x2 hm1 hq rm1).lst
      have hj := (rm2.pk0 hm2).int
      subst hj
      exact ⟨a, j, xs, rfl, rfl, s1, hl.1.1, hl.1.2, by rw [← l1.len, szL]; exact hl.2, fun p hp => fin_ol rs2 (x1.trans x2) hp ((Grow.new hp).shL (rep_rel l1 _)) k⟩
    · cases e3
  · cases e3
end
end CL
namespace CLR
/-- how many lie ahead is the place in the rising row -/
theorem count_idx {α : Type} {f : α → Rat} : ∀ {R : List α} {i : Nat} {x : α}, R.Pairwise (fun a b => f a < f b) → R[i]? = some x → (R.filter fun y => decide (f y < f x)).length = i
  | [], i, x, _, h => by simp at h
  | a :: R, 0, x, hp, h => by
    simp only [List.getElem?_cons_zero, Option.some.injEq] at h
    subst h
    obtain ⟨h1, _⟩ := List.pairwise_cons.mp hp
    rw [List.length_eq_zero_iff, List.filter_eq_nil_iff]
    intro y hy
    rcases List.mem_cons.mp hy with rfl | hy
    · simp [Rat.lt_irrefl]
    · have := h1 y hy
      simp only [decide_eq_true_eq]
      exact fun hlt => by grind
  | a :: R, i + 1, x, hp, h => by
    obtain ⟨h1, h2⟩ := List.pairwise_cons.mp hp
    have h : R[i]? = some x := by simpa using h
    have hx := h1 x (List.mem_of_getElem? h)
    rw [List.filter_cons, if_pos (by simpa using hx), List.length_cons, count_idx h2 h]
/-- each put at its place -/
def place {α β : Type} (g : α → β) (c : α → Nat) : List α → List β → List β
  | [], A => A
  | x :: L, A => place g c L (A.set (c x) (g x))
theorem place_get {α β : Type} {g : α → β} {c : α → Nat} {R : List α} (hu : ∀ (i j : Nat) (y : α), R[i]? = some y → R[j]? = some y → i = j) : ∀ {L : List α} {A : List β}, A.length = R.length → (∀ x ∈ L, R[c x]? = some x) → (∀ (i : Nat) (y : α), R[i]? = some y → A[i]? = some (g y) ∨ y ∈ L) → place g c L A = R.map g
  | [], A, hl, hc, h => by
    refine List.ext_getElem? fun i => ?_
    show A[i]? = _
    rw [List.getElem?_map]
    by_cases hi : i < R.length
    · have e : R[i]? = some R[i] := List.getElem?_eq_getElem hi
      rw [e]
      exact (h i _ e).elim id (fun z => by cases z)
    · rw [List.getElem?_eq_none (by omega), List.getElem?_eq_none (by omega)]; rfl
  | x :: L, A, hl, hc, h => by
    refine place_get hu (L := L) (by simpa using hl) (fun y hy => hc y (by simp [hy])) fun i y hy => ?_
    have hx := hc x (by simp)
    by_cases e : c x = i
    · subst e
      rw [hx] at hy
      cases hy
      left
      have : c x < R.length := (List.getElem?_eq_some_iff.mp hx).1
      simp [List.getElem?_set, hl, this]
    · rcases h i y hy with h1 | h1
      · left
        rw [List.getElem?_set_ne e]; exact h1
      · rcases List.mem_cons.mp h1 with rfl | h1
        · exact absurd (hu _ _ _ hx hy) e
        · exact .inr h1
end CLR
namespace CLR
open PySem CL CLG
/-- as the program looks -/
def onB (p : Li) (s : Sp) : Bool := decide ((p.u - p.x) * (s.m - p.y * s.d) = (p.v - p.y) * (s.n - p.x * s.d)) && (decide (min p.x p.u * s.d ≤ s.n ∧ s.n ≤ max p.x p.u * s.d) && decide (min p.y p.v * s.d ≤ s.m ∧ s.m ≤ max p.y p.v * s.d))
theorem betw {a b n d : Int} (d0 : 0 < d) : (min a b * d ≤ n ∧ n ≤ max a b * d) ↔ (0 ≤ n - a * d ∧ n - a * d ≤ (b - a) * d) ∨ (n - a * d ≤ 0 ∧ (b - a) * d ≤ n - a * d) := by
  have e : (b - a) * d = b * d - a * d := Int.sub_mul _ _ _
  rw [e]
  rcases Int.le_total a b with h | h
  · have := Int.mul_le_mul_of_nonneg_right h (Int.le_of_lt d0)
    rw [Int.min_eq_left h, Int.max_eq_right h]
    omega
  · have := Int.mul_le_mul_of_nonneg_right h (Int.le_of_lt d0)
    rw [Int.min_eq_right h, Int.max_eq_left h]
    omega
theorem on_of {p : Li} {s : Sp} (op : p.ok) (d0 : 0 < s.d) (h : onB p s = true) : On p s (share p s).1 (share p s).2 := by
  simp only [onB, Bool.and_eq_true, decide_eq_true_eq] at h
  obtain ⟨ht, hx, hy⟩ := h
  rw [betw d0] at hx hy
  have key : ∀ k m : Int, (k, m) = share0 p s → m ≠ 0 ∧ (p.x * m + k * (p.u - p.x)) * s.d = s.n * m ∧ (p.y * m + k * (p.v - p.y)) * s.d = s.m * m ∧ ((0 ≤ k ∧ k ≤ m) ∨ (k ≤ 0 ∧ m ≤ k)) := fun k m e => by
    unfold share0 at e
    split at e
    · rename_i h0
      cases e
      have hv : p.v - p.y ≠ 0 := fun h1 => op ⟨by omega, by omega⟩
      refine ⟨Int.mul_ne_zero hv (by omega), ?_, by grind, hy⟩
      rw [h0] at ht
      have : s.n - p.x * s.d = 0 := by
        rcases Int.mul_eq_zero.mp (show (p.v - p.y) * (s.n - p.x * s.d) = 0 by rw [← ht]; simp) with h1 | h1
        · exact absurd h1 hv
        · exact h1
      grind
    · rename_i h0
      cases e
      refine ⟨Int.mul_ne_zero h0 (by omega), by grind, by grind, hx⟩
  obtain ⟨k1, k2, k3, k4⟩ := key (share0 p s).1 (share0 p s).2 rfl
  unfold share
  generalize share0 p s = z at *
  by_cases hm : z.2 < 0
  · rw [if_pos hm]
    refine ⟨by simp only; omega, by simp only; omega, by simp only; omega, ?_, ?_⟩ <;> simp only <;> grind
  · rw [if_neg hm]
    exact ⟨by omega, by omega, by omega, k2, k3⟩
theorem of_on {p : Li} {s : Sp} {K M : Int} (d0 : 0 < s.d) (h : On p s K M) : onB p s = true := by
  obtain ⟨m0, k0, k1, hx, hy⟩ := h
  have bx : ∀ a b n : Int, (a * M + K * (b - a)) * s.d = n * M → min a b * s.d ≤ n ∧ n ≤ max a b * s.d := fun a b n e => by
    rw [betw d0]
    have e1 : (n - a * s.d) * M = K * ((b - a) * s.d) := by grind
    have sgn : ∀ {x y : Int}, x * M ≤ y * M → x ≤ y := fun h => Int.le_of_mul_le_mul_right h m0
    rcases Int.le_total a b with hab | hab
    · left
      have h0 : 0 ≤ (b - a) * s.d := Int.mul_nonneg (by omega) (by omega)
      have h1 := Int.mul_nonneg k0 h0
      have h2 := Int.mul_le_mul_of_nonneg_right k1 h0
      exact ⟨sgn (by rw [Int.zero_mul, e1]; exact h1), sgn (by rw [e1, Int.mul_comm ((b - a) * s.d) M]; exact h2)⟩
    · right
      have h0 : 0 ≤ (a - b) * s.d := Int.mul_nonneg (by omega) (by omega)
      have h1 := Int.mul_nonneg k0 h0
      have h2 := Int.mul_le_mul_of_nonneg_right k1 h0
      have e2 : (b - a) * s.d = -((a - b) * s.d) := by grind
      rw [e2] at e1 ⊢
      exact ⟨sgn (by rw [Int.zero_mul, e1, Int.mul_neg]; omega), sgn (by rw [e1, Int.mul_neg, Int.neg_mul, Int.mul_comm ((a - b) * s.d) M]; omega)⟩
  simp only [onB, Bool.and_eq_true, decide_eq_true_eq]
  refine ⟨?_, bx _ _ _ hx, bx _ _ _ hy⟩
  refine Int.eq_of_mul_eq_mul_right (Int.ne_of_gt m0) ?_
  grind
theorem on_uniq {p : Li} {s : Sp} {K M k m : Int} (op : p.ok) (d0 : 0 < s.d) (h : On p s K M) (h' : On p s k m) : K * m = k * M := by
  obtain ⟨m0, _, _, hx, hy⟩ := h
  obtain ⟨n0, _, _, gx, gy⟩ := h'
  have ex : (K * m - k * M) * ((p.u - p.x) * s.d) = 0 := by grind
  have ey : (K * m - k * M) * ((p.v - p.y) * s.d) = 0 := by grind
  have : K * m - k * M = 0 := by
    rcases Int.mul_eq_zero.mp ex with h1 | h1
    · exact h1
    · rcases Int.mul_eq_zero.mp ey with h2 | h2
      · exact h2
      · refine absurd ⟨?_, ?_⟩ op
        · rcases Int.mul_eq_zero.mp h1 with h | h <;> omega
        · rcases Int.mul_eq_zero.mp h2 with h | h <;> omega
  omega
/-- how far along, as the law reckons it -/
def onw (p : Li) (s : Sp) : Int := (p.u - p.x) * (s.n - p.x * s.d) + (p.v - p.y) * (s.m - p.y * s.d)
def w2 (p : Li) : Int := (p.u - p.x) * (p.u - p.x) + (p.v - p.y) * (p.v - p.y)
theorem sq_nn (a : Int) : 0 ≤ a * a := by
  rcases Int.le_total 0 a with h | h
  · exact Int.mul_nonneg h h
  · have := Int.mul_nonneg (show 0 ≤ -a by omega) (show 0 ≤ -a by omega)
    rwa [Int.neg_mul_neg] at this
theorem sq_pos {a : Int} (h : a ≠ 0) : 0 < a * a := by
  have h1 := sq_nn a
  have h2 : a * a ≠ 0 := Int.mul_ne_zero h h
  omega
theorem w2_pos {p : Li} (op : p.ok) : 0 < w2 p := by
  have h1 := sq_nn (p.u - p.x)
  have h2 := sq_nn (p.v - p.y)
  unfold w2
  by_cases hu : p.u - p.x = 0
  · have hv : p.v - p.y ≠ 0 := fun h => op ⟨by omega, by omega⟩
    have := sq_pos hv
    omega
  · have := sq_pos hu
    omega
def lonB (p : Li) (s : Sp) : Bool := decide ((p.u - p.x) * (s.m - p.y * s.d) - (p.v - p.y) * (s.n - p.x * s.d) = 0) && decide (0 ≤ onw p s ∧ onw p s ≤ s.d * w2 p)
theorem lon_on {p : Li} {s : Sp} (op : p.ok) (d0 : 0 < s.d) (h : lonB p s = true) : On p s (onw p s) (s.d * w2 p) := by
  simp only [lonB, Bool.and_eq_true, decide_eq_true_eq] at h
  obtain ⟨ht, h0, h1⟩ := h
  refine ⟨Int.mul_pos d0 (w2_pos op), h0, h1, ?_, ?_⟩ <;> unfold onw w2 <;> grind
theorem on_lon {p : Li} {s : Sp} {K M : Int} (op : p.ok) (d0 : 0 < s.d) (h : On p s K M) : lonB p s = true := by
  have hw := w2_pos op
  obtain ⟨m0, k0, k1, hx, hy⟩ := h
  have e : onw p s * M = K * (s.d * w2 p) := by unfold onw w2; grind
  have sgn : ∀ {x y : Int}, x * M ≤ y * M → x ≤ y := fun h => Int.le_of_mul_le_mul_right h m0
  have hd : 0 ≤ s.d * w2 p := Int.mul_nonneg (by omega) (by omega)
  simp only [lonB, Bool.and_eq_true, decide_eq_true_eq]
  refine ⟨?_, sgn (by rw [Int.zero_mul, e]; exact Int.mul_nonneg k0 hd), sgn (by rw [e, Int.mul_comm (s.d * w2 p) M]; exact Int.mul_le_mul_of_nonneg_right k1 hd)⟩
  refine Int.eq_of_mul_eq_mul_right (Int.ne_of_gt m0) ?_
  grind
theorem on_lonB {p : Li} {s : Sp} (op : p.ok) (d0 : 0 < s.d) : onB p s = lonB p s := by
  rw [Bool.eq_iff_iff]
  exact ⟨fun h => on_lon op d0 (on_of op d0 h), fun h => of_on d0 (lon_on op d0 h)⟩
/-- in lowest terms -/
structure Low (s : Sp) : Prop where
  d : 0 < s.d
  g : g3 s.n s.m s.d = 1
theorem Low.self {s : Sp} (h : Low s) : low s.n s.m s.d = s := by
  unfold low
  rw [h.g]
  simp
theorem low_one {x y : Int} : Low ⟨x, y, 1⟩ := ⟨Int.one_pos, by simp [g3]⟩
theorem low_low {n m d : Int} (h : 0 < d) : Low (low n m d) := ⟨(low_val h).1, (low_val h).2.2.2⟩
/-- two spots as far along are one -/
theorem on_inj {p : Li} {s t : Sp} {K M k m : Int} (hs : Low s) (ht : Low t) (h : On p s K M) (h' : On p t k m) (e : K * m = k * M) : s = t := by
  obtain ⟨m0, _, _, hx, hy⟩ := h
  obtain ⟨n0, _, _, gx, gy⟩ := h'
  have mm : 0 < M * m := Int.mul_pos m0 n0
  have e1 : s.n * t.d = t.n * s.d := Int.eq_of_mul_eq_mul_right (Int.ne_of_gt mm) (by grind)
  have e2 : s.m * t.d = t.m * s.d := Int.eq_of_mul_eq_mul_right (Int.ne_of_gt mm) (by grind)
  rw [← hs.self, ← ht.self]
  exact low_eq hs.d ht.d e1 e2
theorem common_low {p q : Li} : ∀ s ∈ p.common q, Low s := fun s hs => by
  unfold Li.common at hs
  split at hs
  · split at hs
    · unfold Li.along at hs
      split at hs
      · cases hs
      · split at hs
        · rw [List.mem_singleton.mp hs]; exact low_one
        · simp only [List.mem_cons, List.not_mem_nil, or_false] at hs
          rcases hs with rfl | rfl <;> exact low_one
    · cases hs
  · split at hs
    · rw [List.mem_singleton.mp hs]
      exact low_low (Li.sgm_pos _ _ ‹_›)
    · cases hs
theorem kn_low : ∀ {l : List Li} {s : Sp}, CLK.Kn l s → Low s
  | l, s, .inl ⟨p, hp, h⟩ => by rcases h with rfl | rfl <;> exact low_one
  | [], s, .inr h => by cases h
  | p :: l, s, .inr h => by
    rcases (CLK.kn_cons (p := p) (l := l) (s := s)).mp (.inr h) with h | h | ⟨q, _, h⟩
    · exact kn_low h
    · rcases h with rfl | rfl <;> exact low_one
    · exact common_low s h
/-- how far along, from 0 to 1 -/
def T (p : Li) (s : Sp) : Rat := (onw p s : Rat) / ((s.d * w2 p : Int) : Rat)
theorem T_lt {p : Li} {s t : Sp} (op : p.ok) (hs : 0 < s.d) (ht : 0 < t.d) : T p s < T p t ↔ onw p s * t.d < onw p t * s.d := by
  have hw := w2_pos op
  unfold T
  rw [frac_lt (Int.mul_pos hs hw) (Int.mul_pos ht hw)]
  have e1 : onw p s * (t.d * w2 p) = onw p s * t.d * w2 p := by grind
  have e2 : onw p t * (s.d * w2 p) = onw p t * s.d * w2 p := by grind
  rw [e1, e2]
  exact ⟨fun h => Int.lt_of_mul_lt_mul_right h (Int.le_of_lt hw), fun h => Int.mul_lt_mul_of_pos_right h hw⟩
theorem T_inj {p : Li} {s t : Sp} (op : p.ok) (hs : Low s) (ht : Low t) (h1 : lonB p s = true) (h2 : lonB p t = true) (e : T p s = T p t) : s = t := by
  have hw := w2_pos op
  unfold T at e
  rw [frac_eq (Int.mul_pos hs.d hw) (Int.mul_pos ht.d hw)] at e
  exact on_inj hs ht (lon_on op hs.d h1) (lon_on op ht.d h2) e
/-- the share that the program tells -/
theorem T_share {p : Li} {s : Sp} (op : p.ok) (d0 : 0 < s.d) (h : onB p s = true) : T p s = ((share p s).1 : Rat) / ((share p s).2 : Rat) := by
  have h1 := on_of op d0 h
  have h2 := lon_on op d0 (by rw [← on_lonB op d0]; exact h)
  unfold T
  exact (frac_eq h2.m h1.m).mpr (on_uniq op d0 h2 h1)
/-- the knots on a line, rising along it -/
def row (p : Li) (K : List Sp) : List Sp := (K.filter (onB p)).mergeSort fun a b => decide (T p a ≤ T p b)
theorem row_perm {p : Li} {K : List Sp} : (row p K).Perm (K.filter (onB p)) := List.mergeSort_perm _ _
theorem row_lt {p : Li} {K : List Sp} (op : p.ok) (hK : K.Nodup) (hL : ∀ s ∈ K, Low s) : (row p K).Pairwise fun a b => T p a < T p b := by
  have h1 : (row p K).Pairwise fun a b => decide (T p a ≤ T p b) = true := List.pairwise_mergeSort (fun a b c h1 h2 => by
    simp only [decide_eq_true_eq] at *
    exact Rat.le_trans h1 h2) (fun a b => by
    simp only [Bool.or_eq_true, decide_eq_true_eq]
    exact Rat.le_total) _
  have h2 : (row p K).Nodup := row_perm.symm.nodup (hK.filter _)
  have mem : ∀ s ∈ row p K, Low s ∧ onB p s = true := fun s hs => by
    have := List.mem_filter.mp (row_perm.mem_iff.mp hs)
    exact ⟨hL s this.1, this.2⟩
  refine (List.Pairwise.and h1 h2).imp_of_mem fun {a b} ha hb ⟨hab, hne⟩ => ?_
  obtain ⟨la, oa⟩ := mem a ha
  obtain ⟨lb, ob⟩ := mem b hb
  have hle := of_decide_eq_true hab
  by_cases h : T p a < T p b
  · exact h
  · exact absurd (T_inj op la lb (by rw [← on_lonB op la.d]; exact oa) (by rw [← on_lonB op lb.d]; exact ob) (Rat.le_antisymm hle (Rat.not_lt.mp h))) hne
end CLR
namespace CLR
open PySem PySem.Spec L2 CL CLG CLX CLK PySem.W
/-- a row by a rising whole number is as it is sorted -/
theorem sort_row {α : Type} {f : α → D} {L R : List α} (hp : R.Perm L) (hR : R.Pairwise fun a b => leD (f a) (f b) = true) (inj : ∀ a ∈ L, ∀ b ∈ L, keyToks (f a).py = keyToks (f b).py → f a = f b) : (L.map f).mergeSort leD = R.map f := by
  refine List.Perm.eq_of_pairwise (le := fun a b => leD a b = true) (fun a b ha hb h1 h2 => ?_) (sort_pairwise leD_total _) (List.Pairwise.map _ (fun _ _ h => h) hR) ((List.mergeSort_perm _ _).trans (hp.map f).symm)
  obtain ⟨x, hx, rfl⟩ := List.mem_map.mp ((List.mergeSort_perm _ _).mem_iff.mp ha)
  obtain ⟨y, hy, rfl⟩ := List.mem_map.mp hb
  exact inj x hx y (hp.mem_iff.mp hy) (leD_toks h1 h2)
end CLR
namespace CLR
open PySem PySem.Spec L2 CL CLG CLX CLK CLE PySem.W
def B_is_between : MS := (sRet (mChain bLe bLe (m2 bMul (mN bMin2 (mCons (mV 0) (mCons (mV 1) mNil))) (mV 3)) (mV 2) (m2 bMul (mN bMax2 (mCons (mV 0) (mCons (mV 1) mNil))) (mV 3))))
def F_is_between : List D → Res D := runP 0 B_is_between
def B_on_line : MS := (sSeq (sAsg (pT 2 (psC (pT 2 (psC (pN 2) (psC (pN 3) psN))) (psC (pT 2 (psC (pN 4) (psC (pN 5) psN))) psN))) (mV 0)) (sSeq (sAsg (pT 3 (psC (pN 6) (psC (pN 7) (psC (pN 8) psN)))) (mV 1)) (sSeq (sIf (m2 bNe (m2 bMul (m2 bSub (mV 4) (mV 2)) (m2 bSub (mV 7) (m2 bMul (mV 3) (mV 8)))) (m2 bMul (m2 bSub (mV 5) (mV 3)) (m2 bSub (mV 6) (m2 bMul (mV 2) (mV 8))))) (sRet (mC (.bl false))) (sK .nx)) (sRet (mAnd (mCallP F_is_between (mCons (mV 2) (mCons (mV 4) (mCons (mV 6) (mCons (mV 8) mNil))))) (mCallP F_is_between (mCons (mV 3) (mCons (mV 5) (mCons (mV 7) (mCons (mV 8) mNil))))))))))
def F_on_line : List D → Res D := runP 7 B_on_line
def B_least_whole : MS := (sSeq (sAsg (pN 1) (mC (.int 1))) (sSeq (sFor (pN 2) (mIt (mV 0)) (sAsg (pN 1) (m2 bMul (m2 bDiv (mV 1) (mCallP CLX.F_divisor (mCons (mV 1) (mCons (mV 2) mNil)))) (mV 2)))) (sRet (mV 1))))
def F_least_whole : List D → Res D := runP 2 B_least_whole
def B_along : MS := (sSeq (sAsg (pN 2) (mComp [4] (pN 4) (mIt (mV 1)) (mCallP F_on_line (mCons (mV 0) (mCons (mV 4) mNil))) (mN bTup (mCons (mCallP CLP.F_share_of (mCons (mV 0) (mCons (mV 4) mNil))) (mCons (mV 4) mNil))))) (sSeq (sAsg (pN 3) (mCallP F_least_whole (mCons (mComp [5, 6, 4] (pT 2 (psC (pT 2 (psC (pN 5) (psC (pN 6) psN))) (psC (pN 4) psN))) (mIt (mV 2)) mYes (mV 6)) mNil))) (sRet (mComp [7, 4] (pT 2 (psC (pN 7) (psC (pN 4) psN))) (mIt (mL sortDD (mCons (mComp [5, 6, 4] (pT 2 (psC (pT 2 (psC (pN 5) (psC (pN 6) psN))) (psC (pN 4) psN))) (mIt (mV 2)) mYes (mN bTup (mCons (m2 bMul (mV 5) (m2 bDiv (mV 3) (mV 6))) (mCons (mV 4) mNil)))) mNil))) mYes (mV 4)))))
def F_along : List D → Res D := runP 6 B_along
local macro_rules | `(tactic| walk_at "o") => `(tactic| ((try simp only [backA, List.set_cons_zero, List.set_cons_succ, wipeD, List.map_cons, List.map_nil, List.cons_append, List.nil_append, List.replicate_succ, List.replicate_zero]); first | done | rfl))
local macro_rules | `(tactic| walk_at "b") => `(tactic| first
  | with_reducible exact Nb.lit
  | ((with_reducible apply Nb.mul) <;> walk_at "b")
  | ((with_reducible apply Nb.add) <;> walk_at "b")
  | ((with_reducible apply Nb.sub) <;> walk_at "b")
  | ((with_reducible apply Nb.neg) <;> walk_at "b")
  | ((with_reducible apply Nb.fdiv) <;> walk_at "b")
  | ((with_reducible apply Nb.fmod); (· walk_at "z"); (· walk_at "b"))
  | ((with_reducible apply Nb.max) <;> walk_at "b")
  | ((with_reducible apply Nb.min) <;> walk_at "b")
  | ((with_reducible apply Nb.ite) <;> walk_at "b")
  | with_reducible assumption
  | with_reducible exact Nb.le (by assumption)
  | with_reducible exact Nb.nle (by assumption)
  | with_reducible exact Nb.lt (by assumption)
  | ((with_reducible apply Nb.rng (by assumption) (by assumption)) <;> walk_at "b")
  | ((with_reducible apply Nb.rngE (by assumption) (by assumption)) <;> walk_at "b")
  | with_reducible exact Nb.self _)
local macro_rules | `(tactic| walk_at "z") => `(tactic| first | decide | assumption | omega | exact fmod_nn (by omega) | exact fmod_lt (by omega))
local macro_rules | `(tactic| walk_at "e") => `(tactic| first
  | ((with_reducible refine is_ev ?_); first
    | ((with_reducible apply mul_st); (· walk_at "b"); (· walk_at "b"); (· rfl))
    | ((with_reducible apply mul_s1); (· walk_at "b"); (· rfl))
    | ((with_reducible apply mul_s2); (· walk_at "b"); (· rfl))
    | ((with_reducible apply div_st); (· walk_at "z"); (· walk_at "b"); (· rfl))
    | ((with_reducible apply mod_st); (· walk_at "z"))
    | with_reducible apply tup_pt
    | with_reducible apply tup_ln
    | ((with_reducible apply tup_st); (· rfl))
    | ((with_reducible apply lst_st); (· rfl))
    | with_reducible apply eqi_st
    | with_reducible apply nei_st
    | with_reducible apply eqp_st
    | with_reducible apply nep_st
    | with_reducible apply eqp_st'
    | with_reducible apply nep_st'
    | with_reducible apply eqb_st
    | with_reducible apply neb_st
    | with_reducible apply isb_st
    | with_reducible apply eqs_st
    | with_reducible apply nes_st
    | with_reducible refine ixl0 ?_
    | with_reducible refine ixl1 ?_
    | with_reducible refine ix2bi (fun _ _ _ => ?_)
    | ((with_reducible refine ix4i ?_ ?_ (fun _ _ _ => ?_)); (· walk_at "z"); (· walk_at "z"))
    | ((with_reducible refine ix2i ?_ ?_ (fun _ _ _ => ?_)); (· walk_at "z"); (· walk_at "z"))
    | ((with_reducible refine ix3i ?_ ?_ (fun _ _ _ => ?_)); (· walk_at "z"); (· walk_at "z"))
    | refine ⟨_, rfl, ?_⟩)
  | ((with_reducible refine fill_st ?_); refine ⟨_, rfl, ?_⟩; (try dsimp only))
  | ((with_reducible apply and_go rfl); (· (intro _; (repeat walk_at "s"); with_reducible exact ⟨rfl, rfl⟩)))
  | ((with_reducible refine is_chain ?_); (apply chain_go rfl); (· (intro _; (repeat walk_at "s"); exact ⟨rfl, rfl⟩)))
  | ((with_reducible refine draw_step (by assumption) ?_ ?_ (fun _ _ _ _ _ => ?_)); (· walk_at "z"); (· walk_at "z"))
  | ((with_reducible refine CLY.draw_step (by assumption) ?_ ?_ (fun _ _ _ _ _ => ?_)); (· walk_at "z"); (· walk_at "z"))
  | ((with_reducible refine is_evA ?_); refine ⟨_, rfl, ?_⟩)
  | ((with_reducible refine is_evL ?_); refine ⟨_, rfl, ?_⟩)
  | ((with_reducible refine is_evI ?_); refine ⟨_, rfl, ?_⟩)
  | ((with_reducible refine is_evR ?_); refine ⟨_, rfl, ?_⟩))
local macro_rules | `(tactic| walk_at "f") => `(tactic| first
  | with_reducible refine W_mV.mpr ?_
  | with_reducible refine W_mCons.mpr ?_
  | with_reducible refine W_m2.mpr ?_
  | with_reducible refine W_mC.mpr ?_
  | with_reducible refine W_mNil.mpr ?_
  | with_reducible refine W_mN.mpr ?_
  | with_reducible refine W_sSeq.mpr ?_
  | with_reducible refine W_sAsg.mpr ?_
  | with_reducible refine W_m1.mpr ?_
  | with_reducible refine W_mCallP.mpr ?_
  | with_reducible refine W_mCall.mpr ?_
  | with_reducible refine X_evI.mpr ?_
  | with_reducible refine X_evE.mpr ?_
  | with_reducible refine X_evN.mpr ?_
  | with_reducible refine X_if ?_
  | with_reducible refine W_sRet.mpr ?_
  | with_reducible refine W_sK.mpr ?_
  | with_reducible refine X_and ?_
  | with_reducible refine X_or ?_
  | with_reducible refine W_sPar.mpr ?_
  | with_reducible refine W_mSl.mpr ?_
  | with_reducible refine W_mPtN.mpr ?_
  | with_reducible refine W_mPtS.mpr ?_
  | with_reducible refine W_mIt.mpr ?_
  | with_reducible refine W_mItN.mpr ?_
  | with_reducible refine W_mComp.mpr ?_
  | ((with_reducible refine is_comp ?_); first | (apply X_compN; (· walk_at "o")) | ((with_reducible apply X_compY); (· walk_at "o"); (· rfl)))
  | with_reducible refine W_sFor.mpr ?_
  | ((with_reducible refine is_for ?_); refine W_forNil.mpr ?_)
  | with_reducible refine X_chain ?_
  | with_reducible refine W_sExp.mpr ?_
  | with_reducible refine W_mL.mpr ?_
  | with_reducible refine X_mif ?_
  | with_reducible refine W_mIxS.mpr ?_
  | with_reducible refine W_mYes.mpr ?_
  | with_reducible refine W_sPar3.mpr ?_
  | with_reducible refine W_mApp.mpr ?_
  | with_reducible refine W_mBor.mpr ?_
  | with_reducible refine CLX.W_sFz.mpr ?_)
local macro_rules | `(tactic| walk_at "s") => `(tactic| first
  | ((with_reducible refine is_W ?_); walk_at "f")
  | ((with_reducible refine is_ex ?_); first
    | ((with_reducible refine is_evS ?_); refine ⟨_, rfl, ?_⟩)
    | ((with_reducible apply call_st); (· with_reducible assumption))
    | with_reducible refine ⟨_, by with_reducible assumption, ?_⟩
    | walk_at "e")
  | ((with_reducible apply X_nx); (· walk_at "o"))
  | with_reducible refine Kq_ret.mpr ?_
  | with_reducible refine Kq_brk.mpr ?_
  | with_reducible refine Kq_cnt.mpr ?_
  | ((with_reducible apply X_fnx); (· walk_at "o"))
  | ((with_reducible apply X_fcnt); (· walk_at "o"))
  | with_reducible refine X_fbrk ?_
  | with_reducible refine X_fret ?_
  | ((with_reducible refine is_ltA ?_); refine ⟨?_, ?_⟩; (· first | decide | omega | (simp; omega) | (simp; done)))
  | with_reducible refine parW_mk.mpr ?_
  | with_reducible refine par3W_mk.mpr ?_)
local macro_rules | `(tactic| walk_at "r") => `(tactic| repeat walk_at "s")
local macro_rules | `(tactic| walk_at "u") => `(tactic| first | ((apply X_forC); (· walk_at "o"); (· rfl)) | ((apply X_compY); (· walk_at "o"); (· rfl)) | ((apply X_compC); (· walk_at "o"); (· rfl)))
local macro_rules | `(tactic| walk_at "g") => `(tactic| repeat first | walk_at "s" | (with_reducible refine go_ifF (rfl : _ = false) ?_) | (with_reducible refine go_ifT (rfl : _ = true) ?_) | (refine go_ifF (rfl : _ = false) ?_) | (refine go_ifT (rfl : _ = true) ?_) | walk_at "u")
theorem big_fuel {n : Nat} (h : n < 2 ^ 1000) : n < fuel := Nat.lt_of_lt_of_le h (Nat.pow_le_pow_right (by decide) (by decide))
theorem big_D {n : Nat} (h : n < 2 ^ 1000) : n < bigD := Nat.lt_of_lt_of_le h (Nat.pow_le_pow_right (by decide) (by decide))
theorem gcd_big : ∀ (n : Nat) (a b : Int) (r : Sl), b.natAbs < n → b.natAbs < 2 ^ 1000 → ∃ g : Int, g.natAbs = Int.gcd a b ∧ whileN n (m2 bNe (mV 1) (mC (.int 0))) (sPar 0 1 (mCons (mV 1) (mCons (m2 bMod (mV 0) (mV 1)) mNil))) (some (.int a) :: some (.int b) :: r) = .ok (.nx, some (.int g) :: some (.int 0) :: r)
  | 0, a, b, r, h, _ => by omega
  | n + 1, a, b, r, h, hb => by
    by_cases h0 : b = 0
    · subst h0
      exact ⟨a, (Int.gcd_zero_right a).symm, rfl⟩
    · have hf := natAbs_fmod_lt (a := a) h0
      obtain ⟨g, e1, e2⟩ := gcd_big n b (a.fmod b) r (by omega) (Nat.lt_trans hf hb)
      have hd : b.natAbs < bigD := big_D hb
      have c : m2 bNe (mV 1) (mC (.int 0)) (some (.int a) :: some (.int b) :: r) = .ok (.bl true, some (.int a) :: some (.int b) :: r) := by
        simp [m2, CL.bind, mV, mC, ne_int0, ofO, h0]
      have d : sPar 0 1 (mCons (mV 1) (mCons (m2 bMod (mV 0) (mV 1)) mNil)) (some (.int a) :: some (.int b) :: r) = .ok (.nx, some (.int b) :: some (.int (a.fmod b)) :: r) := by
        simp [sPar, mCons, mNil, m2, CL.bind, mV, bMod, ofO, h0, hd]
      refine ⟨g, e1.trans (gcd_fmod a b), ?_⟩
      unfold whileN
      simp only [c, d]
      exact e2
theorem div_big {a b : Int} (h : b.natAbs < 2 ^ 1000) : CLX.F_divisor [.int a, .int b] = .ok (.int (Int.gcd a b : Nat)) := by
  refine runP_of ?_
  obtain ⟨g, e1, e2⟩ := gcd_big fuel a b [] (big_fuel h) h
  simp only [CLX.B_divisor, W_sSeq]
  refine ⟨_, _, e2, ?_⟩
  simp only [Kq_nx, W_sRet, W_mN, W_mCons, W_mV, W_mNil]
  simp [bAbs]
  rw [← e1]
  split <;> omega
theorem between_is {a b n d : Int} (ha : Nb 100 a) (hb : Nb 100 b) (hd : Nb 200 d) : F_is_between [.int a, .int b, .int n, .int d] = .ok (.bl (decide (min a b * d ≤ n ∧ n ≤ max a b * d))) := by
  refine runP_of ?_
  unfold B_is_between
  walk_at "r"
  have e1 : (if b < a then b else a) = min a b := by split <;> omega
  have e2 : (if a < b then b else a) = max a b := by split <;> omega
  simp only [e1, e2, Bool.decide_and]
theorem on_is {p : Li} {s : CLG.Sp} (hp : Sml p) (hs : SpB s) : F_on_line [lnD p, CLX.spD s] = .ok (.bl (onB p s)) := by
  have a1 := hp.x
  have a2 := hp.y
  have a3 := hp.u
  have a4 := hp.v
  obtain ⟨s1, s2, s3⟩ := id hs
  have E1 := between_is (a := p.x) (b := p.u) (n := s.n) (d := s.d) ((Nb.le a1).mono (by decide)) ((Nb.le a3).mono (by decide)) s3
  have E2 := between_is (a := p.y) (b := p.v) (n := s.m) (d := s.d) ((Nb.le a2).mono (by decide)) ((Nb.le a4).mono (by decide)) s3
  refine runP_of ?_
  unfold B_on_line lnD CLX.spD
  walk_at "r"
  unfold onB
  refine go_ifN (fun h => ?_) fun h => ?_
  · walk_at "r"
    simp [h]
  · walk_at "r"
    simp [h]
theorem lcm_step {w m : Int} (w0 : 0 < w) (m0 : 0 < m) : 0 < w.fdiv (Int.gcd w m : Nat) * m ∧ w ∣ w.fdiv (Int.gcd w m : Nat) * m ∧ m ∣ w.fdiv (Int.gcd w m : Nat) * m := by
  have g0 : 0 < ((Int.gcd w m : Nat) : Int) := Int.ofNat_lt.mpr (Int.gcd_pos_of_ne_zero_left _ (by omega))
  obtain ⟨a, ha⟩ : ((Int.gcd w m : Nat) : Int) ∣ w := Int.gcd_dvd_left ..
  obtain ⟨b, hb⟩ : ((Int.gcd w m : Nat) : Int) ∣ m := Int.gcd_dvd_right ..
  generalize ((Int.gcd w m : Nat) : Int) = g at *
  have e : w.fdiv g = a := by rw [ha, Int.fdiv_eq_ediv_of_nonneg _ (by omega), Int.mul_ediv_cancel_left _ (by omega)]
  have a0 : 0 < a := by
    rcases Int.lt_or_le 0 a with h | h
    · exact h
    · have := Int.mul_le_mul_of_nonneg_left h (Int.le_of_lt g0)
      omega
  rw [e]
  exact ⟨Int.mul_pos a0 m0, ⟨b, by rw [hb, ha]; grind⟩, ⟨a, Int.mul_comm _ _⟩⟩
theorem mul_big {n : Nat} {a b : Int} (ha : Nb n a) (hb : Nb 300 b) (hn : n ≤ 395000) : bMul (.int a) (.int b) = some (.int (a * b)) := mul_go ha hb (by simp only [Bool.and_eq_true, Nat.ble_eq]; omega)
def lwB : MS := sAsg (pN 1) (m2 bMul (m2 bDiv (mV 1) (mCallP CLX.F_divisor (mCons (mV 1) (mCons (mV 2) mNil)))) (mV 2))
theorem lw_step {o0 : Option D} {w m : Int} {n : Nat} {Q : Fl → Sl → Prop} (w0 : 0 < w) (hw : Nb n w) (hn : n ≤ 390000) (m0 : 0 < m) (m1 : Nb 300 m) (k : ∀ w' : Int, 0 < w' → Nb (n + 301) w' → w ∣ w' → m ∣ w' → Q .nx [o0, some (.int w'), some (.int m)]) : W lwB [o0, some (.int w), some (.int m)] Q := by
  have m2' : m.natAbs < 2 ^ 1000 := m1.mono (by decide)
  have E := div_big (a := w) m2'
  have g0 : ((Int.gcd w m : Nat) : Int) ≠ 0 := by
    have := Int.gcd_pos_of_ne_zero_left (a := w) m (Int.ne_of_gt w0)
    omega
  have g1 : Nb 1000 ((Int.gcd w m : Nat) : Int) := by
    refine Nat.lt_of_le_of_lt ?_ m2'
    exact Nat.le_of_dvd (by omega) (Nat.gcd_dvd_right _ _)
  obtain ⟨s1, s2, s3⟩ := lcm_step w0 m0
  have hq : Nb (n + 1) (w.fdiv (Int.gcd w m : Nat)) := Nb.fdiv hw
  have hb : Nb (n + 301) (w.fdiv (Int.gcd w m : Nat) * m) := Nb.mono (Nb.mul hq m1) (by omega)
  have e1 := div_go (a := w) g0 g1 rfl
  have e2 := mul_big hq m1 (by omega)
  generalize ((Int.gcd w m : Nat) : Int) = g at *
  unfold lwB
  refine W_sAsg.mpr (W_m2.mpr (W_m2.mpr (W_mV.mpr ⟨_, rfl, W_mCallP.mpr (W_mCons.mpr (W_mV.mpr ⟨_, rfl, W_mCons.mpr (W_mV.mpr ⟨_, rfl, W_mNil.mpr ⟨_, E, ?_⟩⟩)⟩))⟩)))
  exact ⟨_, e1, W_mV.mpr ⟨_, rfl, _, e2, _, rfl, k _ s1 hb s2 s3⟩⟩
theorem least_loop {o0 : Option D} {Q : Fl → Sl → Prop} (ms : List Int) : ∀ (n : Nat) (w : Int) (o2 : Option D), 0 < w → Nb n w → n + 301 * ms.length ≤ 390000 → (∀ m ∈ ms, 0 < m ∧ Nb 300 m) →
    (∀ (w' : Int) (o2' : Option D), 0 < w' → Nb (n + 301 * ms.length) w' → w ∣ w' → (∀ m ∈ ms, m ∣ w') → Q .nx [o0, some (.int w'), o2']) →
    W (forL (pN 2) lwB (ms.map .int)) [o0, some (.int w), o2] Q := by
  induction ms with
  | nil => exact fun n w o2 w0 hw _ _ k => W_forNil.mpr (k w o2 w0 hw ⟨1, by omega⟩ (by simp))
  | cons m ms ih =>
    intro n w o2 w0 hw hn h k
    obtain ⟨m0, m1⟩ := h m (by simp)
    rw [List.length_cons] at hn
    refine W_forCons.mpr ⟨[o0, some (.int w), some (.int m)], rfl, lw_step w0 hw (by omega) m0 m1 fun w1 h1 h2 h3 h4 => .inl ⟨.inl rfl, ?_⟩⟩
    refine ih (n + 301) w1 _ h1 h2 (by omega) (fun z hz => h z (by simp [hz])) fun w' o2' a1 b1 a2 a3 => k w' o2' a1 (b1.mono (by rw [List.length_cons]; omega)) (Int.dvd_trans h3 a2) fun z hz => ?_
    rcases List.mem_cons.mp hz with rfl | hz
    · exact Int.dvd_trans h4 a2
    · exact a3 z hz
theorem least_is {ms : List Int} (h : ∀ m ∈ ms, 0 < m ∧ Nb 300 m) (hl : ms.length ≤ 1000) : ∃ w : Int, 0 < w ∧ Nb 390000 w ∧ (∀ m ∈ ms, m ∣ w) ∧ F_least_whole [.lst (ms.map .int)] = .ok (.int w) := by
  have key : ∃ d, F_least_whole [.lst (ms.map .int)] = .ok d ∧ ∃ w : Int, 0 < w ∧ Nb 390000 w ∧ (∀ m ∈ ms, m ∣ w) ∧ d = .int w := by
    refine runP_ex ?_
    unfold B_least_whole
    walk_at "r"
    show W (forL (pN 2) lwB (ms.map .int)) _ _
    refine least_loop ms 1 1 _ (by omega) (by unfold Nb; decide) (by omega) h fun w' o2' a1 b1 a2 a3 => ?_
    walk_at "r"
    exact ⟨b1.mono (by omega), a3, rfl⟩
  obtain ⟨d, e, w, h1, h2, h3, rfl⟩ := key
  exact ⟨w, h1, h2, h3, e⟩
end CLR
namespace CLR
open PySem PySem.Spec L2 CL CLG CLX CLK CLE PySem.W
def B__law_share : MS := (sSeq (sAsg (pT 2 (psC (pT 2 (psC (pT 2 (psC (pN 2) (psC (pN 3) psN))) (psC (pT 2 (psC (pN 4) (psC (pN 5) psN))) psN))) (psC (pT 3 (psC (pN 6) (psC (pN 7) (psC (pN 8) psN)))) psN))) (mN bTup (mCons (mV 0) (mCons (mV 1) mNil)))) (sSeq (sPar 9 10 (mCons (mN bTup (mCons (m2 bSub (mV 4) (mV 2)) (mCons (m2 bSub (mV 5) (mV 3)) mNil))) (mCons (mN bTup (mCons (m2 bSub (mV 6) (m2 bMul (mV 2) (mV 8))) (mCons (m2 bSub (mV 7) (m2 bMul (mV 3) (mV 8))) mNil))) mNil))) (sSeq (sAsg (pN 11) (m2 bAdd (m2 bMul (m2 bIx (mV 9) (mC (.int 0))) (m2 bIx (mV 10) (mC (.int 0)))) (m2 bMul (m2 bIx (mV 9) (mC (.int 1))) (m2 bIx (mV 10) (mC (.int 1)))))) (sSeq (sIf (mOr (m2 bNe (mCallP CLK.F__law_turn (mCons (mV 9) (mCons (mV 10) mNil))) (mC (.int 0))) (m1 bNot (mChain bLe bLe (mC (.int 0)) (mV 11) (m2 bMul (mV 8) (m2 bAdd (m2 bMul (m2 bIx (mV 9) (mC (.int 0))) (m2 bIx (mV 9) (mC (.int 0)))) (m2 bMul (m2 bIx (mV 9) (mC (.int 1))) (m2 bIx (mV 9) (mC (.int 1))))))))) (sRet (mC .non)) (sK .nx)) (sRet (mV 11))))))
def F__law_share : List D → Res D := runP 10 B__law_share
def B__law_row : MS := (sSeq (sAsg (pN 2) (mComp [4] (pN 4) (mIt (mV 1)) mYes (mN bTup (mCons (mV 4) (mCons (mCallP F__law_share (mCons (mV 0) (mCons (mV 4) mNil))) mNil))))) (sSeq (sAsg (pN 2) (mComp [4, 5] (pT 2 (psC (pN 4) (psC (pN 5) psN))) (mIt (mV 2)) (m2 bNotN (mV 5) (mC .non)) (mN bTup (mCons (mV 4) (mCons (mV 5) mNil))))) (sSeq (sAsg (pN 3) (m2 bRep (mN bLst (mCons (mC .non) mNil)) (mN bLen (mCons (mV 2) mNil)))) (sSeq (sFor (pT 2 (psC (pN 4) (psC (pN 5) psN))) (mIt (mV 2)) (sStoX 3 (mN bLen (mCons (mComp [6, 7] (pT 2 (psC (pN 6) (psC (pN 7) psN))) (mIt (mV 2)) (m2 bLt (m2 bMul (mV 7) (m2 bIx (mV 4) (mC (.int 2)))) (m2 bMul (mV 5) (m2 bIx (mV 6) (mC (.int 2))))) (mV 6)) mNil)) (mV 4))) (sFz 3 (sRet (mV 3)))))))
def F__law_row : List D → Res D := runP 6 B__law_row
local macro_rules | `(tactic| walk_at "o") => `(tactic| ((try simp only [backA, List.set_cons_zero, List.set_cons_succ, wipeD, List.map_cons, List.map_nil, List.cons_append, List.nil_append, List.replicate_succ, List.replicate_zero]); first | done | rfl))
local macro_rules | `(tactic| walk_at "b") => `(tactic| first
  | with_reducible exact Nb.lit
  | ((with_reducible apply Nb.mul) <;> walk_at "b")
  | ((with_reducible apply Nb.add) <;> walk_at "b")
  | ((with_reducible apply Nb.sub) <;> walk_at "b")
  | ((with_reducible apply Nb.neg) <;> walk_at "b")
  | ((with_reducible apply Nb.fdiv) <;> walk_at "b")
  | ((with_reducible apply Nb.fmod); (· walk_at "z"); (· walk_at "b"))
  | ((with_reducible apply Nb.max) <;> walk_at "b")
  | ((with_reducible apply Nb.min) <;> walk_at "b")
  | ((with_reducible apply Nb.ite) <;> walk_at "b")
  | with_reducible assumption
  | with_reducible exact Nb.le (by assumption)
  | with_reducible exact Nb.nle (by assumption)
  | with_reducible exact Nb.lt (by assumption)
  | ((with_reducible apply Nb.rng (by assumption) (by assumption)) <;> walk_at "b")
  | ((with_reducible apply Nb.rngE (by assumption) (by assumption)) <;> walk_at "b")
  | with_reducible exact Nb.self _)
local macro_rules | `(tactic| walk_at "z") => `(tactic| first | decide | assumption | omega | exact fmod_nn (by omega) | exact fmod_lt (by omega))
local macro_rules | `(tactic| walk_at "e") => `(tactic| first
  | ((with_reducible refine is_ev ?_); first
    | ((with_reducible apply mul_st); (· walk_at "b"); (· walk_at "b"); (· rfl))
    | ((with_reducible apply mul_s1); (· walk_at "b"); (· rfl))
    | ((with_reducible apply mul_s2); (· walk_at "b"); (· rfl))
    | ((with_reducible apply div_st); (· walk_at "z"); (· walk_at "b"); (· rfl))
    | ((with_reducible apply mod_st); (· walk_at "z"))
    | with_reducible apply tup_pt
    | with_reducible apply tup_ln
    | ((with_reducible apply tup_st); (· rfl))
    | ((with_reducible apply lst_st); (· rfl))
    | with_reducible apply eqi_st
    | with_reducible apply nei_st
    | with_reducible apply eqp_st
    | with_reducible apply nep_st
    | with_reducible apply eqp_st'
    | with_reducible apply nep_st'
    | with_reducible apply eqb_st
    | with_reducible apply neb_st
    | with_reducible apply isb_st
    | with_reducible apply eqs_st
    | with_reducible apply nes_st
    | with_reducible refine ixl0 ?_
    | with_reducible refine ixl1 ?_
    | with_reducible refine ix2bi (fun _ _ _ => ?_)
    | ((with_reducible refine ix4i ?_ ?_ (fun _ _ _ => ?_)); (· walk_at "z"); (· walk_at "z"))
    | ((with_reducible refine ix2i ?_ ?_ (fun _ _ _ => ?_)); (· walk_at "z"); (· walk_at "z"))
    | ((with_reducible refine ix3i ?_ ?_ (fun _ _ _ => ?_)); (· walk_at "z"); (· walk_at "z"))
    | refine ⟨_, rfl, ?_⟩)
  | ((with_reducible refine fill_st ?_); refine ⟨_, rfl, ?_⟩; (try dsimp only))
  | ((with_reducible apply and_go rfl); (· (intro _; (repeat walk_at "s"); with_reducible exact ⟨rfl, rfl⟩)))
  | ((with_reducible refine is_chain ?_); (apply chain_go rfl); (· (intro _; (repeat walk_at "s"); exact ⟨rfl, rfl⟩)))
  | ((with_reducible refine draw_step (by assumption) ?_ ?_ (fun _ _ _ _ _ => ?_)); (· walk_at "z"); (· walk_at "z"))
  | ((with_reducible refine CLY.draw_step (by assumption) ?_ ?_ (fun _ _ _ _ _ => ?_)); (· walk_at "z"); (· walk_at "z"))
  | ((with_reducible refine is_evA ?_); refine ⟨_, rfl, ?_⟩)
  | ((with_reducible refine is_evL ?_); refine ⟨_, rfl, ?_⟩)
  | ((with_reducible refine is_evI ?_); refine ⟨_, rfl, ?_⟩)
  | ((with_reducible refine is_evR ?_); refine ⟨_, rfl, ?_⟩))
local macro_rules | `(tactic| walk_at "f") => `(tactic| first
  | with_reducible refine W_mV.mpr ?_
  | with_reducible refine W_mCons.mpr ?_
  | with_reducible refine W_m2.mpr ?_
  | with_reducible refine W_mC.mpr ?_
  | with_reducible refine W_mNil.mpr ?_
  | with_reducible refine W_mN.mpr ?_
  | with_reducible refine W_sSeq.mpr ?_
  | with_reducible refine W_sAsg.mpr ?_
  | with_reducible refine W_m1.mpr ?_
  | with_reducible refine W_mCallP.mpr ?_
  | with_reducible refine W_mCall.mpr ?_
  | with_reducible refine X_evI.mpr ?_
  | with_reducible refine X_evE.mpr ?_
  | with_reducible refine X_evN.mpr ?_
  | with_reducible refine X_if ?_
  | with_reducible refine W_sRet.mpr ?_
  | with_reducible refine W_sK.mpr ?_
  | with_reducible refine X_and ?_
  | with_reducible refine X_or ?_
  | with_reducible refine W_sPar.mpr ?_
  | with_reducible refine W_mSl.mpr ?_
  | with_reducible refine W_mPtN.mpr ?_
  | with_reducible refine W_mPtS.mpr ?_
  | with_reducible refine W_mIt.mpr ?_
  | with_reducible refine W_mItN.mpr ?_
  | with_reducible refine W_mComp.mpr ?_
  | ((with_reducible refine is_comp ?_); first | (apply X_compN; (· walk_at "o")) | ((with_reducible apply X_compY); (· walk_at "o"); (· rfl)))
  | with_reducible refine W_sFor.mpr ?_
  | ((with_reducible refine is_for ?_); refine W_forNil.mpr ?_)
  | with_reducible refine X_chain ?_
  | with_reducible refine W_sExp.mpr ?_
  | with_reducible refine W_mL.mpr ?_
  | with_reducible refine X_mif ?_
  | with_reducible refine W_mIxS.mpr ?_
  | with_reducible refine W_mYes.mpr ?_
  | with_reducible refine W_sPar3.mpr ?_
  | with_reducible refine W_mApp.mpr ?_
  | with_reducible refine W_mBor.mpr ?_
  | with_reducible refine CLX.W_sFz.mpr ?_)
local macro_rules | `(tactic| walk_at "s") => `(tactic| first
  | ((with_reducible refine is_W ?_); walk_at "f")
  | ((with_reducible refine is_ex ?_); first
    | ((with_reducible refine is_evS ?_); refine ⟨_, rfl, ?_⟩)
    | ((with_reducible apply call_st); (· with_reducible assumption))
    | with_reducible refine ⟨_, by with_reducible assumption, ?_⟩
    | walk_at "e")
  | ((with_reducible apply X_nx); (· walk_at "o"))
  | with_reducible refine Kq_ret.mpr ?_
  | with_reducible refine Kq_brk.mpr ?_
  | with_reducible refine Kq_cnt.mpr ?_
  | ((with_reducible apply X_fnx); (· walk_at "o"))
  | ((with_reducible apply X_fcnt); (· walk_at "o"))
  | with_reducible refine X_fbrk ?_
  | with_reducible refine X_fret ?_
  | ((with_reducible refine is_ltA ?_); refine ⟨?_, ?_⟩; (· first | decide | omega | (simp; omega) | (simp; done)))
  | with_reducible refine parW_mk.mpr ?_
  | with_reducible refine par3W_mk.mpr ?_)
local macro_rules | `(tactic| walk_at "r") => `(tactic| repeat walk_at "s")
local macro_rules | `(tactic| walk_at "u") => `(tactic| first | ((apply X_forC); (· walk_at "o"); (· rfl)) | ((apply X_compY); (· walk_at "o"); (· rfl)) | ((apply X_compC); (· walk_at "o"); (· rfl)))
local macro_rules | `(tactic| walk_at "g") => `(tactic| repeat first | walk_at "s" | (with_reducible refine go_ifF (rfl : _ = false) ?_) | (with_reducible refine go_ifT (rfl : _ = true) ?_) | (refine go_ifF (rfl : _ = false) ?_) | (refine go_ifT (rfl : _ = true) ?_) | walk_at "u")
def spE : KEnc CLX.spD where
  nk := nkS
  nk_eq _ := rfl
  key _ := key_sp
  inj _ _ h := nkS_inj h
  toks _ _ h := sp_toks h
  ok p := by simp [CLX.spD, D.okB, D.okL]
  non _ := rfl
  alike _ _ := alike_sp
  some p := ⟨_, _, rfl⟩
def ksD (x : Int × CLG.Sp) : D := .tup [.int x.1, CLX.spD x.2]
theorem ks_toks {a b : Int × CLG.Sp} (h : keyToks (ksD a).py = keyToks (ksD b).py) : a = b := by
  simp only [ksD, CLX.spD, D.py, D.pyL, keyToks, keyToksAll] at h
  simp at h
  obtain ⟨i, s⟩ := a
  obtain ⟨j, t⟩ := b
  cases s; cases t
  simp only [Prod.mk.injEq, CLG.Sp.mk.injEq]
  exact h
theorem alike_ks {a b : Int × CLG.Sp} : alike (ksD a).py (ksD b).py = true := by simp [ksD, CLX.spD, D.py, D.pyL, alike, alikeAll]
theorem le_ks {a b : Int × CLG.Sp} (h : a.1 < b.1) : leD (ksD a) (ksD b) = true := by
  have e : leD (ksD a) (ksD b) = !dataLt (ksD b).py (ksD a).py := rfl
  rw [e]
  have e2 : dataLt (ksD b).py (ksD a).py = false := by
    show dataLt (.tuple [.int b.1, (CLX.spD b.2).py]) (.tuple [.int a.1, (CLX.spD a.2).py]) = false
    rw [dataLt_pair (by simp [alike]) alike_sp, dataLt_int]
    have h1 : PyData.eqv (.int b.1) (.int a.1) = false := by simp [PyData.eqv]; omega
    rw [h1]
    simp
    omega
  rw [e2]
  rfl
theorem dok_ks {S : List (Int × CLG.Sp)} : (dataOk (S.map ksD) && sortB (S.map ksD)) = true := by
  rw [Bool.and_eq_true]
  constructor
  · have h1 : ∀ U : List (Int × CLG.Sp), D.okL 58 (U.map ksD) = true := fun U => by
      induction U with
      | nil => simp [D.okL]
      | cons s U ih => simp only [List.map_cons, D.okL, ih, Bool.and_true]; simp [ksD, CLX.spD, D.okB, D.okL]
    simp only [dataOk, Bool.and_eq_true, List.all_eq_true]
    refine ⟨⟨h1 S, fun a ha b hb => ?_⟩, fun a ha => ?_⟩
    · obtain ⟨s, _, rfl⟩ := List.mem_map.mp ha
      obtain ⟨t, _, rfl⟩ := List.mem_map.mp hb
      exact alike_ks
    · obtain ⟨s, _, rfl⟩ := List.mem_map.mp ha
      rfl
  · simp only [sortB, Bool.or_eq_true]
    left
    rw [List.all_eq_true]
    intro d hd
    obtain ⟨s, _, rfl⟩ := List.mem_map.mp hd
    rfl
theorem sortD_ks {S : List (Int × CLG.Sp)} {P : List D → Prop} (k : P ((S.map ksD).mergeSort leD)) : ∃ l, sortDD [.lst (S.map ksD)] = some l ∧ P l := ⟨_, by simp only [sortDD]; rw [if_pos dok_ks], k⟩
theorem whole_lt {w k m k' m' : Int} (w0 : 0 < w) (m0 : 0 < m) (m1 : 0 < m') (d : m ∣ w) (d' : m' ∣ w) (h : k * m' < k' * m) : k * w.fdiv m < k' * w.fdiv m' := by
  obtain ⟨c, rfl⟩ := d
  obtain ⟨c', e⟩ := d'
  have e1 : (m * c).fdiv m = c := by rw [Int.fdiv_eq_ediv_of_nonneg _ (by omega), Int.mul_ediv_cancel_left _ (by omega)]
  have e2 : (m * c).fdiv m' = c' := by rw [e, Int.fdiv_eq_ediv_of_nonneg _ (by omega), Int.mul_ediv_cancel_left _ (by omega)]
  rw [e1, e2]
  have pos : ∀ {a b : Int}, 0 < a → 0 < a * b → 0 < b := fun {a b} ha hb => by
    rcases Int.lt_or_le 0 b with h | h
    · exact h
    · have := Int.mul_le_mul_of_nonneg_left h (Int.le_of_lt ha)
      omega
  have c0 := pos m0 w0
  have c1 := pos m1 (e ▸ w0)
  refine Int.lt_of_mul_lt_mul_right (a := m * c) ?_ (Int.le_of_lt w0)
  have h1 := Int.mul_lt_mul_of_pos_right h (Int.mul_pos c0 c1)
  have f1 : k * c * (m * c) = k * m' * (c * c') := by rw [e]; grind
  have f2 : k' * c' * (m * c) = k' * m * (c * c') := by grind
  rw [f1, f2]
  exact h1
theorem share_big {p : Li} {s : CLG.Sp} (hp : Sml p) (hs : SpB s) : Nb 300 (share p s).1 ∧ Nb 300 (share p s).2 := by
  obtain ⟨s1, s2, s3⟩ := hs
  have b1 : Nb 290 ((p.u - p.x) * s.d) := (Nb.mul (Nb.sub (Nb.le hp.u) (Nb.le hp.x)) s3).mono (by decide)
  have b2 : Nb 290 ((p.v - p.y) * s.d) := (Nb.mul (Nb.sub (Nb.le hp.v) (Nb.le hp.y)) s3).mono (by decide)
  have b3 : Nb 290 (s.m - p.y * s.d) := (Nb.sub s2 (Nb.mul (Nb.le hp.y) s3)).mono (by decide)
  have b4 : Nb 290 (s.n - p.x * s.d) := (Nb.sub s1 (Nb.mul (Nb.le hp.x) s3)).mono (by decide)
  have z : ∀ {a : Int}, Nb 290 a → Nb 300 a := fun h => Nb.mono h (by decide)
  have z' : ∀ {a : Int}, Nb 290 a → Nb 300 (0 - a) := fun h => (Nb.sub (Nb.lit (n := 0)) h).mono (by decide)
  unfold share share0
  split <;> split <;> constructor <;> first | with_reducible exact z' b1 | with_reducible exact z' b2 | with_reducible exact z' b3 | with_reducible exact z' b4 | with_reducible exact z b1 | with_reducible exact z b2 | with_reducible exact z b3 | with_reducible exact z b4
set_option maxHeartbeats 0 in
theorem along_is {p : Li} {K : List CLG.Sp} (hp : Sml p) (op : p.ok) (hK : K.Nodup) (hL : ∀ s ∈ K, Low s) (hB : ∀ s ∈ K, SpB s) (hKl : K.length ≤ 1000) : F_along [lnD p, .tup (K.map CLX.spD)] = .ok (.lst ((row p K).map CLX.spD)) := by
  have on_mem : ∀ s ∈ K.filter (onB p), On p s (share p s).1 (share p s).2 := fun s hs => by
    obtain ⟨h1, h2⟩ := List.mem_filter.mp hs
    exact on_of op (hL s h1).d h2
  obtain ⟨w, w0, wb, wd, Ew⟩ := least_is (ms := (K.filter (onB p)).map fun s => (share p s).2) (fun m hm => by
    obtain ⟨s, hs, rfl⟩ := List.mem_map.mp hm
    exact ⟨(on_mem s hs).m, (share_big hp (hB s (List.mem_filter.mp hs).1)).2⟩)
    (by rw [List.length_map]; exact Nat.le_trans (List.length_filter_le _ _) hKl)
  have wd' : ∀ s ∈ K.filter (onB p), (share p s).2 ∣ w := fun s hs => wd _ (List.mem_map_of_mem hs)
  rw [List.map_map] at Ew
  refine runP_of ?_
  unfold B_along
  refine W_sSeq.mpr (W_sAsg.mpr (W_mComp.mpr (W_mIt.mpr (W_mV.mpr ⟨_, rfl, _, rfl, ?_⟩))))
  refine X_compFM (f := onB p) (h := fun s => .tup [pt (share p s).1 (share p s).2, CLX.spD s]) (fun s hs => ⟨[some (lnD p), some (.tup (K.map CLX.spD)), none, none, some (CLX.spD s), none, none, none], rfl, ?_⟩) ?_
  · have E1 := on_is hp (hB s hs)
    have E2 := CLP.share_is hp (hB s hs)
    refine ⟨?_, rfl, fun _ => ?_⟩
    · walk_at "r"
      exact ⟨rfl, rfl⟩
    · walk_at "r"
      exact ⟨rfl, rfl⟩
  refine ⟨[some (lnD p), some (.tup (K.map CLX.spD)), some (.lst ((K.filter (onB p)).map fun s => .tup [pt (share p s).1 (share p s).2, CLX.spD s])), none, none, none, none, none], rfl, Kq_nx.mpr ?_⟩
  refine W_sSeq.mpr (W_sAsg.mpr (W_mCallP.mpr (W_mCons.mpr (W_mComp.mpr (W_mIt.mpr (W_mV.mpr ⟨_, rfl, _, rfl, ?_⟩))))))
  refine X_compM (h := fun s => .int (share p s).2) (fun s hs => ⟨[some (lnD p), some (.tup (K.map CLX.spD)), some (.lst ((K.filter (onB p)).map fun s => .tup [pt (share p s).1 (share p s).2, CLX.spD s])), none, some (CLX.spD s), some (.int (share p s).1), some (.int (share p s).2), none], rfl, ?_⟩) ?_
  · walk_at "r"
    exact ⟨rfl, rfl⟩
  refine W_mNil.mpr ⟨_, Ew, [some (lnD p), some (.tup (K.map CLX.spD)), some (.lst ((K.filter (onB p)).map fun s => .tup [pt (share p s).1 (share p s).2, CLX.spD s])), some (.int w), none, none, none, none], rfl, Kq_nx.mpr ?_⟩
  refine W_sRet.mpr (W_mComp.mpr (W_mIt.mpr (W_mL.mpr (W_mCons.mpr (W_mComp.mpr (W_mIt.mpr (W_mV.mpr ⟨_, rfl, _, rfl, ?_⟩)))))))
  refine X_compM (h := fun s => ksD ((share p s).1 * w.fdiv (share p s).2, s)) (fun s hs => ⟨[some (lnD p), some (.tup (K.map CLX.spD)), some (.lst ((K.filter (onB p)).map fun s => .tup [pt (share p s).1 (share p s).2, CLX.spD s])), some (.int w), some (CLX.spD s), some (.int (share p s).1), some (.int (share p s).2), none], rfl, ?_⟩) ?_
  · have m0 := (on_mem s hs).m
    obtain ⟨sb1, sb2⟩ := share_big hp (hB s (List.mem_filter.mp hs).1)
    have hd := div_go (a := w) (Int.ne_of_gt m0) sb2 rfl
    have hm : bMul (.int (share p s).1) (.int (w.fdiv (share p s).2)) = some (.int ((share p s).1 * w.fdiv (share p s).2)) := by
      rw [mul_go sb1 (Nb.fdiv wb) rfl]
    refine W_mN.mpr (W_mCons.mpr (W_m2.mpr (W_mV.mpr ⟨_, rfl, W_m2.mpr (W_mV.mpr ⟨_, rfl, W_mV.mpr ⟨_, rfl, _, hd, _, hm, ?_⟩⟩)⟩)))
    walk_at "r"
    exact ⟨rfl, rfl⟩
  refine W_mNil.mpr ?_
  have em : ((K.filter (onB p)).map fun s => ksD ((share p s).1 * w.fdiv (share p s).2, s)) = ((K.filter (onB p)).map fun s => ((share p s).1 * w.fdiv (share p s).2, s)).map ksD := by rw [List.map_map]; rfl
  rw [em]
  refine sortD_ks ?_
  rw [← em, sort_row (R := row p K) row_perm ?_ ?_]
  · refine ⟨_, rfl, ?_⟩
    refine X_compM (h := fun s => CLX.spD s) (fun s hs => ⟨[some (lnD p), some (.tup (K.map CLX.spD)), some (.lst ((K.filter (onB p)).map fun s => .tup [pt (share p s).1 (share p s).2, CLX.spD s])), some (.int w), some (CLX.spD s), none, none, some (.int ((share p s).1 * w.fdiv (share p s).2))], rfl, ?_⟩) ?_
    · walk_at "r"
      exact ⟨rfl, rfl⟩
    rfl
  · refine (row_lt op hK hL).imp_of_mem fun {a b} ha hb hab => ?_
    have ha' := row_perm.mem_iff.mp ha
    have hb' := row_perm.mem_iff.mp hb
    have oa := on_mem a ha'
    have ob := on_mem b hb'
    rw [T_share op (hL a (List.mem_filter.mp ha').1).d (List.mem_filter.mp ha').2, T_share op (hL b (List.mem_filter.mp hb').1).d (List.mem_filter.mp hb').2] at hab
    have h1 := (frac_lt oa.m ob.m).mp hab
    have key := whole_lt w0 oa.m ob.m (wd' a ha') (wd' b hb') h1
    have h2 := le_ks (a := ((share p a).1 * w.fdiv (share p a).2, a)) (b := ((share p b).1 * w.fdiv (share p b).2, b)) key
    exact h2
  · intro a _ b _ e
    have := ks_toks e
    rw [this]
theorem turn_big {a b c d : Int} (ha : Nb 300 a) (hb : Nb 300 b) (hc : Nb 300 c) (hd : Nb 300 d) : CLK.F__law_turn [pt a b, pt c d] = .ok (.int (a * d - b * c)) := by
  refine runP_of ?_
  unfold CLK.B__law_turn
  walk_at "r"
  rfl
theorem lshare_is {p : Li} {s : CLG.Sp} (hp : Sml p) (hs : SpB s) : F__law_share [lnD p, CLX.spD s] = .ok (if lonB p s = true then .int (onw p s) else .non) := by
  have a1 := hp.x
  have a2 := hp.y
  have a3 := hp.u
  have a4 := hp.v
  obtain ⟨s1, s2, s3⟩ := id hs
  have E := turn_big (a := p.u - p.x) (b := p.v - p.y) (c := s.n - p.x * s.d) (d := s.m - p.y * s.d) ((Nb.sub (Nb.le hp.u) (Nb.le hp.x)).mono (by decide)) ((Nb.sub (Nb.le hp.v) (Nb.le hp.y)).mono (by decide)) ((Nb.sub s1 (Nb.mul (Nb.le hp.x) s3)).mono (by decide)) ((Nb.sub s2 (Nb.mul (Nb.le hp.y) s3)).mono (by decide))
  refine runP_of ?_
  unfold B__law_share lnD CLX.spD
  walk_at "r"
  have e : (!decide ((p.u - p.x) * (s.m - p.y * s.d) - (p.v - p.y) * (s.n - p.x * s.d) = 0) || !(decide (0 ≤ (p.u - p.x) * (s.n - p.x * s.d) + (p.v - p.y) * (s.m - p.y * s.d)) && decide ((p.u - p.x) * (s.n - p.x * s.d) + (p.v - p.y) * (s.m - p.y * s.d) ≤ s.d * ((p.u - p.x) * (p.u - p.x) + (p.v - p.y) * (p.v - p.y))))) = !lonB p s := by
    unfold lonB onw w2
    simp only [Bool.decide_and, Bool.not_and]
  rw [e]
  refine go_if (fun h => ?_) fun h => ?_
  · rw [Bool.not_eq_true'] at h
    walk_at "r"
    rw [h]; rfl
  · rw [Bool.not_eq_false'] at h
    walk_at "r"
    rw [h]; rfl
theorem bnotn {b : Bool} {i : Int} : bNotN (if b = true then D.int i else .non) .non = some (.bl b) := by cases b <;> rfl
theorem lrow_loop {L0 : List CLG.Sp} {g : CLG.Sp → D} {o0 o1 : Option D} {Q : Fl → Sl → Prop} {p : Li} (hg : ∀ s, g s = .tup [CLX.spD s, .int (onw p s)]) (hb : ∀ s ∈ L0, Nb 500 (onw p s) ∧ Nb 200 s.d) : ∀ (T : List CLG.Sp) (A : List D) (o4 o5 : Option D), A.length = L0.length →
    (∀ t ∈ T, t ∈ L0 ∧ (L0.filter fun y => decide (onw p y * t.d < onw p t * y.d)).length < L0.length) →
    (∀ o4' o5', Q .nx [o0, o1, some (.lst (L0.map g)), some (.lst (place CLX.spD (fun t => (L0.filter fun y => decide (onw p y * t.d < onw p t * y.d)).length) T A)), o4', o5', none, none]) →
    W (forL (pT 2 (psC (pN 4) (psC (pN 5) psN))) (sStoX 3 (mN bLen (mCons (mComp [6, 7] (pT 2 (psC (pN 6) (psC (pN 7) psN))) (mIt (mV 2)) (m2 bLt (m2 bMul (mV 7) (m2 bIx (mV 4) (mC (.int 2)))) (m2 bMul (mV 5) (m2 bIx (mV 6) (mC (.int 2))))) (mV 6)) mNil)) (mV 4)) (T.map g)) [o0, o1, some (.lst (L0.map g)), some (.lst A), o4, o5, none, none] Q
  | [], A, o4, o5, hA, hc, k => W_forNil.mpr (k o4 o5)
  | t :: T, A, o4, o5, hA, hc, k => by
    obtain ⟨ht, hct⟩ := hc t (by simp)
    obtain ⟨t1, t2⟩ := hb t ht
    refine W_forCons.mpr ⟨[o0, o1, some (.lst (L0.map g)), some (.lst A), some (CLX.spD t), some (.int (onw p t)), none, none], by rw [hg t]; rfl, ?_⟩
    refine W_sStoX.mpr (W_mV.mpr ⟨_, rfl, W_mV.mpr ⟨_, rfl, W_mN.mpr (W_mCons.mpr (W_mComp.mpr (W_mIt.mpr (W_mV.mpr ⟨_, rfl, _, rfl, ?_⟩))))⟩⟩)
    refine X_compFM (f := fun y => decide (onw p y * t.d < onw p t * y.d)) (h := CLX.spD) (fun y hy => ⟨[o0, o1, some (.lst (L0.map g)), some (.lst A), some (CLX.spD t), some (.int (onw p t)), some (CLX.spD y), some (.int (onw p y))], by rw [hg y]; rfl, ?_, rfl, fun _ => ?_⟩) ?_
    · obtain ⟨y1, y2⟩ := hb y hy
      walk_at "r"
      exact ⟨rfl, rfl⟩
    · walk_at "r"
      exact ⟨rfl, rfl⟩
    refine W_mNil.mpr ⟨_, rfl, A, ((L0.filter fun y => decide (onw p y * t.d < onw p t * y.d)).length : Nat), rfl, ?_, ⟨by omega, by rw [hA]; omega⟩, .inl ⟨.inl rfl, ?_⟩⟩
    · simp
    refine lrow_loop hg hb T _ _ _ (by simpa using hA) (fun z hz => hc z (by simp [hz])) fun o4' o5' => ?_
    exact k o4' o5'
theorem lon_fun {p : Li} {K : List CLG.Sp} (op : p.ok) (hL : ∀ s ∈ K, Low s) : K.filter (lonB p) = K.filter (onB p) := List.filter_congr fun s hs => (on_lonB op (hL s hs).d).symm
set_option maxHeartbeats 0 in
theorem lrow_is {p : Li} {K : List CLG.Sp} (hp : Sml p) (op : p.ok) (hK : K.Nodup) (hL : ∀ s ∈ K, Low s) (hB : ∀ s ∈ K, SpB s) (hl : K.length ≤ 100000) : F__law_row [lnD p, .tup (K.map CLX.spD)] = .ok (.lst ((row p K).map CLX.spD)) := by
  have hlf : (K.filter (onB p)).length ≤ 100000 := Nat.le_trans (List.length_filter_le _ _) hl
  have low_mem : ∀ s ∈ K.filter (onB p), Low s := fun s hs => hL s (List.mem_filter.mp hs).1
  have hbd : ∀ s ∈ K.filter (onB p), Nb 500 (onw p s) ∧ Nb 200 s.d := fun s hs => by
    obtain ⟨s1, s2, s3⟩ := hB s (List.mem_filter.mp hs).1
    refine ⟨?_, s3⟩
    unfold onw
    exact (Nb.add (Nb.mul (Nb.sub (Nb.le hp.u) (Nb.le hp.x)) (Nb.sub s1 (Nb.mul (Nb.le hp.x) s3))) (Nb.mul (Nb.sub (Nb.le hp.v) (Nb.le hp.y)) (Nb.sub s2 (Nb.mul (Nb.le hp.y) s3)))).mono (by decide)
  have hR := row_lt op hK hL
  have hRl : (row p K).length = (K.filter (onB p)).length := row_perm.length_eq
  have hn : (row p K).Nodup := row_perm.symm.nodup (hK.filter _)
  have cnt : ∀ t ∈ K.filter (onB p), (row p K)[((K.filter (onB p)).filter fun y => decide (onw p y * t.d < onw p t * y.d)).length]? = some t := fun t ht => by
    obtain ⟨i, hi, e⟩ := List.getElem_of_mem (row_perm.mem_iff.mpr ht)
    have e' : (row p K)[i]? = some t := by rw [List.getElem?_eq_getElem hi, e]
    have h1 := count_idx hR e'
    have h2 : ((row p K).filter fun y => decide (T p y < T p t)).length = ((K.filter (onB p)).filter fun y => decide (T p y < T p t)).length := (row_perm.filter _).length_eq
    have h3 : ((K.filter (onB p)).filter fun y => decide (T p y < T p t)) = (K.filter (onB p)).filter fun y => decide (onw p y * t.d < onw p t * y.d) := List.filter_congr fun y hy => decide_eq_decide.mpr (T_lt op (low_mem y hy).d (low_mem t ht).d)
    rw [← h3, ← h2, h1]
    exact e'
  refine runP_of ?_
  unfold B__law_row
  refine W_sSeq.mpr (W_sAsg.mpr (W_mComp.mpr (W_mIt.mpr (W_mV.mpr ⟨_, rfl, _, rfl, ?_⟩))))
  refine X_compM (h := fun s => .tup [CLX.spD s, if lonB p s = true then .int (onw p s) else .non]) (fun s hs => ⟨_, rfl, ?_⟩) ?_
  · have E := lshare_is hp (hB s hs)
    walk_at "r"
    exact ⟨rfl, rfl⟩
  refine ⟨_, rfl, Kq_nx.mpr ?_⟩
  refine W_sSeq.mpr (W_sAsg.mpr (W_mComp.mpr (W_mIt.mpr (W_mV.mpr ⟨_, rfl, _, rfl, ?_⟩))))
  refine X_compFM (f := lonB p) (h := fun s => .tup [CLX.spD s, .int (onw p s)]) (fun s hs => ⟨_, rfl, ?_, rfl, fun h => ?_⟩) ?_
  · refine W_m2.mpr (W_mV.mpr ⟨_, rfl, W_mC.mpr ⟨_, bnotn, rfl, rfl⟩⟩)
  · rw [if_pos h]
    walk_at "r"
    exact ⟨rfl, rfl⟩
  rw [lon_fun op hL]
  refine ⟨_, rfl, Kq_nx.mpr ?_⟩
  generalize hF : K.filter (onB p) = L0 at *
  have hrep : bRep (.lst [.non]) (.int (L0.length : Nat)) = some (.lst (List.replicate L0.length .non)) := by
    simp only [bRep]
    rw [if_pos (by simp; omega)]
    simp
  refine W_sSeq.mpr (W_sAsg.mpr (W_m2.mpr (W_mN.mpr (W_mCons.mpr (W_mC.mpr (W_mNil.mpr ⟨_, rfl, W_mN.mpr (W_mCons.mpr (W_mV.mpr ⟨_, rfl, W_mNil.mpr ⟨_, rfl, ?_⟩⟩))⟩))))))
  refine ⟨.lst (List.replicate L0.length .non), by rw [List.length_map]; exact hrep, _, rfl, Kq_nx.mpr ?_⟩
  refine W_sSeq.mpr (W_sFor.mpr (W_mIt.mpr (W_mV.mpr ⟨_, rfl, _, rfl, ?_⟩)))
  refine lrow_loop (g := fun s => .tup [CLX.spD s, .int (onw p s)]) (fun _ => rfl) hbd L0 (List.replicate L0.length .non) _ _ (by simp) (fun t ht => ⟨ht, ?_⟩) fun o4 o5 => Kq_nx.mpr ?_
  · have := (List.getElem?_eq_some_iff.mp (cnt t ht)).1
    omega
  rw [place_get (R := row p K) (fun i j y h1 h2 => ?_) (by simp [hRl]) cnt fun i y hy => .inr (row_perm.mem_iff.mp (List.mem_of_getElem? hy) |> fun h => hF ▸ h)]
  · walk_at "r"
    rfl
  · obtain ⟨a1, a2⟩ := List.getElem?_eq_some_iff.mp h1
    obtain ⟨b1, b2⟩ := List.getElem?_eq_some_iff.mp h2
    exact (List.getElem_inj hn).mp (a2.trans b2.symm)
end CLR
namespace CLR
open PySem PySem.Spec L2 CL CLG CLX CLK CLE PySem.W
def B_pieces_of : MS := (sSeq (sAsg (pN 1) (mCallP CLK.knotsF (mCons (mV 0) mNil))) (sSeq (sAsg (pN 2) (mC (.kdc [] []))) (sSeq (sFor (pN 3) (mIt (mV 0)) (sSeq (sAsg (pN 4) (mCallP F_along (mCons (mV 3) (mCons (mV 1) mNil)))) (sFor (pT 2 (psC (pN 5) (psC (pN 6) psN))) (mItN zip2 (mCons (mV 4) (mCons (mSl (mV 4) (some (mC (.int 1))) none) mNil))) (sStoK 2 (mN bTup (mCons (mN bMin2D (mCons (mV 5) (mCons (mV 6) mNil))) (mCons (mN bMax2D (mCons (mV 5) (mCons (mV 6) mNil))) mNil))) (mC (.bl true)))))) (sFz 2 (sRet (mN bTuple (mCons (mL sortDK (mCons (mV 2) mNil)) mNil)))))))
def F_pieces_of : List D → Res D := runP 6 B_pieces_of
def B__law_pieces : MS := (sSeq (sAsg (pN 1) (mCallP CLK.lknotsF (mCons (mV 0) mNil))) (sSeq (sAsg (pN 2) (mC (.kdc [] []))) (sSeq (sFor (pN 3) (mIt (mV 0)) (sSeq (sAsg (pN 4) (mCallP F__law_row (mCons (mV 3) (mCons (mV 1) mNil)))) (sFor (pT 2 (psC (pN 5) (psC (pN 6) psN))) (mItN zip2 (mCons (mSl (mV 4) none (some (m1 bNeg (mC (.int 1))))) (mCons (mSl (mV 4) (some (mC (.int 1))) none) mNil))) (sStoK 2 (mN bTuple (mCons (mL sortDD (mCons (mN bLst (mCons (mV 5) (mCons (mV 6) mNil))) mNil)) mNil)) (mC (.bl true)))))) (sFz 2 (sRet (mN bTuple (mCons (mL sortDK (mCons (mV 2) mNil)) mNil)))))))
def F__law_pieces : List D → Res D := runP 6 B__law_pieces
local macro_rules | `(tactic| walk_at "o") => `(tactic| ((try simp only [backA, List.set_cons_zero, List.set_cons_succ, wipeD, List.map_cons, List.map_nil, List.cons_append, List.nil_append, List.replicate_succ, List.replicate_zero]); first | done | rfl))
local macro_rules | `(tactic| walk_at "b") => `(tactic| first
  | with_reducible exact Nb.lit
  | ((with_reducible apply Nb.mul) <;> walk_at "b")
  | ((with_reducible apply Nb.add) <;> walk_at "b")
  | ((with_reducible apply Nb.sub) <;> walk_at "b")
  | ((with_reducible apply Nb.neg) <;> walk_at "b")
  | ((with_reducible apply Nb.fdiv) <;> walk_at "b")
  | ((with_reducible apply Nb.fmod); (· walk_at "z"); (· walk_at "b"))
  | ((with_reducible apply Nb.max) <;> walk_at "b")
  | ((with_reducible apply Nb.min) <;> walk_at "b")
  | ((with_reducible apply Nb.ite) <;> walk_at "b")
  | with_reducible assumption
  | with_reducible exact Nb.le (by assumption)
  | with_reducible exact Nb.nle (by assumption)
  | with_reducible exact Nb.lt (by assumption)
  | ((with_reducible apply Nb.rng (by assumption) (by assumption)) <;> walk_at "b")
  | ((with_reducible apply Nb.rngE (by assumption) (by assumption)) <;> walk_at "b")
  | with_reducible exact Nb.self _)
local macro_rules | `(tactic| walk_at "z") => `(tactic| first | decide | assumption | omega | exact fmod_nn (by omega) | exact fmod_lt (by omega))
local macro_rules | `(tactic| walk_at "e") => `(tactic| first
  | ((with_reducible refine is_ev ?_); first
    | ((with_reducible apply mul_st); (· walk_at "b"); (· walk_at "b"); (· rfl))
    | ((with_reducible apply mul_s1); (· walk_at "b"); (· rfl))
    | ((with_reducible apply mul_s2); (· walk_at "b"); (· rfl))
    | ((with_reducible apply div_st); (· walk_at "z"); (· walk_at "b"); (· rfl))
    | ((with_reducible apply mod_st); (· walk_at "z"))
    | with_reducible apply tup_pt
    | with_reducible apply tup_ln
    | ((with_reducible apply tup_st); (· rfl))
    | ((with_reducible apply lst_st); (· rfl))
    | with_reducible apply eqi_st
    | with_reducible apply nei_st
    | with_reducible apply eqp_st
    | with_reducible apply nep_st
    | with_reducible apply eqp_st'
    | with_reducible apply nep_st'
    | with_reducible apply eqb_st
    | with_reducible apply neb_st
    | with_reducible apply isb_st
    | with_reducible apply eqs_st
    | with_reducible apply nes_st
    | with_reducible refine ixl0 ?_
    | with_reducible refine ixl1 ?_
    | with_reducible refine ix2bi (fun _ _ _ => ?_)
    | ((with_reducible refine ix4i ?_ ?_ (fun _ _ _ => ?_)); (· walk_at "z"); (· walk_at "z"))
    | ((with_reducible refine ix2i ?_ ?_ (fun _ _ _ => ?_)); (· walk_at "z"); (· walk_at "z"))
    | ((with_reducible refine ix3i ?_ ?_ (fun _ _ _ => ?_)); (· walk_at "z"); (· walk_at "z"))
    | refine ⟨_, rfl, ?_⟩)
  | ((with_reducible refine fill_st ?_); refine ⟨_, rfl, ?_⟩; (try dsimp only))
  | ((with_reducible apply and_go rfl); (· (intro _; (repeat walk_at "s"); with_reducible exact ⟨rfl, rfl⟩)))
  | ((with_reducible refine is_chain ?_); (apply chain_go rfl); (· (intro _; (repeat walk_at "s"); exact ⟨rfl, rfl⟩)))
  | ((with_reducible refine draw_step (by assumption) ?_ ?_ (fun _ _ _ _ _ => ?_)); (· walk_at "z"); (· walk_at "z"))
  | ((with_reducible refine CLY.draw_step (by assumption) ?_ ?_ (fun _ _ _ _ _ => ?_)); (· walk_at "z"); (· walk_at "z"))
  | ((with_reducible refine is_evA ?_); refine ⟨_, rfl, ?_⟩)
  | ((with_reducible refine is_evL ?_); refine ⟨_, rfl, ?_⟩)
  | ((with_reducible refine is_evI ?_); refine ⟨_, rfl, ?_⟩)
  | ((with_reducible refine is_evR ?_); refine ⟨_, rfl, ?_⟩))
local macro_rules | `(tactic| walk_at "f") => `(tactic| first
  | with_reducible refine W_mV.mpr ?_
  | with_reducible refine W_mCons.mpr ?_
  | with_reducible refine W_m2.mpr ?_
  | with_reducible refine W_mC.mpr ?_
  | with_reducible refine W_mNil.mpr ?_
  | with_reducible refine W_mN.mpr ?_
  | with_reducible refine W_sSeq.mpr ?_
  | with_reducible refine W_sAsg.mpr ?_
  | with_reducible refine W_m1.mpr ?_
  | with_reducible refine W_mCallP.mpr ?_
  | with_reducible refine W_mCall.mpr ?_
  | with_reducible refine X_evI.mpr ?_
  | with_reducible refine X_evE.mpr ?_
  | with_reducible refine X_evN.mpr ?_
  | with_reducible refine X_if ?_
  | with_reducible refine W_sRet.mpr ?_
  | with_reducible refine W_sK.mpr ?_
  | with_reducible refine X_and ?_
  | with_reducible refine X_or ?_
  | with_reducible refine W_sPar.mpr ?_
  | with_reducible refine W_mSl.mpr ?_
  | with_reducible refine W_mPtN.mpr ?_
  | with_reducible refine W_mPtS.mpr ?_
  | with_reducible refine W_mIt.mpr ?_
  | with_reducible refine W_mItN.mpr ?_
  | with_reducible refine W_mComp.mpr ?_
  | ((with_reducible refine is_comp ?_); first | (apply X_compN; (· walk_at "o")) | ((with_reducible apply X_compY); (· walk_at "o"); (· rfl)))
  | with_reducible refine W_sFor.mpr ?_
  | ((with_reducible refine is_for ?_); refine W_forNil.mpr ?_)
  | with_reducible refine X_chain ?_
  | with_reducible refine W_sExp.mpr ?_
  | with_reducible refine W_mL.mpr ?_
  | with_reducible refine X_mif ?_
  | with_reducible refine W_mIxS.mpr ?_
  | with_reducible refine W_mYes.mpr ?_
  | with_reducible refine W_sPar3.mpr ?_
  | with_reducible refine W_mApp.mpr ?_
  | with_reducible refine W_mBor.mpr ?_
  | with_reducible refine CLX.W_sFz.mpr ?_)
local macro_rules | `(tactic| walk_at "s") => `(tactic| first
  | ((with_reducible refine is_W ?_); walk_at "f")
  | ((with_reducible refine is_ex ?_); first
    | ((with_reducible refine is_evS ?_); refine ⟨_, rfl, ?_⟩)
    | ((with_reducible apply call_st); (· with_reducible assumption))
    | with_reducible refine ⟨_, by with_reducible assumption, ?_⟩
    | walk_at "e")
  | ((with_reducible apply X_nx); (· walk_at "o"))
  | with_reducible refine Kq_ret.mpr ?_
  | with_reducible refine Kq_brk.mpr ?_
  | with_reducible refine Kq_cnt.mpr ?_
  | ((with_reducible apply X_fnx); (· walk_at "o"))
  | ((with_reducible apply X_fcnt); (· walk_at "o"))
  | with_reducible refine X_fbrk ?_
  | with_reducible refine X_fret ?_
  | ((with_reducible refine is_ltA ?_); refine ⟨?_, ?_⟩; (· first | decide | omega | (simp; omega) | (simp; done)))
  | with_reducible refine parW_mk.mpr ?_
  | with_reducible refine par3W_mk.mpr ?_)
local macro_rules | `(tactic| walk_at "r") => `(tactic| repeat walk_at "s")
local macro_rules | `(tactic| walk_at "u") => `(tactic| first | ((apply X_forC); (· walk_at "o"); (· rfl)) | ((apply X_compY); (· walk_at "o"); (· rfl)) | ((apply X_compC); (· walk_at "o"); (· rfl)))
local macro_rules | `(tactic| walk_at "g") => `(tactic| repeat first | walk_at "s" | (with_reducible refine go_ifF (rfl : _ = false) ?_) | (with_reducible refine go_ifT (rfl : _ = true) ?_) | (refine go_ifF (rfl : _ = false) ?_) | (refine go_ifT (rfl : _ = true) ?_) | walk_at "u")
def pcD (x : CLG.Sp × CLG.Sp) : D := .tup [CLX.spD x.1, CLX.spD x.2]
theorem sp_eq {s t : CLG.Sp} (h : s.n = t.n ∧ s.m = t.m ∧ s.d = t.d) : s = t := by
  cases s; cases t; simp only [CLG.Sp.mk.injEq]; exact h
def nkP (x : CLG.Sp × CLG.Sp) : NestedKey := .tup [nkS x.1, nkS x.2]
def pcE : KEnc pcD where
  nk := nkP
  nk_eq _ := rfl
  key x := by
    have h : D.nk (pcD x) = some (nkP x) := rfl
    unfold CL.keyOf
    rw [h]
    rfl
  inj a b h := by
    unfold nkP at h
    simp only [NestedKey.tup.injEq, List.cons.injEq, and_true] at h
    exact Prod.ext (nkS_inj h.1) (nkS_inj h.2)
  toks a b h := by
    simp only [pcD, CLX.spD, D.py, D.pyL, keyToks, keyToksAll] at h
    simp at h
    exact Prod.ext (sp_eq ⟨h.1, h.2.1, h.2.2.1⟩) (sp_eq h.2.2.2)
  ok p := by simp [pcD, CLX.spD, D.okB, D.okL]
  non _ := rfl
  alike a b := by simp [pcD, CLX.spD, D.py, D.pyL, alike, alikeAll]
  some p := ⟨_, _, rfl⟩
def srt (a b : CLG.Sp) : CLG.Sp × CLG.Sp := if leD (CLX.spD a) (CLX.spD b) = true then (a, b) else (b, a)
theorem leD_not {x y : D} : leD x y = !dataLt y.py x.py := rfl
theorem srt_comm (a b : CLG.Sp) : srt a b = srt b a := by
  unfold srt
  by_cases h1 : leD (CLX.spD a) (CLX.spD b) = true
  · rw [if_pos h1]
    by_cases h2 : leD (CLX.spD b) (CLX.spD a) = true
    · have := sp_toks (leD_toks h1 h2)
      subst this
      rw [if_pos h2]
    · rw [if_neg h2]
  · rw [if_neg h1]
    rcases leD_total.total (CLX.spD a) (CLX.spD b) with h | h
    · exact absurd h h1
    · rw [if_pos h]
theorem dokS {a b : CLG.Sp} : dataOk [CLX.spD a, CLX.spD b] = true := by simp [dataOk, CLX.spD, D.okL, D.okB, D.py, D.pyL, alike, alikeAll, D.isNon]
theorem minS {a b : CLG.Sp} {P : D → Prop} (k : P (CLX.spD (srt a b).1)) : ∃ d, bMin2D [CLX.spD a, CLX.spD b] = some d ∧ P d := by
  refine ⟨_, ?_, k⟩
  show (if (dataOk [CLX.spD a, CLX.spD b] && !isLst (CLX.spD a) && !isLst (CLX.spD b)) = true then some (minDD (CLX.spD a) [CLX.spD b]) else none) = _
  rw [if_pos (by rw [dokS]; rfl)]
  simp only [minDD, List.foldl_cons, List.foldl_nil, srt, leD_not]
  by_cases h : dataLt (CLX.spD b).py (CLX.spD a).py = true <;> simp [h]
theorem maxS {a b : CLG.Sp} {P : D → Prop} (k : P (CLX.spD (srt a b).2)) : ∃ d, bMax2D [CLX.spD a, CLX.spD b] = some d ∧ P d := by
  refine ⟨_, ?_, k⟩
  show (if (dataOk [CLX.spD a, CLX.spD b] && !isLst (CLX.spD a) && !isLst (CLX.spD b)) = true then some (maxDD (CLX.spD a) [CLX.spD b]) else none) = _
  rw [if_pos (by rw [dokS]; rfl)]
  rw [srt_comm]
  simp only [maxDD, List.foldl_cons, List.foldl_nil, srt, leD_not]
  by_cases h : dataLt (CLX.spD a).py (CLX.spD b).py = true <;> simp [h]
theorem sortS {a b : CLG.Sp} : [CLX.spD a, CLX.spD b].mergeSort leD = [CLX.spD (srt a b).1, CLX.spD (srt a b).2] := by
  have key : [CLX.spD (srt a b).1, CLX.spD (srt a b).2].Perm [CLX.spD a, CLX.spD b] ∧ leD (CLX.spD (srt a b).1) (CLX.spD (srt a b).2) = true := by
    unfold srt
    by_cases h : leD (CLX.spD a) (CLX.spD b) = true
    · rw [if_pos h]; exact ⟨.refl _, h⟩
    · rw [if_neg h]
      rcases leD_total.total (CLX.spD a) (CLX.spD b) with h1 | h1
      · exact absurd h1 h
      · exact ⟨.swap _ _ _, h1⟩
  have f : ∀ z ∈ [CLX.spD a, CLX.spD b], ∃ c, z = CLX.spD c := fun z hz => by
    simp only [List.mem_cons, List.not_mem_nil, or_false] at hz
    rcases hz with rfl | rfl
    · exact ⟨_, rfl⟩
    · exact ⟨_, rfl⟩
  refine List.Perm.eq_of_pairwise (le := fun a b => leD a b = true) (fun x y hx hy h1 h2 => ?_) (sort_pairwise leD_total _) (by simpa using key.2) ((List.mergeSort_perm _ _).trans key.1.symm)
  obtain ⟨c, rfl⟩ := f x ((List.mergeSort_perm _ leD).mem_iff.mp hx)
  obtain ⟨d, rfl⟩ := f y (key.1.mem_iff.mp hy)
  rw [sp_toks (leD_toks h1 h2)]
theorem sortP {a b : CLG.Sp} {P : List D → Prop} (k : P [CLX.spD (srt a b).1, CLX.spD (srt a b).2]) : ∃ l, sortDD [.lst [CLX.spD a, CLX.spD b]] = some l ∧ P l := by
  refine ⟨_, ?_, k⟩
  have h : (dataOk [CLX.spD a, CLX.spD b] && sortB [CLX.spD a, CLX.spD b]) = true := dok_e spE (S := [a, b])
  simp only [sortDD]
  rw [if_pos h, sortS]
def nbs (R : List CLG.Sp) : List (CLG.Sp × CLG.Sp) := R.zip R.tail
def pcs (p : Li) (K : List CLG.Sp) : List (CLG.Sp × CLG.Sp) := (nbs (row p K)).map fun x => srt x.1 x.2
theorem zip_nbs : ∀ {l : List CLG.Sp}, zipL (l.map CLX.spD) (l.map CLX.spD).tail = (nbs l).map fun p => D.tup [CLX.spD p.1, CLX.spD p.2]
  | [] => rfl
  | [a] => rfl
  | a :: b :: l => by
    have ih := zip_nbs (l := b :: l)
    simp only [nbs, List.map_cons, List.tail_cons, List.zip_cons_cons, zipL] at ih ⊢
    rw [ih]
theorem zip_last : ∀ {l : List D}, zipL l.dropLast l.tail = zipL l l.tail
  | [] => rfl
  | [a] => rfl
  | a :: b :: l => by
    have ih := zip_last (l := b :: l)
    simp only [List.dropLast_cons₂, List.tail_cons, zipL] at ih ⊢
    rw [ih]
theorem nbs_len {l : List CLG.Sp} : (nbs l).length ≤ l.length := by unfold nbs; rw [List.length_zip]; omega
theorem nbs_mem : ∀ {l : List CLG.Sp} {a b : CLG.Sp}, (a, b) ∈ nbs l ↔ ∃ u v, l = u ++ a :: b :: v
  | [], a, b => by simp [nbs]
  | [x], a, b => by
    simp only [nbs, List.tail_cons, List.zip_nil_right, List.not_mem_nil, false_iff]
    rintro ⟨u, v, e⟩
    have := congrArg List.length e
    simp at this
    omega
  | x :: y :: l, a, b => by
    have ih := nbs_mem (l := y :: l) (a := a) (b := b)
    simp only [nbs, List.tail_cons, List.zip_cons_cons, List.mem_cons, Prod.mk.injEq] at ih ⊢
    constructor
    · rintro (⟨rfl, rfl⟩ | h)
      · exact ⟨[], l, rfl⟩
      · obtain ⟨u, v, e⟩ := ih.mp h
        exact ⟨x :: u, v, by rw [e]; rfl⟩
    · rintro ⟨u, v, e⟩
      cases u with
      | nil =>
        simp only [List.nil_append, List.cons.injEq] at e
        exact .inl ⟨e.1.symm, e.2.1.symm⟩
      | cons z u =>
        simp only [List.cons_append, List.cons.injEq] at e
        exact .inr (ih.mpr ⟨u, v, e.2⟩)
theorem nbs_rev {l : List CLG.Sp} {a b : CLG.Sp} : (a, b) ∈ nbs l.reverse ↔ (b, a) ∈ nbs l := by
  rw [nbs_mem, nbs_mem]
  constructor
  · rintro ⟨u, v, e⟩
    refine ⟨v.reverse, u.reverse, ?_⟩
    have := congrArg List.reverse e
    simpa using this
  · rintro ⟨u, v, e⟩
    refine ⟨v.reverse, u.reverse, ?_⟩
    rw [e]
    simp
theorem pair_loop {o0 o1 o3 o4 : Option D} {ke : M D} (hk : ∀ (a b : CLG.Sp) (o2 : Option D) {QD : D → Sl → Prop}, QD (pcD (srt a b)) [o0, o1, o2, o3, o4, some (CLX.spD a), some (CLX.spD b)] → W ke [o0, o1, o2, o3, o4, some (CLX.spD a), some (CLX.spD b)] QD) {Q : Fl → Sl → Prop} : ∀ (T S : List (CLG.Sp × CLG.Sp)) (vs : List D) (o5 o6 : Option D), S.Nodup → S.length + T.length ≤ 10000000 →
    (∀ (S' : List (CLG.Sp × CLG.Sp)) (vs' : List D) (o5' o6' : Option D), S'.Nodup → (∀ z, z ∈ S' ↔ z ∈ S ∨ z ∈ T.map fun x => srt x.1 x.2) → S'.length ≤ S.length + T.length → Q .nx [o0, o1, some (.kdc (S'.map pcD) vs'), o3, o4, o5', o6']) →
    W (forL (pT 2 (psC (pN 5) (psC (pN 6) psN))) (sStoK 2 ke (mC (.bl true))) (T.map fun p => D.tup [CLX.spD p.1, CLX.spD p.2])) [o0, o1, some (.kdc (S.map pcD) vs), o3, o4, o5, o6] Q
  | [], S, vs, o5, o6, hn, _, k => W_forNil.mpr (k S vs o5 o6 hn (by simp) (by simp))
  | t :: T, S, vs, o5, o6, hn, hl, k => by
    simp only [List.length_cons] at hl
    refine W_forCons.mpr ⟨[o0, o1, some (.kdc (S.map pcD) vs), o3, o4, some (CLX.spD t.1), some (CLX.spD t.2)], rfl, sto_e pcE (W_mC.mpr ⟨_, rfl, hk t.1 t.2 _ ⟨S, vs, srt t.1 t.2, rfl, rfl, by omega, fun vs' => .inl ⟨.inl rfl, ?_⟩⟩⟩)⟩
    have h1 := CLE.len_ins (S := S) (s := srt t.1 t.2)
    refine pair_loop hk T (CLE.ins S (srt t.1 t.2)) vs' _ _ (CLE.nodup_ins hn) (by omega) fun S' vs2 o5' o6' n1 n2 n3 => k S' vs2 o5' o6' n1 (fun z => ?_) (by simp only [List.length_cons]; omega)
    rw [n2, CLE.mem_ins]
    simp only [List.map_cons, List.mem_cons]
    constructor
    · rintro ((h | h) | h)
      · exact .inl h
      · exact .inr (.inl h)
      · exact .inr (.inr h)
    · rintro (h | h | h)
      · exact .inl (.inl h)
      · exact .inl (.inr h)
      · exact .inr h
theorem line_loop {K : List CLG.Sp} {o0 o1 : Option D} {bd : MS} {ok : Li → Prop} {n : Nat} (hn0 : K.length ≤ n)
    (hb : ∀ (p : Li) (S : List (CLG.Sp × CLG.Sp)) (vs : List D) (o4 o5 o6 : Option D) {Q' : Fl → Sl → Prop}, ok p → S.Nodup → S.length + n ≤ 10000000 →
      (∀ (S' : List (CLG.Sp × CLG.Sp)) (vs' : List D) (o4' o5' o6' : Option D), S'.Nodup → (∀ z, z ∈ S' ↔ z ∈ S ∨ z ∈ pcs p K) → S'.length ≤ S.length + n → Q' .nx [o0, o1, some (.kdc (S'.map pcD) vs'), some (lnD p), o4', o5', o6']) →
      W bd [o0, o1, some (.kdc (S.map pcD) vs), some (lnD p), o4, o5, o6] Q')
    {Q : Fl → Sl → Prop} : ∀ (T : List Li) (S : List (CLG.Sp × CLG.Sp)) (vs : List D) (o3 o4 o5 o6 : Option D), (∀ p ∈ T, ok p) → S.Nodup → S.length + n * T.length ≤ 10000000 →
    (∀ (S' : List (CLG.Sp × CLG.Sp)) (vs' : List D) (o3' o4' o5' o6' : Option D), S'.Nodup → (∀ z, z ∈ S' ↔ z ∈ S ∨ ∃ p ∈ T, z ∈ pcs p K) → S'.length ≤ S.length + n * T.length → Q .nx [o0, o1, some (.kdc (S'.map pcD) vs'), o3', o4', o5', o6']) →
    W (forL (pN 3) bd (T.map lnD)) [o0, o1, some (.kdc (S.map pcD) vs), o3, o4, o5, o6] Q
  | [], S, vs, o3, o4, o5, o6, _, hn, _, k => W_forNil.mpr (k S vs o3 o4 o5 o6 hn (by simp) (by simp))
  | p :: T, S, vs, o3, o4, o5, o6, hT, hn, hl, k => by
    rw [List.length_cons, Nat.mul_succ] at hl
    refine W_forCons.mpr ⟨[o0, o1, some (.kdc (S.map pcD) vs), some (lnD p), o4, o5, o6], rfl, hb p S vs o4 o5 o6 (hT p (by simp)) hn (by omega) fun S' vs' o4' o5' o6' n1 n2 n3 => .inl ⟨.inl rfl, ?_⟩⟩
    refine line_loop hn0 hb T S' vs' _ _ _ _ (fun q hq => hT q (by simp [hq])) n1 (by omega) fun S2 vs2 o32 o42 o52 o62 m1 m2 m3 => k S2 vs2 o32 o42 o52 o62 m1 (fun z => ?_) (by rw [List.length_cons, Nat.mul_succ]; omega)
    rw [m2, n2]
    simp only [List.mem_cons]
    constructor
    · rintro ((h | h) | ⟨q, hq, h⟩)
      · exact .inl h
      · exact .inr ⟨p, .inl rfl, h⟩
      · exact .inr ⟨q, .inr hq, h⟩
    · rintro (h | ⟨q, rfl | hq, h⟩)
      · exact .inl (.inl h)
      · exact .inl (.inr h)
      · exact .inr ⟨q, hq, h⟩
theorem row_len {p : Li} {K : List CLG.Sp} : (row p K).length ≤ K.length := by
  rw [row_perm.length_eq]; exact List.length_filter_le _ _
structure KOk (K : List CLG.Sp) : Prop where
  nd : K.Nodup
  low : ∀ s ∈ K, Low s
  bd : ∀ s ∈ K, SpB s
  len : K.length ≤ 1000
/-- what the program tells -/
theorem pieces_is {ps : List Li} {K : List CLG.Sp} (hK : KOk K) (hS : ∀ p ∈ ps, Sml p ∧ p.ok) (hlen : ps.length ≤ 100) (E : CLK.knotsF [.tup (ps.map lnD)] = .ok (.tup (K.map CLX.spD))) :
    ∃ Z : List (CLG.Sp × CLG.Sp), Z.Nodup ∧ (∀ z, z ∈ Z ↔ ∃ p ∈ ps, z ∈ pcs p K) ∧ Z.length ≤ K.length * ps.length ∧ F_pieces_of [.tup (ps.map lnD)] = .ok (.tup ((Z.map pcD).mergeSort leD)) := by
  have key : ∃ d, F_pieces_of [.tup (ps.map lnD)] = .ok d ∧ ∃ Z : List (CLG.Sp × CLG.Sp), Z.Nodup ∧ (∀ z, z ∈ Z ↔ ∃ p ∈ ps, z ∈ pcs p K) ∧ Z.length ≤ K.length * ps.length ∧ d = .tup ((Z.map pcD).mergeSort leD) := by
    refine runP_ex ?_
    unfold B_pieces_of
    walk_at "r"
    refine line_loop (K := K) (n := K.length) (ok := fun p => Sml p ∧ p.ok) (Nat.le_refl _) (fun p S vs o4 o5 o6 Q' hp hn hl k => ?_) ps [] [] _ _ _ _ hS (by simp) ?_ fun S' vs' o3 o4 o5 o6 n1 n2 n3 => ?_
    · have EA := along_is hp.1 hp.2 hK.nd hK.low hK.bd hK.len
      walk_at "r"
      have et : cutD ((row p K).map CLX.spD) (some 1) none = ((row p K).map CLX.spD).tail := cut_tail
      rw [et, zip_nbs]
      have hz := nbs_len (l := row p K)
      have hr := row_len (p := p) (K := K)
      refine pair_loop (fun a b o2 QD q => ?_) (nbs (row p K)) S vs _ _ hn (by omega) fun S' vs' o5' o6' n1 n2 n3 => k S' vs' _ o5' o6' n1 n2 (by omega)
      refine W_mN.mpr (W_mCons.mpr (W_mN.mpr (W_mCons.mpr (W_mV.mpr ⟨_, rfl, W_mCons.mpr (W_mV.mpr ⟨_, rfl, W_mNil.mpr (minS ?_)⟩)⟩))))
      refine W_mCons.mpr (W_mN.mpr (W_mCons.mpr (W_mV.mpr ⟨_, rfl, W_mCons.mpr (W_mV.mpr ⟨_, rfl, W_mNil.mpr (maxS ?_)⟩)⟩)))
      exact W_mNil.mpr ⟨_, rfl, q⟩
    · have h1 := Nat.mul_le_mul hK.len hlen
      simpa using Nat.le_trans h1 (by decide)
    · walk_at "r"
      refine sortK_e pcE ?_
      walk_at "r"
      exact ⟨fun z => by rw [n2]; simp, by simpa using n3, rfl⟩
  obtain ⟨d, e, Z, h1, h2, h3, rfl⟩ := key
  exact ⟨Z, h1, h2, h3, e⟩
/-- what the law tells -/
theorem lpieces_is {ps : List Li} {K : List CLG.Sp} (hK : KOk K) (hS : ∀ p ∈ ps, Sml p ∧ p.ok) (hlen : ps.length ≤ 100) (E : CLK.lknotsF [.tup (ps.map lnD)] = .ok (.tup (K.map CLX.spD))) :
    ∃ Z : List (CLG.Sp × CLG.Sp), Z.Nodup ∧ (∀ z, z ∈ Z ↔ ∃ p ∈ ps, z ∈ pcs p K) ∧ Z.length ≤ K.length * ps.length ∧ F__law_pieces [.tup (ps.map lnD)] = .ok (.tup ((Z.map pcD).mergeSort leD)) := by
  have key : ∃ d, F__law_pieces [.tup (ps.map lnD)] = .ok d ∧ ∃ Z : List (CLG.Sp × CLG.Sp), Z.Nodup ∧ (∀ z, z ∈ Z ↔ ∃ p ∈ ps, z ∈ pcs p K) ∧ Z.length ≤ K.length * ps.length ∧ d = .tup ((Z.map pcD).mergeSort leD) := by
    refine runP_ex ?_
    unfold B__law_pieces
    walk_at "r"
    refine line_loop (K := K) (n := K.length) (ok := fun p => Sml p ∧ p.ok) (Nat.le_refl _) (fun p S vs o4 o5 o6 Q' hp hn hl k => ?_) ps [] [] _ _ _ _ hS (by simp) ?_ fun S' vs' o3 o4 o5 o6 n1 n2 n3 => ?_
    · have EA := lrow_is hp.1 hp.2 hK.nd hK.low hK.bd (Nat.le_trans hK.len (by decide))
      walk_at "r"
      have e1 : cutD ((row p K).map CLX.spD) none (some (-1)) = ((row p K).map CLX.spD).dropLast := cut_last
      have e2 : cutD ((row p K).map CLX.spD) (some 1) none = ((row p K).map CLX.spD).tail := cut_tail
      rw [e1, e2, zip_last, zip_nbs]
      have hz := nbs_len (l := row p K)
      have hr := row_len (p := p) (K := K)
      refine pair_loop (fun a b o2 QD q => ?_) (nbs (row p K)) S vs _ _ hn (by omega) fun S' vs' o5' o6' n1 n2 n3 => k S' vs' _ o5' o6' n1 n2 (by omega)
      refine W_mN.mpr (W_mCons.mpr (W_mL.mpr (W_mCons.mpr (W_mN.mpr (W_mCons.mpr (W_mV.mpr ⟨_, rfl, W_mCons.mpr (W_mV.mpr ⟨_, rfl, W_mNil.mpr ⟨_, rfl, W_mNil.mpr (sortP ?_)⟩⟩)⟩))))))
      exact W_mNil.mpr ⟨_, rfl, q⟩
    · have h1 := Nat.mul_le_mul hK.len hlen
      simpa using Nat.le_trans h1 (by decide)
    · walk_at "r"
      refine sortK_e pcE ?_
      walk_at "r"
      exact ⟨fun z => by rw [n2]; simp, by simpa using n3, rfl⟩
  obtain ⟨d, e, Z, h1, h2, h3, rfl⟩ := key
  exact ⟨Z, h1, h2, h3, e⟩
theorem on_back {p : Li} {s : CLG.Sp} {K M : Int} (h : On p s K M) : On p.rev s (M - K) M := by
  obtain ⟨m0, k0, k1, hx, hy⟩ := h
  refine ⟨m0, by omega, by omega, ?_, ?_⟩ <;> simp only [Li.rev] <;> grind
theorem on_revB {p : Li} {s : CLG.Sp} (op : p.ok) (d0 : 0 < s.d) : onB p.rev s = onB p s := by
  rw [Bool.eq_iff_iff]
  constructor
  · intro h
    have := on_back (on_of (ok_rev op) d0 h)
    exact of_on d0 this
  · exact fun h => of_on d0 (on_back (on_of op d0 h))
theorem onw_rev {p : Li} {s : CLG.Sp} : onw p.rev s = s.d * w2 p - onw p s := by unfold onw w2; simp only [Li.rev]; grind
theorem row_rev {p : Li} {K : List CLG.Sp} (op : p.ok) (hK : K.Nodup) (hL : ∀ s ∈ K, Low s) : row p.rev K = (row p K).reverse := by
  have hf : K.filter (onB p.rev) = K.filter (onB p) := List.filter_congr fun s hs => on_revB op (hL s hs).d
  have hm : ∀ s ∈ row p K, Low s := fun s hs => hL s (List.mem_filter.mp (row_perm.mem_iff.mp hs)).1
  refine List.Perm.eq_of_pairwise (le := fun a b => T p.rev a < T p.rev b) (fun x y hx hy h1 h2 => ?_) (row_lt (ok_rev op) hK hL) ?_ ?_
  · exact absurd h2 (Rat.not_lt.mpr (Rat.le_of_lt h1))
  · rw [List.pairwise_reverse]
    refine (row_lt op hK hL).imp_of_mem fun {a b} ha hb hab => ?_
    have la := (hm a ha).d
    have lb := (hm b hb).d
    rw [T_lt op la lb] at hab
    rw [T_lt (ok_rev op) lb la, onw_rev, onw_rev]
    have e1 : (b.d * w2 p - onw p b) * a.d = a.d * b.d * w2 p - onw p b * a.d := by grind
    have e2 : (a.d * w2 p - onw p a) * b.d = a.d * b.d * w2 p - onw p a * b.d := by grind
    rw [e1, e2]
    omega
  · refine (row_perm.trans ?_).trans (List.reverse_perm _).symm
    rw [hf]
    exact row_perm.symm
theorem pcs_rev {p : Li} {K : List CLG.Sp} (op : p.ok) (hK : K.Nodup) (hL : ∀ s ∈ K, Low s) {z : CLG.Sp × CLG.Sp} : z ∈ pcs p.rev K ↔ z ∈ pcs p K := by
  unfold pcs
  rw [row_rev op hK hL]
  simp only [List.mem_map]
  constructor
  · rintro ⟨⟨a, b⟩, h, rfl⟩
    exact ⟨(b, a), nbs_rev.mp h, srt_comm _ _⟩
  · rintro ⟨⟨a, b⟩, h, rfl⟩
    exact ⟨(b, a), nbs_rev.mpr h, srt_comm _ _⟩
theorem nodup_le {α : Type} [DecidableEq α] : ∀ {l m : List α}, l.Nodup → (∀ x ∈ l, x ∈ m) → l.length ≤ m.length
  | [], _, _, _ => Nat.zero_le _
  | x :: l, m, hn, hs => by
    obtain ⟨h1, h2⟩ := List.nodup_cons.mp hn
    have hx : x ∈ m := hs x (by simp)
    have ih := nodup_le (m := m.erase x) h2 fun y hy => (List.mem_erase_of_ne fun e => h1 (by rw [← e]; exact hy)).mpr (hs y (by simp [hy]))
    have := List.length_erase_of_mem hx
    have := List.length_pos_of_mem hx
    simp only [List.length_cons]
    omega
def knL : List Li → List CLG.Sp
  | [] => []
  | p :: l => [⟨p.x, p.y, 1⟩, ⟨p.u, p.v, 1⟩] ++ (l.flatMap p.common ++ knL l)
theorem kn_mem : ∀ {l : List Li} {s : CLG.Sp}, Kn l s → s ∈ knL l
  | [], s, h => by simp [Kn, CLK.Ends, Prs] at h
  | p :: l, s, h => by
    rcases kn_cons.mp h with h | h | ⟨q, hq, h⟩
    · simp only [knL, List.mem_append]
      exact .inr (.inr (kn_mem h))
    · simp only [knL, List.mem_append]
      left
      simpa using h
    · simp only [knL, List.mem_append, List.mem_flatMap]
      exact .inr (.inl ⟨q, hq, h⟩)
theorem flat_len {α β : Type} {f : α → List β} {k : Nat} : ∀ {l : List α}, (∀ a ∈ l, (f a).length ≤ k) → (l.flatMap f).length ≤ k * l.length
  | [], _ => by simp
  | a :: l, h => by
    have h1 := h a (by simp)
    have h2 := flat_len (l := l) fun b hb => h b (by simp [hb])
    simp only [List.flatMap_cons, List.length_append, List.length_cons, Nat.mul_succ]
    omega
theorem knL_len : ∀ {l : List Li}, (∀ p ∈ l, Sml p) → (knL l).length ≤ l.length * l.length + l.length
  | [], _ => by simp [knL]
  | p :: l, h => by
    have hl : ∀ q ∈ l, Sml q := fun q hq => h q (by simp [hq])
    have ih := knL_len hl
    have h2 := flat_len (f := p.common) (k := 2) (l := l) fun q hq => (common_bd (h p (by simp)) (hl q hq)).2
    simp only [knL, List.length_append, List.length_cons, List.length_nil, Nat.mul_succ, Nat.succ_mul]
    omega
/-- the knots of lines, put in order, and all that tells them -/
theorem knots_list {ps : List Li} (hS : ∀ p ∈ ps, Sml p ∧ p.ok) (hlen : ps.length ≤ 12) : ∃ K : List CLG.Sp, KOk K ∧ K.length ≤ ps.length * ps.length + ps.length ∧ CLK.lknotsF [.tup (ps.map lnD)] = .ok (.tup (K.map CLX.spD)) ∧ CLK.knotsF [.tup (ps.map lnD)] = .ok (.tup (K.map CLX.spD)) ∧ CLK.knotsF [.tup ((ps.reverse.map Li.rev).map lnD)] = .ok (.tup (K.map CLX.spD)) := by
  obtain ⟨S, a1, a2, a3, a4⟩ := knots_is (fun p hp => (hS p hp).1) (by omega)
  obtain ⟨Kd, s, e1, e2, e3, _⟩ := CLK.knots_all hS (by omega)
  have hm : ∀ x ∈ (S.map CLX.spD).mergeSort leD, ∃ s ∈ S, x = CLX.spD s := fun x hx => by
    obtain ⟨s, hs, rfl⟩ := List.mem_map.mp ((List.mergeSort_perm _ leD).mem_iff.mp hx)
    exact ⟨s, hs, rfl⟩
  have pre : ∀ {M : List D}, (∀ x ∈ M, ∃ s ∈ S, x = CLX.spD s) → ∃ L : List CLG.Sp, M = L.map CLX.spD := by
    intro M
    induction M with
    | nil => exact fun _ => ⟨[], rfl⟩
    | cons x M ih =>
      intro h
      obtain ⟨s, _, rfl⟩ := h x (by simp)
      obtain ⟨L, rfl⟩ := ih fun y hy => h y (by simp [hy])
      exact ⟨s :: L, rfl⟩
  obtain ⟨K, eK⟩ := pre hm
  have pK : (K.map CLX.spD).Perm (S.map CLX.spD) := by rw [← eK]; exact List.mergeSort_perm _ _
  have inj : ∀ {A : List CLG.Sp}, (A.map CLX.spD).Nodup → A.Nodup := fun h => List.Pairwise.of_map _ (fun _ _ hne e => hne (congrArg _ e)) h
  have nK : K.Nodup := inj (pK.symm.nodup (List.Pairwise.map _ (fun _ _ n e => n (sp_inj e)) a1))
  have mK : ∀ s ∈ K, Kn ps.reverse s := fun s hs => by
    obtain ⟨t, ht, e⟩ := List.mem_map.mp (pK.mem_iff.mp (List.mem_map_of_mem hs))
    rw [← sp_inj e]
    exact (a2 t).mp ht
  have hk : CLK.knotsF [.tup (ps.map lnD)] = .ok (.tup (K.map CLX.spD)) := by rw [a4, eK]
  have ed : Kd = .tup (K.map CLX.spD) := by
    rw [e2] at hk
    cases hk
    rfl
  have hlK : K.length ≤ ps.length * ps.length + ps.length := by
    have h1 := nodup_le nK fun s hs => kn_mem (mK s hs)
    have h2 := knL_len (l := ps.reverse) fun p hp => (hS p (List.mem_reverse.mp hp)).1
    rw [List.length_reverse] at h2
    omega
  subst ed
  refine ⟨K, ⟨nK, fun s hs => kn_low (mK s hs), fun s hs => kn_bd (fun p hp => (hS p (List.mem_reverse.mp hp)).1) s (mK s hs), ?_⟩, hlK, e1, e2, e3⟩
  have := Nat.mul_le_mul hlen hlen
  omega
theorem mem_turned {ps : List Li} {K : List CLG.Sp} (hK : KOk K) (hS : ∀ p ∈ ps, Sml p ∧ p.ok) {z : CLG.Sp × CLG.Sp} : (∃ p ∈ ps.reverse.map Li.rev, z ∈ pcs p K) ↔ ∃ p ∈ ps, z ∈ pcs p K := by
  constructor
  · rintro ⟨p, hp, h⟩
    obtain ⟨q, hq, rfl⟩ := List.mem_map.mp hp
    have hq := List.mem_reverse.mp hq
    exact ⟨q, hq, (pcs_rev (hS q hq).2 hK.nd hK.low).mp h⟩
  · rintro ⟨p, hp, h⟩
    exact ⟨p.rev, List.mem_map_of_mem (List.mem_reverse.mpr hp), (pcs_rev (hS p hp).2 hK.nd hK.low).mpr h⟩
/-- all pieces: the law's, the program's, the program's of the lines turned about -/
theorem pieces_all {ps : List Li} (hS : ∀ p ∈ ps, Sml p ∧ p.ok) (hlen : ps.length ≤ 12) : ∃ K s, F__law_pieces [.tup (ps.map lnD)] = .ok K ∧ F_pieces_of [.tup (ps.map lnD)] = .ok K ∧ F_pieces_of [.tup ((ps.reverse.map Li.rev).map lnD)] = .ok K ∧ bReprF [K] = some (.str s) := by
  obtain ⟨K, hK, hl, k1, k2, k3⟩ := knots_list hS hlen
  obtain ⟨Z, z1, z2, z3, z4⟩ := pieces_is hK hS (by omega) k2
  obtain ⟨Y, y1, y2, y3, y4⟩ := lpieces_is hK hS (by omega) k1
  have hS' : ∀ p ∈ ps.reverse.map Li.rev, Sml p ∧ p.ok := fun p hp => by
    obtain ⟨q, hq, rfl⟩ := List.mem_map.mp hp
    have hq := hS q (List.mem_reverse.mp hq)
    exact ⟨sml_rev hq.1, ok_rev hq.2⟩
  obtain ⟨X, x1, x2, x3, x4⟩ := pieces_is (ps := ps.reverse.map Li.rev) hK hS' (by simp; omega) k3
  refine ⟨_, _, ?_, z4, ?_, reprF_gd (b := 200) (n := 3) ?_ (by decide) (by decide) ?_⟩
  · rw [y4, e_sort pcE y1 z1 fun s => by rw [y2, z2]]
  · rw [x4, e_sort pcE x1 z1 fun s => by rw [x2, z2, mem_turned hK hS]]
  · have hz : ∀ x ∈ (Z.map pcD).mergeSort leD, ∃ z ∈ Z, x = pcD z := fun x hx => by
      obtain ⟨s, hs, rfl⟩ := List.mem_map.mp ((List.mergeSort_perm _ leD).mem_iff.mp hx)
      exact ⟨s, hs, rfl⟩
    simp only [D.gd]
    refine gdL_iff.mpr fun x hx => ?_
    obtain ⟨z, hz, rfl⟩ := hz x hx
    have hm : ∀ {p : Li} {K : List CLG.Sp} {z : CLG.Sp × CLG.Sp}, z ∈ pcs p K → z.1 ∈ K ∧ z.2 ∈ K := fun {p K z} h => by
      obtain ⟨⟨a, b⟩, hab, rfl⟩ := List.mem_map.mp h
      obtain ⟨u, v, e⟩ := nbs_mem.mp hab
      have mem : ∀ c ∈ row p K, c ∈ K := fun c hc => (List.mem_filter.mp (row_perm.mem_iff.mp hc)).1
      have ha := mem a (by rw [e]; simp)
      have hb := mem b (by rw [e]; simp)
      unfold srt
      split
      · exact ⟨ha, hb⟩
      · exact ⟨hb, ha⟩
    obtain ⟨p, _, h⟩ := (z2 z).mp hz
    obtain ⟨g1, g2⟩ := hm h
    obtain ⟨a, b, c⟩ := hK.bd _ g1
    obtain ⟨a', b', c'⟩ := hK.bd _ g2
    simp only [pcD, CLX.spD, D.gd, D.gdL, Bool.and_eq_true, decide_eq_true_eq]
    exact ⟨⟨a, b, c, trivial⟩, ⟨a', b', c', trivial⟩, trivial⟩
  · have h1 : K.length ≤ 156 := by
      have := Nat.mul_le_mul hlen hlen
      omega
    have h2 := Nat.mul_le_mul h1 hlen
    simp only [D.wtE]
    have h3 := wtEL_map (f := pcD) (k := 9) (l := Z) fun a _ => by simp [pcD, CLX.spD, D.wtE, D.wtEL]
    have h4 : ∀ {A B : List D}, A.Perm B → D.wtEL A = D.wtEL B := fun h => by
      induction h with
      | nil => rfl
      | cons x _ ih => simp only [D.wtEL, ih]
      | swap x y l => simp only [D.wtEL]; omega
      | trans _ _ ih1 ih2 => exact ih1.trans ih2
    rw [h4 (List.mergeSort_perm _ leD)]
    omega
end CLR
namespace LW
open PySem PySem.Spec L2 CL
def topS (i : Nat) : Stmt := PySem.Challenge.pw_cornerlines_k61_pieces_told.main.body.getD i (.Pass ⟨0, 0, 0, 0⟩)
section
variable [Tb] {P : Program} {w : World} {K : PySem.W.Frag} {mg : Str → Option Value} {base : Heap}
abbrev s_divisor : Stmt := topS 1
theorem sc_divisor : FnScope ["one", "other"] ["one", "other"] (defScope s_divisor) := ⟨rfl, rfl, rfl, by decide +kernel, rfl, by decide +kernel, by decide +kernel⟩
def B_divisor : MS := (sSeq (whileN fuel (m2 bNe (mV 1) (mC (.int 0))) (sPar 0 1 (mCons (mV 1) (mCons (m2 bMod (mV 0) (mV 1)) mNil)))) (sRet (mN bAbs (mCons (mV 0) mNil))))
def F_divisor : List D → Res D := runP 0 B_divisor
theorem ok_divisor (t : TxF K mg "divisor" s_divisor ["one", "other"]) (hm_abs : mg "abs" = none) : CalP P w K mg base 1 "divisor" 2 (.sh) F_divisor := by
  obtain ⟨f, fd, Fu, bd, hm⟩ := t
  refine ⟨f, fd, _, ok_p (n := 2) (nl := 0) (F := ⟨fun i => .sh, fun i => false, .sh⟩) (b := B_divisor) Fu sc_divisor (sh_ok _ _ (by decide)) rfl rfl (.inl rfl) ?_, Fu.kp, bd, hm⟩
  intro cdv A outer s H E hr hg hcd
  exact (ss_cons (s_while (t_cmp (o_ne hr.units) (e_v 1) e_int)
    (ss_one (s_par 0 1 sc_divisor.nd (as_cons (e_v 1) (as_cons (e_2 o_mod (e_v 0) (e_v 1)) as_nil)))))
    (ss_one (s_ret (e_callB c_abs (a_cons (e_v 0) a_nil) (hm := hm_abs)))))
abbrev s_spot_of : Stmt := topS 2
theorem sc_spot_of : FnScope ["n", "m", "d", "by"] ["n", "m", "d"] (defScope s_spot_of) := ⟨rfl, rfl, rfl, by decide +kernel, rfl, by decide +kernel, by decide +kernel⟩
def B_spot_of : MS := (sSeq (sAsg (pN 3) (mCallP F_divisor (mCons (mCallP F_divisor (mCons (mV 0) (mCons (mV 1) mNil))) (mCons (mV 2) mNil)))) (sSeq (sIf (m2 bLt (mV 2) (mC (.int 0))) (sAsg (pN 3) (m1 bNeg (mV 3))) (sK .nx)) (sRet (mN bTup (mCons (m2 bDiv (mV 0) (mV 3)) (mCons (m2 bDiv (mV 1) (mV 3)) (mCons (m2 bDiv (mV 2) (mV 3)) mNil)))))))
def F_spot_of : List D → Res D := runP 1 B_spot_of
theorem ok_spot_of (t : TxF K mg "spot_of" s_spot_of ["n", "m", "d"]) (h_divisor : CalP P w K mg base 1 "divisor" 2 (.sh) F_divisor) : CalP P w K mg base 2 "spot_of" 3 (.sh) F_spot_of := by
  obtain ⟨f, fd, Fu, bd, hm⟩ := t
  refine ⟨f, fd, _, ok_p (n := 3) (nl := 1) (F := ⟨fun i => .sh, fun i => false, .sh⟩) (b := B_spot_of) Fu sc_spot_of (sh_ok _ _ (by decide)) rfl rfl (.inl rfl) ?_, Fu.kp, bd, hm⟩
  intro cdv A outer s H E hr hg hcd
  exact (ss_cons (s_set 3 sc_spot_of.nd (e_c h_divisor hr hg (as_cons (e_c h_divisor hr hg (as_cons (e_v 0) (as_cons (e_v 1) as_nil)) (len_cons (len_cons len_nil))) (as_cons (e_v 2) as_nil)) (len_cons (len_cons len_nil))))
    (ss_cons (s_if (t_cmp o_lt (e_v 2) e_int)
    (ss_one (s_set 3 sc_spot_of.nd (e_1 u_neg (e_v 3))))
    ss_nil)
    (ss_one (s_ret (e_tup (as_cons (e_2 o_div (e_v 0) (e_v 3)) (as_cons (e_2 o_div (e_v 1) (e_v 3)) (as_cons (e_2 o_div (e_v 2) (e_v 3)) as_nil))))))))
abbrev s_is_between : Stmt := topS 3
theorem sc_is_between : FnScope ["one", "other", "top", "bottom"] ["one", "other", "top", "bottom"] (defScope s_is_between) := ⟨rfl, rfl, rfl, by decide +kernel, rfl, by decide +kernel, by decide +kernel⟩
def B_is_between : MS := (sRet (mChain bLe bLe (m2 bMul (mN bMin2 (mCons (mV 0) (mCons (mV 1) mNil))) (mV 3)) (mV 2) (m2 bMul (mN bMax2 (mCons (mV 0) (mCons (mV 1) mNil))) (mV 3))))
def F_is_between : List D → Res D := runP 0 B_is_between
theorem ok_is_between (t : TxF K mg "is_between" s_is_between ["one", "other", "top", "bottom"]) (hm_max : mg "max" = none) (hm_min : mg "min" = none) : CalP P w K mg base 1 "is_between" 4 (.sh) F_is_between := by
  obtain ⟨f, fd, Fu, bd, hm⟩ := t
  refine ⟨f, fd, _, ok_p (n := 4) (nl := 0) (F := ⟨fun i => .sh, fun i => false, .sh⟩) (b := B_is_between) Fu sc_is_between (sh_ok _ _ (by decide)) rfl rfl (.inl rfl) ?_, Fu.kp, bd, hm⟩
  intro cdv A outer s H E hr hg hcd
  exact (ss_one (s_ret (e_chain o_le o_le (e_2 o_mul (e_callB (c_min2 rfl) (a_cons (e_v 0) (a_cons (e_v 1) a_nil)) (hm := hm_min)) (e_v 3)) (e_v 2) (e_2 o_mul (e_callB (c_max2 rfl) (a_cons (e_v 0) (a_cons (e_v 1) a_nil)) (hm := hm_max)) (e_v 3)))))
abbrev s_on_line : Stmt := topS 4
theorem sc_on_line : FnScope ["line", "spot", "ax", "ay", "bx", "by", "n", "m", "d"] ["line", "spot"] (defScope s_on_line) := ⟨rfl, rfl, rfl, by decide +kernel, rfl, by decide +kernel, by decide +kernel⟩
def B_on_line : MS := (sSeq (sAsg (pT 2 (psC (pT 2 (psC (pN 2) (psC (pN 3) psN))) (psC (pT 2 (psC (pN 4) (psC (pN 5) psN))) psN))) (mV 0)) (sSeq (sAsg (pT 3 (psC (pN 6) (psC (pN 7) (psC (pN 8) psN)))) (mV 1)) (sSeq (sIf (m2 bNe (m2 bMul (m2 bSub (mV 4) (mV 2)) (m2 bSub (mV 7) (m2 bMul (mV 3) (mV 8)))) (m2 bMul (m2 bSub (mV 5) (mV 3)) (m2 bSub (mV 6) (m2 bMul (mV 2) (mV 8))))) (sRet (mC (.bl false))) (sK .nx)) (sRet (mAnd (mCallP F_is_between (mCons (mV 2) (mCons (mV 4) (mCons (mV 6) (mCons (mV 8) mNil))))) (mCallP F_is_between (mCons (mV 3) (mCons (mV 5) (mCons (mV 7) (mCons (mV 8) mNil))))))))))
def F_on_line : List D → Res D := runP 7 B_on_line
theorem ok_on_line (t : TxF K mg "on_line" s_on_line ["line", "spot"]) (h_is_between : CalP P w K mg base 1 "is_between" 4 (.sh) F_is_between) : CalP P w K mg base 2 "on_line" 2 (.sh) F_on_line := by
  obtain ⟨f, fd, Fu, bd, hm⟩ := t
  refine ⟨f, fd, _, ok_p (n := 2) (nl := 7) (F := ⟨fun i => .sh, fun i => false, .sh⟩) (b := B_on_line) Fu sc_on_line (sh_ok _ _ (by decide)) rfl rfl (.inl rfl) ?_, Fu.kp, bd, hm⟩
  intro cdv A outer s H E hr hg hcd
  exact (ss_cons (s_asg (e_v 0) (g_t (gs_cons (g_t (gs_cons (g_n 2 sc_on_line.nd) (gs_cons (g_n 3 sc_on_line.nd) gs_nil))) (gs_cons (g_t (gs_cons (g_n 4 sc_on_line.nd) (gs_cons (g_n 5 sc_on_line.nd) gs_nil))) gs_nil))))
    (ss_cons (s_asg (e_v 1) (g_t (gs_cons (g_n 6 sc_on_line.nd) (gs_cons (g_n 7 sc_on_line.nd) (gs_cons (g_n 8 sc_on_line.nd) gs_nil)))))
    (ss_cons (s_if (t_cmp (o_ne hr.units) (e_2 o_mul (e_2 o_sub (e_v 4) (e_v 2)) (e_2 o_sub (e_v 7) (e_2 o_mul (e_v 3) (e_v 8)))) (e_2 o_mul (e_2 o_sub (e_v 5) (e_v 3)) (e_2 o_sub (e_v 6) (e_2 o_mul (e_v 2) (e_v 8)))))
    (ss_one (s_ret e_bl))
    ss_nil)
    (ss_one (s_ret (e_and (e_c h_is_between hr hg (as_cons (e_v 2) (as_cons (e_v 4) (as_cons (e_v 6) (as_cons (e_v 8) as_nil)))) (len_cons (len_cons (len_cons (len_cons len_nil))))) (e_one (e_c h_is_between hr hg (as_cons (e_v 3) (as_cons (e_v 5) (as_cons (e_v 7) (as_cons (e_v 8) as_nil)))) (len_cons (len_cons (len_cons (len_cons len_nil))))))))))))
abbrev s_step_of : Stmt := topS 6
theorem sc_step_of : FnScope ["line"] ["line"] (defScope s_step_of) := ⟨rfl, rfl, rfl, by decide +kernel, rfl, by decide +kernel, by decide +kernel⟩
def B_step_of : MS := (sRet (mN bTup (mCons (m2 bSub (m2 bIx (m2 bIx (mV 0) (mC (.int 1))) (mC (.int 0))) (m2 bIx (m2 bIx (mV 0) (mC (.int 0))) (mC (.int 0)))) (mCons (m2 bSub (m2 bIx (m2 bIx (mV 0) (mC (.int 1))) (mC (.int 1))) (m2 bIx (m2 bIx (mV 0) (mC (.int 0))) (mC (.int 1)))) mNil))))
def F_step_of : List D → Res D := runP 0 B_step_of
theorem ok_step_of (t : TxF K mg "step_of" s_step_of ["line"]) : CalP P w K mg base 1 "step_of" 1 (.sh) F_step_of := by
  obtain ⟨f, fd, Fu, bd, hm⟩ := t
  refine ⟨f, fd, _, ok_p (n := 1) (nl := 0) (F := ⟨fun i => .sh, fun i => false, .sh⟩) (b := B_step_of) Fu sc_step_of (sh_ok _ _ (by decide)) rfl rfl (.inl rfl) ?_, Fu.kp, bd, hm⟩
  intro cdv A outer s H E hr hg hcd
  exact (ss_one (s_ret (e_tup (as_cons (e_2 o_sub (e_ix x_ix (e_ix x_ix (e_v 0) e_int) e_int) (e_ix x_ix (e_ix x_ix (e_v 0) e_int) e_int)) (as_cons (e_2 o_sub (e_ix x_ix (e_ix x_ix (e_v 0) e_int) e_int) (e_ix x_ix (e_ix x_ix (e_v 0) e_int) e_int)) as_nil)))))
abbrev s_turn_of : Stmt := topS 7
theorem sc_turn_of : FnScope ["one", "other"] ["one", "other"] (defScope s_turn_of) := ⟨rfl, rfl, rfl, by decide +kernel, rfl, by decide +kernel, by decide +kernel⟩
def B_turn_of : MS := (sRet (m2 bSub (m2 bMul (m2 bIx (mV 0) (mC (.int 0))) (m2 bIx (mV 1) (mC (.int 1)))) (m2 bMul (m2 bIx (mV 0) (mC (.int 1))) (m2 bIx (mV 1) (mC (.int 0))))))
def F_turn_of : List D → Res D := runP 0 B_turn_of
theorem ok_turn_of (t : TxF K mg "turn_of" s_turn_of ["one", "other"]) : CalP P w K mg base 1 "turn_of" 2 (.sh) F_turn_of := by
  obtain ⟨f, fd, Fu, bd, hm⟩ := t
  refine ⟨f, fd, _, ok_p (n := 2) (nl := 0) (F := ⟨fun i => .sh, fun i => false, .sh⟩) (b := B_turn_of) Fu sc_turn_of (sh_ok _ _ (by decide)) rfl rfl (.inl rfl) ?_, Fu.kp, bd, hm⟩
  intro cdv A outer s H E hr hg hcd
  exact (ss_one (s_ret (e_2 o_sub (e_2 o_mul (e_ix x_ix (e_v 0) e_int) (e_ix x_ix (e_v 1) e_int)) (e_2 o_mul (e_ix x_ix (e_v 0) e_int) (e_ix x_ix (e_v 1) e_int)))))
abbrev s_spot_at : Stmt := topS 8
theorem sc_spot_at : FnScope ["line", "k", "m", "first", "step"] ["line", "k", "m"] (defScope s_spot_at) := ⟨rfl, rfl, rfl, by decide +kernel, rfl, by decide +kernel, by decide +kernel⟩
def B_spot_at : MS := (sSeq (sPar 3 4 (mCons (m2 bIx (mV 0) (mC (.int 0))) (mCons (mCallP F_step_of (mCons (mV 0) mNil)) mNil))) (sRet (mCallP F_spot_of (mCons (m2 bAdd (m2 bMul (m2 bIx (mV 3) (mC (.int 0))) (mV 2)) (m2 bMul (mV 1) (m2 bIx (mV 4) (mC (.int 0))))) (mCons (m2 bAdd (m2 bMul (m2 bIx (mV 3) (mC (.int 1))) (mV 2)) (m2 bMul (mV 1) (m2 bIx (mV 4) (mC (.int 1))))) (mCons (mV 2) mNil))))))
def F_spot_at : List D → Res D := runP 2 B_spot_at
theorem ok_spot_at (t : TxF K mg "spot_at" s_spot_at ["line", "k", "m"]) (h_spot_of : CalP P w K mg base 2 "spot_of" 3 (.sh) F_spot_of) (h_step_of : CalP P w K mg base 1 "step_of" 1 (.sh) F_step_of) : CalP P w K mg base 3 "spot_at" 3 (.sh) F_spot_at := by
  obtain ⟨f, fd, Fu, bd, hm⟩ := t
  refine ⟨f, fd, _, ok_p (n := 3) (nl := 2) (F := ⟨fun i => .sh, fun i => false, .sh⟩) (b := B_spot_at) Fu sc_spot_at (sh_ok _ _ (by decide)) rfl rfl (.inl rfl) ?_, Fu.kp, bd, hm⟩
  intro cdv A outer s H E hr hg hcd
  exact (ss_cons (s_par 3 4 sc_spot_at.nd (as_cons (e_ix x_ix (e_v 0) e_int) (as_cons (e_c h_step_of hr hg (as_cons (e_v 0) as_nil) (len_cons len_nil)) as_nil)))
    (ss_one (s_ret (e_c h_spot_of hr hg (as_cons (e_2 o_add (e_2 o_mul (e_ix x_ix (e_v 3) e_int) (e_v 2)) (e_2 o_mul (e_v 1) (e_ix x_ix (e_v 4) e_int))) (as_cons (e_2 o_add (e_2 o_mul (e_ix x_ix (e_v 3) e_int) (e_v 2)) (e_2 o_mul (e_v 1) (e_ix x_ix (e_v 4) e_int))) (as_cons (e_v 2) as_nil))) (len_cons (len_cons (len_cons len_nil)))))))
abbrev s_shares_of : Stmt := topS 9
theorem sc_shares_of : FnScope ["one", "other", "step", "onward", "away", "k", "l", "m"] ["one", "other"] (defScope s_shares_of) := ⟨rfl, rfl, rfl, by decide +kernel, rfl, by decide +kernel, by decide +kernel⟩
def B_shares_of : MS := (sSeq (sPar 2 3 (mCons (mCallP F_step_of (mCons (mV 0) mNil)) (mCons (mCallP F_step_of (mCons (mV 1) mNil)) mNil))) (sSeq (sAsg (pN 4) (mN bTup (mCons (m2 bSub (m2 bIx (m2 bIx (mV 1) (mC (.int 0))) (mC (.int 0))) (m2 bIx (m2 bIx (mV 0) (mC (.int 0))) (mC (.int 0)))) (mCons (m2 bSub (m2 bIx (m2 bIx (mV 1) (mC (.int 0))) (mC (.int 1))) (m2 bIx (m2 bIx (mV 0) (mC (.int 0))) (mC (.int 1)))) mNil)))) (sSeq (sPar3 5 6 7 (mCons (mCallP F_turn_of (mCons (mV 4) (mCons (mV 3) mNil))) (mCons (mCallP F_turn_of (mCons (mV 4) (mCons (mV 2) mNil))) (mCons (mCallP F_turn_of (mCons (mV 2) (mCons (mV 3) mNil))) mNil)))) (sSeq (sIf (m2 bLt (mV 7) (mC (.int 0))) (sRet (mN bTup (mCons (m2 bSub (mC (.int 0)) (mV 5)) (mCons (m2 bSub (mC (.int 0)) (mV 6)) (mCons (m2 bSub (mC (.int 0)) (mV 7)) mNil))))) (sK .nx)) (sRet (mN bTup (mCons (mV 5) (mCons (mV 6) (mCons (mV 7) mNil)))))))))
def F_shares_of : List D → Res D := runP 6 B_shares_of
theorem ok_shares_of (t : TxF K mg "shares_of" s_shares_of ["one", "other"]) (h_step_of : CalP P w K mg base 1 "step_of" 1 (.sh) F_step_of) (h_turn_of : CalP P w K mg base 1 "turn_of" 2 (.sh) F_turn_of) : CalP P w K mg base 2 "shares_of" 2 (.sh) F_shares_of := by
  obtain ⟨f, fd, Fu, bd, hm⟩ := t
  refine ⟨f, fd, _, ok_p (n := 2) (nl := 6) (F := ⟨fun i => .sh, fun i => false, .sh⟩) (b := B_shares_of) Fu sc_shares_of (sh_ok _ _ (by decide)) rfl rfl (.inl rfl) ?_, Fu.kp, bd, hm⟩
  intro cdv A outer s H E hr hg hcd
  exact (ss_cons (s_par 2 3 sc_shares_of.nd (as_cons (e_c h_step_of hr hg (as_cons (e_v 0) as_nil) (len_cons len_nil)) (as_cons (e_c h_step_of hr hg (as_cons (e_v 1) as_nil) (len_cons len_nil)) as_nil)))
    (ss_cons (s_set 4 sc_shares_of.nd (e_tup (as_cons (e_2 o_sub (e_ix x_ix (e_ix x_ix (e_v 1) e_int) e_int) (e_ix x_ix (e_ix x_ix (e_v 0) e_int) e_int)) (as_cons (e_2 o_sub (e_ix x_ix (e_ix x_ix (e_v 1) e_int) e_int) (e_ix x_ix (e_ix x_ix (e_v 0) e_int) e_int)) as_nil))))
    (ss_cons (s_par3 5 6 7 sc_shares_of.nd (as_cons (e_c h_turn_of hr hg (as_cons (e_v 4) (as_cons (e_v 3) as_nil)) (len_cons (len_cons len_nil))) (as_cons (e_c h_turn_of hr hg (as_cons (e_v 4) (as_cons (e_v 2) as_nil)) (len_cons (len_cons len_nil))) (as_cons (e_c h_turn_of hr hg (as_cons (e_v 2) (as_cons (e_v 3) as_nil)) (len_cons (len_cons len_nil))) as_nil))))
    (ss_cons (s_if (t_cmp o_lt (e_v 7) e_int)
    (ss_one (s_ret (e_tup (as_cons (e_2 o_sub e_int (e_v 5)) (as_cons (e_2 o_sub e_int (e_v 6)) (as_cons (e_2 o_sub e_int (e_v 7)) as_nil))))))
    ss_nil)
    (ss_one (s_ret (e_tup (as_cons (e_v 5) (as_cons (e_v 6) (as_cons (e_v 7) as_nil))))))))))
abbrev s_are_along : Stmt := topS 10
theorem sc_are_along : FnScope ["one", "other", "step", "x", "y"] ["one", "other"] (defScope s_are_along) := ⟨rfl, rfl, rfl, by decide +kernel, rfl, by decide +kernel, by decide +kernel⟩
def B_are_along : MS := (sSeq (sAsg (pN 2) (mCallP F_step_of (mCons (mV 0) mNil))) (sRet (mN bAll (mCons (mComp [3, 4] (pT 2 (psC (pN 3) (psC (pN 4) psN))) (mIt (mV 1)) mYes (m2 bEq (mCallP F_turn_of (mCons (mV 2) (mCons (mN bTup (mCons (m2 bSub (mV 3) (m2 bIx (m2 bIx (mV 0) (mC (.int 0))) (mC (.int 0)))) (mCons (m2 bSub (mV 4) (m2 bIx (m2 bIx (mV 0) (mC (.int 0))) (mC (.int 1)))) mNil))) mNil))) (mC (.int 0)))) mNil))))
def F_are_along : List D → Res D := runP 3 B_are_along
theorem ok_are_along (t : TxF K mg "are_along" s_are_along ["one", "other"]) (h_step_of : CalP P w K mg base 1 "step_of" 1 (.sh) F_step_of) (h_turn_of : CalP P w K mg base 1 "turn_of" 2 (.sh) F_turn_of) (hm_all : mg "all" = none) : CalP P w K mg base 2 "are_along" 2 (.sh) F_are_along := by
  obtain ⟨f, fd, Fu, bd, hm⟩ := t
  refine ⟨f, fd, _, ok_p (n := 2) (nl := 3) (F := ⟨fun i => .sh, fun i => false, .sh⟩) (b := B_are_along) Fu sc_are_along (sh_ok _ _ (by decide)) rfl rfl (.inl rfl) ?_, Fu.kp, bd, hm⟩
  intro cdv A outer s H E hr hg hcd
  exact (ss_cons (s_set 2 sc_are_along.nd (e_c h_step_of hr hg (as_cons (e_v 0) as_nil) (len_cons len_nil)))
    (ss_one (s_ret (e_callB (c_all rfl) (a_cons (e_sh (e_lcO (own' := [("x", 3), ("y", 4)]) (vs := [3, 4]) sc_are_along.nd (blkOk_by (by kernel_rfl)) (i_any (e_v 1)) (fun _ _ _ _ _ => (g_t (gs_cons (g_n 3 sc_are_along.nd) (gs_cons (g_n 4 sc_are_along.nd) gs_nil)))) (fun _ _ _ _ _ => ts_nil) (fun _ _ _ _ _ => (e_cmp (o_eq hr.units) (e_c h_turn_of hr hg (as_cons (e_v 2) (as_cons (e_tup (as_cons (e_2 o_sub (e_v 3) (e_ix x_ix (e_ix x_ix (e_v 0) e_int) e_int)) (as_cons (e_2 o_sub (e_v 4) (e_ix x_ix (e_ix x_ix (e_v 0) e_int) e_int)) as_nil))) as_nil)) (len_cons (len_cons len_nil))) e_int)))) a_nil) (hm := hm_all)))))
abbrev s_along_spots : Stmt := topS 11
theorem sc_along_spots : FnScope ["one", "other", "start", "stop"] ["one", "other"] (defScope s_along_spots) := ⟨rfl, rfl, rfl, by decide +kernel, rfl, by decide +kernel, by decide +kernel⟩
def B_along_spots : MS := (sSeq (sAsg (pN 2) (mN bMax2D (mCons (mN bMinD (mCons (mV 0) mNil)) (mCons (mN bMinD (mCons (mV 1) mNil)) mNil)))) (sSeq (sAsg (pN 3) (mN bMin2D (mCons (mN bMaxD (mCons (mV 0) mNil)) (mCons (mN bMaxD (mCons (mV 1) mNil)) mNil)))) (sSeq (sIf (m2 bGtD (mV 2) (mV 3)) (sRet (mN bTup mNil)) (sK .nx)) (sSeq (sIf (m2 bEq (mV 2) (mV 3)) (sRet (mN bTup (mCons (m2 bAdd (mV 2) (mN bTup (mCons (mC (.int 1)) mNil))) mNil))) (sK .nx)) (sRet (mN bTup (mCons (m2 bAdd (mV 2) (mN bTup (mCons (mC (.int 1)) mNil))) (mCons (m2 bAdd (mV 3) (mN bTup (mCons (mC (.int 1)) mNil))) mNil))))))))
def F_along_spots : List D → Res D := runP 2 B_along_spots
theorem ok_along_spots (t : TxF K mg "along_spots" s_along_spots ["one", "other"]) (hm_max : mg "max" = none) (hm_min : mg "min" = none) : CalP P w K mg base 1 "along_spots" 2 (.sh) F_along_spots := by
  obtain ⟨f, fd, Fu, bd, hm⟩ := t
  refine ⟨f, fd, _, ok_p (n := 2) (nl := 2) (F := ⟨fun i => .sh, fun i => false, .sh⟩) (b := B_along_spots) Fu sc_along_spots (sh_ok _ _ (by decide)) rfl rfl (.inl rfl) ?_, Fu.kp, bd, hm⟩
  intro cdv A outer s H E hr hg hcd
  exact (ss_cons (s_set 2 sc_along_spots.nd (e_callB (c_max2D rfl hr.units65) (a_cons (e_callB (c_minD rfl hr.units65) (a_cons (e_v 0) a_nil) (hm := hm_min)) (a_cons (e_callB (c_minD rfl hr.units65) (a_cons (e_v 1) a_nil) (hm := hm_min)) a_nil)) (hm := hm_max)))
    (ss_cons (s_set 3 sc_along_spots.nd (e_callB (c_min2D rfl hr.units65) (a_cons (e_callB (c_maxD rfl hr.units65) (a_cons (e_v 0) a_nil) (hm := hm_max)) (a_cons (e_callB (c_maxD rfl hr.units65) (a_cons (e_v 1) a_nil) (hm := hm_max)) a_nil)) (hm := hm_min)))
    (ss_cons (s_if (t_cmp (o_gtD hr.units) (e_v 2) (e_v 3))
    (ss_one (s_ret (e_tup as_nil)))
    ss_nil)
    (ss_cons (s_if (t_cmp (o_eq hr.units) (e_v 2) (e_v 3))
    (ss_one (s_ret (e_tup (as_cons (e_2 o_add (e_v 2) (e_tup (as_cons e_int as_nil))) as_nil))))
    ss_nil)
    (ss_one (s_ret (e_tup (as_cons (e_2 o_add (e_v 2) (e_tup (as_cons e_int as_nil))) (as_cons (e_2 o_add (e_v 3) (e_tup (as_cons e_int as_nil))) as_nil)))))))))
abbrev s_common : Stmt := topS 12
theorem sc_common : FnScope ["one", "other", "k", "l", "m"] ["one", "other"] (defScope s_common) := ⟨rfl, rfl, rfl, by decide +kernel, rfl, by decide +kernel, by decide +kernel⟩
def B_common : MS := (sSeq (sAsg (pT 3 (psC (pN 2) (psC (pN 3) (psC (pN 4) psN)))) (mCallP F_shares_of (mCons (mV 0) (mCons (mV 1) mNil)))) (sSeq (sIf (m2 bGt (mV 4) (mC (.int 0))) (sSeq (sIf (mAnd (mChain bLe bLe (mC (.int 0)) (mV 2) (mV 4)) (mChain bLe bLe (mC (.int 0)) (mV 3) (mV 4))) (sRet (mN bTup (mCons (mCallP F_spot_at (mCons (mV 0) (mCons (mV 2) (mCons (mV 4) mNil)))) mNil))) (sK .nx)) (sRet (mN bTup mNil))) (sK .nx)) (sSeq (sIf (m1 bNot (mCallP F_are_along (mCons (mV 0) (mCons (mV 1) mNil)))) (sRet (mN bTup mNil)) (sK .nx)) (sRet (mCallP F_along_spots (mCons (mV 0) (mCons (mV 1) mNil)))))))
def F_common : List D → Res D := runP 3 B_common
theorem ok_common (t : TxF K mg "common" s_common ["one", "other"]) (h_shares_of : CalP P w K mg base 2 "shares_of" 2 (.sh) F_shares_of) (h_along_spots : CalP P w K mg base 1 "along_spots" 2 (.sh) F_along_spots) (h_are_along : CalP P w K mg base 2 "are_along" 2 (.sh) F_are_along) (h_spot_at : CalP P w K mg base 3 "spot_at" 3 (.sh) F_spot_at) : CalP P w K mg base 4 "common" 2 (.sh) F_common := by
  obtain ⟨f, fd, Fu, bd, hm⟩ := t
  refine ⟨f, fd, _, ok_p (n := 2) (nl := 3) (F := ⟨fun i => .sh, fun i => false, .sh⟩) (b := B_common) Fu sc_common (sh_ok _ _ (by decide)) rfl rfl (.inl rfl) ?_, Fu.kp, bd, hm⟩
  intro cdv A outer s H E hr hg hcd
  exact (ss_cons (s_asg (e_c h_shares_of hr hg (as_cons (e_v 0) (as_cons (e_v 1) as_nil)) (len_cons (len_cons len_nil))) (g_t (gs_cons (g_n 2 sc_common.nd) (gs_cons (g_n 3 sc_common.nd) (gs_cons (g_n 4 sc_common.nd) gs_nil)))))
    (ss_cons (s_if (t_cmp o_gt (e_v 4) e_int)
    (ss_cons (s_if (w_and (t_chain o_le o_le e_int (e_v 2) (e_v 4)) (w_and1 (t_chain o_le o_le e_int (e_v 3) (e_v 4)))).pt
    (ss_one (s_ret (e_tup (as_cons (e_c h_spot_at hr hg (as_cons (e_v 0) (as_cons (e_v 2) (as_cons (e_v 4) as_nil))) (len_cons (len_cons (len_cons len_nil)))) as_nil))))
    ss_nil)
    (ss_one (s_ret (e_tup as_nil))))
    ss_nil)
    (ss_cons (s_if (t_not (t_val (e_c h_are_along hr hg (as_cons (e_v 0) (as_cons (e_v 1) as_nil)) (len_cons (len_cons len_nil)))))
    (ss_one (s_ret (e_tup as_nil)))
    ss_nil)
    (ss_one (s_ret (e_c h_along_spots hr hg (as_cons (e_v 0) (as_cons (e_v 1) as_nil)) (len_cons (len_cons len_nil))))))))
abbrev s_share_of : Stmt := topS 13
theorem sc_share_of : FnScope ["line", "spot", "step", "at", "k", "m"] ["line", "spot"] (defScope s_share_of) := ⟨rfl, rfl, rfl, by decide +kernel, rfl, by decide +kernel, by decide +kernel⟩
def B_share_of : MS := (sSeq (sAsg (pN 2) (mCallP F_step_of (mCons (mV 0) mNil))) (sSeq (sAsg (pN 3) (mN bInt (mCons (m2 bEq (m2 bIx (mV 2) (mC (.int 0))) (mC (.int 0))) mNil))) (sSeq (sPar 4 5 (mCons (m2 bSub (m2 bIx (mV 1) (mV 3)) (m2 bMul (m2 bIx (m2 bIx (mV 0) (mC (.int 0))) (mV 3)) (m2 bIx (mV 1) (mC (.int 2))))) (mCons (m2 bMul (m2 bIx (mV 2) (mV 3)) (m2 bIx (mV 1) (mC (.int 2)))) mNil))) (sSeq (sIf (m2 bLt (mV 5) (mC (.int 0))) (sRet (mN bTup (mCons (m2 bSub (mC (.int 0)) (mV 4)) (mCons (m2 bSub (mC (.int 0)) (mV 5)) mNil)))) (sK .nx)) (sRet (mN bTup (mCons (mV 4) (mCons (mV 5) mNil))))))))
def F_share_of : List D → Res D := runP 4 B_share_of
theorem ok_share_of (t : TxF K mg "share_of" s_share_of ["line", "spot"]) (h_step_of : CalP P w K mg base 1 "step_of" 1 (.sh) F_step_of) (hm_int : mg "int" = none) : CalP P w K mg base 2 "share_of" 2 (.sh) F_share_of := by
  obtain ⟨f, fd, Fu, bd, hm⟩ := t
  refine ⟨f, fd, _, ok_p (n := 2) (nl := 4) (F := ⟨fun i => .sh, fun i => false, .sh⟩) (b := B_share_of) Fu sc_share_of (sh_ok _ _ (by decide)) rfl rfl (.inl rfl) ?_, Fu.kp, bd, hm⟩
  intro cdv A outer s H E hr hg hcd
  exact (ss_cons (s_set 2 sc_share_of.nd (e_c h_step_of hr hg (as_cons (e_v 0) as_nil) (len_cons len_nil)))
    (ss_cons (s_set 3 sc_share_of.nd (e_callTy c_int (a_cons (e_cmp (o_eq hr.units) (e_ix x_ix (e_v 2) e_int) e_int) a_nil) (hm := hm_int)))
    (ss_cons (s_par 4 5 sc_share_of.nd (as_cons (e_2 o_sub (e_ix x_ix (e_v 1) (e_v 3)) (e_2 o_mul (e_ix x_ix (e_ix x_ix (e_v 0) e_int) (e_v 3)) (e_ix x_ix (e_v 1) e_int))) (as_cons (e_2 o_mul (e_ix x_ix (e_v 2) (e_v 3)) (e_ix x_ix (e_v 1) e_int)) as_nil)))
    (ss_cons (s_if (t_cmp o_lt (e_v 5) e_int)
    (ss_one (s_ret (e_tup (as_cons (e_2 o_sub e_int (e_v 4)) (as_cons (e_2 o_sub e_int (e_v 5)) as_nil)))))
    ss_nil)
    (ss_one (s_ret (e_tup (as_cons (e_v 4) (as_cons (e_v 5) as_nil)))))))))
abbrev s_knots_of : Stmt := topS 15
theorem sc_knots_of : FnScope ["lines", "found", "number", "line", "x", "y", "other", "spot"] ["lines"] (defScope s_knots_of) := ⟨rfl, rfl, rfl, by decide +kernel, rfl, by decide +kernel, by decide +kernel⟩
def B_knots_of : MS := (sSeq (sAsg (pN 1) (mC (.kdc [] []))) (sSeq (sFor (pT 2 (psC (pN 2) (psC (pN 3) psN))) (mItN enumL (mCons (mV 0) mNil)) (sSeq (sFor (pT 2 (psC (pN 4) (psC (pN 5) psN))) (mIt (mV 3)) (sStoK 1 (mN bTup (mCons (mV 4) (mCons (mV 5) (mCons (mC (.int 1)) mNil)))) (mC (.bl true)))) (sFor (pN 6) (mIt (mSl (mV 0) none (some (mV 2)))) (sFor (pN 7) (mIt (mCallP F_common (mCons (mV 3) (mCons (mV 6) mNil)))) (sStoK 1 (mV 7) (mC (.bl true))))))) (sFz 1 (sRet (mN bTuple (mCons (mL sortDK (mCons (mV 1) mNil)) mNil))))))
def F_knots_of : List D → Res D := runP 7 B_knots_of
theorem ok_knots_of (t : TxF K mg "knots_of" s_knots_of ["lines"]) (h_common : CalP P w K mg base 4 "common" 2 (.sh) F_common) (hm_enumerate : mg "enumerate" = none) (hm_sorted : mg "sorted" = none) (hm_tuple : mg "tuple" = none) : CalP P w K mg base 5 "knots_of" 1 (.sh) F_knots_of := by
  obtain ⟨f, fd, Fu, bd, hm⟩ := t
  refine ⟨f, fd, _, ok_p (n := 1) (nl := 7) (F := ⟨fun i => if i = 1 then .od else .sh, fun i => false, .sh⟩) (b := B_knots_of) Fu sc_knots_of (sh_ok _ _ (by decide)) rfl rfl (.inl rfl) ?_, Fu.kp, bd, hm⟩
  intro cdv A outer s H E hr hg hcd
  exact (ss_cons (s_setO 1 sc_knots_of.nd e_kd0)
    (ss_cons (s_for (i_enum (as_cons (e_v 0) as_nil) (hm := hm_enumerate)) (g_t (gs_cons (g_n 2 sc_knots_of.nd) (gs_cons (g_n 3 sc_knots_of.nd) gs_nil)))
    (ss_cons (s_for (i_any (e_v 3)) (g_t (gs_cons (g_n 4 sc_knots_of.nd) (gs_cons (g_n 5 sc_knots_of.nd) gs_nil)))
    (ss_one (s_stoK 1 hr.units e_bl (e_tup (as_cons (e_v 4) (as_cons (e_v 5) (as_cons e_int as_nil)))))))
    (ss_one (s_for (i_any (e_sl (e_v 0) po_n (po_s (e_v 2)))) (g_n 6 sc_knots_of.nd)
    (ss_one (s_for (i_any (e_c h_common hr hg (as_cons (e_v 3) (as_cons (e_v 6) as_nil)) (len_cons (len_cons len_nil)))) (g_n 7 sc_knots_of.nd)
    (ss_one (s_stoK 1 hr.units e_bl (e_v 7)))))))))
    (ss_fz 1 rfl (ss_one (s_ret (e_callTy c_tuple (a_cons (e_sh (e_callBO (c_sortedK rfl hr.units65) (a_cons (e_v 1) a_nil) (hm := hm_sorted))) a_nil) (hm := hm_tuple)))))))
abbrev s_least_whole : Stmt := topS 16
theorem sc_least_whole : FnScope ["numbers", "found", "number"] ["numbers"] (defScope s_least_whole) := ⟨rfl, rfl, rfl, by decide +kernel, rfl, by decide +kernel, by decide +kernel⟩
def B_least_whole : MS := (sSeq (sAsg (pN 1) (mC (.int 1))) (sSeq (sFor (pN 2) (mIt (mV 0)) (sAsg (pN 1) (m2 bMul (m2 bDiv (mV 1) (mCallP F_divisor (mCons (mV 1) (mCons (mV 2) mNil)))) (mV 2)))) (sRet (mV 1))))
def F_least_whole : List D → Res D := runP 2 B_least_whole
theorem ok_least_whole (t : TxF K mg "least_whole" s_least_whole ["numbers"]) (h_divisor : CalP P w K mg base 1 "divisor" 2 (.sh) F_divisor) : CalP P w K mg base 2 "least_whole" 1 (.sh) F_least_whole := by
  obtain ⟨f, fd, Fu, bd, hm⟩ := t
  refine ⟨f, fd, _, ok_p (n := 1) (nl := 2) (F := ⟨fun i => .sh, fun i => false, .sh⟩) (b := B_least_whole) Fu sc_least_whole (sh_ok _ _ (by decide)) rfl rfl (.inl rfl) ?_, Fu.kp, bd, hm⟩
  intro cdv A outer s H E hr hg hcd
  exact (ss_cons (s_set 1 sc_least_whole.nd e_int)
    (ss_cons (s_for (i_any (e_v 0)) (g_n 2 sc_least_whole.nd)
    (ss_one (s_set 1 sc_least_whole.nd (e_2 o_mul (e_2 o_div (e_v 1) (e_c h_divisor hr hg (as_cons (e_v 1) (as_cons (e_v 2) as_nil)) (len_cons (len_cons len_nil)))) (e_v 2)))))
    (ss_one (s_ret (e_v 1)))))
abbrev s_along : Stmt := topS 17
theorem sc_along : FnScope ["line", "knots", "shares", "whole", "knot", "k", "m", "far"] ["line", "knots"] (defScope s_along) := ⟨rfl, rfl, rfl, by decide +kernel, rfl, by decide +kernel, by decide +kernel⟩
def B_along : MS := (sSeq (sAsg (pN 2) (mComp [4] (pN 4) (mIt (mV 1)) (mCallP F_on_line (mCons (mV 0) (mCons (mV 4) mNil))) (mN bTup (mCons (mCallP F_share_of (mCons (mV 0) (mCons (mV 4) mNil))) (mCons (mV 4) mNil))))) (sSeq (sAsg (pN 3) (mCallP F_least_whole (mCons (mComp [5, 6, 4] (pT 2 (psC (pT 2 (psC (pN 5) (psC (pN 6) psN))) (psC (pN 4) psN))) (mIt (mV 2)) mYes (mV 6)) mNil))) (sRet (mComp [7, 4] (pT 2 (psC (pN 7) (psC (pN 4) psN))) (mIt (mL sortDD (mCons (mComp [5, 6, 4] (pT 2 (psC (pT 2 (psC (pN 5) (psC (pN 6) psN))) (psC (pN 4) psN))) (mIt (mV 2)) mYes (mN bTup (mCons (m2 bMul (mV 5) (m2 bDiv (mV 3) (mV 6))) (mCons (mV 4) mNil)))) mNil))) mYes (mV 4)))))
def F_along : List D → Res D := runP 6 B_along
theorem ok_along (t : TxF K mg "along" s_along ["line", "knots"]) (h_least_whole : CalP P w K mg base 2 "least_whole" 1 (.sh) F_least_whole) (h_share_of : CalP P w K mg base 2 "share_of" 2 (.sh) F_share_of) (h_on_line : CalP P w K mg base 2 "on_line" 2 (.sh) F_on_line) (hm_sorted : mg "sorted" = none) : CalP P w K mg base 3 "along" 2 (.sh) F_along := by
  obtain ⟨f, fd, Fu, bd, hm⟩ := t
  refine ⟨f, fd, _, ok_p (n := 2) (nl := 6) (F := ⟨fun i => .sh, fun i => false, .sh⟩) (b := B_along) Fu sc_along (sh_ok _ _ (by decide)) rfl rfl (.inl rfl) ?_, Fu.kp, bd, hm⟩
  intro cdv A outer s H E hr hg hcd
  exact (ss_cons (s_lc 2 (own' := [("knot", 4)]) (vs := [4]) sc_along.nd (blkOk_by (by kernel_rfl)) (i_any (e_v 1)) (fun _ _ _ _ _ => (g_n 4 sc_along.nd)) (fun _ _ _ _ _ => (ts_one (t_val (e_c h_on_line hr hg (as_cons (e_v 0) (as_cons (e_v 4) as_nil)) (len_cons (len_cons len_nil)))))) (fun _ _ _ _ _ => (e_tup (as_cons (e_c h_share_of hr hg (as_cons (e_v 0) (as_cons (e_v 4) as_nil)) (len_cons (len_cons len_nil))) (as_cons (e_v 4) as_nil)))) (sw_true rfl rfl rfl (by decide +kernel)))
    (ss_cons (s_set 3 sc_along.nd (e_c h_least_whole hr hg (as_cons (e_sh (e_lcO (own' := [("k", 5), ("m", 6), ("knot", 4)]) (vs := [5, 6, 4]) sc_along.nd (blkOk_by (by kernel_rfl)) (i_any (e_v 2)) (fun _ _ _ _ _ => (g_t (gs_cons (g_t (gs_cons (g_n 5 sc_along.nd) (gs_cons (g_n 6 sc_along.nd) gs_nil))) (gs_cons (g_n 4 sc_along.nd) gs_nil)))) (fun _ _ _ _ _ => ts_nil) (fun _ _ _ _ _ => (e_v 6)))) as_nil) (len_cons len_nil)))
    (ss_one (s_ret (e_sh (e_lcO (own' := [("far", 7), ("knot", 4)]) (vs := [7, 4]) sc_along.nd (blkOk_by (by kernel_rfl)) (i_any (e_sh (e_callBO (c_sortedD rfl hr.units65) (a_cons (e_sh (e_lcO (own' := [("k", 5), ("m", 6), ("knot", 4)]) (vs := [5, 6, 4]) sc_along.nd (blkOk_by (by kernel_rfl)) (i_any (e_v 2)) (fun _ _ _ _ _ => (g_t (gs_cons (g_t (gs_cons (g_n 5 sc_along.nd) (gs_cons (g_n 6 sc_along.nd) gs_nil))) (gs_cons (g_n 4 sc_along.nd) gs_nil)))) (fun _ _ _ _ _ => ts_nil) (fun _ _ _ _ _ => (e_tup (as_cons (e_2 o_mul (e_v 5) (e_2 o_div (e_v 3) (e_v 6))) (as_cons (e_v 4) as_nil)))))) a_nil) (hm := hm_sorted)))) (fun _ _ _ _ _ => (g_t (gs_cons (g_n 7 sc_along.nd) (gs_cons (g_n 4 sc_along.nd) gs_nil)))) (fun _ _ _ _ _ => ts_nil) (fun _ _ _ _ _ => (e_v 4))))))))
abbrev s_pieces_of : Stmt := topS 18
theorem sc_pieces_of : FnScope ["lines", "knots", "found", "line", "row", "one", "other"] ["lines"] (defScope s_pieces_of) := ⟨rfl, rfl, rfl, by decide +kernel, rfl, by decide +kernel, by decide +kernel⟩
def B_pieces_of : MS := (sSeq (sAsg (pN 1) (mCallP F_knots_of (mCons (mV 0) mNil))) (sSeq (sAsg (pN 2) (mC (.kdc [] []))) (sSeq (sFor (pN 3) (mIt (mV 0)) (sSeq (sAsg (pN 4) (mCallP F_along (mCons (mV 3) (mCons (mV 1) mNil)))) (sFor (pT 2 (psC (pN 5) (psC (pN 6) psN))) (mItN zip2 (mCons (mV 4) (mCons (mSl (mV 4) (some (mC (.int 1))) none) mNil))) (sStoK 2 (mN bTup (mCons (mN bMin2D (mCons (mV 5) (mCons (mV 6) mNil))) (mCons (mN bMax2D (mCons (mV 5) (mCons (mV 6) mNil))) mNil))) (mC (.bl true)))))) (sFz 2 (sRet (mN bTuple (mCons (mL sortDK (mCons (mV 2) mNil)) mNil)))))))
def F_pieces_of : List D → Res D := runP 6 B_pieces_of
theorem ok_pieces_of (t : TxF K mg "pieces_of" s_pieces_of ["lines"]) (h_knots_of : CalP P w K mg base 5 "knots_of" 1 (.sh) F_knots_of) (h_along : CalP P w K mg base 3 "along" 2 (.sh) F_along) (hm_max : mg "max" = none) (hm_min : mg "min" = none) (hm_sorted : mg "sorted" = none) (hm_tuple : mg "tuple" = none) (hm_zip : mg "zip" = none) : CalP P w K mg base 6 "pieces_of" 1 (.sh) F_pieces_of := by
  obtain ⟨f, fd, Fu, bd, hm⟩ := t
  refine ⟨f, fd, _, ok_p (n := 1) (nl := 6) (F := ⟨fun i => if i = 2 then .od else .sh, fun i => false, .sh⟩) (b := B_pieces_of) Fu sc_pieces_of (sh_ok _ _ (by decide)) rfl rfl (.inl rfl) ?_, Fu.kp, bd, hm⟩
  intro cdv A outer s H E hr hg hcd
  exact (ss_cons (s_set 1 sc_pieces_of.nd (e_c h_knots_of hr hg (as_cons (e_v 0) as_nil) (len_cons len_nil)))
    (ss_cons (s_setO 2 sc_pieces_of.nd e_kd0)
    (ss_cons (s_for (i_any (e_v 0)) (g_n 3 sc_pieces_of.nd)
    (ss_cons (s_set 4 sc_pieces_of.nd (e_c h_along hr hg (as_cons (e_v 3) (as_cons (e_v 1) as_nil)) (len_cons (len_cons len_nil))))
    (ss_one (s_for (i_zip2 (as_cons (e_v 4) (as_cons (e_sl (e_v 4) (po_s e_int) po_n) as_nil)) (hm := hm_zip)) (g_t (gs_cons (g_n 5 sc_pieces_of.nd) (gs_cons (g_n 6 sc_pieces_of.nd) gs_nil)))
    (ss_one (s_stoK 2 hr.units e_bl (e_tup (as_cons (e_callB (c_min2D rfl hr.units65) (a_cons (e_v 5) (a_cons (e_v 6) a_nil)) (hm := hm_min)) (as_cons (e_callB (c_max2D rfl hr.units65) (a_cons (e_v 5) (a_cons (e_v 6) a_nil)) (hm := hm_max)) as_nil)))))))))
    (ss_fz 2 rfl (ss_one (s_ret (e_callTy c_tuple (a_cons (e_sh (e_callBO (c_sortedK rfl hr.units65) (a_cons (e_v 2) a_nil) (hm := hm_sorted))) a_nil) (hm := hm_tuple))))))))
abbrev s__law_deck : Stmt := topS 20
theorem sc__law_deck : FnScope ["_law_script", "_law_cell"] ["_law_script"] (defScope s__law_deck) := ⟨rfl, rfl, rfl, by decide +kernel, rfl, by decide +kernel, by decide +kernel⟩
def B__law_deck : MS := (sRet (mN bLst (mCons (m1 bRev (mL listOfD (mCons (mSl (mV 0) none (some (mC (.int 63)))) mNil))) (mCons (m2 bAdd (mN bSum (mCons (mComp [1] (pN 1) (mIt (mSl (mV 0) none (some (mC (.int 63))))) mYes (m2 bMod (mV 1) (mC (.int 1000003)))) mNil)) (m2 bMul (mC (.int 7919)) (mN bLen (mCons (mSl (mV 0) none (some (mC (.int 63)))) mNil)))) (mCons (mC (.int 0)) mNil)))))
def F__law_deck : List D → Res D := runP 1 B__law_deck
theorem ok__law_deck (t : TxF K mg "_law_deck" s__law_deck ["_law_script"]) (hm_len : mg "len" = none) (hm_list : mg "list" = none) (hm_sum : mg "sum" = none) : CalP P w K mg base 1 "_law_deck" 1 (.ol (.ol .sh .sh) .sh) F__law_deck := by
  obtain ⟨f, fd, Fu, bd, hm⟩ := t
  refine ⟨f, fd, _, ok_p (n := 1) (nl := 1) (F := ⟨fun i => .sh, fun i => false, .ol (.ol .sh .sh) .sh⟩) (b := B__law_deck) Fu sc__law_deck (sh_ok _ _ (by decide)) rfl rfl (.inr (fun ds ρ => (NoNx.ret : NoNx B__law_deck) _ ρ)) ?_, Fu.kp, bd, hm⟩
  intro cdv A outer s H E hr hg hcd
  exact (ss_one (s_ret (e_lstH (e_revO (e_sh (e_callTyO c_list (a_cons (e_sl (e_v 0) po_n (po_s e_int)) a_nil) (hm := hm_list)))) (as_cons (e_2 o_add (e_callB (c_sum rfl) (a_cons (e_sh (e_lcO (own' := [("_law_cell", 1)]) (vs := [1]) sc__law_deck.nd (blkOk_by (by kernel_rfl)) (i_any (e_sl (e_v 0) po_n (po_s e_int))) (fun _ _ _ _ _ => (g_n 1 sc__law_deck.nd)) (fun _ _ _ _ _ => ts_nil) (fun _ _ _ _ _ => (e_2 o_mod (e_v 1) e_int)))) a_nil) (hm := hm_sum)) (e_2 o_mul e_int (e_callB c_len (a_cons (e_sl (e_v 0) po_n (po_s e_int)) a_nil) (hm := hm_len)))) (as_cons e_int as_nil)))))
abbrev s__law_draw : Stmt := topS 21
theorem sc__law_draw : FnScope ["_law_deck_here", "_law_most", "_law_cell", "_law_number"] ["_law_deck_here", "_law_most"] (defScope s__law_draw) := ⟨rfl, rfl, rfl, by decide +kernel, rfl, by decide +kernel, by decide +kernel⟩
def B__law_draw : MS := (sSeq (sSto 0 1 (m2 bAdd (mIxS 0 1) (mC (.int 1)))) (sSeq (sAsg (pN 2) (mIxS 0 0)) (sSeq (sIf (m2 bNe (mIx0 0) (mN bLst mNil)) (sSeq (sAsg (pN 2) (mPop0 0)) (sIf (m2 bGe (mV 2) (m2 bPow (mC (.int 10)) (mC (.int 18)))) (sSeq (sExp (mApp0 0 (m2 bDiv (mV 2) (mV 1)))) (sRet (m2 bMod (mV 2) (mV 1)))) (sK .nx))) (sK .nx)) (sSeq (sAsg (pN 3) (m2 bMod (m2 bMul (m2 bAdd (m2 bAdd (m2 bMod (mV 2) (mC (.int 2147483629))) (m2 bMul (mC (.int 65537)) (mIxS 0 1))) (mC (.int 3))) (mC (.int 48271))) (mC (.int 2147483647)))) (sSeq (sAsg (pN 3) (m2 bMod (m2 bAdd (m2 bAdd (m2 bMul (mV 3) (mV 3)) (m2 bMul (mC (.int 69621)) (mIxS 0 1))) (mC (.int 17))) (mC (.int 2147483587)))) (sRet (m2 bMod (m2 bDiv (m2 bMod (m2 bAdd (m2 bMul (mV 3) (mV 3)) (mC (.int 39373))) (mC (.int 2147483563))) (mC (.int 64))) (mV 1))))))))
def F__law_draw : Fn := runF [.ol (.ol .sh .sh) .sh, .sh] 2 B__law_draw
theorem ok__law_draw (t : TxF K mg "_law_draw" s__law_draw ["_law_deck_here", "_law_most"]) : CalF P w K mg base 1 "_law_draw" [.ol (.ol .sh .sh) .sh, .sh] (.sh) F__law_draw := by
  obtain ⟨f, fd, Fu, bd, hm⟩ := t
  refine ⟨f, fd, _, ok_d (ts := [.ol (.ol .sh .sh) .sh, .sh]) (nl := 2) (F := ⟨fun i => if i = 0 then .ol (.ol .sh .sh) .sh else .sh, fun i => i == 0, .sh⟩) (b := B__law_draw) Fu sc__law_draw (τs_ok _ _ (by decide)) (fx_ok _ _ (by decide)) rfl rfl (.inl rfl) ?_, Fu.kp, bd, hm⟩
  intro cdv A outer s H E hr hg hcd
  exact (ss_cons (s_sto 0 1 (e_2 o_add (e_ixS 0 1) e_int))
    (ss_cons (s_set 2 sc__law_draw.nd (e_ixS 0 0))
    (ss_cons (s_if (t_cmp (o_ne hr.units) (e_ix0 0) (e_sh (e_lstO as_nil)))
    (ss_cons (s_set 2 sc__law_draw.nd (e_pop0 0))
    (ss_one (s_if (t_cmp o_ge (e_v 2) (e_2 o_pow e_int e_int))
    (ss_cons (s_exp (e_pk (e_app0 0 (as_cons (e_2 o_div (e_v 2) (e_v 1)) as_nil))))
    (ss_one (s_ret (e_2 o_mod (e_v 2) (e_v 1)))))
    ss_nil)))
    ss_nil)
    (ss_cons (s_set 3 sc__law_draw.nd (e_2 o_mod (e_2 o_mul (e_2 o_add (e_2 o_add (e_2 o_mod (e_v 2) e_int) (e_2 o_mul e_int (e_ixS 0 1))) e_int) e_int) e_int))
    (ss_cons (s_set 3 sc__law_draw.nd (e_2 o_mod (e_2 o_add (e_2 o_add (e_2 o_mul (e_v 3) (e_v 3)) (e_2 o_mul e_int (e_ixS 0 1))) e_int) e_int))
    (ss_one (s_ret (e_2 o_mod (e_2 o_div (e_2 o_mod (e_2 o_add (e_2 o_mul (e_v 3) (e_v 3)) e_int) e_int) e_int) (e_v 1)))))))))
abbrev s__law_grain : Stmt := topS 22
theorem sc__law_grain : FnScope ["_law_deck_here"] ["_law_deck_here"] (defScope s__law_grain) := ⟨rfl, rfl, rfl, by decide +kernel, rfl, by decide +kernel, by decide +kernel⟩
def B__law_grain : MS := (sRet (m2 bIx (mN bLst (mCons (mC (.int 1)) (mCons (mC (.int 2)) (mCons (mC (.int 3)) (mCons (mC (.int 4)) (mCons (mC (.int 2)) (mCons (mC (.int 6)) (mCons (mC (.int 10)) (mCons (mC (.int 1000)) mNil))))))))) (mCall F__law_draw (.io 0 :: (.e (mC (.int 8)) :: [])))))
def F__law_grain : Fn := runF [.ol (.ol .sh .sh) .sh] 0 B__law_grain
theorem ok__law_grain (t : TxF K mg "_law_grain" s__law_grain ["_law_deck_here"]) (h__law_draw : CalF P w K mg base 1 "_law_draw" [.ol (.ol .sh .sh) .sh, .sh] (.sh) F__law_draw) : CalF P w K mg base 2 "_law_grain" [.ol (.ol .sh .sh) .sh] (.sh) F__law_grain := by
  obtain ⟨f, fd, Fu, bd, hm⟩ := t
  refine ⟨f, fd, _, ok_d (ts := [.ol (.ol .sh .sh) .sh]) (nl := 0) (F := ⟨fun i => if i = 0 then .ol (.ol .sh .sh) .sh else .sh, fun i => i == 0, .sh⟩) (b := B__law_grain) Fu sc__law_grain (τs_ok _ _ (by decide)) (fx_ok _ _ (by decide)) rfl rfl (.inl rfl) ?_, Fu.kp, bd, hm⟩
  intro cdv A outer s H E hr hg hcd
  exact (ss_one (s_ret (e_ix x_ix (e_sh (e_lstO (as_cons e_int (as_cons e_int (as_cons e_int (as_cons e_int (as_cons e_int (as_cons e_int (as_cons e_int (as_cons e_int as_nil)))))))))) (e_cF h__law_draw hr hg (ag_io 0 (ag_e e_int ag_nil))))))
abbrev s__law_point : Stmt := topS 23
theorem sc__law_point : FnScope ["_law_deck_here", "_law_grain_here", "_law_way", "_law_x", "_law_y"] ["_law_deck_here", "_law_grain_here", "_law_way"] (defScope s__law_point) := ⟨rfl, rfl, rfl, by decide +kernel, rfl, by decide +kernel, by decide +kernel⟩
def B__law_point : MS := (sSeq (sPar 3 4 (mCons (mCall F__law_draw (.io 0 :: (.e (m2 bAdd (m2 bMul (mC (.int 4)) (mV 1)) (mC (.int 1))) :: []))) (mCons (mCall F__law_draw (.io 0 :: (.e (m2 bAdd (m2 bMul (mC (.int 4)) (mV 1)) (mC (.int 1))) :: []))) mNil))) (sSeq (sIf (m2 bEq (mV 2) (mC (.int 1))) (sRet (mN bTup (mCons (m2 bDiv (m2 bAdd (m2 bMul (m2 bDiv (m2 bMul (mC (.int 2)) (mV 3)) (mV 1)) (mV 1)) (mC (.int 1))) (mC (.int 2))) (mCons (m2 bDiv (m2 bAdd (m2 bMul (m2 bDiv (m2 bMul (mC (.int 2)) (mV 4)) (mV 1)) (mV 1)) (mC (.int 1))) (mC (.int 2))) mNil)))) (sK .nx)) (sSeq (sIf (m2 bEq (mV 2) (mC (.int 2))) (sRet (mN bTup (mCons (m2 bMul (m2 bDiv (mV 3) (mV 1)) (mV 1)) (mCons (m2 bMul (m2 bDiv (mV 4) (mV 1)) (mV 1)) mNil)))) (sK .nx)) (sSeq (sIf (m2 bEq (mV 2) (mC (.int 3))) (sRet (mN bTup (mCons (m2 bAdd (m2 bMul (m2 bDiv (mV 3) (mV 1)) (mV 1)) (m2 bDiv (mV 1) (mC (.int 2)))) (mCons (mV 4) mNil)))) (sK .nx)) (sRet (mN bTup (mCons (mV 3) (mCons (mV 4) mNil))))))))
def F__law_point : Fn := runF [.ol (.ol .sh .sh) .sh, .sh, .sh] 2 B__law_point
theorem ok__law_point (t : TxF K mg "_law_point" s__law_point ["_law_deck_here", "_law_grain_here", "_law_way"]) (h__law_draw : CalF P w K mg base 1 "_law_draw" [.ol (.ol .sh .sh) .sh, .sh] (.sh) F__law_draw) : CalF P w K mg base 2 "_law_point" [.ol (.ol .sh .sh) .sh, .sh, .sh] (.sh) F__law_point := by
  obtain ⟨f, fd, Fu, bd, hm⟩ := t
  refine ⟨f, fd, _, ok_d (ts := [.ol (.ol .sh .sh) .sh, .sh, .sh]) (nl := 2) (F := ⟨fun i => if i = 0 then .ol (.ol .sh .sh) .sh else .sh, fun i => i == 0, .sh⟩) (b := B__law_point) Fu sc__law_point (τs_ok _ _ (by decide)) (fx_ok _ _ (by decide)) rfl rfl (.inl rfl) ?_, Fu.kp, bd, hm⟩
  intro cdv A outer s H E hr hg hcd
  exact (ss_cons (s_par 3 4 sc__law_point.nd (as_cons (e_cF h__law_draw hr hg (ag_io 0 (ag_e (e_2 o_add (e_2 o_mul e_int (e_v 1)) e_int) ag_nil))) (as_cons (e_cF h__law_draw hr hg (ag_io 0 (ag_e (e_2 o_add (e_2 o_mul e_int (e_v 1)) e_int) ag_nil))) as_nil)))
    (ss_cons (s_if (t_cmp (o_eq hr.units) (e_v 2) e_int)
    (ss_one (s_ret (e_tup (as_cons (e_2 o_div (e_2 o_add (e_2 o_mul (e_2 o_div (e_2 o_mul e_int (e_v 3)) (e_v 1)) (e_v 1)) e_int) e_int) (as_cons (e_2 o_div (e_2 o_add (e_2 o_mul (e_2 o_div (e_2 o_mul e_int (e_v 4)) (e_v 1)) (e_v 1)) e_int) e_int) as_nil)))))
    ss_nil)
    (ss_cons (s_if (t_cmp (o_eq hr.units) (e_v 2) e_int)
    (ss_one (s_ret (e_tup (as_cons (e_2 o_mul (e_2 o_div (e_v 3) (e_v 1)) (e_v 1)) (as_cons (e_2 o_mul (e_2 o_div (e_v 4) (e_v 1)) (e_v 1)) as_nil)))))
    ss_nil)
    (ss_cons (s_if (t_cmp (o_eq hr.units) (e_v 2) e_int)
    (ss_one (s_ret (e_tup (as_cons (e_2 o_add (e_2 o_mul (e_2 o_div (e_v 3) (e_v 1)) (e_v 1)) (e_2 o_div (e_v 1) e_int)) (as_cons (e_v 4) as_nil)))))
    ss_nil)
    (ss_one (s_ret (e_tup (as_cons (e_v 3) (as_cons (e_v 4) as_nil)))))))))
abbrev s__law_unlike : Stmt := topS 24
theorem sc__law_unlike : FnScope ["_law_one", "_law_other"] ["_law_one", "_law_other"] (defScope s__law_unlike) := ⟨rfl, rfl, rfl, by decide +kernel, rfl, by decide +kernel, by decide +kernel⟩
def B__law_unlike : MS := (sRet (mN bTup (mCons (mV 0) (mCons (m2 bIx (mN bLst (mCons (mV 1) (mCons (mN bTup (mCons (m2 bAdd (m2 bIx (mV 0) (mC (.int 0))) (mC (.int 1))) (mCons (m2 bIx (mV 0) (mC (.int 1))) mNil))) mNil))) (mN bInt (mCons (m2 bEq (mV 0) (mV 1)) mNil))) mNil))))
def F__law_unlike : List D → Res D := runP 0 B__law_unlike
theorem ok__law_unlike (t : TxF K mg "_law_unlike" s__law_unlike ["_law_one", "_law_other"]) (hm_int : mg "int" = none) : CalP P w K mg base 1 "_law_unlike" 2 (.sh) F__law_unlike := by
  obtain ⟨f, fd, Fu, bd, hm⟩ := t
  refine ⟨f, fd, _, ok_p (n := 2) (nl := 0) (F := ⟨fun i => .sh, fun i => false, .sh⟩) (b := B__law_unlike) Fu sc__law_unlike (sh_ok _ _ (by decide)) rfl rfl (.inl rfl) ?_, Fu.kp, bd, hm⟩
  intro cdv A outer s H E hr hg hcd
  exact (ss_one (s_ret (e_tup (as_cons (e_v 0) (as_cons (e_ix x_ix (e_sh (e_lstO (as_cons (e_v 1) (as_cons (e_tup (as_cons (e_2 o_add (e_ix x_ix (e_v 0) e_int) e_int) (as_cons (e_ix x_ix (e_v 0) e_int) as_nil))) as_nil)))) (e_callTy c_int (a_cons (e_cmp (o_eq hr.units) (e_v 0) (e_v 1)) a_nil) (hm := hm_int))) as_nil)))))
abbrev s__law_line : Stmt := topS 25
theorem sc__law_line : FnScope ["_law_deck_here", "_law_grain_here", "_law_lines_here", "_law_way", "_law_one", "_law_other", "_law_x", "_law_y", "_law_u", "_law_v", "_law_number"] ["_law_deck_here", "_law_grain_here", "_law_lines_here"] (defScope s__law_line) := ⟨rfl, rfl, rfl, by decide +kernel, rfl, by decide +kernel, by decide +kernel⟩
def B__law_line : MS := (sSeq (sAsg (pN 3) (mCall F__law_draw (.io 0 :: (.e (mC (.int 9)) :: [])))) (sSeq (sAsg (pN 4) (mCall F__law_point (.io 0 :: (.e (mV 1) :: (.e (m2 bMod (mV 3) (mC (.int 4))) :: []))))) (sSeq (sAsg (pN 5) (mCall F__law_point (.io 0 :: (.e (mV 1) :: (.e (mCall F__law_draw (.io 0 :: (.e (mC (.int 4)) :: []))) :: []))))) (sSeq (sIf (mOr (m2 bEq (mV 2) (mN bLst mNil)) (m2 bLt (mV 3) (mC (.int 5)))) (sRet (mCallP F__law_unlike (mCons (mV 4) (mCons (mV 5) mNil)))) (sK .nx)) (sSeq (sAsg (pT 2 (psC (pT 2 (psC (pN 6) (psC (pN 7) psN))) (psC (pT 2 (psC (pN 8) (psC (pN 9) psN))) psN))) (m2 bIx (mV 2) (mCall F__law_draw (.io 0 :: (.e (mN bLen (mCons (mV 2) mNil)) :: []))))) (sSeq (sIf (m2 bGt (mN bMax1 (mCons (mComp [10] (pN 10) (mIt (mN bTup (mCons (mV 6) (mCons (mV 7) (mCons (mV 8) (mCons (mV 9) mNil)))))) mYes (mN bAbs (mCons (mV 10) mNil))) mNil)) (m2 bMul (mC (.int 12)) (mV 1))) (sRet (mCallP F__law_unlike (mCons (mV 4) (mCons (mV 5) mNil)))) (sK .nx)) (sSeq (sIf (m2 bEq (mV 3) (mC (.int 5))) (sRet (mCallP F__law_unlike (mCons (mN bTup (mCons (mV 8) (mCons (mV 9) mNil))) (mCons (mV 5) mNil)))) (sK .nx)) (sSeq (sIf (m2 bEq (mV 3) (mC (.int 6))) (sRet (mCallP F__law_unlike (mCons (mV 4) (mCons (mN bTup (mCons (m2 bSub (m2 bAdd (mV 6) (mV 8)) (m2 bIx (mV 4) (mC (.int 0)))) (mCons (m2 bSub (m2 bAdd (mV 7) (mV 9)) (m2 bIx (mV 4) (mC (.int 1)))) mNil))) mNil)))) (sK .nx)) (sSeq (sIf (m2 bEq (mV 3) (mC (.int 7))) (sRet (mN bTup (mCons (mN bTup (mCons (mV 8) (mCons (mV 9) mNil))) (mCons (mN bTup (mCons (m2 bSub (m2 bMul (mC (.int 2)) (mV 8)) (mV 6)) (mCons (m2 bSub (m2 bMul (mC (.int 2)) (mV 9)) (mV 7)) mNil))) mNil)))) (sK .nx)) (sRet (m2 bIx (mN bLst (mCons (mN bTup (mCons (mN bTup (mCons (mV 6) (mCons (mV 7) mNil))) (mCons (mN bTup (mCons (mV 8) (mCons (mV 9) mNil))) mNil))) (mCons (mN bTup (mCons (mN bTup (mCons (mV 8) (mCons (mV 9) mNil))) (mCons (mN bTup (mCons (mV 6) (mCons (mV 7) mNil))) mNil))) (mCons (mN bTup (mCons (mN bTup (mCons (mV 6) (mCons (mV 7) mNil))) (mCons (mN bTup (mCons (m2 bSub (m2 bMul (mC (.int 2)) (mV 8)) (mV 6)) (mCons (m2 bSub (m2 bMul (mC (.int 2)) (mV 9)) (mV 7)) mNil))) mNil))) mNil)))) (mCall F__law_draw (.io 0 :: (.e (mC (.int 3)) :: []))))))))))))))
def F__law_line : Fn := runF [.ol (.ol .sh .sh) .sh, .sh, .sh] 8 B__law_line
theorem ok__law_line (t : TxF K mg "_law_line" s__law_line ["_law_deck_here", "_law_grain_here", "_law_lines_here"]) (h__law_draw : CalF P w K mg base 1 "_law_draw" [.ol (.ol .sh .sh) .sh, .sh] (.sh) F__law_draw) (h__law_point : CalF P w K mg base 2 "_law_point" [.ol (.ol .sh .sh) .sh, .sh, .sh] (.sh) F__law_point) (h__law_unlike : CalP P w K mg base 1 "_law_unlike" 2 (.sh) F__law_unlike) (hm_abs : mg "abs" = none) (hm_len : mg "len" = none) (hm_max : mg "max" = none) : CalF P w K mg base 3 "_law_line" [.ol (.ol .sh .sh) .sh, .sh, .sh] (.sh) F__law_line := by
  obtain ⟨f, fd, Fu, bd, hm⟩ := t
  refine ⟨f, fd, _, ok_d (ts := [.ol (.ol .sh .sh) .sh, .sh, .sh]) (nl := 8) (F := ⟨fun i => if i = 0 then .ol (.ol .sh .sh) .sh else .sh, fun i => i == 0, .sh⟩) (b := B__law_line) Fu sc__law_line (τs_ok _ _ (by decide)) (fx_ok _ _ (by decide)) rfl rfl (.inl rfl) ?_, Fu.kp, bd, hm⟩
  intro cdv A outer s H E hr hg hcd
  exact (ss_cons (s_set 3 sc__law_line.nd (e_cF h__law_draw hr hg (ag_io 0 (ag_e e_int ag_nil))))
    (ss_cons (s_set 4 sc__law_line.nd (e_cF h__law_point hr hg (ag_io 0 (ag_e (e_v 1) (ag_e (e_2 o_mod (e_v 3) e_int) ag_nil)))))
    (ss_cons (s_set 5 sc__law_line.nd (e_cF h__law_point hr hg (ag_io 0 (ag_e (e_v 1) (ag_e (e_cF h__law_draw hr hg (ag_io 0 (ag_e e_int ag_nil))) ag_nil)))))
    (ss_cons (s_if (w_or (t_cmp (o_eq hr.units) (e_v 2) (e_sh (e_lstO as_nil))) (w_or1 (t_cmp o_lt (e_v 3) e_int))).pt
    (ss_one (s_ret (e_c h__law_unlike hr hg (as_cons (e_v 4) (as_cons (e_v 5) as_nil)) (len_cons (len_cons len_nil)))))
    ss_nil)
    (ss_cons (s_asg (e_ix x_ix (e_v 2) (e_cF h__law_draw hr hg (ag_io 0 (ag_e (e_callB c_len (a_cons (e_v 2) a_nil) (hm := hm_len)) ag_nil)))) (g_t (gs_cons (g_t (gs_cons (g_n 6 sc__law_line.nd) (gs_cons (g_n 7 sc__law_line.nd) gs_nil))) (gs_cons (g_t (gs_cons (g_n 8 sc__law_line.nd) (gs_cons (g_n 9 sc__law_line.nd) gs_nil))) gs_nil))))
    (ss_cons (s_if (t_cmp o_gt (e_callB (c_max1 rfl) (a_cons (e_sh (e_lcO (own' := [("_law_number", 10)]) (vs := [10]) sc__law_line.nd (blkOk_by (by kernel_rfl)) (i_any (e_tup (as_cons (e_v 6) (as_cons (e_v 7) (as_cons (e_v 8) (as_cons (e_v 9) as_nil)))))) (fun _ _ _ _ _ => (g_n 10 sc__law_line.nd)) (fun _ _ _ _ _ => ts_nil) (fun _ _ _ _ _ => (e_callB c_abs (a_cons (e_v 10) a_nil) (hm := hm_abs))))) a_nil) (hm := hm_max)) (e_2 o_mul e_int (e_v 1)))
    (ss_one (s_ret (e_c h__law_unlike hr hg (as_cons (e_v 4) (as_cons (e_v 5) as_nil)) (len_cons (len_cons len_nil)))))
    ss_nil)
    (ss_cons (s_if (t_cmp (o_eq hr.units) (e_v 3) e_int)
    (ss_one (s_ret (e_c h__law_unlike hr hg (as_cons (e_tup (as_cons (e_v 8) (as_cons (e_v 9) as_nil))) (as_cons (e_v 5) as_nil)) (len_cons (len_cons len_nil)))))
    ss_nil)
    (ss_cons (s_if (t_cmp (o_eq hr.units) (e_v 3) e_int)
    (ss_one (s_ret (e_c h__law_unlike hr hg (as_cons (e_v 4) (as_cons (e_tup (as_cons (e_2 o_sub (e_2 o_add (e_v 6) (e_v 8)) (e_ix x_ix (e_v 4) e_int)) (as_cons (e_2 o_sub (e_2 o_add (e_v 7) (e_v 9)) (e_ix x_ix (e_v 4) e_int)) as_nil))) as_nil)) (len_cons (len_cons len_nil)))))
    ss_nil)
    (ss_cons (s_if (t_cmp (o_eq hr.units) (e_v 3) e_int)
    (ss_one (s_ret (e_tup (as_cons (e_tup (as_cons (e_v 8) (as_cons (e_v 9) as_nil))) (as_cons (e_tup (as_cons (e_2 o_sub (e_2 o_mul e_int (e_v 8)) (e_v 6)) (as_cons (e_2 o_sub (e_2 o_mul e_int (e_v 9)) (e_v 7)) as_nil))) as_nil)))))
    ss_nil)
    (ss_one (s_ret (e_ix x_ix (e_sh (e_lstO (as_cons (e_tup (as_cons (e_tup (as_cons (e_v 6) (as_cons (e_v 7) as_nil))) (as_cons (e_tup (as_cons (e_v 8) (as_cons (e_v 9) as_nil))) as_nil))) (as_cons (e_tup (as_cons (e_tup (as_cons (e_v 8) (as_cons (e_v 9) as_nil))) (as_cons (e_tup (as_cons (e_v 6) (as_cons (e_v 7) as_nil))) as_nil))) (as_cons (e_tup (as_cons (e_tup (as_cons (e_v 6) (as_cons (e_v 7) as_nil))) (as_cons (e_tup (as_cons (e_2 o_sub (e_2 o_mul e_int (e_v 8)) (e_v 6)) (as_cons (e_2 o_sub (e_2 o_mul e_int (e_v 9)) (e_v 7)) as_nil))) as_nil))) as_nil))))) (e_cF h__law_draw hr hg (ag_io 0 (ag_e e_int ag_nil)))))))))))))))
abbrev s__law_lines : Stmt := topS 26
theorem sc__law_lines : FnScope ["_law_deck_here", "_law_grain_here", "_law_many", "_law_lines_here", "_law_k"] ["_law_deck_here", "_law_grain_here", "_law_many"] (defScope s__law_lines) := ⟨rfl, rfl, rfl, by decide +kernel, rfl, by decide +kernel, by decide +kernel⟩
def ty__law_lines : Nat → OT := fun i => if i = 0 then .ol (.ol .sh .sh) .sh else if i = 3 then .ol .sh .sh else .sh
noncomputable def B__law_lines : MS := (sSeq (sAsg (pN 3) (mN bLst mNil)) (sSeq (sFor (pN 4) (mItN range1 (mCons (mV 2) mNil)) (sExp (mApp 3 (mBor ty__law_lines 3 (mCall F__law_line (.io 0 :: (.e (mV 1) :: (.e (mV 3) :: [])))))))) (sRet (mN bTuple (mCons (mV 3) mNil)))))
noncomputable def F__law_lines : Fn := runF [.ol (.ol .sh .sh) .sh, .sh, .sh] 2 B__law_lines
theorem ok__law_lines (t : TxF K mg "_law_lines" s__law_lines ["_law_deck_here", "_law_grain_here", "_law_many"]) (h__law_line : CalF P w K mg base 3 "_law_line" [.ol (.ol .sh .sh) .sh, .sh, .sh] (.sh) F__law_line) (hm_range : mg "range" = none) (hm_tuple : mg "tuple" = none) : CalF P w K mg base 4 "_law_lines" [.ol (.ol .sh .sh) .sh, .sh, .sh] (.sh) F__law_lines := by
  obtain ⟨f, fd, Fu, bd, hm⟩ := t
  refine ⟨f, fd, _, ok_d (ts := [.ol (.ol .sh .sh) .sh, .sh, .sh]) (nl := 2) (F := ⟨ty__law_lines, fun i => i == 0, .sh⟩) (b := B__law_lines) Fu sc__law_lines (τs_ok _ _ (by decide)) (fx_ok _ _ (by decide)) rfl rfl (.inl rfl) ?_, Fu.kp, bd, hm⟩
  intro cdv A outer s H E hr hg hcd
  exact (ss_cons (s_setO 3 sc__law_lines.nd (e_lstO as_nil))
    (ss_cons (s_for (i_range1 (a_cons (e_v 2) a_nil) (hm := hm_range)) (g_n 4 sc__law_lines.nd)
    (ss_one (s_exp (e_pk (e_app 3 (as_cons (e_bor 3 (e_cF h__law_line hr hg (ag_io 0 (ag_e (e_v 1) (ag_e (e_v 3) ag_nil))))) as_nil))))))
    (ss_one (s_ret (e_callTy c_tuple (a_cons (e_vp 3) a_nil) (hm := hm_tuple))))))
abbrev s__law_turn : Stmt := topS 27
theorem sc__law_turn : FnScope ["_law_one", "_law_other"] ["_law_one", "_law_other"] (defScope s__law_turn) := ⟨rfl, rfl, rfl, by decide +kernel, rfl, by decide +kernel, by decide +kernel⟩
def B__law_turn : MS := (sRet (m2 bSub (m2 bMul (m2 bIx (mV 0) (mC (.int 0))) (m2 bIx (mV 1) (mC (.int 1)))) (m2 bMul (m2 bIx (mV 0) (mC (.int 1))) (m2 bIx (mV 1) (mC (.int 0))))))
def F__law_turn : List D → Res D := runP 0 B__law_turn
theorem ok__law_turn (t : TxF K mg "_law_turn" s__law_turn ["_law_one", "_law_other"]) : CalP P w K mg base 1 "_law_turn" 2 (.sh) F__law_turn := by
  obtain ⟨f, fd, Fu, bd, hm⟩ := t
  refine ⟨f, fd, _, ok_p (n := 2) (nl := 0) (F := ⟨fun i => .sh, fun i => false, .sh⟩) (b := B__law_turn) Fu sc__law_turn (sh_ok _ _ (by decide)) rfl rfl (.inl rfl) ?_, Fu.kp, bd, hm⟩
  intro cdv A outer s H E hr hg hcd
  exact (ss_one (s_ret (e_2 o_sub (e_2 o_mul (e_ix x_ix (e_v 0) e_int) (e_ix x_ix (e_v 1) e_int)) (e_2 o_mul (e_ix x_ix (e_v 0) e_int) (e_ix x_ix (e_v 1) e_int)))))
abbrev s__law_less : Stmt := topS 28
theorem sc__law_less : FnScope ["_law_one", "_law_other"] ["_law_one", "_law_other"] (defScope s__law_less) := ⟨rfl, rfl, rfl, by decide +kernel, rfl, by decide +kernel, by decide +kernel⟩
def B__law_less : MS := (sRet (mN bTup (mCons (m2 bSub (m2 bIx (mV 0) (mC (.int 0))) (m2 bIx (mV 1) (mC (.int 0)))) (mCons (m2 bSub (m2 bIx (mV 0) (mC (.int 1))) (m2 bIx (mV 1) (mC (.int 1)))) mNil))))
def F__law_less : List D → Res D := runP 0 B__law_less
theorem ok__law_less (t : TxF K mg "_law_less" s__law_less ["_law_one", "_law_other"]) : CalP P w K mg base 1 "_law_less" 2 (.sh) F__law_less := by
  obtain ⟨f, fd, Fu, bd, hm⟩ := t
  refine ⟨f, fd, _, ok_p (n := 2) (nl := 0) (F := ⟨fun i => .sh, fun i => false, .sh⟩) (b := B__law_less) Fu sc__law_less (sh_ok _ _ (by decide)) rfl rfl (.inl rfl) ?_, Fu.kp, bd, hm⟩
  intro cdv A outer s H E hr hg hcd
  exact (ss_one (s_ret (e_tup (as_cons (e_2 o_sub (e_ix x_ix (e_v 0) e_int) (e_ix x_ix (e_v 1) e_int)) (as_cons (e_2 o_sub (e_ix x_ix (e_v 0) e_int) (e_ix x_ix (e_v 1) e_int)) as_nil)))))
abbrev s__law_common : Stmt := topS 29
theorem sc__law_common : FnScope ["_law_one", "_law_other", "_law_a", "_law_b", "_law_c", "_law_e", "_law_way", "_law_there", "_law_far", "_law_whole", "_law_first", "_law_last", "_law_sign", "_law_share_here", "_law_point_here"] ["_law_one", "_law_other"] (defScope s__law_common) := ⟨rfl, rfl, rfl, by decide +kernel, rfl, by decide +kernel, by decide +kernel⟩
def B__law_common : MS := (sSeq (sAsg (pT 2 (psC (pT 2 (psC (pN 2) (psC (pN 3) psN))) (psC (pT 2 (psC (pN 4) (psC (pN 5) psN))) psN))) (mN bTup (mCons (mV 0) (mCons (mV 1) mNil)))) (sSeq (sPar3 6 7 8 (mCons (mCallP F__law_less (mCons (mV 3) (mCons (mV 2) mNil))) (mCons (mCallP F__law_less (mCons (mV 5) (mCons (mV 4) mNil))) (mCons (mCallP F__law_less (mCons (mV 4) (mCons (mV 2) mNil))) mNil)))) (sSeq (sAsg (pN 9) (mCallP F__law_turn (mCons (mV 6) (mCons (mV 7) mNil)))) (sSeq (sIf (m2 bEq (mV 9) (mC (.int 0))) (sSeq (sIf (m2 bNe (mCallP F__law_turn (mCons (mV 8) (mCons (mV 6) mNil))) (mC (.int 0))) (sRet (mN bLst mNil)) (sK .nx)) (sSeq (sAsg (pN 10) (mN bMax2D (mCons (mN bMin2D (mCons (mV 2) (mCons (mV 3) mNil))) (mCons (mN bMin2D (mCons (mV 4) (mCons (mV 5) mNil))) mNil)))) (sSeq (sAsg (pN 11) (mN bMin2D (mCons (mN bMax2D (mCons (mV 2) (mCons (mV 3) mNil))) (mCons (mN bMax2D (mCons (mV 4) (mCons (mV 5) mNil))) mNil)))) (sRet (mComp [14] (pN 14) (mIt (mSl (mN bLst (mCons (mV 10) (mCons (mV 11) mNil))) (some (mN bInt (mCons (m2 bEq (mV 10) (mV 11)) mNil))) none)) (m2 bLeD (mV 10) (mV 11)) (m2 bAdd (mV 14) (mN bTup (mCons (mC (.int 1)) mNil)))))))) (sK .nx)) (sSeq (sAsg (pN 12) (m2 bIx (mN bLst (mCons (m1 bNeg (mC (.int 1))) (mCons (mC (.int 1)) mNil))) (mN bInt (mCons (m2 bGt (mV 9) (mC (.int 0))) mNil)))) (sSeq (sAsg (pN 9) (m2 bMul (mV 9) (mV 12))) (sSeq (sAsg (pN 13) (m2 bMul (mCallP F__law_turn (mCons (mV 8) (mCons (mV 7) mNil))) (mV 12))) (sSeq (sIf (mOr (m1 bNot (mChain bLe bLe (mC (.int 0)) (mV 13) (mV 9))) (m1 bNot (mChain bLe bLe (mC (.int 0)) (m2 bMul (mCallP F__law_turn (mCons (mV 8) (mCons (mV 6) mNil))) (mV 12)) (mV 9)))) (sRet (mN bLst mNil)) (sK .nx)) (sRet (mN bLst (mCons (mN bTup (mCons (m2 bAdd (m2 bMul (m2 bIx (mV 2) (mC (.int 0))) (mV 9)) (m2 bMul (m2 bIx (mV 6) (mC (.int 0))) (mV 13))) (mCons (m2 bAdd (m2 bMul (m2 bIx (mV 2) (mC (.int 1))) (mV 9)) (m2 bMul (m2 bIx (mV 6) (mC (.int 1))) (mV 13))) (mCons (mV 9) mNil)))) mNil)))))))))))
def F__law_common : List D → Res D := runP 13 B__law_common
theorem ok__law_common (t : TxF K mg "_law_common" s__law_common ["_law_one", "_law_other"]) (h__law_turn : CalP P w K mg base 1 "_law_turn" 2 (.sh) F__law_turn) (h__law_less : CalP P w K mg base 1 "_law_less" 2 (.sh) F__law_less) (hm_int : mg "int" = none) (hm_max : mg "max" = none) (hm_min : mg "min" = none) : CalP P w K mg base 2 "_law_common" 2 (.sh) F__law_common := by
  obtain ⟨f, fd, Fu, bd, hm⟩ := t
  refine ⟨f, fd, _, ok_p (n := 2) (nl := 13) (F := ⟨fun i => .sh, fun i => false, .sh⟩) (b := B__law_common) Fu sc__law_common (sh_ok _ _ (by decide)) rfl rfl (.inl rfl) ?_, Fu.kp, bd, hm⟩
  intro cdv A outer s H E hr hg hcd
  exact (ss_cons (s_asg (e_tup (as_cons (e_v 0) (as_cons (e_v 1) as_nil))) (g_t (gs_cons (g_t (gs_cons (g_n 2 sc__law_common.nd) (gs_cons (g_n 3 sc__law_common.nd) gs_nil))) (gs_cons (g_t (gs_cons (g_n 4 sc__law_common.nd) (gs_cons (g_n 5 sc__law_common.nd) gs_nil))) gs_nil))))
    (ss_cons (s_par3 6 7 8 sc__law_common.nd (as_cons (e_c h__law_less hr hg (as_cons (e_v 3) (as_cons (e_v 2) as_nil)) (len_cons (len_cons len_nil))) (as_cons (e_c h__law_less hr hg (as_cons (e_v 5) (as_cons (e_v 4) as_nil)) (len_cons (len_cons len_nil))) (as_cons (e_c h__law_less hr hg (as_cons (e_v 4) (as_cons (e_v 2) as_nil)) (len_cons (len_cons len_nil))) as_nil))))
    (ss_cons (s_set 9 sc__law_common.nd (e_c h__law_turn hr hg (as_cons (e_v 6) (as_cons (e_v 7) as_nil)) (len_cons (len_cons len_nil))))
    (ss_cons (s_if (t_cmp (o_eq hr.units) (e_v 9) e_int)
    (ss_cons (s_if (t_cmp (o_ne hr.units) (e_c h__law_turn hr hg (as_cons (e_v 8) (as_cons (e_v 6) as_nil)) (len_cons (len_cons len_nil))) e_int)
    (ss_one (s_ret (e_sh (e_lstO as_nil))))
    ss_nil)
    (ss_cons (s_set 10 sc__law_common.nd (e_callB (c_max2D rfl hr.units65) (a_cons (e_callB (c_min2D rfl hr.units65) (a_cons (e_v 2) (a_cons (e_v 3) a_nil)) (hm := hm_min)) (a_cons (e_callB (c_min2D rfl hr.units65) (a_cons (e_v 4) (a_cons (e_v 5) a_nil)) (hm := hm_min)) a_nil)) (hm := hm_max)))
    (ss_cons (s_set 11 sc__law_common.nd (e_callB (c_min2D rfl hr.units65) (a_cons (e_callB (c_max2D rfl hr.units65) (a_cons (e_v 2) (a_cons (e_v 3) a_nil)) (hm := hm_max)) (a_cons (e_callB (c_max2D rfl hr.units65) (a_cons (e_v 4) (a_cons (e_v 5) a_nil)) (hm := hm_max)) a_nil)) (hm := hm_min)))
    (ss_one (s_ret (e_sh (e_lcO (own' := [("_law_point_here", 14)]) (vs := [14]) sc__law_common.nd (blkOk_by (by kernel_rfl)) (i_any (e_sl (e_sh (e_lstO (as_cons (e_v 10) (as_cons (e_v 11) as_nil)))) (po_s (e_callTy c_int (a_cons (e_cmp (o_eq hr.units) (e_v 10) (e_v 11)) a_nil) (hm := hm_int))) po_n)) (fun _ _ _ _ _ => (g_n 14 sc__law_common.nd)) (fun _ _ _ _ _ => (ts_one (t_cmp (o_leD hr.units) (e_v 10) (e_v 11)))) (fun _ _ _ _ _ => (e_2 o_add (e_v 14) (e_tup (as_cons e_int as_nil)))))))))))
    ss_nil)
    (ss_cons (s_set 12 sc__law_common.nd (e_ix x_ix (e_sh (e_lstO (as_cons (e_1 u_neg e_int) (as_cons e_int as_nil)))) (e_callTy c_int (a_cons (e_cmp o_gt (e_v 9) e_int) a_nil) (hm := hm_int))))
    (ss_cons (s_set 9 sc__law_common.nd (e_2 o_mul (e_v 9) (e_v 12)))
    (ss_cons (s_set 13 sc__law_common.nd (e_2 o_mul (e_c h__law_turn hr hg (as_cons (e_v 8) (as_cons (e_v 7) as_nil)) (len_cons (len_cons len_nil))) (e_v 12)))
    (ss_cons (s_if (w_or (t_not (t_chain o_le o_le e_int (e_v 13) (e_v 9))) (w_or1 (t_not (t_chain o_le o_le e_int (e_2 o_mul (e_c h__law_turn hr hg (as_cons (e_v 8) (as_cons (e_v 6) as_nil)) (len_cons (len_cons len_nil))) (e_v 12)) (e_v 9))))).pt
    (ss_one (s_ret (e_sh (e_lstO as_nil))))
    ss_nil)
    (ss_one (s_ret (e_sh (e_lstO (as_cons (e_tup (as_cons (e_2 o_add (e_2 o_mul (e_ix x_ix (e_v 2) e_int) (e_v 9)) (e_2 o_mul (e_ix x_ix (e_v 6) e_int) (e_v 13))) (as_cons (e_2 o_add (e_2 o_mul (e_ix x_ix (e_v 2) e_int) (e_v 9)) (e_2 o_mul (e_ix x_ix (e_v 6) e_int) (e_v 13))) (as_cons (e_v 9) as_nil)))) as_nil)))))))))))))
abbrev s__law_part : Stmt := topS 30
theorem sc__law_part : FnScope ["_law_one", "_law_other"] ["_law_one", "_law_other"] (defScope s__law_part) := ⟨rfl, rfl, rfl, by decide +kernel, rfl, by decide +kernel, by decide +kernel⟩
def B__law_part : MS := (sSeq (whileN fuel (m2 bNe (mV 1) (mC (.int 0))) (sPar 0 1 (mCons (mV 1) (mCons (m2 bMod (mV 0) (mV 1)) mNil)))) (sRet (mN bAbs (mCons (mV 0) mNil))))
def F__law_part : List D → Res D := runP 0 B__law_part
theorem ok__law_part (t : TxF K mg "_law_part" s__law_part ["_law_one", "_law_other"]) (hm_abs : mg "abs" = none) : CalP P w K mg base 1 "_law_part" 2 (.sh) F__law_part := by
  obtain ⟨f, fd, Fu, bd, hm⟩ := t
  refine ⟨f, fd, _, ok_p (n := 2) (nl := 0) (F := ⟨fun i => .sh, fun i => false, .sh⟩) (b := B__law_part) Fu sc__law_part (sh_ok _ _ (by decide)) rfl rfl (.inl rfl) ?_, Fu.kp, bd, hm⟩
  intro cdv A outer s H E hr hg hcd
  exact (ss_cons (s_while (t_cmp (o_ne hr.units) (e_v 1) e_int)
    (ss_one (s_par 0 1 sc__law_part.nd (as_cons (e_v 1) (as_cons (e_2 o_mod (e_v 0) (e_v 1)) as_nil)))))
    (ss_one (s_ret (e_callB c_abs (a_cons (e_v 0) a_nil) (hm := hm_abs)))))
abbrev s__law_spot : Stmt := topS 31
theorem sc__law_spot : FnScope ["_law_n", "_law_m", "_law_d", "_law_by"] ["_law_n", "_law_m", "_law_d"] (defScope s__law_spot) := ⟨rfl, rfl, rfl, by decide +kernel, rfl, by decide +kernel, by decide +kernel⟩
def B__law_spot : MS := (sSeq (sAsg (pN 3) (mCallP F__law_part (mCons (mCallP F__law_part (mCons (mV 0) (mCons (mV 1) mNil))) (mCons (mV 2) mNil)))) (sRet (mN bTup (mCons (m2 bDiv (mV 0) (mV 3)) (mCons (m2 bDiv (mV 1) (mV 3)) (mCons (m2 bDiv (mV 2) (mV 3)) mNil))))))
def F__law_spot : List D → Res D := runP 1 B__law_spot
theorem ok__law_spot (t : TxF K mg "_law_spot" s__law_spot ["_law_n", "_law_m", "_law_d"]) (h__law_part : CalP P w K mg base 1 "_law_part" 2 (.sh) F__law_part) : CalP P w K mg base 2 "_law_spot" 3 (.sh) F__law_spot := by
  obtain ⟨f, fd, Fu, bd, hm⟩ := t
  refine ⟨f, fd, _, ok_p (n := 3) (nl := 1) (F := ⟨fun i => .sh, fun i => false, .sh⟩) (b := B__law_spot) Fu sc__law_spot (sh_ok _ _ (by decide)) rfl rfl (.inl rfl) ?_, Fu.kp, bd, hm⟩
  intro cdv A outer s H E hr hg hcd
  exact (ss_cons (s_set 3 sc__law_spot.nd (e_c h__law_part hr hg (as_cons (e_c h__law_part hr hg (as_cons (e_v 0) (as_cons (e_v 1) as_nil)) (len_cons (len_cons len_nil))) (as_cons (e_v 2) as_nil)) (len_cons (len_cons len_nil))))
    (ss_one (s_ret (e_tup (as_cons (e_2 o_div (e_v 0) (e_v 3)) (as_cons (e_2 o_div (e_v 1) (e_v 3)) (as_cons (e_2 o_div (e_v 2) (e_v 3)) as_nil)))))))
abbrev s__law_knots : Stmt := topS 32
theorem sc__law_knots : FnScope ["_law_lines_here", "_law_found", "_law_k", "_law_x", "_law_y", "_law_other", "_law_n", "_law_m", "_law_d"] ["_law_lines_here"] (defScope s__law_knots) := ⟨rfl, rfl, rfl, by decide +kernel, rfl, by decide +kernel, by decide +kernel⟩
def B__law_knots : MS := (sSeq (sAsg (pN 1) (mC (.kdc [] []))) (sSeq (sFor (pN 2) (mItN range1 (mCons (mN bLen (mCons (mV 0) mNil)) mNil)) (sSeq (sFor (pT 2 (psC (pN 3) (psC (pN 4) psN))) (mIt (m2 bIx (mV 0) (mV 2))) (sStoK 1 (mN bTup (mCons (mV 3) (mCons (mV 4) (mCons (mC (.int 1)) mNil)))) (mC (.bl true)))) (sFor (pN 5) (mIt (mSl (mV 0) none (some (mV 2)))) (sFor (pT 3 (psC (pN 6) (psC (pN 7) (psC (pN 8) psN)))) (mIt (mCallP F__law_common (mCons (m2 bIx (mV 0) (mV 2)) (mCons (mV 5) mNil)))) (sStoK 1 (mCallP F__law_spot (mCons (mV 6) (mCons (mV 7) (mCons (mV 8) mNil)))) (mC (.bl true))))))) (sFz 1 (sRet (mN bTuple (mCons (mL sortDK (mCons (mV 1) mNil)) mNil))))))
def F__law_knots : List D → Res D := runP 8 B__law_knots
theorem ok__law_knots (t : TxF K mg "_law_knots" s__law_knots ["_law_lines_here"]) (h__law_common : CalP P w K mg base 2 "_law_common" 2 (.sh) F__law_common) (h__law_spot : CalP P w K mg base 2 "_law_spot" 3 (.sh) F__law_spot) (hm_len : mg "len" = none) (hm_range : mg "range" = none) (hm_sorted : mg "sorted" = none) (hm_tuple : mg "tuple" = none) : CalP P w K mg base 3 "_law_knots" 1 (.sh) F__law_knots := by
  obtain ⟨f, fd, Fu, bd, hm⟩ := t
  refine ⟨f, fd, _, ok_p (n := 1) (nl := 8) (F := ⟨fun i => if i = 1 then .od else .sh, fun i => false, .sh⟩) (b := B__law_knots) Fu sc__law_knots (sh_ok _ _ (by decide)) rfl rfl (.inl rfl) ?_, Fu.kp, bd, hm⟩
  intro cdv A outer s H E hr hg hcd
  exact (ss_cons (s_setO 1 sc__law_knots.nd e_kd0)
    (ss_cons (s_for (i_range1 (a_cons (e_callB c_len (a_cons (e_v 0) a_nil) (hm := hm_len)) a_nil) (hm := hm_range)) (g_n 2 sc__law_knots.nd)
    (ss_cons (s_for (i_any (e_ix x_ix (e_v 0) (e_v 2))) (g_t (gs_cons (g_n 3 sc__law_knots.nd) (gs_cons (g_n 4 sc__law_knots.nd) gs_nil)))
    (ss_one (s_stoK 1 hr.units e_bl (e_tup (as_cons (e_v 3) (as_cons (e_v 4) (as_cons e_int as_nil)))))))
    (ss_one (s_for (i_any (e_sl (e_v 0) po_n (po_s (e_v 2)))) (g_n 5 sc__law_knots.nd)
    (ss_one (s_for (i_any (e_c h__law_common hr hg (as_cons (e_ix x_ix (e_v 0) (e_v 2)) (as_cons (e_v 5) as_nil)) (len_cons (len_cons len_nil)))) (g_t (gs_cons (g_n 6 sc__law_knots.nd) (gs_cons (g_n 7 sc__law_knots.nd) (gs_cons (g_n 8 sc__law_knots.nd) gs_nil))))
    (ss_one (s_stoK 1 hr.units e_bl (e_c h__law_spot hr hg (as_cons (e_v 6) (as_cons (e_v 7) (as_cons (e_v 8) as_nil))) (len_cons (len_cons (len_cons len_nil))))))))))))
    (ss_fz 1 rfl (ss_one (s_ret (e_callTy c_tuple (a_cons (e_sh (e_callBO (c_sortedK rfl hr.units65) (a_cons (e_v 1) a_nil) (hm := hm_sorted))) a_nil) (hm := hm_tuple)))))))
abbrev s__law_share : Stmt := topS 33
theorem sc__law_share : FnScope ["_law_line_here", "_law_knot", "_law_x", "_law_y", "_law_u", "_law_v", "_law_n", "_law_m", "_law_d", "_law_way", "_law_far", "_law_onward"] ["_law_line_here", "_law_knot"] (defScope s__law_share) := ⟨rfl, rfl, rfl, by decide +kernel, rfl, by decide +kernel, by decide +kernel⟩
def B__law_share : MS := (sSeq (sAsg (pT 2 (psC (pT 2 (psC (pT 2 (psC (pN 2) (psC (pN 3) psN))) (psC (pT 2 (psC (pN 4) (psC (pN 5) psN))) psN))) (psC (pT 3 (psC (pN 6) (psC (pN 7) (psC (pN 8) psN)))) psN))) (mN bTup (mCons (mV 0) (mCons (mV 1) mNil)))) (sSeq (sPar 9 10 (mCons (mN bTup (mCons (m2 bSub (mV 4) (mV 2)) (mCons (m2 bSub (mV 5) (mV 3)) mNil))) (mCons (mN bTup (mCons (m2 bSub (mV 6) (m2 bMul (mV 2) (mV 8))) (mCons (m2 bSub (mV 7) (m2 bMul (mV 3) (mV 8))) mNil))) mNil))) (sSeq (sAsg (pN 11) (m2 bAdd (m2 bMul (m2 bIx (mV 9) (mC (.int 0))) (m2 bIx (mV 10) (mC (.int 0)))) (m2 bMul (m2 bIx (mV 9) (mC (.int 1))) (m2 bIx (mV 10) (mC (.int 1)))))) (sSeq (sIf (mOr (m2 bNe (mCallP F__law_turn (mCons (mV 9) (mCons (mV 10) mNil))) (mC (.int 0))) (m1 bNot (mChain bLe bLe (mC (.int 0)) (mV 11) (m2 bMul (mV 8) (m2 bAdd (m2 bMul (m2 bIx (mV 9) (mC (.int 0))) (m2 bIx (mV 9) (mC (.int 0)))) (m2 bMul (m2 bIx (mV 9) (mC (.int 1))) (m2 bIx (mV 9) (mC (.int 1))))))))) (sRet (mC .non)) (sK .nx)) (sRet (mV 11))))))
def F__law_share : List D → Res D := runP 10 B__law_share
theorem ok__law_share (t : TxF K mg "_law_share" s__law_share ["_law_line_here", "_law_knot"]) (h__law_turn : CalP P w K mg base 1 "_law_turn" 2 (.sh) F__law_turn) : CalP P w K mg base 2 "_law_share" 2 (.sh) F__law_share := by
  obtain ⟨f, fd, Fu, bd, hm⟩ := t
  refine ⟨f, fd, _, ok_p (n := 2) (nl := 10) (F := ⟨fun i => .sh, fun i => false, .sh⟩) (b := B__law_share) Fu sc__law_share (sh_ok _ _ (by decide)) rfl rfl (.inl rfl) ?_, Fu.kp, bd, hm⟩
  intro cdv A outer s H E hr hg hcd
  exact (ss_cons (s_asg (e_tup (as_cons (e_v 0) (as_cons (e_v 1) as_nil))) (g_t (gs_cons (g_t (gs_cons (g_t (gs_cons (g_n 2 sc__law_share.nd) (gs_cons (g_n 3 sc__law_share.nd) gs_nil))) (gs_cons (g_t (gs_cons (g_n 4 sc__law_share.nd) (gs_cons (g_n 5 sc__law_share.nd) gs_nil))) gs_nil))) (gs_cons (g_t (gs_cons (g_n 6 sc__law_share.nd) (gs_cons (g_n 7 sc__law_share.nd) (gs_cons (g_n 8 sc__law_share.nd) gs_nil)))) gs_nil))))
    (ss_cons (s_par 9 10 sc__law_share.nd (as_cons (e_tup (as_cons (e_2 o_sub (e_v 4) (e_v 2)) (as_cons (e_2 o_sub (e_v 5) (e_v 3)) as_nil))) (as_cons (e_tup (as_cons (e_2 o_sub (e_v 6) (e_2 o_mul (e_v 2) (e_v 8))) (as_cons (e_2 o_sub (e_v 7) (e_2 o_mul (e_v 3) (e_v 8))) as_nil))) as_nil)))
    (ss_cons (s_set 11 sc__law_share.nd (e_2 o_add (e_2 o_mul (e_ix x_ix (e_v 9) e_int) (e_ix x_ix (e_v 10) e_int)) (e_2 o_mul (e_ix x_ix (e_v 9) e_int) (e_ix x_ix (e_v 10) e_int))))
    (ss_cons (s_if (w_or (t_cmp (o_ne hr.units) (e_c h__law_turn hr hg (as_cons (e_v 9) (as_cons (e_v 10) as_nil)) (len_cons (len_cons len_nil))) e_int) (w_or1 (t_not (t_chain o_le o_le e_int (e_v 11) (e_2 o_mul (e_v 8) (e_2 o_add (e_2 o_mul (e_ix x_ix (e_v 9) e_int) (e_ix x_ix (e_v 9) e_int)) (e_2 o_mul (e_ix x_ix (e_v 9) e_int) (e_ix x_ix (e_v 9) e_int)))))))).pt
    (ss_one (s_ret e_non))
    ss_nil)
    (ss_one (s_ret (e_v 11)))))))
abbrev s__law_row : Stmt := topS 34
theorem sc__law_row : FnScope ["_law_line_here", "_law_knots_here", "_law_some", "_law_found", "_law_knot", "_law_far", "_law_one", "_law_near"] ["_law_line_here", "_law_knots_here"] (defScope s__law_row) := ⟨rfl, rfl, rfl, by decide +kernel, rfl, by decide +kernel, by decide +kernel⟩
def B__law_row : MS := (sSeq (sAsg (pN 2) (mComp [4] (pN 4) (mIt (mV 1)) mYes (mN bTup (mCons (mV 4) (mCons (mCallP F__law_share (mCons (mV 0) (mCons (mV 4) mNil))) mNil))))) (sSeq (sAsg (pN 2) (mComp [4, 5] (pT 2 (psC (pN 4) (psC (pN 5) psN))) (mIt (mV 2)) (m2 bNotN (mV 5) (mC .non)) (mN bTup (mCons (mV 4) (mCons (mV 5) mNil))))) (sSeq (sAsg (pN 3) (m2 bRep (mN bLst (mCons (mC .non) mNil)) (mN bLen (mCons (mV 2) mNil)))) (sSeq (sFor (pT 2 (psC (pN 4) (psC (pN 5) psN))) (mIt (mV 2)) (sStoX 3 (mN bLen (mCons (mComp [6, 7] (pT 2 (psC (pN 6) (psC (pN 7) psN))) (mIt (mV 2)) (m2 bLt (m2 bMul (mV 7) (m2 bIx (mV 4) (mC (.int 2)))) (m2 bMul (mV 5) (m2 bIx (mV 6) (mC (.int 2))))) (mV 6)) mNil)) (mV 4))) (sFz 3 (sRet (mV 3)))))))
def F__law_row : List D → Res D := runP 6 B__law_row
theorem ok__law_row (t : TxF K mg "_law_row" s__law_row ["_law_line_here", "_law_knots_here"]) (h__law_share : CalP P w K mg base 2 "_law_share" 2 (.sh) F__law_share) (hm_len : mg "len" = none) : CalP P w K mg base 3 "_law_row" 2 (.sh) F__law_row := by
  obtain ⟨f, fd, Fu, bd, hm⟩ := t
  refine ⟨f, fd, _, ok_p (n := 2) (nl := 6) (F := ⟨fun i => if i = 3 then .ol .sh .sh else .sh, fun i => false, .sh⟩) (b := B__law_row) Fu sc__law_row (sh_ok _ _ (by decide)) rfl rfl (.inl rfl) ?_, Fu.kp, bd, hm⟩
  intro cdv A outer s H E hr hg hcd
  exact (ss_cons (s_lc 2 (own' := [("_law_knot", 4)]) (vs := [4]) sc__law_row.nd (blkOk_by (by kernel_rfl)) (i_any (e_v 1)) (fun _ _ _ _ _ => (g_n 4 sc__law_row.nd)) (fun _ _ _ _ _ => ts_nil) (fun _ _ _ _ _ => (e_tup (as_cons (e_v 4) (as_cons (e_c h__law_share hr hg (as_cons (e_v 0) (as_cons (e_v 4) as_nil)) (len_cons (len_cons len_nil))) as_nil)))) (sw_true rfl rfl rfl (by decide +kernel)))
    (ss_cons (s_lc 2 (own' := [("_law_knot", 4), ("_law_far", 5)]) (vs := [4, 5]) sc__law_row.nd (blkOk_by (by kernel_rfl)) (i_any (e_v 2)) (fun _ _ _ _ _ => (g_t (gs_cons (g_n 4 sc__law_row.nd) (gs_cons (g_n 5 sc__law_row.nd) gs_nil)))) (fun _ _ _ _ _ => (ts_one (t_cmp o_isnt (e_v 5) e_non))) (fun _ _ _ _ _ => (e_tup (as_cons (e_v 4) (as_cons (e_v 5) as_nil)))) (sw_true rfl rfl rfl (by decide +kernel)))
    (ss_cons (s_setO 3 sc__law_row.nd (e_repO (e_sh (e_lstO (as_cons e_non as_nil))) (e_callB c_len (a_cons (e_v 2) a_nil) (hm := hm_len))))
    (ss_cons (s_for (i_any (e_v 2)) (g_t (gs_cons (g_n 4 sc__law_row.nd) (gs_cons (g_n 5 sc__law_row.nd) gs_nil)))
    (ss_one (s_stoX 3 (e_v 4) (e_callB c_len (a_cons (e_sh (e_lcO (own' := [("_law_one", 6), ("_law_near", 7)]) (vs := [6, 7]) sc__law_row.nd (blkOk_by (by kernel_rfl)) (i_any (e_v 2)) (fun _ _ _ _ _ => (g_t (gs_cons (g_n 6 sc__law_row.nd) (gs_cons (g_n 7 sc__law_row.nd) gs_nil)))) (fun _ _ _ _ _ => (ts_one (t_cmp o_lt (e_2 o_mul (e_v 7) (e_ix x_ix (e_v 4) e_int)) (e_2 o_mul (e_v 5) (e_ix x_ix (e_v 6) e_int))))) (fun _ _ _ _ _ => (e_v 6)))) a_nil) (hm := hm_len)))))
    (ss_fz 3 rfl (ss_one (s_ret (e_v 3))))))))
abbrev s__law_pieces : Stmt := topS 35
theorem sc__law_pieces : FnScope ["_law_lines_here", "_law_knots_here", "_law_found", "_law_line_here", "_law_row_here", "_law_one", "_law_other"] ["_law_lines_here"] (defScope s__law_pieces) := ⟨rfl, rfl, rfl, by decide +kernel, rfl, by decide +kernel, by decide +kernel⟩
def B__law_pieces : MS := (sSeq (sAsg (pN 1) (mCallP F__law_knots (mCons (mV 0) mNil))) (sSeq (sAsg (pN 2) (mC (.kdc [] []))) (sSeq (sFor (pN 3) (mIt (mV 0)) (sSeq (sAsg (pN 4) (mCallP F__law_row (mCons (mV 3) (mCons (mV 1) mNil)))) (sFor (pT 2 (psC (pN 5) (psC (pN 6) psN))) (mItN zip2 (mCons (mSl (mV 4) none (some (m1 bNeg (mC (.int 1))))) (mCons (mSl (mV 4) (some (mC (.int 1))) none) mNil))) (sStoK 2 (mN bTuple (mCons (mL sortDD (mCons (mN bLst (mCons (mV 5) (mCons (mV 6) mNil))) mNil)) mNil)) (mC (.bl true)))))) (sFz 2 (sRet (mN bTuple (mCons (mL sortDK (mCons (mV 2) mNil)) mNil)))))))
def F__law_pieces : List D → Res D := runP 6 B__law_pieces
theorem ok__law_pieces (t : TxF K mg "_law_pieces" s__law_pieces ["_law_lines_here"]) (h__law_knots : CalP P w K mg base 3 "_law_knots" 1 (.sh) F__law_knots) (h__law_row : CalP P w K mg base 3 "_law_row" 2 (.sh) F__law_row) (hm_sorted : mg "sorted" = none) (hm_tuple : mg "tuple" = none) (hm_zip : mg "zip" = none) : CalP P w K mg base 4 "_law_pieces" 1 (.sh) F__law_pieces := by
  obtain ⟨f, fd, Fu, bd, hm⟩ := t
  refine ⟨f, fd, _, ok_p (n := 1) (nl := 6) (F := ⟨fun i => if i = 2 then .od else .sh, fun i => false, .sh⟩) (b := B__law_pieces) Fu sc__law_pieces (sh_ok _ _ (by decide)) rfl rfl (.inl rfl) ?_, Fu.kp, bd, hm⟩
  intro cdv A outer s H E hr hg hcd
  exact (ss_cons (s_set 1 sc__law_pieces.nd (e_c h__law_knots hr hg (as_cons (e_v 0) as_nil) (len_cons len_nil)))
    (ss_cons (s_setO 2 sc__law_pieces.nd e_kd0)
    (ss_cons (s_for (i_any (e_v 0)) (g_n 3 sc__law_pieces.nd)
    (ss_cons (s_set 4 sc__law_pieces.nd (e_c h__law_row hr hg (as_cons (e_v 3) (as_cons (e_v 1) as_nil)) (len_cons (len_cons len_nil))))
    (ss_one (s_for (i_zip2 (as_cons (e_sl (e_v 4) po_n (po_s (e_1 u_neg e_int))) (as_cons (e_sl (e_v 4) (po_s e_int) po_n) as_nil)) (hm := hm_zip)) (g_t (gs_cons (g_n 5 sc__law_pieces.nd) (gs_cons (g_n 6 sc__law_pieces.nd) gs_nil)))
    (ss_one (s_stoK 2 hr.units e_bl (e_callTy c_tuple (a_cons (e_sh (e_callBO (c_sortedD rfl hr.units65) (a_cons (e_sh (e_lstO (as_cons (e_v 5) (as_cons (e_v 6) as_nil)))) a_nil) (hm := hm_sorted))) a_nil) (hm := hm_tuple))))))))
    (ss_fz 2 rfl (ss_one (s_ret (e_callTy c_tuple (a_cons (e_sh (e_callBO (c_sortedK rfl hr.units65) (a_cons (e_v 2) a_nil) (hm := hm_sorted))) a_nil) (hm := hm_tuple))))))))
abbrev s__law_far_lines : Stmt := topS 36
theorem sc__law_far_lines : FnScope ["_law_deck_here", "_law_many", "_law_lines_here", "_law_k", "_law_some", "_law_j"] ["_law_deck_here", "_law_many"] (defScope s__law_far_lines) := ⟨rfl, rfl, rfl, by decide +kernel, rfl, by decide +kernel, by decide +kernel⟩
def B__law_far_lines : MS := (sSeq (sAsg (pN 2) (mN bLst mNil)) (sSeq (sFor (pN 3) (mItN range1 (mCons (mV 1) mNil)) (sSeq (sAsg (pN 4) (mComp [5] (pN 5) (mItN range1 (mCons (mC (.int 4)) mNil)) mYes (m2 bSub (mCall F__law_draw (.io 0 :: (.e (m2 bMul (mC (.int 2)) (m2 bPow (mC (.int 10)) (mC (.int 6)))) :: []))) (m2 bPow (mC (.int 10)) (mC (.int 6)))))) (sExp (mApp 2 (mCallP F__law_unlike (mCons (mN bTup (mCons (m2 bIx (mV 4) (mC (.int 0))) (mCons (m2 bIx (mV 4) (mC (.int 1))) mNil))) (mCons (mN bTup (mCons (m2 bIx (mV 4) (mC (.int 2))) (mCons (m2 bIx (mV 4) (mC (.int 3))) mNil))) mNil))))))) (sRet (mN bTuple (mCons (mV 2) mNil)))))
def F__law_far_lines : Fn := runF [.ol (.ol .sh .sh) .sh, .sh] 4 B__law_far_lines
theorem ok__law_far_lines (t : TxF K mg "_law_far_lines" s__law_far_lines ["_law_deck_here", "_law_many"]) (h__law_unlike : CalP P w K mg base 1 "_law_unlike" 2 (.sh) F__law_unlike) (h__law_draw : CalF P w K mg base 1 "_law_draw" [.ol (.ol .sh .sh) .sh, .sh] (.sh) F__law_draw) (hm_range : mg "range" = none) (hm_tuple : mg "tuple" = none) : CalF P w K mg base 2 "_law_far_lines" [.ol (.ol .sh .sh) .sh, .sh] (.sh) F__law_far_lines := by
  obtain ⟨f, fd, Fu, bd, hm⟩ := t
  refine ⟨f, fd, _, ok_d (ts := [.ol (.ol .sh .sh) .sh, .sh]) (nl := 4) (F := ⟨fun i => if i = 0 then .ol (.ol .sh .sh) .sh else if i = 2 then .ol .sh .sh else .sh, fun i => i == 0, .sh⟩) (b := B__law_far_lines) Fu sc__law_far_lines (τs_ok _ _ (by decide)) (fx_ok _ _ (by decide)) rfl rfl (.inl rfl) ?_, Fu.kp, bd, hm⟩
  intro cdv A outer s H E hr hg hcd
  exact (ss_cons (s_setO 2 sc__law_far_lines.nd (e_lstO as_nil))
    (ss_cons (s_for (i_range1 (a_cons (e_v 1) a_nil) (hm := hm_range)) (g_n 3 sc__law_far_lines.nd)
    (ss_cons (s_lc 4 (own' := [("_law_j", 5)]) (vs := [5]) sc__law_far_lines.nd (blkOk_by (by kernel_rfl)) (i_range1 (a_cons e_int a_nil) (hm := hm_range)) (fun _ _ _ _ _ => (g_n 5 sc__law_far_lines.nd)) (fun _ _ _ _ _ => ts_nil) (fun _ _ _ _ _ => (e_2 o_sub (e_cF h__law_draw hr hg (ag_io 0 (ag_e (e_2 o_mul e_int (e_2 o_pow e_int e_int)) ag_nil))) (e_2 o_pow e_int e_int))) (sw_true rfl rfl rfl (by decide +kernel)))
    (ss_one (s_exp (e_pk (e_app 2 (as_cons (e_c h__law_unlike hr hg (as_cons (e_tup (as_cons (e_ix x_ix (e_v 4) e_int) (as_cons (e_ix x_ix (e_v 4) e_int) as_nil))) (as_cons (e_tup (as_cons (e_ix x_ix (e_v 4) e_int) (as_cons (e_ix x_ix (e_v 4) e_int) as_nil))) as_nil)) (len_cons (len_cons len_nil))) as_nil)))))))
    (ss_one (s_ret (e_callTy c_tuple (a_cons (e_vp 2) a_nil) (hm := hm_tuple))))))
abbrev s__law_some_lines : Stmt := topS 37
theorem sc__law_some_lines : FnScope ["_law_deck_here", "_law_grain_here", "_law_most", "_law_far", "_law_great", "_law_many"] ["_law_deck_here", "_law_grain_here", "_law_most"] (defScope s__law_some_lines) := ⟨rfl, rfl, rfl, by decide +kernel, rfl, by decide +kernel, by decide +kernel⟩
noncomputable def B__law_some_lines : MS := (sSeq (sAsg (pN 3) (m2 bEq (mCall F__law_draw (.io 0 :: (.e (mC (.int 6)) :: []))) (mC (.int 5)))) (sSeq (sAsg (pN 4) (m2 bEq (mCall F__law_draw (.io 0 :: (.e (mC (.int 8)) :: []))) (mC (.int 5)))) (sSeq (sAsg (pN 5) (m2 bIx (mN bLst (mCons (m2 bAdd (mC (.int 1)) (mCall F__law_draw (.io 0 :: (.e (mV 2) :: [])))) (mCons (mC (.int 12)) mNil))) (mN bInt (mCons (mV 4) mNil)))) (sSeq (sIf (mV 3) (sRet (mCall F__law_far_lines (.io 0 :: (.e (mV 5) :: [])))) (sK .nx)) (sRet (mCall F__law_lines (.io 0 :: (.e (mV 1) :: (.e (mV 5) :: [])))))))))
noncomputable def F__law_some_lines : Fn := runF [.ol (.ol .sh .sh) .sh, .sh, .sh] 3 B__law_some_lines
theorem ok__law_some_lines (t : TxF K mg "_law_some_lines" s__law_some_lines ["_law_deck_here", "_law_grain_here", "_law_most"]) (h__law_lines : CalF P w K mg base 4 "_law_lines" [.ol (.ol .sh .sh) .sh, .sh, .sh] (.sh) F__law_lines) (h__law_draw : CalF P w K mg base 1 "_law_draw" [.ol (.ol .sh .sh) .sh, .sh] (.sh) F__law_draw) (h__law_far_lines : CalF P w K mg base 2 "_law_far_lines" [.ol (.ol .sh .sh) .sh, .sh] (.sh) F__law_far_lines) (hm_int : mg "int" = none) : CalF P w K mg base 5 "_law_some_lines" [.ol (.ol .sh .sh) .sh, .sh, .sh] (.sh) F__law_some_lines := by
  obtain ⟨f, fd, Fu, bd, hm⟩ := t
  refine ⟨f, fd, _, ok_d (ts := [.ol (.ol .sh .sh) .sh, .sh, .sh]) (nl := 3) (F := ⟨fun i => if i = 0 then .ol (.ol .sh .sh) .sh else .sh, fun i => i == 0, .sh⟩) (b := B__law_some_lines) Fu sc__law_some_lines (τs_ok _ _ (by decide)) (fx_ok _ _ (by decide)) rfl rfl (.inl rfl) ?_, Fu.kp, bd, hm⟩
  intro cdv A outer s H E hr hg hcd
  exact (ss_cons (s_set 3 sc__law_some_lines.nd (e_cmp (o_eq hr.units) (e_cF h__law_draw hr hg (ag_io 0 (ag_e e_int ag_nil))) e_int))
    (ss_cons (s_set 4 sc__law_some_lines.nd (e_cmp (o_eq hr.units) (e_cF h__law_draw hr hg (ag_io 0 (ag_e e_int ag_nil))) e_int))
    (ss_cons (s_set 5 sc__law_some_lines.nd (e_ix x_ix (e_sh (e_lstO (as_cons (e_2 o_add e_int (e_cF h__law_draw hr hg (ag_io 0 (ag_e (e_v 2) ag_nil)))) (as_cons e_int as_nil)))) (e_callTy c_int (a_cons (e_v 4) a_nil) (hm := hm_int))))
    (ss_cons (s_if (t_val (e_v 3))
    (ss_one (s_ret (e_cF h__law_far_lines hr hg (ag_io 0 (ag_e (e_v 5) ag_nil)))))
    ss_nil)
    (ss_one (s_ret (e_cF h__law_lines hr hg (ag_io 0 (ag_e (e_v 1) (ag_e (e_v 5) ag_nil))))))))))
abbrev s__law_close_lines : Stmt := topS 38
theorem sc__law_close_lines : FnScope ["_law_deck_here", "_law_q", "_law_far", "_law_lines_here", "_law_by"] ["_law_deck_here"] (defScope s__law_close_lines) := ⟨rfl, rfl, rfl, by decide +kernel, rfl, by decide +kernel, by decide +kernel⟩
def B__law_close_lines : MS := (sSeq (sAsg (pN 1) (m2 bAdd (m2 bPow (mC (.int 10)) (mC (.int 5))) (mCall F__law_draw (.io 0 :: (.e (mC (.int 899999)) :: []))))) (sSeq (sAsg (pN 2) (m2 bIx (mN bLst (mCons (m2 bPow (mC (.int 10)) (mC (.int 6))) (mCons (mC (.int 3)) (mCons (mC (.int 1000)) mNil)))) (mCall F__law_draw (.io 0 :: (.e (mC (.int 3)) :: []))))) (sSeq (sAsg (pN 3) (mN bTup (mCons (mN bTup (mCons (mN bTup (mCons (m2 bSub (mC (.int 0)) (mV 2)) (mCons (mC (.int 0)) mNil))) (mCons (mN bTup (mCons (mV 2) (mCons (mC (.int 0)) mNil))) mNil))) (mCons (mN bTup (mCons (mN bTup (mCons (mC (.int 0)) (mCons (m1 bNeg (mC (.int 1))) mNil))) (mCons (mN bTup (mCons (mC (.int 1)) (mCons (m2 bSub (mV 1) (mC (.int 1))) mNil))) mNil))) (mCons (mN bTup (mCons (mN bTup (mCons (mC (.int 0)) (mCons (m1 bNeg (mC (.int 1))) mNil))) (mCons (mN bTup (mCons (mC (.int 1)) (mCons (mV 1) mNil))) mNil))) mNil))))) (sSeq (sAsg (pN 4) (mCall F__law_draw (.io 0 :: (.e (mC (.int 3)) :: [])))) (sRet (m2 bAdd (mSl (mV 3) (some (mV 4)) none) (mSl (mV 3) none (some (mV 4)))))))))
def F__law_close_lines : Fn := runF [.ol (.ol .sh .sh) .sh] 4 B__law_close_lines
theorem ok__law_close_lines (t : TxF K mg "_law_close_lines" s__law_close_lines ["_law_deck_here"]) (h__law_draw : CalF P w K mg base 1 "_law_draw" [.ol (.ol .sh .sh) .sh, .sh] (.sh) F__law_draw) : CalF P w K mg base 2 "_law_close_lines" [.ol (.ol .sh .sh) .sh] (.sh) F__law_close_lines := by
  obtain ⟨f, fd, Fu, bd, hm⟩ := t
  refine ⟨f, fd, _, ok_d (ts := [.ol (.ol .sh .sh) .sh]) (nl := 4) (F := ⟨fun i => if i = 0 then .ol (.ol .sh .sh) .sh else .sh, fun i => i == 0, .sh⟩) (b := B__law_close_lines) Fu sc__law_close_lines (τs_ok _ _ (by decide)) (fx_ok _ _ (by decide)) rfl rfl (.inl rfl) ?_, Fu.kp, bd, hm⟩
  intro cdv A outer s H E hr hg hcd
  exact (ss_cons (s_set 1 sc__law_close_lines.nd (e_2 o_add (e_2 o_pow e_int e_int) (e_cF h__law_draw hr hg (ag_io 0 (ag_e e_int ag_nil)))))
    (ss_cons (s_set 2 sc__law_close_lines.nd (e_ix x_ix (e_sh (e_lstO (as_cons (e_2 o_pow e_int e_int) (as_cons e_int (as_cons e_int as_nil))))) (e_cF h__law_draw hr hg (ag_io 0 (ag_e e_int ag_nil)))))
    (ss_cons (s_set 3 sc__law_close_lines.nd (e_tup (as_cons (e_tup (as_cons (e_tup (as_cons (e_2 o_sub e_int (e_v 2)) (as_cons e_int as_nil))) (as_cons (e_tup (as_cons (e_v 2) (as_cons e_int as_nil))) as_nil))) (as_cons (e_tup (as_cons (e_tup (as_cons e_int (as_cons (e_1 u_neg e_int) as_nil))) (as_cons (e_tup (as_cons e_int (as_cons (e_2 o_sub (e_v 1) e_int) as_nil))) as_nil))) (as_cons (e_tup (as_cons (e_tup (as_cons e_int (as_cons (e_1 u_neg e_int) as_nil))) (as_cons (e_tup (as_cons e_int (as_cons (e_v 1) as_nil))) as_nil))) as_nil)))))
    (ss_cons (s_set 4 sc__law_close_lines.nd (e_cF h__law_draw hr hg (ag_io 0 (ag_e e_int ag_nil))))
    (ss_one (s_ret (e_2 o_add (e_sl (e_v 3) (po_s (e_v 4)) po_n) (e_sl (e_v 3) po_n (po_s (e_v 4))))))))))
abbrev s_law : Stmt := topS 39
theorem sc_law : FnScope ["_law_script", "_law_deck_here", "_law_turn_here", "_law_grain_here", "_law_close", "_law_lines_here", "_law_due", "_law_about", "_law_some", "_law_line_here"] ["_law_script"] (defScope s_law) := ⟨rfl, rfl, rfl, by decide +kernel, rfl, by decide +kernel, by decide +kernel⟩
noncomputable def B_law : MS := (sSeq (sAsg (pN 1) (mCallP F__law_deck (mCons (mV 0) mNil))) (sSeq (sFor (pN 2) (mItN range1 (mCons (mC (.int 4)) mNil)) (sSeq (sAsg (pN 3) (mCall F__law_grain (.io 1 :: []))) (sSeq (sAsg (pN 4) (m2 bEq (mCall F__law_draw (.io 1 :: (.e (mC (.int 8)) :: []))) (mC (.int 5)))) (sSeq (sAsg (pN 5) (mCall F__law_some_lines (.io 1 :: (.e (mV 3) :: (.e (mC (.int 6)) :: []))))) (sSeq (sIf (mV 4) (sAsg (pN 5) (mCall F__law_close_lines (.io 1 :: []))) (sK .nx)) (sSeq (sAsg (pN 6) (mN bReprF (mCons (mCallP F__law_pieces (mCons (mV 5) mNil)) mNil))) (sSeq (sAsg (pN 7) (mN bTuple (mCons (mComp [9] (pN 9) (mIt (m1 bRevT (mV 5))) mYes (m1 bRevT (mV 9))) mNil))) (sFor (pN 8) (mIt (mN bTup (mCons (mV 5) (mCons (mV 7) (mCons (mV 5) mNil))))) (sIf (m2 bNe (mN bReprF (mCons (mCallP F_pieces_of (mCons (mV 8) mNil)) mNil)) (mV 6)) (sRet (mC (.bl false))) (sK .nx)))))))))) (sRet (mAnd (m2 bEq (mCallP F_pieces_of (mCons (mN bTup mNil) mNil)) (mN bTup mNil)) (m2 bEq (mCallP F_pieces_of (mCons (mN bTup (mCons (mN bTup (mCons (mN bTup (mCons (mC (.int 3)) (mCons (mC (.int 1)) mNil))) (mCons (mN bTup (mCons (mC (.int 1)) (mCons (mC (.int 1)) mNil))) mNil))) mNil)) mNil)) (mN bTup (mCons (mN bTup (mCons (mN bTup (mCons (mC (.int 1)) (mCons (mC (.int 1)) (mCons (mC (.int 1)) mNil)))) (mCons (mN bTup (mCons (mC (.int 3)) (mCons (mC (.int 1)) (mCons (mC (.int 1)) mNil)))) mNil))) mNil)))))))
noncomputable def F_law : List D → Res D := runP 9 B_law
theorem ok_law {f : Addr} {fd : FuncData} (Fu : Fun K "law" "law" s_law f fd) (h__law_deck : CalP P w K mg base 1 "_law_deck" 1 (.ol (.ol .sh .sh) .sh) F__law_deck) (h__law_grain : CalF P w K mg base 2 "_law_grain" [.ol (.ol .sh .sh) .sh] (.sh) F__law_grain) (h__law_some_lines : CalF P w K mg base 5 "_law_some_lines" [.ol (.ol .sh .sh) .sh, .sh, .sh] (.sh) F__law_some_lines) (h__law_draw : CalF P w K mg base 1 "_law_draw" [.ol (.ol .sh .sh) .sh, .sh] (.sh) F__law_draw) (h__law_close_lines : CalF P w K mg base 2 "_law_close_lines" [.ol (.ol .sh .sh) .sh] (.sh) F__law_close_lines) (h__law_pieces : CalP P w K mg base 4 "_law_pieces" 1 (.sh) F__law_pieces) (h_pieces_of : CalP P w K mg base 6 "pieces_of" 1 (.sh) F_pieces_of) (hm_range : mg "range" = none) (hm_repr : mg "repr" = none) (hm_tuple : mg "tuple" = none) : FnG P w K mg base 7 f fd ["_law_script"] (spP K 1 .sh F_law) := by
  refine ok_p (n := 1) (nl := 9) (F := ⟨fun i => if i = 1 then .ol (.ol .sh .sh) .sh else .sh, fun i => false, .sh⟩) (b := B_law) Fu sc_law (sh_ok _ _ (by decide)) rfl rfl (.inl rfl) ?_
  intro cdv A outer s H E hr hg hcd
  exact (ss_cons (s_setO 1 sc_law.nd (e_c h__law_deck hr hg (as_cons (e_v 0) as_nil) (len_cons len_nil)))
    (ss_cons (s_for (i_range1 (a_cons e_int a_nil) (hm := hm_range)) (g_n 2 sc_law.nd)
    (ss_cons (s_set 3 sc_law.nd (e_cF h__law_grain hr hg (ag_io 1 ag_nil)))
    (ss_cons (s_set 4 sc_law.nd (e_cmp (o_eq hr.units) (e_cF h__law_draw hr hg (ag_io 1 (ag_e e_int ag_nil))) e_int))
    (ss_cons (s_set 5 sc_law.nd (e_cF h__law_some_lines hr hg (ag_io 1 (ag_e (e_v 3) (ag_e e_int ag_nil)))))
    (ss_cons (s_if (t_val (e_v 4))
    (ss_one (s_set 5 sc_law.nd (e_cF h__law_close_lines hr hg (ag_io 1 ag_nil))))
    ss_nil)
    (ss_cons (s_set 6 sc_law.nd (e_callB (c_reprF hr.units hg) (a_cons (e_c h__law_pieces hr hg (as_cons (e_v 5) as_nil) (len_cons len_nil)) a_nil) (hm := hm_repr)))
    (ss_cons (s_set 7 sc_law.nd (e_callTy c_tuple (a_cons (e_sh (e_lcO (own' := [("_law_line_here", 9)]) (vs := [9]) sc_law.nd (blkOk_by (by kernel_rfl)) (i_any (e_revT (e_v 5))) (fun _ _ _ _ _ => (g_n 9 sc_law.nd)) (fun _ _ _ _ _ => ts_nil) (fun _ _ _ _ _ => (e_revT (e_v 9))))) a_nil) (hm := hm_tuple)))
    (ss_one (s_for (i_any (e_tup (as_cons (e_v 5) (as_cons (e_v 7) (as_cons (e_v 5) as_nil))))) (g_n 8 sc_law.nd)
    (ss_one (s_if (t_cmp (o_ne hr.units) (e_callB (c_reprF hr.units hg) (a_cons (e_c h_pieces_of hr hg (as_cons (e_v 8) as_nil) (len_cons len_nil)) a_nil) (hm := hm_repr)) (e_v 6))
    (ss_one (s_ret e_bl))
    ss_nil)))))))))))
    (ss_one (s_ret (e_and (e_cmp (o_eq hr.units) (e_c h_pieces_of hr hg (as_cons (e_tup as_nil) as_nil) (len_cons len_nil)) (e_tup as_nil)) (e_one (e_cmp (o_eq hr.units) (e_c h_pieces_of hr hg (as_cons (e_tup (as_cons (e_tup (as_cons (e_tup (as_cons e_int (as_cons e_int as_nil))) (as_cons (e_tup (as_cons e_int (as_cons e_int as_nil))) as_nil))) as_nil)) as_nil) (len_cons len_nil)) (e_tup (as_cons (e_tup (as_cons (e_tup (as_cons e_int (as_cons e_int (as_cons e_int as_nil)))) (as_cons (e_tup (as_cons e_int (as_cons e_int (as_cons e_int as_nil)))) as_nil))) as_nil)))))))))
end
set_option maxHeartbeats 0 in
theorem all_mk {P : Program} {w : World} {K : PySem.W.Frag} {h : Heap} {mg : Str → Option Value} {fa : Addr} (X : K.In h) (G : h.Ns mainGlobals mg) (hfa : mg "law" = some (.ref fa))
    {od0 an0 : Option Addr} {sl0 : Array (Option Value)} {oc0 kV0 dc0 pm0 cd0 ct0 : Value} {f0 : Addr} (a0 : PySem.W.nsIn K mainGlobals "divisor" = some (some (.ref f0))) (l0 : K.lookup f0 = some ⟨oc0, od0, .func (PySem.W.fnOf "divisor" "divisor" (defArgs s_divisor) (defBody s_divisor) (defScope s_divisor) .none kV0 dc0 pm0 an0 cd0 ct0), sl0⟩) (c0 : PySem.W.codeIn K cd0 "divisor" = true) (k0 : PySem.W.keepIn K (.ref f0) = true)
    {od1 an1 : Option Addr} {sl1 : Array (Option Value)} {oc1 kV1 dc1 pm1 cd1 ct1 : Value} {f1 : Addr} (a1 : PySem.W.nsIn K mainGlobals "spot_of" = some (some (.ref f1))) (l1 : K.lookup f1 = some ⟨oc1, od1, .func (PySem.W.fnOf "spot_of" "spot_of" (defArgs s_spot_of) (defBody s_spot_of) (defScope s_spot_of) .none kV1 dc1 pm1 an1 cd1 ct1), sl1⟩) (c1 : PySem.W.codeIn K cd1 "spot_of" = true) (k1 : PySem.W.keepIn K (.ref f1) = true)
    {od2 an2 : Option Addr} {sl2 : Array (Option Value)} {oc2 kV2 dc2 pm2 cd2 ct2 : Value} {f2 : Addr} (a2 : PySem.W.nsIn K mainGlobals "is_between" = some (some (.ref f2))) (l2 : K.lookup f2 = some ⟨oc2, od2, .func (PySem.W.fnOf "is_between" "is_between" (defArgs s_is_between) (defBody s_is_between) (defScope s_is_between) .none kV2 dc2 pm2 an2 cd2 ct2), sl2⟩) (c2 : PySem.W.codeIn K cd2 "is_between" = true) (k2 : PySem.W.keepIn K (.ref f2) = true)
    {od3 an3 : Option Addr} {sl3 : Array (Option Value)} {oc3 kV3 dc3 pm3 cd3 ct3 : Value} {f3 : Addr} (a3 : PySem.W.nsIn K mainGlobals "on_line" = some (some (.ref f3))) (l3 : K.lookup f3 = some ⟨oc3, od3, .func (PySem.W.fnOf "on_line" "on_line" (defArgs s_on_line) (defBody s_on_line) (defScope s_on_line) .none kV3 dc3 pm3 an3 cd3 ct3), sl3⟩) (c3 : PySem.W.codeIn K cd3 "on_line" = true) (k3 : PySem.W.keepIn K (.ref f3) = true)
    {od4 an4 : Option Addr} {sl4 : Array (Option Value)} {oc4 kV4 dc4 pm4 cd4 ct4 : Value} {f4 : Addr} (a4 : PySem.W.nsIn K mainGlobals "step_of" = some (some (.ref f4))) (l4 : K.lookup f4 = some ⟨oc4, od4, .func (PySem.W.fnOf "step_of" "step_of" (defArgs s_step_of) (defBody s_step_of) (defScope s_step_of) .none kV4 dc4 pm4 an4 cd4 ct4), sl4⟩) (c4 : PySem.W.codeIn K cd4 "step_of" = true) (k4 : PySem.W.keepIn K (.ref f4) = true)
    {od5 an5 : Option Addr} {sl5 : Array (Option Value)} {oc5 kV5 dc5 pm5 cd5 ct5 : Value} {f5 : Addr} (a5 : PySem.W.nsIn K mainGlobals "turn_of" = some (some (.ref f5))) (l5 : K.lookup f5 = some ⟨oc5, od5, .func (PySem.W.fnOf "turn_of" "turn_of" (defArgs s_turn_of) (defBody s_turn_of) (defScope s_turn_of) .none kV5 dc5 pm5 an5 cd5 ct5), sl5⟩) (c5 : PySem.W.codeIn K cd5 "turn_of" = true) (k5 : PySem.W.keepIn K (.ref f5) = true)
    {od6 an6 : Option Addr} {sl6 : Array (Option Value)} {oc6 kV6 dc6 pm6 cd6 ct6 : Value} {f6 : Addr} (a6 : PySem.W.nsIn K mainGlobals "spot_at" = some (some (.ref f6))) (l6 : K.lookup f6 = some ⟨oc6, od6, .func (PySem.W.fnOf "spot_at" "spot_at" (defArgs s_spot_at) (defBody s_spot_at) (defScope s_spot_at) .none kV6 dc6 pm6 an6 cd6 ct6), sl6⟩) (c6 : PySem.W.codeIn K cd6 "spot_at" = true) (k6 : PySem.W.keepIn K (.ref f6) = true)
    {od7 an7 : Option Addr} {sl7 : Array (Option Value)} {oc7 kV7 dc7 pm7 cd7 ct7 : Value} {f7 : Addr} (a7 : PySem.W.nsIn K mainGlobals "shares_of" = some (some (.ref f7))) (l7 : K.lookup f7 = some ⟨oc7, od7, .func (PySem.W.fnOf "shares_of" "shares_of" (defArgs s_shares_of) (defBody s_shares_of) (defScope s_shares_of) .none kV7 dc7 pm7 an7 cd7 ct7), sl7⟩) (c7 : PySem.W.codeIn K cd7 "shares_of" = true) (k7 : PySem.W.keepIn K (.ref f7) = true)
    {od8 an8 : Option Addr} {sl8 : Array (Option Value)} {oc8 kV8 dc8 pm8 cd8 ct8 : Value} {f8 : Addr} (a8 : PySem.W.nsIn K mainGlobals "are_along" = some (some (.ref f8))) (l8 : K.lookup f8 = some ⟨oc8, od8, .func (PySem.W.fnOf "are_along" "are_along" (defArgs s_are_along) (defBody s_are_along) (defScope s_are_along) .none kV8 dc8 pm8 an8 cd8 ct8), sl8⟩) (c8 : PySem.W.codeIn K cd8 "are_along" = true) (k8 : PySem.W.keepIn K (.ref f8) = true)
    {od9 an9 : Option Addr} {sl9 : Array (Option Value)} {oc9 kV9 dc9 pm9 cd9 ct9 : Value} {f9 : Addr} (a9 : PySem.W.nsIn K mainGlobals "along_spots" = some (some (.ref f9))) (l9 : K.lookup f9 = some ⟨oc9, od9, .func (PySem.W.fnOf "along_spots" "along_spots" (defArgs s_along_spots) (defBody s_along_spots) (defScope s_along_spots) .none kV9 dc9 pm9 an9 cd9 ct9), sl9⟩) (c9 : PySem.W.codeIn K cd9 "along_spots" = true) (k9 : PySem.W.keepIn K (.ref f9) = true)
    {od10 an10 : Option Addr} {sl10 : Array (Option Value)} {oc10 kV10 dc10 pm10 cd10 ct10 : Value} {f10 : Addr} (a10 : PySem.W.nsIn K mainGlobals "common" = some (some (.ref f10))) (l10 : K.lookup f10 = some ⟨oc10, od10, .func (PySem.W.fnOf "common" "common" (defArgs s_common) (defBody s_common) (defScope s_common) .none kV10 dc10 pm10 an10 cd10 ct10), sl10⟩) (c10 : PySem.W.codeIn K cd10 "common" = true) (k10 : PySem.W.keepIn K (.ref f10) = true)
    {od11 an11 : Option Addr} {sl11 : Array (Option Value)} {oc11 kV11 dc11 pm11 cd11 ct11 : Value} {f11 : Addr} (a11 : PySem.W.nsIn K mainGlobals "share_of" = some (some (.ref f11))) (l11 : K.lookup f11 = some ⟨oc11, od11, .func (PySem.W.fnOf "share_of" "share_of" (defArgs s_share_of) (defBody s_share_of) (defScope s_share_of) .none kV11 dc11 pm11 an11 cd11 ct11), sl11⟩) (c11 : PySem.W.codeIn K cd11 "share_of" = true) (k11 : PySem.W.keepIn K (.ref f11) = true)
    {od12 an12 : Option Addr} {sl12 : Array (Option Value)} {oc12 kV12 dc12 pm12 cd12 ct12 : Value} {f12 : Addr} (a12 : PySem.W.nsIn K mainGlobals "knots_of" = some (some (.ref f12))) (l12 : K.lookup f12 = some ⟨oc12, od12, .func (PySem.W.fnOf "knots_of" "knots_of" (defArgs s_knots_of) (defBody s_knots_of) (defScope s_knots_of) .none kV12 dc12 pm12 an12 cd12 ct12), sl12⟩) (c12 : PySem.W.codeIn K cd12 "knots_of" = true) (k12 : PySem.W.keepIn K (.ref f12) = true)
    {od13 an13 : Option Addr} {sl13 : Array (Option Value)} {oc13 kV13 dc13 pm13 cd13 ct13 : Value} {f13 : Addr} (a13 : PySem.W.nsIn K mainGlobals "least_whole" = some (some (.ref f13))) (l13 : K.lookup f13 = some ⟨oc13, od13, .func (PySem.W.fnOf "least_whole" "least_whole" (defArgs s_least_whole) (defBody s_least_whole) (defScope s_least_whole) .none kV13 dc13 pm13 an13 cd13 ct13), sl13⟩) (c13 : PySem.W.codeIn K cd13 "least_whole" = true) (k13 : PySem.W.keepIn K (.ref f13) = true)
    {od14 an14 : Option Addr} {sl14 : Array (Option Value)} {oc14 kV14 dc14 pm14 cd14 ct14 : Value} {f14 : Addr} (a14 : PySem.W.nsIn K mainGlobals "along" = some (some (.ref f14))) (l14 : K.lookup f14 = some ⟨oc14, od14, .func (PySem.W.fnOf "along" "along" (defArgs s_along) (defBody s_along) (defScope s_along) .none kV14 dc14 pm14 an14 cd14 ct14), sl14⟩) (c14 : PySem.W.codeIn K cd14 "along" = true) (k14 : PySem.W.keepIn K (.ref f14) = true)
    {od15 an15 : Option Addr} {sl15 : Array (Option Value)} {oc15 kV15 dc15 pm15 cd15 ct15 : Value} {f15 : Addr} (a15 : PySem.W.nsIn K mainGlobals "pieces_of" = some (some (.ref f15))) (l15 : K.lookup f15 = some ⟨oc15, od15, .func (PySem.W.fnOf "pieces_of" "pieces_of" (defArgs s_pieces_of) (defBody s_pieces_of) (defScope s_pieces_of) .none kV15 dc15 pm15 an15 cd15 ct15), sl15⟩) (c15 : PySem.W.codeIn K cd15 "pieces_of" = true) (k15 : PySem.W.keepIn K (.ref f15) = true)
    {od16 an16 : Option Addr} {sl16 : Array (Option Value)} {oc16 kV16 dc16 pm16 cd16 ct16 : Value} {f16 : Addr} (a16 : PySem.W.nsIn K mainGlobals "_law_deck" = some (some (.ref f16))) (l16 : K.lookup f16 = some ⟨oc16, od16, .func (PySem.W.fnOf "_law_deck" "_law_deck" (defArgs s__law_deck) (defBody s__law_deck) (defScope s__law_deck) .none kV16 dc16 pm16 an16 cd16 ct16), sl16⟩) (c16 : PySem.W.codeIn K cd16 "_law_deck" = true) (k16 : PySem.W.keepIn K (.ref f16) = true)
    {od17 an17 : Option Addr} {sl17 : Array (Option Value)} {oc17 kV17 dc17 pm17 cd17 ct17 : Value} {f17 : Addr} (a17 : PySem.W.nsIn K mainGlobals "_law_draw" = some (some (.ref f17))) (l17 : K.lookup f17 = some ⟨oc17, od17, .func (PySem.W.fnOf "_law_draw" "_law_draw" (defArgs s__law_draw) (defBody s__law_draw) (defScope s__law_draw) .none kV17 dc17 pm17 an17 cd17 ct17), sl17⟩) (c17 : PySem.W.codeIn K cd17 "_law_draw" = true) (k17 : PySem.W.keepIn K (.ref f17) = true)
    {od18 an18 : Option Addr} {sl18 : Array (Option Value)} {oc18 kV18 dc18 pm18 cd18 ct18 : Value} {f18 : Addr} (a18 : PySem.W.nsIn K mainGlobals "_law_grain" = some (some (.ref f18))) (l18 : K.lookup f18 = some ⟨oc18, od18, .func (PySem.W.fnOf "_law_grain" "_law_grain" (defArgs s__law_grain) (defBody s__law_grain) (defScope s__law_grain) .none kV18 dc18 pm18 an18 cd18 ct18), sl18⟩) (c18 : PySem.W.codeIn K cd18 "_law_grain" = true) (k18 : PySem.W.keepIn K (.ref f18) = true)
    {od19 an19 : Option Addr} {sl19 : Array (Option Value)} {oc19 kV19 dc19 pm19 cd19 ct19 : Value} {f19 : Addr} (a19 : PySem.W.nsIn K mainGlobals "_law_point" = some (some (.ref f19))) (l19 : K.lookup f19 = some ⟨oc19, od19, .func (PySem.W.fnOf "_law_point" "_law_point" (defArgs s__law_point) (defBody s__law_point) (defScope s__law_point) .none kV19 dc19 pm19 an19 cd19 ct19), sl19⟩) (c19 : PySem.W.codeIn K cd19 "_law_point" = true) (k19 : PySem.W.keepIn K (.ref f19) = true)
    {od20 an20 : Option Addr} {sl20 : Array (Option Value)} {oc20 kV20 dc20 pm20 cd20 ct20 : Value} {f20 : Addr} (a20 : PySem.W.nsIn K mainGlobals "_law_unlike" = some (some (.ref f20))) (l20 : K.lookup f20 = some ⟨oc20, od20, .func (PySem.W.fnOf "_law_unlike" "_law_unlike" (defArgs s__law_unlike) (defBody s__law_unlike) (defScope s__law_unlike) .none kV20 dc20 pm20 an20 cd20 ct20), sl20⟩) (c20 : PySem.W.codeIn K cd20 "_law_unlike" = true) (k20 : PySem.W.keepIn K (.ref f20) = true)
    {od21 an21 : Option Addr} {sl21 : Array (Option Value)} {oc21 kV21 dc21 pm21 cd21 ct21 : Value} {f21 : Addr} (a21 : PySem.W.nsIn K mainGlobals "_law_line" = some (some (.ref f21))) (l21 : K.lookup f21 = some ⟨oc21, od21, .func (PySem.W.fnOf "_law_line" "_law_line" (defArgs s__law_line) (defBody s__law_line) (defScope s__law_line) .none kV21 dc21 pm21 an21 cd21 ct21), sl21⟩) (c21 : PySem.W.codeIn K cd21 "_law_line" = true) (k21 : PySem.W.keepIn K (.ref f21) = true)
    {od22 an22 : Option Addr} {sl22 : Array (Option Value)} {oc22 kV22 dc22 pm22 cd22 ct22 : Value} {f22 : Addr} (a22 : PySem.W.nsIn K mainGlobals "_law_lines" = some (some (.ref f22))) (l22 : K.lookup f22 = some ⟨oc22, od22, .func (PySem.W.fnOf "_law_lines" "_law_lines" (defArgs s__law_lines) (defBody s__law_lines) (defScope s__law_lines) .none kV22 dc22 pm22 an22 cd22 ct22), sl22⟩) (c22 : PySem.W.codeIn K cd22 "_law_lines" = true) (k22 : PySem.W.keepIn K (.ref f22) = true)
    {od23 an23 : Option Addr} {sl23 : Array (Option Value)} {oc23 kV23 dc23 pm23 cd23 ct23 : Value} {f23 : Addr} (a23 : PySem.W.nsIn K mainGlobals "_law_turn" = some (some (.ref f23))) (l23 : K.lookup f23 = some ⟨oc23, od23, .func (PySem.W.fnOf "_law_turn" "_law_turn" (defArgs s__law_turn) (defBody s__law_turn) (defScope s__law_turn) .none kV23 dc23 pm23 an23 cd23 ct23), sl23⟩) (c23 : PySem.W.codeIn K cd23 "_law_turn" = true) (k23 : PySem.W.keepIn K (.ref f23) = true)
    {od24 an24 : Option Addr} {sl24 : Array (Option Value)} {oc24 kV24 dc24 pm24 cd24 ct24 : Value} {f24 : Addr} (a24 : PySem.W.nsIn K mainGlobals "_law_less" = some (some (.ref f24))) (l24 : K.lookup f24 = some ⟨oc24, od24, .func (PySem.W.fnOf "_law_less" "_law_less" (defArgs s__law_less) (defBody s__law_less) (defScope s__law_less) .none kV24 dc24 pm24 an24 cd24 ct24), sl24⟩) (c24 : PySem.W.codeIn K cd24 "_law_less" = true) (k24 : PySem.W.keepIn K (.ref f24) = true)
    {od25 an25 : Option Addr} {sl25 : Array (Option Value)} {oc25 kV25 dc25 pm25 cd25 ct25 : Value} {f25 : Addr} (a25 : PySem.W.nsIn K mainGlobals "_law_common" = some (some (.ref f25))) (l25 : K.lookup f25 = some ⟨oc25, od25, .func (PySem.W.fnOf "_law_common" "_law_common" (defArgs s__law_common) (defBody s__law_common) (defScope s__law_common) .none kV25 dc25 pm25 an25 cd25 ct25), sl25⟩) (c25 : PySem.W.codeIn K cd25 "_law_common" = true) (k25 : PySem.W.keepIn K (.ref f25) = true)
    {od26 an26 : Option Addr} {sl26 : Array (Option Value)} {oc26 kV26 dc26 pm26 cd26 ct26 : Value} {f26 : Addr} (a26 : PySem.W.nsIn K mainGlobals "_law_part" = some (some (.ref f26))) (l26 : K.lookup f26 = some ⟨oc26, od26, .func (PySem.W.fnOf "_law_part" "_law_part" (defArgs s__law_part) (defBody s__law_part) (defScope s__law_part) .none kV26 dc26 pm26 an26 cd26 ct26), sl26⟩) (c26 : PySem.W.codeIn K cd26 "_law_part" = true) (k26 : PySem.W.keepIn K (.ref f26) = true)
    {od27 an27 : Option Addr} {sl27 : Array (Option Value)} {oc27 kV27 dc27 pm27 cd27 ct27 : Value} {f27 : Addr} (a27 : PySem.W.nsIn K mainGlobals "_law_spot" = some (some (.ref f27))) (l27 : K.lookup f27 = some ⟨oc27, od27, .func (PySem.W.fnOf "_law_spot" "_law_spot" (defArgs s__law_spot) (defBody s__law_spot) (defScope s__law_spot) .none kV27 dc27 pm27 an27 cd27 ct27), sl27⟩) (c27 : PySem.W.codeIn K cd27 "_law_spot" = true) (k27 : PySem.W.keepIn K (.ref f27) = true)
    {od28 an28 : Option Addr} {sl28 : Array (Option Value)} {oc28 kV28 dc28 pm28 cd28 ct28 : Value} {f28 : Addr} (a28 : PySem.W.nsIn K mainGlobals "_law_knots" = some (some (.ref f28))) (l28 : K.lookup f28 = some ⟨oc28, od28, .func (PySem.W.fnOf "_law_knots" "_law_knots" (defArgs s__law_knots) (defBody s__law_knots) (defScope s__law_knots) .none kV28 dc28 pm28 an28 cd28 ct28), sl28⟩) (c28 : PySem.W.codeIn K cd28 "_law_knots" = true) (k28 : PySem.W.keepIn K (.ref f28) = true)
    {od29 an29 : Option Addr} {sl29 : Array (Option Value)} {oc29 kV29 dc29 pm29 cd29 ct29 : Value} {f29 : Addr} (a29 : PySem.W.nsIn K mainGlobals "_law_share" = some (some (.ref f29))) (l29 : K.lookup f29 = some ⟨oc29, od29, .func (PySem.W.fnOf "_law_share" "_law_share" (defArgs s__law_share) (defBody s__law_share) (defScope s__law_share) .none kV29 dc29 pm29 an29 cd29 ct29), sl29⟩) (c29 : PySem.W.codeIn K cd29 "_law_share" = true) (k29 : PySem.W.keepIn K (.ref f29) = true)
    {od30 an30 : Option Addr} {sl30 : Array (Option Value)} {oc30 kV30 dc30 pm30 cd30 ct30 : Value} {f30 : Addr} (a30 : PySem.W.nsIn K mainGlobals "_law_row" = some (some (.ref f30))) (l30 : K.lookup f30 = some ⟨oc30, od30, .func (PySem.W.fnOf "_law_row" "_law_row" (defArgs s__law_row) (defBody s__law_row) (defScope s__law_row) .none kV30 dc30 pm30 an30 cd30 ct30), sl30⟩) (c30 : PySem.W.codeIn K cd30 "_law_row" = true) (k30 : PySem.W.keepIn K (.ref f30) = true)
    {od31 an31 : Option Addr} {sl31 : Array (Option Value)} {oc31 kV31 dc31 pm31 cd31 ct31 : Value} {f31 : Addr} (a31 : PySem.W.nsIn K mainGlobals "_law_pieces" = some (some (.ref f31))) (l31 : K.lookup f31 = some ⟨oc31, od31, .func (PySem.W.fnOf "_law_pieces" "_law_pieces" (defArgs s__law_pieces) (defBody s__law_pieces) (defScope s__law_pieces) .none kV31 dc31 pm31 an31 cd31 ct31), sl31⟩) (c31 : PySem.W.codeIn K cd31 "_law_pieces" = true) (k31 : PySem.W.keepIn K (.ref f31) = true)
    {od32 an32 : Option Addr} {sl32 : Array (Option Value)} {oc32 kV32 dc32 pm32 cd32 ct32 : Value} {f32 : Addr} (a32 : PySem.W.nsIn K mainGlobals "_law_far_lines" = some (some (.ref f32))) (l32 : K.lookup f32 = some ⟨oc32, od32, .func (PySem.W.fnOf "_law_far_lines" "_law_far_lines" (defArgs s__law_far_lines) (defBody s__law_far_lines) (defScope s__law_far_lines) .none kV32 dc32 pm32 an32 cd32 ct32), sl32⟩) (c32 : PySem.W.codeIn K cd32 "_law_far_lines" = true) (k32 : PySem.W.keepIn K (.ref f32) = true)
    {od33 an33 : Option Addr} {sl33 : Array (Option Value)} {oc33 kV33 dc33 pm33 cd33 ct33 : Value} {f33 : Addr} (a33 : PySem.W.nsIn K mainGlobals "_law_some_lines" = some (some (.ref f33))) (l33 : K.lookup f33 = some ⟨oc33, od33, .func (PySem.W.fnOf "_law_some_lines" "_law_some_lines" (defArgs s__law_some_lines) (defBody s__law_some_lines) (defScope s__law_some_lines) .none kV33 dc33 pm33 an33 cd33 ct33), sl33⟩) (c33 : PySem.W.codeIn K cd33 "_law_some_lines" = true) (k33 : PySem.W.keepIn K (.ref f33) = true)
    {od34 an34 : Option Addr} {sl34 : Array (Option Value)} {oc34 kV34 dc34 pm34 cd34 ct34 : Value} {f34 : Addr} (a34 : PySem.W.nsIn K mainGlobals "_law_close_lines" = some (some (.ref f34))) (l34 : K.lookup f34 = some ⟨oc34, od34, .func (PySem.W.fnOf "_law_close_lines" "_law_close_lines" (defArgs s__law_close_lines) (defBody s__law_close_lines) (defScope s__law_close_lines) .none kV34 dc34 pm34 an34 cd34 ct34), sl34⟩) (c34 : PySem.W.codeIn K cd34 "_law_close_lines" = true) (k34 : PySem.W.keepIn K (.ref f34) = true)
    {od35 an35 : Option Addr} {sl35 : Array (Option Value)} {oc35 kV35 dc35 pm35 cd35 ct35 : Value} {f35 : Addr} (a35 : PySem.W.nsIn K mainGlobals "law" = some (some (.ref f35))) (l35 : K.lookup f35 = some ⟨oc35, od35, .func (PySem.W.fnOf "law" "law" (defArgs s_law) (defBody s_law) (defScope s_law) .none kV35 dc35 pm35 an35 cd35 ct35), sl35⟩) (c35 : PySem.W.codeIn K cd35 "law" = true) (k35 : PySem.W.keepIn K (.ref f35) = true)
    (z_abs : PySem.W.nsIn K mainGlobals "abs" = some none) (z_all : PySem.W.nsIn K mainGlobals "all" = some none) (z_enumerate : PySem.W.nsIn K mainGlobals "enumerate" = some none) (z_int : PySem.W.nsIn K mainGlobals "int" = some none) (z_len : PySem.W.nsIn K mainGlobals "len" = some none) (z_list : PySem.W.nsIn K mainGlobals "list" = some none) (z_max : PySem.W.nsIn K mainGlobals "max" = some none) (z_min : PySem.W.nsIn K mainGlobals "min" = some none) (z_range : PySem.W.nsIn K mainGlobals "range" = some none) (z_repr : PySem.W.nsIn K mainGlobals "repr" = some none) (z_sorted : PySem.W.nsIn K mainGlobals "sorted" = some none) (z_sum : PySem.W.nsIn K mainGlobals "sum" = some none) (z_tuple : PySem.W.nsIn K mainGlobals "tuple" = some none) (z_zip : PySem.W.nsIn K mainGlobals "zip" = some none)  :
    ∃ (cs : List (Addr × Addr × Str)) (fd : FuncData), (∀ c ∈ cs, h.get? c.2.1 = some { cls := .none, data := .fields #[] }) ∧ (∀ c ∈ cs, K.lookup c.2.1 = none) ∧ (∀ c ∈ cs, PySem.W.CodeHd h c.1 c.2.1) ∧ (∀ (s : Shared) (v : Value), BindsTo s fd ⟨[v], []⟩ [("_law_script", v)]) ∧ ∀ base : Heap, K.In base → base.Ns mainGlobals mg → (∀ c ∈ cs, LamX.TabB base mg c.1 c.2.1) → FnG P w K mg base 7 fa fd ["_law_script"] (@spP (tbOf cs) K 1 .sh F_law) := by
  letI : Tb := tbOf []
  have e := hfa.symm.trans (PySem.W.mg_of X G a35)
  cases e
  have T0 : TxF K mg "divisor" s_divisor ["one", "other"] := ⟨_, _, fun_mk (st := s_divisor) l0 c0 k0, (fun_mk (st := s_divisor) l0 c0 k0).binds (ps := ["one", "other"]) fun _ _ _ _ _ _ us hl => match us, hl with | [_, _], _ => rfl, PySem.W.mg_of X G a0⟩
  have T1 : TxF K mg "spot_of" s_spot_of ["n", "m", "d"] := ⟨_, _, fun_mk (st := s_spot_of) l1 c1 k1, (fun_mk (st := s_spot_of) l1 c1 k1).binds (ps := ["n", "m", "d"]) fun _ _ _ _ _ _ us hl => match us, hl with | [_, _, _], _ => rfl, PySem.W.mg_of X G a1⟩
  have T2 : TxF K mg "is_between" s_is_between ["one", "other", "top", "bottom"] := ⟨_, _, fun_mk (st := s_is_between) l2 c2 k2, (fun_mk (st := s_is_between) l2 c2 k2).binds (ps := ["one", "other", "top", "bottom"]) fun _ _ _ _ _ _ us hl => match us, hl with | [_, _, _, _], _ => rfl, PySem.W.mg_of X G a2⟩
  have T3 : TxF K mg "on_line" s_on_line ["line", "spot"] := ⟨_, _, fun_mk (st := s_on_line) l3 c3 k3, (fun_mk (st := s_on_line) l3 c3 k3).binds (ps := ["line", "spot"]) fun _ _ _ _ _ _ us hl => match us, hl with | [_, _], _ => rfl, PySem.W.mg_of X G a3⟩
  have T4 : TxF K mg "step_of" s_step_of ["line"] := ⟨_, _, fun_mk (st := s_step_of) l4 c4 k4, (fun_mk (st := s_step_of) l4 c4 k4).binds (ps := ["line"]) fun _ _ _ _ _ _ us hl => match us, hl with | [_], _ => rfl, PySem.W.mg_of X G a4⟩
  have T5 : TxF K mg "turn_of" s_turn_of ["one", "other"] := ⟨_, _, fun_mk (st := s_turn_of) l5 c5 k5, (fun_mk (st := s_turn_of) l5 c5 k5).binds (ps := ["one", "other"]) fun _ _ _ _ _ _ us hl => match us, hl with | [_, _], _ => rfl, PySem.W.mg_of X G a5⟩
  have T6 : TxF K mg "spot_at" s_spot_at ["line", "k", "m"] := ⟨_, _, fun_mk (st := s_spot_at) l6 c6 k6, (fun_mk (st := s_spot_at) l6 c6 k6).binds (ps := ["line", "k", "m"]) fun _ _ _ _ _ _ us hl => match us, hl with | [_, _, _], _ => rfl, PySem.W.mg_of X G a6⟩
  have T7 : TxF K mg "shares_of" s_shares_of ["one", "other"] := ⟨_, _, fun_mk (st := s_shares_of) l7 c7 k7, (fun_mk (st := s_shares_of) l7 c7 k7).binds (ps := ["one", "other"]) fun _ _ _ _ _ _ us hl => match us, hl with | [_, _], _ => rfl, PySem.W.mg_of X G a7⟩
  have T8 : TxF K mg "are_along" s_are_along ["one", "other"] := ⟨_, _, fun_mk (st := s_are_along) l8 c8 k8, (fun_mk (st := s_are_along) l8 c8 k8).binds (ps := ["one", "other"]) fun _ _ _ _ _ _ us hl => match us, hl with | [_, _], _ => rfl, PySem.W.mg_of X G a8⟩
  have T9 : TxF K mg "along_spots" s_along_spots ["one", "other"] := ⟨_, _, fun_mk (st := s_along_spots) l9 c9 k9, (fun_mk (st := s_along_spots) l9 c9 k9).binds (ps := ["one", "other"]) fun _ _ _ _ _ _ us hl => match us, hl with | [_, _], _ => rfl, PySem.W.mg_of X G a9⟩
  have T10 : TxF K mg "common" s_common ["one", "other"] := ⟨_, _, fun_mk (st := s_common) l10 c10 k10, (fun_mk (st := s_common) l10 c10 k10).binds (ps := ["one", "other"]) fun _ _ _ _ _ _ us hl => match us, hl with | [_, _], _ => rfl, PySem.W.mg_of X G a10⟩
  have T11 : TxF K mg "share_of" s_share_of ["line", "spot"] := ⟨_, _, fun_mk (st := s_share_of) l11 c11 k11, (fun_mk (st := s_share_of) l11 c11 k11).binds (ps := ["line", "spot"]) fun _ _ _ _ _ _ us hl => match us, hl with | [_, _], _ => rfl, PySem.W.mg_of X G a11⟩
  have T12 : TxF K mg "knots_of" s_knots_of ["lines"] := ⟨_, _, fun_mk (st := s_knots_of) l12 c12 k12, (fun_mk (st := s_knots_of) l12 c12 k12).binds (ps := ["lines"]) fun _ _ _ _ _ _ us hl => match us, hl with | [_], _ => rfl, PySem.W.mg_of X G a12⟩
  have T13 : TxF K mg "least_whole" s_least_whole ["numbers"] := ⟨_, _, fun_mk (st := s_least_whole) l13 c13 k13, (fun_mk (st := s_least_whole) l13 c13 k13).binds (ps := ["numbers"]) fun _ _ _ _ _ _ us hl => match us, hl with | [_], _ => rfl, PySem.W.mg_of X G a13⟩
  have T14 : TxF K mg "along" s_along ["line", "knots"] := ⟨_, _, fun_mk (st := s_along) l14 c14 k14, (fun_mk (st := s_along) l14 c14 k14).binds (ps := ["line", "knots"]) fun _ _ _ _ _ _ us hl => match us, hl with | [_, _], _ => rfl, PySem.W.mg_of X G a14⟩
  have T15 : TxF K mg "pieces_of" s_pieces_of ["lines"] := ⟨_, _, fun_mk (st := s_pieces_of) l15 c15 k15, (fun_mk (st := s_pieces_of) l15 c15 k15).binds (ps := ["lines"]) fun _ _ _ _ _ _ us hl => match us, hl with | [_], _ => rfl, PySem.W.mg_of X G a15⟩
  have T16 : TxF K mg "_law_deck" s__law_deck ["_law_script"] := ⟨_, _, fun_mk (st := s__law_deck) l16 c16 k16, (fun_mk (st := s__law_deck) l16 c16 k16).binds (ps := ["_law_script"]) fun _ _ _ _ _ _ us hl => match us, hl with | [_], _ => rfl, PySem.W.mg_of X G a16⟩
  have T17 : TxF K mg "_law_draw" s__law_draw ["_law_deck_here", "_law_most"] := ⟨_, _, fun_mk (st := s__law_draw) l17 c17 k17, (fun_mk (st := s__law_draw) l17 c17 k17).binds (ps := ["_law_deck_here", "_law_most"]) fun _ _ _ _ _ _ us hl => match us, hl with | [_, _], _ => rfl, PySem.W.mg_of X G a17⟩
  have T18 : TxF K mg "_law_grain" s__law_grain ["_law_deck_here"] := ⟨_, _, fun_mk (st := s__law_grain) l18 c18 k18, (fun_mk (st := s__law_grain) l18 c18 k18).binds (ps := ["_law_deck_here"]) fun _ _ _ _ _ _ us hl => match us, hl with | [_], _ => rfl, PySem.W.mg_of X G a18⟩
  have T19 : TxF K mg "_law_point" s__law_point ["_law_deck_here", "_law_grain_here", "_law_way"] := ⟨_, _, fun_mk (st := s__law_point) l19 c19 k19, (fun_mk (st := s__law_point) l19 c19 k19).binds (ps := ["_law_deck_here", "_law_grain_here", "_law_way"]) fun _ _ _ _ _ _ us hl => match us, hl with | [_, _, _], _ => rfl, PySem.W.mg_of X G a19⟩
  have T20 : TxF K mg "_law_unlike" s__law_unlike ["_law_one", "_law_other"] := ⟨_, _, fun_mk (st := s__law_unlike) l20 c20 k20, (fun_mk (st := s__law_unlike) l20 c20 k20).binds (ps := ["_law_one", "_law_other"]) fun _ _ _ _ _ _ us hl => match us, hl with | [_, _], _ => rfl, PySem.W.mg_of X G a20⟩
  have T21 : TxF K mg "_law_line" s__law_line ["_law_deck_here", "_law_grain_here", "_law_lines_here"] := ⟨_, _, fun_mk (st := s__law_line) l21 c21 k21, (fun_mk (st := s__law_line) l21 c21 k21).binds (ps := ["_law_deck_here", "_law_grain_here", "_law_lines_here"]) fun _ _ _ _ _ _ us hl => match us, hl with | [_, _, _], _ => rfl, PySem.W.mg_of X G a21⟩
  have T22 : TxF K mg "_law_lines" s__law_lines ["_law_deck_here", "_law_grain_here", "_law_many"] := ⟨_, _, fun_mk (st := s__law_lines) l22 c22 k22, (fun_mk (st := s__law_lines) l22 c22 k22).binds (ps := ["_law_deck_here", "_law_grain_here", "_law_many"]) fun _ _ _ _ _ _ us hl => match us, hl with | [_, _, _], _ => rfl, PySem.W.mg_of X G a22⟩
  have T23 : TxF K mg "_law_turn" s__law_turn ["_law_one", "_law_other"] := ⟨_, _, fun_mk (st := s__law_turn) l23 c23 k23, (fun_mk (st := s__law_turn) l23 c23 k23).binds (ps := ["_law_one", "_law_other"]) fun _ _ _ _ _ _ us hl => match us, hl with | [_, _], _ => rfl, PySem.W.mg_of X G a23⟩
  have T24 : TxF K mg "_law_less" s__law_less ["_law_one", "_law_other"] := ⟨_, _, fun_mk (st := s__law_less) l24 c24 k24, (fun_mk (st := s__law_less) l24 c24 k24).binds (ps := ["_law_one", "_law_other"]) fun _ _ _ _ _ _ us hl => match us, hl with | [_, _], _ => rfl, PySem.W.mg_of X G a24⟩
  have T25 : TxF K mg "_law_common" s__law_common ["_law_one", "_law_other"] := ⟨_, _, fun_mk (st := s__law_common) l25 c25 k25, (fun_mk (st := s__law_common) l25 c25 k25).binds (ps := ["_law_one", "_law_other"]) fun _ _ _ _ _ _ us hl => match us, hl with | [_, _], _ => rfl, PySem.W.mg_of X G a25⟩
  have T26 : TxF K mg "_law_part" s__law_part ["_law_one", "_law_other"] := ⟨_, _, fun_mk (st := s__law_part) l26 c26 k26, (fun_mk (st := s__law_part) l26 c26 k26).binds (ps := ["_law_one", "_law_other"]) fun _ _ _ _ _ _ us hl => match us, hl with | [_, _], _ => rfl, PySem.W.mg_of X G a26⟩
  have T27 : TxF K mg "_law_spot" s__law_spot ["_law_n", "_law_m", "_law_d"] := ⟨_, _, fun_mk (st := s__law_spot) l27 c27 k27, (fun_mk (st := s__law_spot) l27 c27 k27).binds (ps := ["_law_n", "_law_m", "_law_d"]) fun _ _ _ _ _ _ us hl => match us, hl with | [_, _, _], _ => rfl, PySem.W.mg_of X G a27⟩
  have T28 : TxF K mg "_law_knots" s__law_knots ["_law_lines_here"] := ⟨_, _, fun_mk (st := s__law_knots) l28 c28 k28, (fun_mk (st := s__law_knots) l28 c28 k28).binds (ps := ["_law_lines_here"]) fun _ _ _ _ _ _ us hl => match us, hl with | [_], _ => rfl, PySem.W.mg_of X G a28⟩
  have T29 : TxF K mg "_law_share" s__law_share ["_law_line_here", "_law_knot"] := ⟨_, _, fun_mk (st := s__law_share) l29 c29 k29, (fun_mk (st := s__law_share) l29 c29 k29).binds (ps := ["_law_line_here", "_law_knot"]) fun _ _ _ _ _ _ us hl => match us, hl with | [_, _], _ => rfl, PySem.W.mg_of X G a29⟩
  have T30 : TxF K mg "_law_row" s__law_row ["_law_line_here", "_law_knots_here"] := ⟨_, _, fun_mk (st := s__law_row) l30 c30 k30, (fun_mk (st := s__law_row) l30 c30 k30).binds (ps := ["_law_line_here", "_law_knots_here"]) fun _ _ _ _ _ _ us hl => match us, hl with | [_, _], _ => rfl, PySem.W.mg_of X G a30⟩
  have T31 : TxF K mg "_law_pieces" s__law_pieces ["_law_lines_here"] := ⟨_, _, fun_mk (st := s__law_pieces) l31 c31 k31, (fun_mk (st := s__law_pieces) l31 c31 k31).binds (ps := ["_law_lines_here"]) fun _ _ _ _ _ _ us hl => match us, hl with | [_], _ => rfl, PySem.W.mg_of X G a31⟩
  have T32 : TxF K mg "_law_far_lines" s__law_far_lines ["_law_deck_here", "_law_many"] := ⟨_, _, fun_mk (st := s__law_far_lines) l32 c32 k32, (fun_mk (st := s__law_far_lines) l32 c32 k32).binds (ps := ["_law_deck_here", "_law_many"]) fun _ _ _ _ _ _ us hl => match us, hl with | [_, _], _ => rfl, PySem.W.mg_of X G a32⟩
  have T33 : TxF K mg "_law_some_lines" s__law_some_lines ["_law_deck_here", "_law_grain_here", "_law_most"] := ⟨_, _, fun_mk (st := s__law_some_lines) l33 c33 k33, (fun_mk (st := s__law_some_lines) l33 c33 k33).binds (ps := ["_law_deck_here", "_law_grain_here", "_law_most"]) fun _ _ _ _ _ _ us hl => match us, hl with | [_, _, _], _ => rfl, PySem.W.mg_of X G a33⟩
  have T34 : TxF K mg "_law_close_lines" s__law_close_lines ["_law_deck_here"] := ⟨_, _, fun_mk (st := s__law_close_lines) l34 c34 k34, (fun_mk (st := s__law_close_lines) l34 c34 k34).binds (ps := ["_law_deck_here"]) fun _ _ _ _ _ _ us hl => match us, hl with | [_], _ => rfl, PySem.W.mg_of X G a34⟩
  have T35 : TxF K mg "law" s_law ["_law_script"] := ⟨_, _, fun_mk (st := s_law) l35 c35 k35, (fun_mk (st := s_law) l35 c35 k35).binds (ps := ["_law_script"]) fun _ _ _ _ _ _ us hl => match us, hl with | [_], _ => rfl, PySem.W.mg_of X G a35⟩
  refine ⟨[], PySem.W.fnOf "law" "law" (defArgs s_law) (defBody s_law) (defScope s_law) .none kV35 dc35 pm35 an35 cd35 ct35, (fun c hc => by
    cases hc), (fun c hc => by
    cases hc), (fun c hc => by
    cases hc), fun s v => .of_eq rfl, fun base _ _ hTB => ?_⟩
  have H_divisor : CalP P w K mg base 1 "divisor" 2 (.sh) F_divisor := ok_divisor (P := P) (w := w) (base := base) T0 (PySem.W.mg_none_of X G z_abs)
  have H_spot_of : CalP P w K mg base 2 "spot_of" 3 (.sh) F_spot_of := ok_spot_of (P := P) (w := w) (base := base) T1 H_divisor
  have H_is_between : CalP P w K mg base 1 "is_between" 4 (.sh) F_is_between := ok_is_between (P := P) (w := w) (base := base) T2 (PySem.W.mg_none_of X G z_max) (PySem.W.mg_none_of X G z_min)
  have H_on_line : CalP P w K mg base 2 "on_line" 2 (.sh) F_on_line := ok_on_line (P := P) (w := w) (base := base) T3 H_is_between
  have H_step_of : CalP P w K mg base 1 "step_of" 1 (.sh) F_step_of := ok_step_of (P := P) (w := w) (base := base) T4
  have H_turn_of : CalP P w K mg base 1 "turn_of" 2 (.sh) F_turn_of := ok_turn_of (P := P) (w := w) (base := base) T5
  have H_spot_at : CalP P w K mg base 3 "spot_at" 3 (.sh) F_spot_at := ok_spot_at (P := P) (w := w) (base := base) T6 H_spot_of H_step_of
  have H_shares_of : CalP P w K mg base 2 "shares_of" 2 (.sh) F_shares_of := ok_shares_of (P := P) (w := w) (base := base) T7 H_step_of H_turn_of
  have H_are_along : CalP P w K mg base 2 "are_along" 2 (.sh) F_are_along := ok_are_along (P := P) (w := w) (base := base) T8 H_step_of H_turn_of (PySem.W.mg_none_of X G z_all)
  have H_along_spots : CalP P w K mg base 1 "along_spots" 2 (.sh) F_along_spots := ok_along_spots (P := P) (w := w) (base := base) T9 (PySem.W.mg_none_of X G z_max) (PySem.W.mg_none_of X G z_min)
  have H_common : CalP P w K mg base 4 "common" 2 (.sh) F_common := ok_common (P := P) (w := w) (base := base) T10 H_shares_of H_along_spots H_are_along H_spot_at
  have H_share_of : CalP P w K mg base 2 "share_of" 2 (.sh) F_share_of := ok_share_of (P := P) (w := w) (base := base) T11 H_step_of (PySem.W.mg_none_of X G z_int)
  have H_knots_of : CalP P w K mg base 5 "knots_of" 1 (.sh) F_knots_of := ok_knots_of (P := P) (w := w) (base := base) T12 H_common (PySem.W.mg_none_of X G z_enumerate) (PySem.W.mg_none_of X G z_sorted) (PySem.W.mg_none_of X G z_tuple)
  have H_least_whole : CalP P w K mg base 2 "least_whole" 1 (.sh) F_least_whole := ok_least_whole (P := P) (w := w) (base := base) T13 H_divisor
  have H_along : CalP P w K mg base 3 "along" 2 (.sh) F_along := ok_along (P := P) (w := w) (base := base) T14 H_least_whole H_share_of H_on_line (PySem.W.mg_none_of X G z_sorted)
  have H_pieces_of : CalP P w K mg base 6 "pieces_of" 1 (.sh) F_pieces_of := ok_pieces_of (P := P) (w := w) (base := base) T15 H_knots_of H_along (PySem.W.mg_none_of X G z_max) (PySem.W.mg_none_of X G z_min) (PySem.W.mg_none_of X G z_sorted) (PySem.W.mg_none_of X G z_tuple) (PySem.W.mg_none_of X G z_zip)
  have H__law_deck : CalP P w K mg base 1 "_law_deck" 1 (.ol (.ol .sh .sh) .sh) F__law_deck := ok__law_deck (P := P) (w := w) (base := base) T16 (PySem.W.mg_none_of X G z_len) (PySem.W.mg_none_of X G z_list) (PySem.W.mg_none_of X G z_sum)
  have H__law_draw : CalF P w K mg base 1 "_law_draw" [.ol (.ol .sh .sh) .sh, .sh] (.sh) F__law_draw := ok__law_draw (P := P) (w := w) (base := base) T17
  have H__law_grain : CalF P w K mg base 2 "_law_grain" [.ol (.ol .sh .sh) .sh] (.sh) F__law_grain := ok__law_grain (P := P) (w := w) (base := base) T18 H__law_draw
  have H__law_point : CalF P w K mg base 2 "_law_point" [.ol (.ol .sh .sh) .sh, .sh, .sh] (.sh) F__law_point := ok__law_point (P := P) (w := w) (base := base) T19 H__law_draw
  have H__law_unlike : CalP P w K mg base 1 "_law_unlike" 2 (.sh) F__law_unlike := ok__law_unlike (P := P) (w := w) (base := base) T20 (PySem.W.mg_none_of X G z_int)
  have H__law_line : CalF P w K mg base 3 "_law_line" [.ol (.ol .sh .sh) .sh, .sh, .sh] (.sh) F__law_line := ok__law_line (P := P) (w := w) (base := base) T21 H__law_draw H__law_point H__law_unlike (PySem.W.mg_none_of X G z_abs) (PySem.W.mg_none_of X G z_len) (PySem.W.mg_none_of X G z_max)
  have H__law_lines : CalF P w K mg base 4 "_law_lines" [.ol (.ol .sh .sh) .sh, .sh, .sh] (.sh) F__law_lines := ok__law_lines (P := P) (w := w) (base := base) T22 H__law_line (PySem.W.mg_none_of X G z_range) (PySem.W.mg_none_of X G z_tuple)
  have H__law_turn : CalP P w K mg base 1 "_law_turn" 2 (.sh) F__law_turn := ok__law_turn (P := P) (w := w) (base := base) T23
  have H__law_less : CalP P w K mg base 1 "_law_less" 2 (.sh) F__law_less := ok__law_less (P := P) (w := w) (base := base) T24
  have H__law_common : CalP P w K mg base 2 "_law_common" 2 (.sh) F__law_common := ok__law_common (P := P) (w := w) (base := base) T25 H__law_turn H__law_less (PySem.W.mg_none_of X G z_int) (PySem.W.mg_none_of X G z_max) (PySem.W.mg_none_of X G z_min)
  have H__law_part : CalP P w K mg base 1 "_law_part" 2 (.sh) F__law_part := ok__law_part (P := P) (w := w) (base := base) T26 (PySem.W.mg_none_of X G z_abs)
  have H__law_spot : CalP P w K mg base 2 "_law_spot" 3 (.sh) F__law_spot := ok__law_spot (P := P) (w := w) (base := base) T27 H__law_part
  have H__law_knots : CalP P w K mg base 3 "_law_knots" 1 (.sh) F__law_knots := ok__law_knots (P := P) (w := w) (base := base) T28 H__law_common H__law_spot (PySem.W.mg_none_of X G z_len) (PySem.W.mg_none_of X G z_range) (PySem.W.mg_none_of X G z_sorted) (PySem.W.mg_none_of X G z_tuple)
  have H__law_share : CalP P w K mg base 2 "_law_share" 2 (.sh) F__law_share := ok__law_share (P := P) (w := w) (base := base) T29 H__law_turn
  have H__law_row : CalP P w K mg base 3 "_law_row" 2 (.sh) F__law_row := ok__law_row (P := P) (w := w) (base := base) T30 H__law_share (PySem.W.mg_none_of X G z_len)
  have H__law_pieces : CalP P w K mg base 4 "_law_pieces" 1 (.sh) F__law_pieces := ok__law_pieces (P := P) (w := w) (base := base) T31 H__law_knots H__law_row (PySem.W.mg_none_of X G z_sorted) (PySem.W.mg_none_of X G z_tuple) (PySem.W.mg_none_of X G z_zip)
  have H__law_far_lines : CalF P w K mg base 2 "_law_far_lines" [.ol (.ol .sh .sh) .sh, .sh] (.sh) F__law_far_lines := ok__law_far_lines (P := P) (w := w) (base := base) T32 H__law_unlike H__law_draw (PySem.W.mg_none_of X G z_range) (PySem.W.mg_none_of X G z_tuple)
  have H__law_some_lines : CalF P w K mg base 5 "_law_some_lines" [.ol (.ol .sh .sh) .sh, .sh, .sh] (.sh) F__law_some_lines := ok__law_some_lines (P := P) (w := w) (base := base) T33 H__law_lines H__law_draw H__law_far_lines (PySem.W.mg_none_of X G z_int)
  have H__law_close_lines : CalF P w K mg base 2 "_law_close_lines" [.ol (.ol .sh .sh) .sh] (.sh) F__law_close_lines := ok__law_close_lines (P := P) (w := w) (base := base) T34 H__law_draw
  exact ok_law (fun_mk (st := s_law) l35 c35 k35) H__law_deck H__law_grain H__law_some_lines H__law_draw H__law_close_lines H__law_pieces H_pieces_of (PySem.W.mg_none_of X G z_range) (PySem.W.mg_none_of X G z_repr) (PySem.W.mg_none_of X G z_tuple)
end LW

namespace LW
open PySem PySem.Spec L2 CL
theorem draw_is : F__law_draw = drawF := rfl
theorem grain_is : F__law_grain = runF [DKt] 0 grainB := rfl
theorem some_is : F__law_some_lines = CLK.someLinesF := rfl
theorem pieces_is' : F_pieces_of = CLR.F_pieces_of := rfl
theorem lpieces_is' : F__law_pieces = CLR.F__law_pieces := rfl
local macro_rules | `(tactic| walk_at "o") => `(tactic| ((try simp only [backA, List.set_cons_zero, List.set_cons_succ, wipeD, List.map_cons, List.map_nil, List.cons_append, List.nil_append, List.replicate_succ, List.replicate_zero]); first | done | rfl))
local macro_rules | `(tactic| walk_at "b") => `(tactic| first
  | with_reducible exact Nb.lit
  | ((with_reducible apply Nb.mul) <;> walk_at "b")
  | ((with_reducible apply Nb.add) <;> walk_at "b")
  | ((with_reducible apply Nb.sub) <;> walk_at "b")
  | ((with_reducible apply Nb.neg) <;> walk_at "b")
  | ((with_reducible apply Nb.fdiv) <;> walk_at "b")
  | ((with_reducible apply Nb.fmod); (· walk_at "z"); (· walk_at "b"))
  | ((with_reducible apply Nb.max) <;> walk_at "b")
  | ((with_reducible apply Nb.min) <;> walk_at "b")
  | ((with_reducible apply Nb.ite) <;> walk_at "b")
  | with_reducible assumption
  | with_reducible exact Nb.le (by assumption)
  | with_reducible exact Nb.nle (by assumption)
  | with_reducible exact Nb.lt (by assumption)
  | ((with_reducible apply Nb.rng (by assumption) (by assumption)) <;> walk_at "b")
  | ((with_reducible apply Nb.rngE (by assumption) (by assumption)) <;> walk_at "b")
  | with_reducible exact Nb.self _)
local macro_rules | `(tactic| walk_at "z") => `(tactic| first | decide | assumption | omega | exact fmod_nn (by omega) | exact fmod_lt (by omega))
local macro_rules | `(tactic| walk_at "e") => `(tactic| first
  | ((with_reducible refine is_ev ?_); first
    | ((with_reducible apply mul_st); (· walk_at "b"); (· walk_at "b"); (· rfl))
    | ((with_reducible apply mul_s1); (· walk_at "b"); (· rfl))
    | ((with_reducible apply mul_s2); (· walk_at "b"); (· rfl))
    | ((with_reducible apply div_st); (· walk_at "z"); (· walk_at "b"); (· rfl))
    | ((with_reducible apply mod_st); (· walk_at "z"))
    | with_reducible apply tup_pt
    | with_reducible apply tup_ln
    | ((with_reducible apply tup_st); (· rfl))
    | ((with_reducible apply lst_st); (· rfl))
    | with_reducible apply eqi_st
    | with_reducible apply nei_st
    | with_reducible apply eqp_st
    | with_reducible apply nep_st
    | with_reducible apply eqp_st'
    | with_reducible apply nep_st'
    | with_reducible apply eqb_st
    | with_reducible apply neb_st
    | with_reducible apply isb_st
    | with_reducible apply eqs_st
    | with_reducible apply nes_st
    | with_reducible refine ixl0 ?_
    | with_reducible refine ixl1 ?_
    | with_reducible refine ix2bi (fun _ _ _ => ?_)
    | ((with_reducible refine ix4i ?_ ?_ (fun _ _ _ => ?_)); (· walk_at "z"); (· walk_at "z"))
    | ((with_reducible refine ix2i ?_ ?_ (fun _ _ _ => ?_)); (· walk_at "z"); (· walk_at "z"))
    | ((with_reducible refine ix3i ?_ ?_ (fun _ _ _ => ?_)); (· walk_at "z"); (· walk_at "z"))
    | refine ⟨_, rfl, ?_⟩)
  | ((with_reducible refine fill_st ?_); refine ⟨_, rfl, ?_⟩; (try dsimp only))
  | ((with_reducible apply and_go rfl); (· (intro _; (repeat walk_at "s"); with_reducible exact ⟨rfl, rfl⟩)))
  | ((with_reducible refine is_chain ?_); (apply chain_go rfl); (· (intro _; (repeat walk_at "s"); exact ⟨rfl, rfl⟩)))
  | ((with_reducible refine draw_step (by assumption) ?_ ?_ (fun _ _ _ _ _ => ?_)); (· walk_at "z"); (· walk_at "z"))
  | ((with_reducible refine CLY.draw_step (by assumption) ?_ ?_ (fun _ _ _ _ _ => ?_)); (· walk_at "z"); (· walk_at "z"))
  | ((with_reducible refine is_evA ?_); refine ⟨_, rfl, ?_⟩)
  | ((with_reducible refine is_evL ?_); refine ⟨_, rfl, ?_⟩)
  | ((with_reducible refine is_evI ?_); refine ⟨_, rfl, ?_⟩)
  | ((with_reducible refine is_evR ?_); refine ⟨_, rfl, ?_⟩))
local macro_rules | `(tactic| walk_at "f") => `(tactic| first
  | with_reducible refine W_mV.mpr ?_
  | with_reducible refine W_mCons.mpr ?_
  | with_reducible refine W_m2.mpr ?_
  | with_reducible refine W_mC.mpr ?_
  | with_reducible refine W_mNil.mpr ?_
  | with_reducible refine W_mN.mpr ?_
  | with_reducible refine W_sSeq.mpr ?_
  | with_reducible refine W_sAsg.mpr ?_
  | with_reducible refine W_m1.mpr ?_
  | with_reducible refine W_mCallP.mpr ?_
  | with_reducible refine W_mCall.mpr ?_
  | with_reducible refine X_evI.mpr ?_
  | with_reducible refine X_evE.mpr ?_
  | with_reducible refine X_evN.mpr ?_
  | with_reducible refine X_if ?_
  | with_reducible refine W_sRet.mpr ?_
  | with_reducible refine W_sK.mpr ?_
  | with_reducible refine X_and ?_
  | with_reducible refine X_or ?_
  | with_reducible refine W_sPar.mpr ?_
  | with_reducible refine W_mSl.mpr ?_
  | with_reducible refine W_mPtN.mpr ?_
  | with_reducible refine W_mPtS.mpr ?_
  | with_reducible refine W_mIt.mpr ?_
  | with_reducible refine W_mItN.mpr ?_
  | with_reducible refine W_mComp.mpr ?_
  | ((with_reducible refine is_comp ?_); first | (apply X_compN; (· walk_at "o")) | ((with_reducible apply X_compY); (· walk_at "o"); (· rfl)))
  | with_reducible refine W_sFor.mpr ?_
  | ((with_reducible refine is_for ?_); refine W_forNil.mpr ?_)
  | with_reducible refine X_chain ?_
  | with_reducible refine W_sExp.mpr ?_
  | with_reducible refine W_mL.mpr ?_
  | with_reducible refine X_mif ?_
  | with_reducible refine W_mIxS.mpr ?_
  | with_reducible refine W_mYes.mpr ?_
  | with_reducible refine W_sPar3.mpr ?_
  | with_reducible refine W_mApp.mpr ?_
  | with_reducible refine W_mBor.mpr ?_
  | with_reducible refine CLX.W_sFz.mpr ?_)
local macro_rules | `(tactic| walk_at "s") => `(tactic| first
  | ((with_reducible refine is_W ?_); walk_at "f")
  | ((with_reducible refine is_ex ?_); first
    | ((with_reducible refine is_evS ?_); refine ⟨_, rfl, ?_⟩)
    | ((with_reducible apply call_st); (· with_reducible assumption))
    | with_reducible refine ⟨_, by with_reducible assumption, ?_⟩
    | walk_at "e")
  | ((with_reducible apply X_nx); (· walk_at "o"))
  | with_reducible refine Kq_ret.mpr ?_
  | with_reducible refine Kq_brk.mpr ?_
  | with_reducible refine Kq_cnt.mpr ?_
  | ((with_reducible apply X_fnx); (· walk_at "o"))
  | ((with_reducible apply X_fcnt); (· walk_at "o"))
  | with_reducible refine X_fbrk ?_
  | with_reducible refine X_fret ?_
  | ((with_reducible refine is_ltA ?_); refine ⟨?_, ?_⟩; (· first | decide | omega | (simp; omega) | (simp; done)))
  | with_reducible refine parW_mk.mpr ?_
  | with_reducible refine par3W_mk.mpr ?_)
local macro_rules | `(tactic| walk_at "r") => `(tactic| repeat walk_at "s")
local macro_rules | `(tactic| walk_at "u") => `(tactic| first | ((apply X_forC); (· walk_at "o"); (· rfl)) | ((apply X_compY); (· walk_at "o"); (· rfl)) | ((apply X_compC); (· walk_at "o"); (· rfl)))
local macro_rules | `(tactic| walk_at "g") => `(tactic| repeat first | walk_at "s" | (with_reducible refine go_ifF (rfl : _ = false) ?_) | (with_reducible refine go_ifT (rfl : _ = true) ?_) | (refine go_ifF (rfl : _ = false) ?_) | (refine go_ifT (rfl : _ = true) ?_) | walk_at "u")
def S1 (ρ : Sl) : Prop := ∃ o0 dk o2 o3 o4 o5 o6 o7 o8, ρ = [o0, some dk, o2, o3, o4, o5, o6, o7, o8, none] ∧ Deck dk
def S2 (dk : D) (s : Str) (ρ : Sl) : Prop := ∃ o0 o2 o3 o4 o5 o7 o8, ρ = [o0, some dk, o2, o3, o4, o5, some (.str s), o7, o8, none]
theorem close_step {dk : D} {Q : D → List D → Prop} (hd : Deck dk) (k : ∀ (ps : List CLG.Li) dk', (∀ p ∈ ps, CLX.Sml p ∧ p.ok) → ps.length ≤ 12 → Deck dk' → Q (.tup (ps.map CLX.lnD)) [dk']) : ∃ r out, F__law_close_lines [dk] = .ok (r, out) ∧ Q r out := by
  refine runF_ex ?_
  unfold B__law_close_lines
  rw [draw_is]
  walk_at "r"
  rename_i q dk1 q0 q1 _ fi dk2 _ _ _ f hf fb b dk3 b0 b1 hd3
  have e5 : (10 : Int) ^ Int.toNat 5 = 100000 := by decide
  have e6 : (10 : Int) ^ Int.toNat 6 = 1000000 := by decide
  rw [e6] at hf
  rw [e5]
  have f1 : 0 < f ∧ f ≤ 1000000 := by omega
  have n0 : (0 : Int).natAbs ≤ 10000000 := by decide
  have n1 : (1 : Int).natAbs ≤ 10000000 := by decide
  have m1 : (-1 : Int).natAbs ≤ 10000000 := by decide
  have ne : ¬ (0 : Int) = 1 := by decide
  have o1 : CLX.Sml ⟨0 - f, 0, f, 0⟩ ∧ CLG.Li.ok ⟨0 - f, 0, f, 0⟩ := ⟨⟨show (0 - f).natAbs ≤ 10000000 by omega, n0, show f.natAbs ≤ 10000000 by omega, n0⟩, fun h => by
    have : 0 - f = f := h.1
    omega⟩
  have o2 : CLX.Sml ⟨0, -1, 1, 100000 + q - 1⟩ ∧ CLG.Li.ok ⟨0, -1, 1, 100000 + q - 1⟩ := ⟨⟨n0, m1, n1, show (100000 + q - 1).natAbs ≤ 10000000 by omega⟩, fun h => ne h.1⟩
  have o3 : CLX.Sml ⟨0, -1, 1, 100000 + q⟩ ∧ CLG.Li.ok ⟨0, -1, 1, 100000 + q⟩ := ⟨⟨n0, m1, n1, show (100000 + q).natAbs ≤ 10000000 by omega⟩, fun h => ne h.1⟩
  have all : ∀ {x y z : CLG.Li}, (CLX.Sml x ∧ x.ok) → (CLX.Sml y ∧ y.ok) → (CLX.Sml z ∧ z.ok) → ∀ p ∈ [x, y, z], CLX.Sml p ∧ p.ok := fun hx hy hz p hp => by
    simp only [List.mem_cons, List.not_mem_nil, or_false] at hp
    rcases hp with rfl | rfl | rfl
    · exact hx
    · exact hy
    · exact hz
  obtain rfl | rfl | rfl : b = 0 ∨ b = 1 ∨ b = 2 := by omega
  · exact ⟨_, rfl, _, _, rfl, rfl, k [⟨0 - f, 0, f, 0⟩, ⟨0, -1, 1, 100000 + q - 1⟩, ⟨0, -1, 1, 100000 + q⟩] _ (all o1 o2 o3) (by simp) hd3⟩
  · exact ⟨_, rfl, _, _, rfl, rfl, k [⟨0, -1, 1, 100000 + q - 1⟩, ⟨0, -1, 1, 100000 + q⟩, ⟨0 - f, 0, f, 0⟩] _ (all o2 o3 o1) (by simp) hd3⟩
  · exact ⟨_, rfl, _, _, rfl, rfl, k [⟨0, -1, 1, 100000 + q⟩, ⟨0 - f, 0, f, 0⟩, ⟨0, -1, 1, 100000 + q - 1⟩] _ (all o3 o1 o2) (by simp) hd3⟩
theorem none_ok : CLR.F_pieces_of [.tup []] = .ok (.tup []) := by
  obtain ⟨S, a1, a2, a3, a4⟩ := CLK.knots_is (ps := []) (by simp) (by decide)
  have h := CLK.sp_sort (S := S) (T := []) a1 (by simp) fun s => by
    rw [a2]
    simp [CLK.Kn, CLK.Ends, CLK.Prs]
  rw [h] at a4
  obtain ⟨Z, z1, z2, _, z4⟩ := CLR.pieces_is (ps := []) (K := []) ⟨by simp, by simp, by simp, by simp⟩ (by simp) (by decide) (by simpa using a4)
  have e : Z = [] := List.eq_nil_iff_forall_not_mem.mpr fun z hz => by simpa using (z2 z).mp hz
  subst e
  simpa using z4
theorem ok3 : (⟨3, 1, 1, 1⟩ : CLG.Li).ok := fun h => absurd h.1 (by decide)
theorem one_ok : CLR.F_pieces_of [.tup [CLX.lnD ⟨3, 1, 1, 1⟩]] = .ok (.tup [.tup [.tup [.int 1, .int 1, .int 1], .tup [.int 3, .int 1, .int 1]]]) := by
  have hS : ∀ p ∈ [(⟨3, 1, 1, 1⟩ : CLG.Li)], CLX.Sml p ∧ p.ok := fun p hp => by
    rw [List.mem_singleton.mp hp]
    exact ⟨⟨by decide, by decide, by decide, by decide⟩, ok3⟩
  obtain ⟨S, a1, a2, a3, a4⟩ := CLK.knots_is (ps := [⟨3, 1, 1, 1⟩]) (fun p hp => (hS p hp).1) (by decide)
  have h := CLK.sp_sort (S := S) (T := [⟨1, 1, 1⟩, ⟨3, 1, 1⟩]) a1 (by decide) fun s => by
    rw [a2]
    simp only [CLK.Kn, CLK.Ends, CLK.Prs, List.reverse_cons, List.reverse_nil, List.nil_append, List.mem_cons, List.not_mem_nil, or_false, exists_eq_left, false_and, exists_false]
    exact ⟨fun h => h.symm, fun h => h.symm⟩
  rw [h, List.mergeSort_of_pairwise (by decide +kernel)] at a4
  have hK : CLR.KOk [⟨1, 1, 1⟩, ⟨3, 1, 1⟩] := by
    refine ⟨by decide, fun s hs => ?_, fun s hs => ?_, by decide⟩
    · simp only [List.mem_cons, List.not_mem_nil, or_false] at hs
      rcases hs with rfl | rfl <;> exact CLR.low_one
    · simp only [List.mem_cons, List.not_mem_nil, or_false] at hs
      rcases hs with rfl | rfl <;> exact ⟨Nb.lit.mono (by decide), Nb.lit.mono (by decide), Nb.lit.mono (by decide)⟩
  obtain ⟨Z, z1, z2, _, z4⟩ := CLR.pieces_is (ps := [⟨3, 1, 1, 1⟩]) hK hS (by decide) a4
  have er : CLR.row ⟨3, 1, 1, 1⟩ [⟨1, 1, 1⟩, ⟨3, 1, 1⟩] = [⟨3, 1, 1⟩, ⟨1, 1, 1⟩] := by
    refine List.Perm.eq_of_pairwise (le := fun a b => CLR.T ⟨3, 1, 1, 1⟩ a < CLR.T ⟨3, 1, 1, 1⟩ b) (fun x y hx hy h1 h2 => absurd h2 (Rat.not_lt.mpr (Rat.le_of_lt h1))) (CLR.row_lt ok3 hK.nd hK.low) ?_ ?_
    · refine List.pairwise_cons.mpr ⟨fun b hb => ?_, by simp⟩
      rw [List.mem_singleton.mp hb, CLR.T_lt ok3 (by decide) (by decide)]
      decide
    · refine CLR.row_perm.trans ?_
      have : ([⟨1, 1, 1⟩, ⟨3, 1, 1⟩] : List CLG.Sp).filter (CLR.onB ⟨3, 1, 1, 1⟩) = [⟨1, 1, 1⟩, ⟨3, 1, 1⟩] := by decide
      rw [this]
      exact .swap _ _ _
  have ep : CLR.pcs ⟨3, 1, 1, 1⟩ [⟨1, 1, 1⟩, ⟨3, 1, 1⟩] = [(⟨1, 1, 1⟩, ⟨3, 1, 1⟩)] := by
    unfold CLR.pcs
    rw [er]
    decide +kernel
  have h2 := CLE.e_sort CLR.pcE (S := Z) (T := [(⟨1, 1, 1⟩, ⟨3, 1, 1⟩)]) z1 (by decide) fun z => by
    rw [z2]
    simp only [List.mem_cons, List.not_mem_nil, or_false, exists_eq_left, ep]
  rw [h2] at z4
  simpa [CLR.pcD, CLX.spD] using z4
theorem rev_ln {p : CLG.Li} : bRevT (CLX.lnD p) = some (CLX.lnD p.rev) := rfl
set_option maxHeartbeats 0 in
theorem law_true : ∀ ns : List Int, ns.length ≤ 63 → (∀ z ∈ ns, Builtin.Int.intBits z ≤ 1048576) → F_law [.scr ns] = .ok (.bl true) := by
  intro ns hl _
  obtain ⟨dk, h1, h2⟩ := deck_ok hl
  refine runP_of ?_
  unfold B_law
  rw [grain_is, some_is, pieces_is', lpieces_is', draw_is]
  walk_at "r"
  refine ⟨_, h1, ?_⟩
  walk_at "r"
  refine W_forInv S1 (fun p hp ρ hρ => ?_) ⟨_, _, _, _, _, _, _, _, _, rfl, h2⟩ fun ρ' h' => ?_
  · obtain ⟨o0, dk, o2, o3, o4, o5, o6, o7, o8, rfl, hd⟩ := hρ
    refine ⟨_, rfl, ?_⟩
    have tail : ∀ (ps : List CLG.Li) (dk3 : D) (o3 o4 : Option D), (∀ p ∈ ps, CLX.Sml p ∧ p.ok) → ps.length ≤ 12 → Deck dk3 → W (sSeq (sAsg (pN 6) (mN bReprF (mCons (mCallP CLR.F__law_pieces (mCons (mV 5) mNil)) mNil))) (sSeq (sAsg (pN 7) (mN bTuple (mCons (mComp [9] (pN 9) (mIt (m1 bRevT (mV 5))) mYes (m1 bRevT (mV 9))) mNil))) (sFor (pN 8) (mIt (mN bTup (mCons (mV 5) (mCons (mV 7) (mCons (mV 5) mNil))))) (sIf (m2 bNe (mN bReprF (mCons (mCallP CLR.F_pieces_of (mCons (mV 8) mNil)) mNil)) (mV 6)) (sRet (mC (.bl false))) (sK .nx))))) [o0, some dk3, some p, o3, o4, some (.tup (ps.map CLX.lnD)), o6, o7, o8, none] fun f ρ2 => (f = Fl.nx ∨ f = Fl.cnt) ∧ S1 ρ2 := by
      intro ps dk3 o3 o4 hps hl hd3
      obtain ⟨K, s, E1, E2, E3, E4⟩ := CLR.pieces_all hps hl
      walk_at "r"
      rw [← List.map_reverse]
      refine X_compM (h := fun p : CLG.Li => CLX.lnD p.rev) (fun p hp => ⟨_, rfl, ?_⟩) ?_
      · walk_at "r"
        exact ⟨rfl, rfl⟩
      have e : (ps.reverse.map fun p : CLG.Li => CLX.lnD p.rev) = (ps.reverse.map CLG.Li.rev).map CLX.lnD := by simp
      rw [e]
      walk_at "r"
      refine W_forInv (S2 dk3 s) (fun z hz ρ hρ => ?_) ⟨_, _, _, _, _, _, _, rfl⟩ fun ρ' h' => ?_
      · obtain ⟨o0, o2, o3, o4, o5, o7, o8, rfl⟩ := hρ
        have Ez : CLR.F_pieces_of [z] = .ok K := by
          simp only [List.mem_cons, List.not_mem_nil, or_false] at hz
          rcases hz with rfl | rfl | rfl
          · exact E2
          · exact E3
          · exact E2
        refine ⟨_, rfl, ?_⟩
        walk_at "r"
        refine go_ifF (by simp) ?_
        walk_at "r"
        exact ⟨.inl rfl, _, _, _, _, _, _, _, rfl⟩
      · obtain ⟨o0, o2, o3, o4, o5, o7, o8, rfl⟩ := h'
        exact ⟨.inl rfl, _, _, _, _, _, _, _, _, _, rfl, hd3⟩
    walk_at "r"
    refine grain_step hd fun g dk1 g0 g1 hd1 => ?_
    walk_at "r"
    rename_i r dk2 _ _ hd2
    refine CLK.some_lines hd2 g0 g1 (by decide) (by decide) fun ps dk3 hps hl1 hl0 hd3 => ?_
    walk_at "r"
    refine go_if (fun _ => ?_) fun _ => ?_
    · walk_at "r"
      refine close_step hd3 fun qs dk4 hqs hq hd4 => ?_
      refine ⟨_, rfl, Kq_nx.mpr ?_⟩
      exact tail qs dk4 _ _ hqs hq hd4
    · refine W_sK.mpr (Kq_nx.mpr ?_)
      exact tail ps dk3 _ _ hps hl1 hd3
  · obtain ⟨o0, dk, o2, o3, o4, o5, o6, o7, o8, rfl, hd⟩ := h'
    have E1 := none_ok
    have E2 : CLR.F_pieces_of [.tup [ln 3 1 1 1]] = _ := one_ok
    walk_at "r"
    rfl
end LW

open PySem PySem.W PyProof.Rows
set_option maxHeartbeats 0 in
theorem PySem.Challenge.cw_cornerlines_k61_pieces_told_holds : PySem.Challenge.rw_cornerlines_k61_pieces_told.Holds := by
  w_on; o_law; k_head; (case hw => w_witness2)
  k_fill
  refine CL.walk_cl (l := PySem.Challenge.rw_cornerlines_k61_pieces_told) (n := 63) (k := 7) (x := "_law_script") (G := LW.F_law) rfl (by decide) rfl ⟨rfl, by decide, by decide⟩ (fun w h Y => PySem.W.kIn_of Y) ?F LW.law_true
  case F =>
    intro w mg fa h Y KX G hmg
    refine' LW.all_mk KX G hmg ?a0 ?l0 ?c0 ?k0 ?a1 ?l1 ?c1 ?k1 ?a2 ?l2 ?c2 ?k2 ?a3 ?l3 ?c3 ?k3 ?a4 ?l4 ?c4 ?k4 ?a5 ?l5 ?c5 ?k5 ?a6 ?l6 ?c6 ?k6 ?a7 ?l7 ?c7 ?k7 ?a8 ?l8 ?c8 ?k8 ?a9 ?l9 ?c9 ?k9 ?a10 ?l10 ?c10 ?k10 ?a11 ?l11 ?c11 ?k11 ?a12 ?l12 ?c12 ?k12 ?a13 ?l13 ?c13 ?k13 ?a14 ?l14 ?c14 ?k14 ?a15 ?l15 ?c15 ?k15 ?a16 ?l16 ?c16 ?k16 ?a17 ?l17 ?c17 ?k17 ?a18 ?l18 ?c18 ?k18 ?a19 ?l19 ?c19 ?k19 ?a20 ?l20 ?c20 ?k20 ?a21 ?l21 ?c21 ?k21 ?a22 ?l22 ?c22 ?k22 ?a23 ?l23 ?c23 ?k23 ?a24 ?l24 ?c24 ?k24 ?a25 ?l25 ?c25 ?k25 ?a26 ?l26 ?c26 ?k26 ?a27 ?l27 ?c27 ?k27 ?a28 ?l28 ?c28 ?k28 ?a29 ?l29 ?c29 ?k29 ?a30 ?l30 ?c30 ?k30 ?a31 ?l31 ?c31 ?k31 ?a32 ?l32 ?c32 ?k32 ?a33 ?l33 ?c33 ?k33 ?a34 ?l34 ?c34 ?k34 ?a35 ?l35 ?c35 ?k35 ?z_abs ?z_all ?z_enumerate ?z_int ?z_len ?z_list ?z_max ?z_min ?z_range ?z_repr ?z_sorted ?z_sum ?z_tuple ?z_zip
    (case a0 => k_is); (case l0 => k_is); (case c0 => k_is); (case k0 => k_is); (case a1 => k_is); (case l1 => k_is); (case c1 => k_is); (case k1 => k_is); (case a2 => k_is); (case l2 => k_is); (case c2 => k_is); (case k2 => k_is); (case a3 => k_is); (case l3 => k_is); (case c3 => k_is); (case k3 => k_is); (case a4 => k_is); (case l4 => k_is); (case c4 => k_is); (case k4 => k_is); (case a5 => k_is); (case l5 => k_is); (case c5 => k_is); (case k5 => k_is); (case a6 => k_is); (case l6 => k_is); (case c6 => k_is); (case k6 => k_is); (case a7 => k_is); (case l7 => k_is); (case c7 => k_is); (case k7 => k_is); (case a8 => k_is); (case l8 => k_is); (case c8 => k_is); (case k8 => k_is); (case a9 => k_is); (case l9 => k_is); (case c9 => k_is); (case k9 => k_is); (case a10 => k_is); (case l10 => k_is); (case c10 => k_is); (case k10 => k_is); (case a11 => k_is); (case l11 => k_is); (case c11 => k_is); (case k11 => k_is); (case a12 => k_is); (case l12 => k_is); (case c12 => k_is); (case k12 => k_is); (case a13 => k_is); (case l13 => k_is); (case c13 => k_is); (case k13 => k_is); (case a14 => k_is); (case l14 => k_is); (case c14 => k_is); (case k14 => k_is); (case a15 => k_is); (case l15 => k_is); (case c15 => k_is); (case k15 => k_is); (case a16 => k_is); (case l16 => k_is); (case c16 => k_is); (case k16 => k_is); (case a17 => k_is); (case l17 => k_is); (case c17 => k_is); (case k17 => k_is); (case a18 => k_is); (case l18 => k_is); (case c18 => k_is); (case k18 => k_is); (case a19 => k_is); (case l19 => k_is); (case c19 => k_is); (case k19 => k_is); (case a20 => k_is); (case l20 => k_is); (case c20 => k_is); (case k20 => k_is); (case a21 => k_is); (case l21 => k_is); (case c21 => k_is); (case k21 => k_is); (case a22 => k_is); (case l22 => k_is); (case c22 => k_is); (case k22 => k_is); (case a23 => k_is); (case l23 => k_is); (case c23 => k_is); (case k23 => k_is); (case a24 => k_is); (case l24 => k_is); (case c24 => k_is); (case k24 => k_is); (case a25 => k_is); (case l25 => k_is); (case c25 => k_is); (case k25 => k_is); (case a26 => k_is); (case l26 => k_is); (case c26 => k_is); (case k26 => k_is); (case a27 => k_is); (case l27 => k_is); (case c27 => k_is); (case k27 => k_is); (case a28 => k_is); (case l28 => k_is); (case c28 => k_is); (case k28 => k_is); (case a29 => k_is); (case l29 => k_is); (case c29 => k_is); (case k29 => k_is); (case a30 => k_is); (case l30 => k_is); (case c30 => k_is); (case k30 => k_is); (case a31 => k_is); (case l31 => k_is); (case c31 => k_is); (case k31 => k_is); (case a32 => k_is); (case l32 => k_is); (case c32 => k_is); (case k32 => k_is); (case a33 => k_is); (case l33 => k_is); (case c33 => k_is); (case k33 => k_is); (case a34 => k_is); (case l34 => k_is); (case c34 => k_is); (case k34 => k_is); (case a35 => k_is); (case l35 => k_is); (case c35 => k_is); (case k35 => k_is); (case z_abs => k_is); (case z_all => k_is); (case z_enumerate => k_is); (case z_int => k_is); (case z_len => k_is); (case z_list => k_is); (case z_max => k_is); (case z_min => k_is); (case z_range => k_is); (case z_repr => k_is); (case z_sorted => k_is); (case z_sum => k_is); (case z_tuple => k_is); (case z_zip => k_is)

