import PyProof.Rows.All
import HandS.ForMost
import HandS.Wide
import HandS.Walk
import HandS.Zip
import HandS.Style
import HandS.TupAny
import HandS.IsInst
import HandS.Deep
import HandS.Conv
import HandS.Flow
import KE.KDictKeyed
import HandS.Lambda
import HandS.NoneIn
import KE.DatumIndex
import PyProof.ReprRoads
import HandS.EndBits
import KE.GoesEnum
import KE.GoesMore
import HandS.RaiseMore
import KE.GoesZip
import HandS.SortInts
import KE.DataMinMax
import KE.SortUse
import HandS.TupSets
import PyProof.Rows.IntBool
import PyProof.CallStr
import PyProof.StrLawsRepr
import PyProof.Rows.ReprOcc
import HandS.TupLen
import KE.KDictSum
import KE.SortKeyHeap
import KE.KDictDisplayH
import KE.KDictZip
import KE.KDictItemsList
import HandS.MapObj
import KE.KDictPairs
import PyProof.SumAny
import PyProof.ListOps
import KE.KDictCopyH
import KE.KDictList
import PySem.Challenge.RW_cornerlines_k28_trouble_of_any_paths
set_option Elab.async false
set_option linter.all false
set_option maxRecDepth 100000
namespace CL
open PySem PySem.Spec L2
set_option autoImplicit false
inductive D where
  | non | bl (b : Bool) | int (i : Int) | str (x : Str) | tup (l : List D) | lst (l : List D) | dct (ks vs : List D) | kdc (ks vs : List D) | ins (c : Str) (ns : List Str) (fs : List D) | scr (l : List Int)
inductive Res (α : Type) where
  | ok (a : α) | exc (d : D) | bad
abbrev Sl := List (Option D)
abbrev M (α : Type) := Sl → Res (α × Sl)
inductive OT where
  | sh | ol (t0 t : OT) | od | dv (t : OT)
inductive Md where
  | pk | ow (t : OT)
abbrev Md.sh : Md := .ow .sh
mutual
def D.nk : D → Option NestedKey
  | .int i => some (.num i)
  | .tup l => (D.nkL l).map .tup
  | _ => none
def D.nkL : List D → Option (List NestedKey)
  | [] => some []
  | d :: ds => match D.nk d, D.nkL ds with | some k, some ks => some (k :: ks) | _, _ => none
end
mutual
def hashK : NestedKey → Int
  | .none => 0
  | .num i => hashInt i
  | .text _ => 0
  | .tup ks => reduceHash (Builtin.Tuple.tupleHashOf (hashKs ks))
def hashKs : List NestedKey → List Int
  | [] => []
  | k :: ks => hashK k :: hashKs ks
end
/-- a key that may stand in a dict -/
def kOk : NestedKey → Bool
  | .tup ks => decide ((NestedKey.tup ks).depth ≤ 8)
  | _ => false
def ents : List (NestedKey × Addr × V) → List Value → List DictEntry
  | x :: xs, u :: us => ⟨hashK x.1, .ref x.2.1, u⟩ :: ents xs us
  | _, _ => []
/-- a dict with such keys: keys, where they stand, values -/
def KdO (a : Addr) (xs : List (NestedKey × Addr × V)) : HO := .ext fun h => xs.length ≤ sizeLine ∧ (a == sysModules) = false ∧ (xs.map (·.1)).Nodup ∧ (xs.all fun x => kOk x.1) = true ∧
  ∃ us : List Value, Vals (xs.map (·.2.2)) us ∧ ∃ o es ep, h.get? a = some o ∧ o.ExactDict ∧ o.data = .dict es ep ∧ es.toList = ents xs us
/-- no table -/
def NT : HO → Prop
  | .tbl _ => False
  | _ => True
/-- what may change -/
def Mut : HO → Prop
  | .lst _ => True
  | .dK _ => True
  | .dT _ => True
  | .ext φ => ∃ a xs, HO.ext φ = KdO a xs
  | _ => False
theorem mutK {a : Addr} {xs : List (NestedKey × Addr × V)} : Mut (KdO a xs) := ⟨a, xs, rfl⟩
theorem Mut.nt {o : HO} (h : Mut o) : NT o := by cases o <;> simp_all [Mut, NT]
/-- a code object never changes -/
theorem codeO_fix {c : Addr} {q : Str} : ¬ Mut (LamX.CodeO c q) := by
  rintro ⟨a, xs, e⟩
  unfold KdO at e
  have e := HO.ext.inj e
  obtain ⟨ob, hob⟩ : ∃ ob : Obj, ob = { cls := .none, data := .fields #[.none, .str q default] } := ⟨_, rfl⟩
  obtain ⟨h, hh⟩ : ∃ h : Heap, h = { objs := Array.replicate ((a : Nat) + c + 1) ob } := ⟨_, rfl⟩
  have g : ∀ b : Nat, b ≤ (a : Nat) + c → h.get? b = some ob := fun b hb => by
    subst hh
    unfold Heap.get?
    have : (Array.replicate ((a : Nat) + c + 1) ob)[b]? = some ob := by
      rw [Array.getElem?_replicate, if_pos (Nat.lt_succ_of_le hb)]
    simp only [this]
    subst hob
    rfl
  have p := congrFun e h
  have p1 : ∃ (oc : Obj) (vs : Array Value) (t : Tok), h.get? c = some oc ∧ oc.data = .fields vs ∧ vs[1]? = some (.str q t) := ⟨ob, _, _, g c (Nat.le_add_left _ _), by rw [hob], rfl⟩
  rw [show _ = _ from p] at p1
  obtain ⟨_, _, _, _, us, _, o, es, ep, e1, _, e3, _⟩ := p1
  rw [g a (Nat.le_add_right _ _)] at e1
  cases e1
  rw [hob] at e3
  cases e3
/-- what a table tells -/
def TabE (H : Hp) (ps : Array Value) (q : Str) : Prop := TriplesOk ps.toList ∧ ∀ (pos : Pos) (cv : Value), codeAmong pos ps.toList = some cv → ∃ c, cv = .ref c ∧ H c = some (LamX.CodeO c q)
/-- the tables that a law has -/
class Tb where
  l : List (Addr × Str)
def TbOk [Tb] (H : Hp) : Prop := ∀ p ∈ Tb.l, ∃ ps, H p.1 = some (.tbl ps) ∧ TabE H ps p.2
/-- tables stay tables -/
def TK [Tb] (H H' : Hp) : Prop := TbOk H → TbOk H'
theorem TK.refl [Tb] {H : Hp} : TK H H := fun t => t
theorem TK.trans [Tb] {H H1 H2 : Hp} (a : TK H H1) (b : TK H1 H2) : TK H H2 := fun t => b (a t)
theorem TK.of [Tb] {H H' : Hp} (h : ∀ a o, H a = some o → ¬ Mut o → H' a = some o) : TK H H' := fun t p hp => by
  obtain ⟨ps, e, t⟩ := t p hp
  refine ⟨ps, h _ _ e (fun m => m), t.1, fun pos cv hc => ?_⟩
  obtain ⟨c, e1, e2⟩ := t.2 pos cv hc
  exact ⟨c, e1, h _ _ e2 codeO_fix⟩
theorem TK.ok [Tb] {H H' : Hp} (h : TK H H') (t : TbOk H) : TbOk H' := h t
/-- what never changes stands -/
abbrev NL (H H' : Hp) : Prop := ∀ a o, H a = some o → ¬ Mut o → NT o → H' a = some o
/-- a list of the module's own -/
def KL (K : PySem.W.Frag) (a : Addr) (xs : List V) : Prop := ∀ H : Hp, SqL K H a xs
section
variable (K : PySem.W.Frag) (Z : Addr → Prop) (H : Hp)
mutual
def RSh : D → V → Prop
  | .non, v => v = .non
  | .bl b, v => v = .bl b
  | .int i, v => v = .int i
  | .str x, v => v = .str x
  | .tup l, v => ∃ a xs, v = .ref a ∧ SqT K H a xs ∧ RShL l xs
  | .lst l, v => ∃ a xs, v = .ref a ∧ Z a ∧ H a = some (.lst xs) ∧ RShL l xs
  | .scr ns, v => ∃ a, v = .ref a ∧ (Z a ∨ KL K a (ns.map V.int)) ∧ SqL K H a (ns.map V.int)
  | .dct ks vs, v => ∃ a kvs, v = .ref a ∧ Z a ∧ H a = some (.dK kvs) ∧ RShL ks (kvs.map fun p => kV p.1) ∧ RShL vs (kvs.map (·.2))
  | .kdc ks vs, v => ∃ a xs, v = .ref a ∧ Z a ∧ H a = some (KdO a xs) ∧ D.nkL ks = some (xs.map (·.1)) ∧ RShL ks (xs.map fun x => .ref x.2.1) ∧ RShL vs (xs.map (·.2.2))
  | .ins c ns fs, v => ∃ C a dx xs, v = .ref a ∧ PySem.W.nsIn K mainGlobals c = some (some (.ref C)) ∧ Cls K C ∧ (∀ f ∈ ns, NoAttr K C f) ∧ H a = some (.ins C dx (ns.zip xs)) ∧ ns.length = xs.length ∧ RShL fs xs
def RShL : List D → List V → Prop
  | [], vs => vs = []
  | d :: ds, vs => ∃ w ws, vs = w :: ws ∧ RSh d w ∧ RShL ds ws
end
def R : OT → D → V → (Addr → Prop) → Prop
  | .sh, d, v, _ => RSh K Z H d v
  | .ol t0 t, d, v, S => ∃ (l : List D) (a : Addr) (xs : List V) (ow : Addr → Option Nat), d = .lst l ∧ v = .ref a ∧ H a = some (.lst xs) ∧ S a ∧ ow a = none ∧ l.length = xs.length ∧
      (∀ d v, l[0]? = some d → xs[0]? = some v → R t0 d v (fun b => S b ∧ ow b = some 0)) ∧
      ∀ k d v, l[k + 1]? = some d → xs[k + 1]? = some v → R t d v (fun b => S b ∧ ow b = some (k + 1))
  | .od, d, v, S => ∃ ks vs a xs, d = .kdc ks vs ∧ v = .ref a ∧ H a = some (KdO a xs) ∧ S a ∧ D.nkL ks = some (xs.map (·.1)) ∧ RShL K Z H ks (xs.map fun x => .ref x.2.1) ∧ RShL K Z H vs (xs.map (·.2.2))
  | .dv t, d, v, S => ∃ (ks vs : List D) (a : Addr) (xs : List (NestedKey × Addr × V)) (ow : Addr → Option Nat), d = .kdc ks vs ∧ v = .ref a ∧ H a = some (KdO a xs) ∧ S a ∧ ow a = none ∧ D.nkL ks = some (xs.map (·.1)) ∧ RShL K Z H ks (xs.map fun x => .ref x.2.1) ∧ vs.length = xs.length ∧
      ∀ k d x, vs[k]? = some d → xs[k]? = some x → R t d x.2.2 (fun b => S b ∧ ow b = some k)
end
section
variable {K : PySem.W.Frag} {Z Z' : Addr → Prop} {H H' : Hp}
theorem RShL.len : ∀ {ds : List D} {vs : List V}, RShL K Z H ds vs → ds.length = vs.length
  | [], _, h => by simp only [RShL] at h; subst h; rfl
  | d :: ds, _, h => by
    simp only [RShL] at h
    obtain ⟨w, ws, rfl, _, h2⟩ := h
    simp [RShL.len h2]
theorem RShL.get : ∀ {ds : List D} {vs : List V} {i : Nat} {d : D}, RShL K Z H ds vs → ds[i]? = some d → ∃ v, vs[i]? = some v ∧ RSh K Z H d v
  | [], _, _, _, _, e => by simp at e
  | d :: ds, _, 0, d', h, e => by
    simp only [RShL] at h
    obtain ⟨w, ws, rfl, h1, h2⟩ := h
    simp at e; subst e
    exact ⟨w, by simp, h1⟩
  | d :: ds, _, i + 1, d', h, e => by
    simp only [RShL] at h
    obtain ⟨w, ws, rfl, h1, h2⟩ := h
    obtain ⟨v, e1, e2⟩ := RShL.get (i := i) h2 (by simpa using e)
    exact ⟨v, by simpa using e1, e2⟩
theorem RShL.of_get : ∀ {ds : List D} {vs : List V}, ds.length = vs.length → (∀ (i : Nat) d v, ds[i]? = some d → vs[i]? = some v → RSh K Z H d v) → RShL K Z H ds vs
  | [], vs, hl, _ => by
    simp only [RShL]
    exact List.eq_nil_of_length_eq_zero (by simpa using hl.symm)
  | d :: ds, [], hl, _ => by simp at hl
  | d :: ds, v :: vs, hl, h => by
    simp only [RShL]
    exact ⟨v, vs, rfl, h 0 d v (by simp) (by simp), RShL.of_get (by simpa using hl) fun i a b e1 e2 => h (i + 1) a b (by simpa using e1) (by simpa using e2)⟩
theorem RShL.append : ∀ {ds es : List D} {vs ws : List V}, RShL K Z H ds vs → RShL K Z H es ws → RShL K Z H (ds ++ es) (vs ++ ws)
  | [], _, _, _, h, g => by simp only [RShL] at h; subst h; simpa using g
  | d :: ds, es, _, ws, h, g => by
    simp only [RShL] at h
    obtain ⟨w, us, rfl, h1, h2⟩ := h
    simp only [List.cons_append, RShL]
    exact ⟨w, us ++ ws, rfl, h1, RShL.append h2 g⟩
theorem RShL.one {d : D} {v : V} (h : RSh K Z H d v) : RShL K Z H [d] [v] := by simp only [RShL]; exact ⟨v, [], rfl, h, rfl⟩
theorem RShL.take {ds : List D} {vs : List V} (n : Nat) (h : RShL K Z H ds vs) : RShL K Z H (ds.take n) (vs.take n) :=
  .of_get (by simp [h.len]) fun i d v e1 e2 => by
    rw [List.getElem?_take] at e1 e2
    split at e1
    · rename_i hi
      rw [if_pos hi] at e2
      obtain ⟨w, a, b⟩ := h.get e1
      rw [e2] at a; cases a; exact b
    · cases e1
theorem RShL.drop {ds : List D} {vs : List V} (n : Nat) (h : RShL K Z H ds vs) : RShL K Z H (ds.drop n) (vs.drop n) :=
  .of_get (by simp [h.len]) fun i d v e1 e2 => by
    rw [List.getElem?_drop] at e1 e2
    obtain ⟨w, a, b⟩ := h.get e1
    rw [e2] at a; cases a; exact b
theorem RShL.reverse {ds : List D} {vs : List V} (h : RShL K Z H ds vs) : RShL K Z H ds.reverse vs.reverse :=
  .of_get (by simp [h.len]) fun i d v e1 e2 => by
    have hl := h.len
    have hi : i < ds.length := by
      have := (List.getElem?_eq_some_iff.mp e1).1
      simpa using this
    rw [List.getElem?_reverse hi] at e1
    rw [List.getElem?_reverse (by omega)] at e2
    obtain ⟨w, a, b⟩ := h.get e1
    rw [← hl, a] at e2; cases e2; exact b
theorem sqL_keep {a : Addr} {xs : List V} (h : ∀ o, H a = some o → NT o → H' a = some o) (q : SqL K H a xs) : SqL K H' a xs := by
  rcases q with (q | ⟨o, q⟩) | q
  · exact .inl (.inl (h _ q True.intro))
  · exact .inl (.inr ⟨o, h _ q True.intro⟩)
  · exact .inr q
theorem NL.sqT (h : NL H H') {a : Addr} {xs : List V} (s : SqT K H a xs) : SqT K H' a xs := by
  rcases s with (s | ⟨o, s⟩) | s
  · exact .inl (.inl (h a _ s (by simp [Mut]) True.intro))
  · exact .inl (.inr ⟨o, h a _ s (by simp [Mut]) True.intro⟩)
  · exact .inr s
mutual
theorem RSh.pres (h1 : ∀ a, Z a → Z' a) (h2 : NL H H') (h3 : ∀ a o, Z a → H a = some o → NT o → H' a = some o) : ∀ (d : D) (v : V), RSh K Z H d v → RSh K Z' H' d v
  | .non, _, h => by simpa only [RSh] using h
  | .bl _, _, h => by simpa only [RSh] using h
  | .int _, _, h => by simpa only [RSh] using h
  | .str _, _, h => by simpa only [RSh] using h
  | .tup l, _, h => by
    simp only [RSh] at h ⊢
    obtain ⟨a, xs, e, q, r⟩ := h
    exact ⟨a, xs, e, NL.sqT h2 q, RShL.pres h1 h2 h3 l xs r⟩
  | .lst l, _, h => by
    simp only [RSh] at h ⊢
    obtain ⟨a, xs, e, z, q, r⟩ := h
    exact ⟨a, xs, e, h1 a z, h3 a _ z q True.intro, RShL.pres h1 h2 h3 l xs r⟩
  | .scr ns, _, h => by
    simp only [RSh] at h ⊢
    obtain ⟨a, e, z, q⟩ := h
    exact ⟨a, e, z.imp (h1 a) id, z.elim (fun z => sqL_keep (fun o e n => h3 a o z e n) q) (fun z => z H')⟩
  | .dct ks vs, _, h => by
    simp only [RSh] at h ⊢
    obtain ⟨a, kvs, e, z, q, r1, r2⟩ := h
    exact ⟨a, kvs, e, h1 a z, h3 a _ z q True.intro, RShL.pres h1 h2 h3 ks _ r1, RShL.pres h1 h2 h3 vs _ r2⟩
  | .kdc ks vs, _, h => by
    simp only [RSh] at h ⊢
    obtain ⟨a, xs, e, z, q, n, r1, r2⟩ := h
    exact ⟨a, xs, e, h1 a z, h3 a _ z q True.intro, n, RShL.pres h1 h2 h3 ks _ r1, RShL.pres h1 h2 h3 vs _ r2⟩
  | .ins c ns fs, _, h => by
    simp only [RSh] at h ⊢
    obtain ⟨C, a, dx, xs, e, k1, k2, k3, q, l, r⟩ := h
    exact ⟨C, a, dx, xs, e, k1, k2, k3, h2 a _ q (by simp [Mut]) True.intro, l, RShL.pres h1 h2 h3 fs xs r⟩
theorem RShL.pres (h1 : ∀ a, Z a → Z' a) (h2 : NL H H') (h3 : ∀ a o, Z a → H a = some o → NT o → H' a = some o) : ∀ (ds : List D) (vs : List V), RShL K Z H ds vs → RShL K Z' H' ds vs
  | [], _, h => by simpa only [RShL] using h
  | d :: ds, _, h => by
    simp only [RShL] at h ⊢
    obtain ⟨w, ws, e, a, b⟩ := h
    exact ⟨w, ws, e, RSh.pres h1 h2 h3 d w a, RShL.pres h1 h2 h3 ds ws b⟩
end
theorem RSh.monoZ {d : D} {v : V} (h1 : ∀ a, Z a → Z' a) (h : RSh K Z H d v) : RSh K Z' H d v := RSh.pres h1 (fun _ _ q _ _ => q) (fun _ _ _ q _ => q) d v h
theorem RShL.monoZ {d : List D} {v : List V} (h1 : ∀ a, Z a → Z' a) (h : RShL K Z H d v) : RShL K Z' H d v := RShL.pres h1 (fun _ _ q _ _ => q) (fun _ _ _ q _ => q) d v h
theorem R.mono : ∀ {t : OT} {d : D} {v : V} {S S' : Addr → Prop}, R K Z H t d v S → (∀ a, S a → S' a) → R K Z H t d v S'
  | .sh, _, _, _, _, h, _ => h
  | .ol t0 t, _, _, _, _, h, m => by
    obtain ⟨l, a, xs, ow, e1, e2, e3, e4, e5, e6, e7, e8⟩ := h
    exact ⟨l, a, xs, ow, e1, e2, e3, m a e4, e5, e6, fun d v p q => R.mono (e7 d v p q) fun b hb => ⟨m b hb.1, hb.2⟩, fun k d v p q => R.mono (e8 k d v p q) fun b hb => ⟨m b hb.1, hb.2⟩⟩
  | .od, _, _, _, _, h, m => by
    obtain ⟨ks, vs, a, xs, e1, e2, e3, e4, e5⟩ := h
    exact ⟨ks, vs, a, xs, e1, e2, e3, m a e4, e5⟩
  | .dv t, _, _, _, _, h, m => by
    obtain ⟨ks, vs, a, xs, ow, e1, e2, e3, e4, e5, e6, e7, e8, e9⟩ := h
    exact ⟨ks, vs, a, xs, ow, e1, e2, e3, m a e4, e5, e6, e7, e8, fun k d x p q => R.mono (e9 k d x p q) fun b hb => ⟨m b hb.1, hb.2⟩⟩
theorem R.pres (h1 : ∀ a, Z a → Z' a) (h2 : NL H H') (h3 : ∀ a o, Z a → H a = some o → NT o → H' a = some o) :
    ∀ {t : OT} {d : D} {v : V} {S : Addr → Prop}, (∀ a o, S a → H a = some o → NT o → H' a = some o) → R K Z H t d v S → R K Z' H' t d v S
  | .sh, d, v, _, _, h => RSh.pres h1 h2 h3 d v h
  | .ol t0 t, _, _, S, m, h => by
    obtain ⟨l, a, xs, ow, e1, e2, e3, e4, e5, e6, e7, e8⟩ := h
    exact ⟨l, a, xs, ow, e1, e2, m a _ e4 e3 True.intro, e4, e5, e6, fun d v p q => R.pres h1 h2 h3 (fun b ys hb e n => m b ys hb.1 e n) (e7 d v p q), fun k d v p q => R.pres h1 h2 h3 (fun b ys hb e n => m b ys hb.1 e n) (e8 k d v p q)⟩
  | .od, _, _, S, m, h => by
    obtain ⟨ks, vs, a, xs, e1, e2, e3, e4, e5, e6, e7⟩ := h
    exact ⟨ks, vs, a, xs, e1, e2, m a _ e4 e3 True.intro, e4, e5, RShL.pres h1 h2 h3 ks _ e6, RShL.pres h1 h2 h3 vs _ e7⟩
  | .dv t, _, _, S, m, h => by
    obtain ⟨ks, vs, a, xs, ow, e1, e2, e3, e4, e5, e6, e7, e8, e9⟩ := h
    exact ⟨ks, vs, a, xs, ow, e1, e2, m a _ e4 e3 True.intro, e4, e5, e6, RShL.pres h1 h2 h3 ks _ e7, e8, fun k d x p q => R.pres h1 h2 h3 (fun b ys hb e n => m b ys hb.1 e n) (e9 k d x p q)⟩
/-- what is owned may be shared from now on -/
theorem R.freeze : ∀ {t : OT} {d : D} {v : V} {S : Addr → Prop}, R K Z H t d v S → RSh K (fun a => Z a ∨ S a) H d v
  | .sh, d, v, _, h => RSh.monoZ (fun _ z => .inl z) h
  | .ol t0 t, _, _, S, h => by
    obtain ⟨l, a, xs, ow, rfl, rfl, e3, e4, e5, e6, e7, e8⟩ := h
    simp only [RSh]
    refine ⟨a, xs, rfl, .inr e4, e3, .of_get e6 fun i d v p q => ?_⟩
    cases i with
    | zero => exact RSh.monoZ (fun b z => z.elim .inl fun z => .inr z.1) (R.freeze (e7 d v p q))
    | succ k => exact RSh.monoZ (fun b z => z.elim .inl fun z => .inr z.1) (R.freeze (e8 k d v p q))
  | .od, _, _, S, h => by
    obtain ⟨ks, vs, a, xs, rfl, rfl, e3, e4, e5, e6, e7⟩ := h
    simp only [RSh]
    exact ⟨a, xs, rfl, .inr e4, e3, e5, RShL.monoZ (fun _ z => .inl z) e6, RShL.monoZ (fun _ z => .inl z) e7⟩
  | .dv t, _, _, S, h => by
    obtain ⟨ks, vs, a, xs, ow, rfl, rfl, e3, e4, e5, e6, e7, e8, e9⟩ := h
    simp only [RSh]
    refine ⟨a, xs, rfl, .inr e4, e3, e6, RShL.monoZ (fun _ z => .inl z) e7, .of_get (by simpa using e8) fun k d v p q => ?_⟩
    rw [List.getElem?_map] at q
    obtain ⟨x, hx, e⟩ := Option.map_eq_some_iff.mp q
    subst e
    exact RSh.monoZ (fun b z => z.elim .inl fun z => .inr z.1) (R.freeze (e9 k d x p hx))
end
structure RS [Tb] (K : PySem.W.Frag) (τ : Nat → OT) (Z : Addr → Prop) (own : Addr → Option Nat) (H : Hp) (ρ : Sl) (σ : St) : Prop where
  sl : ∀ i d, ρ[i]? = some (some d) → ∃ v, σ[i]? = some (some v) ∧ R K Z H (τ i) d v (fun a => own a = some i)
  ls : ∀ a i, own a = some i → ∃ o, H a = some o ∧ Mut o
  dz : ∀ a i, own a = some i → ¬ Z a
  zt : ∀ a, Z a → H a ≠ none
  len : ρ.length ≤ σ.length
  tb : TbOk H
/-- a step: what was shared is shared, what stood stands but for what is owned; fx tells the slots that may not be given up -/
structure ExtF [Tb] (fx : Nat → Bool) (q : Bool) (Z : Addr → Prop) (own : Addr → Option Nat) (H : Hp) (Z' : Addr → Prop) (own' : Addr → Option Nat) (H' : Hp) : Prop where
  z : ∀ a, Z a → Z' a
  zn : ∀ a, Z' a → Z a ∨ H a = none ∨ ∃ i, own a = some i ∧ fx i = false
  on : ∀ a i, own' a = some i → own a = some i ∨ H a = none
  keep : ∀ a o, H a = some o → (own a = none ∨ q = true) → (n : NT o := by first | exact True.intro | assumption | exact Mut.nt (by assumption)) → H' a = some o
  live : ∀ a, H a ≠ none → H' a ≠ none
  tk : TK H H'
abbrev fxT : Nat → Bool := fun _ => true
abbrev Ext [Tb] (q : Bool) (Z : Addr → Prop) (own : Addr → Option Nat) (H : Hp) (Z' : Addr → Prop) (own' : Addr → Option Nat) (H' : Hp) : Prop := ExtF fxT q Z own H Z' own' H'
section
variable [Tb] {K : PySem.W.Frag} {τ : Nat → OT} {Z Z1 Z2 : Addr → Prop} {own own1 own2 : Addr → Option Nat} {H H1 H2 : Hp} {ρ : Sl} {σ : St} {q q1 q2 : Bool} {fx : Nat → Bool}
theorem ExtF.kp (x : ExtF fx q Z own H Z1 own1 H1) : ∀ a o, H a = some o → (own a = none ∨ q = true) → NT o → H1 a = some o := fun a o e h n => x.keep a o e h n
theorem ExtF.refl : ExtF fx q Z own H Z own H := ⟨fun _ z => z, fun _ z => .inl z, fun _ _ z => .inl z, fun _ _ e _ _ => e, fun _ e => e, .refl⟩
theorem ExtF.back (a : ExtF fx q Z own H Z1 own1 H1) {c : Addr} (e : H1 c = none) : H c = none := Classical.byContradiction fun n => a.live c n e
theorem ExtF.trans (a : ExtF fx q1 Z own H Z1 own1 H1) (b : ExtF fx q2 Z1 own1 H1 Z2 own2 H2) : ExtF fx (q1 && q2) Z own H Z2 own2 H2 where
  z := fun c h => b.z c (a.z c h)
  zn := fun c h => by
    rcases b.zn c h with h | h | ⟨i, h, hf⟩
    · exact a.zn c h
    · exact .inr (.inl (a.back h))
    · exact (a.on c i h).elim (fun z => .inr (.inr ⟨i, z, hf⟩)) fun z => .inr (.inl z)
  on := fun c i h => (b.on c i h).elim (a.on c i) fun e => .inr (a.back e)
  keep := fun c o e h n => by
    rcases h with h | h
    · refine b.keep c o (a.keep c o e (.inl h)) (.inl (Classical.byContradiction fun n => ?_))
      cases ho : own1 c with
      | none => exact n ho
      | some i =>
        rcases a.on c i ho with z | z
        · rw [h] at z; cases z
        · rw [e] at z; cases z
    · simp only [Bool.and_eq_true] at h
      exact b.keep c o (a.keep c o e (.inr h.1)) (.inr h.2)
  live := fun c h => b.live c (a.live c h)
  tk := a.tk.trans b.tk
theorem ExtF.weak (a : ExtF fx q Z own H Z1 own1 H1) : ExtF fx false Z own H Z1 own1 H1 := ⟨a.z, a.zn, a.on, fun c o e h n => a.keep c o e (h.elim .inl fun z => nomatch z), a.live, a.tk⟩
theorem ExtF.transF (a : ExtF fx q1 Z own H Z1 own1 H1) (b : ExtF fx q2 Z1 own1 H1 Z2 own2 H2) : ExtF fx false Z own H Z2 own2 H2 := (a.trans b).weak
theorem ExtF.any (a : Ext q Z own H Z1 own1 H1) : ExtF fx q Z own H Z1 own1 H1 := ⟨a.z, fun c h => (a.zn c h).elim .inl (fun h => h.elim (fun z => .inr (.inl z)) (fun ⟨_, _, z⟩ => absurd z (by simp))), a.on, fun c o e h n => a.keep c o e h n, a.live, a.tk⟩
theorem RS.nl (h : RS K τ Z own H ρ σ) (e : ExtF fx q Z own H Z1 own1 H1) : NL H H1 := fun a u hu hn n => e.keep a u hu (.inl (by
    cases ho : own a with
    | none => rfl
    | some i =>
      obtain ⟨ys, hy, hm⟩ := h.ls a i ho
      rw [hu] at hy
      cases hy
      exact absurd hm hn))
theorem RS.kz (h : RS K τ Z own H ρ σ) (e : ExtF fx q Z own H Z1 own1 H1) {a : Addr} {u : HO} (z : Z a ∨ q = true) (hu : H a = some u) (n : NT u := by first | exact True.intro | assumption | exact Mut.nt (by assumption)) : H1 a = some u := e.keep a u hu (z.elim (fun z => .inl (by
    cases ho : own a with
    | none => rfl
    | some i => exact absurd z (h.dz a i ho))) .inr)
theorem RS.sh (h : RS K τ Z own H ρ σ) (e : ExtF fx q Z own H Z1 own1 H1) {d : D} {v : V} (r : RSh K Z H d v) : RSh K Z1 H1 d v :=
  RSh.pres e.z (h.nl e) (fun _ _ z s n => h.kz e (.inl z) s) d v r
theorem RS.shL (h : RS K τ Z own H ρ σ) (e : ExtF fx q Z own H Z1 own1 H1) {d : List D} {v : List V} (r : RShL K Z H d v) : RShL K Z1 H1 d v :=
  RShL.pres e.z (h.nl e) (fun _ _ z s n => h.kz e (.inl z) s) d v r
/-- a value that is owned by none of the slots -/
theorem RS.apart (h : RS K τ Z own H ρ σ) (e : ExtF fx q Z own H Z1 own1 H1) {t : OT} {d : D} {v : V} {S : Addr → Prop} (hS : ∀ a, S a → own a = none) (r : R K Z H t d v S) : R K Z1 H1 t d v S :=
  R.pres e.z (h.nl e) (fun _ _ z s n => h.kz e (.inl z) s) (fun a xs s hx n => e.keep a _ hx (.inl (hS a s))) r
end
/-- a value at hand: shared, or a list that a slot owns whose items are shared -/
def RPk (K : PySem.W.Frag) (Z : Addr → Prop) (own : Addr → Option Nat) (H : Hp) (d : D) (v : V) : Prop :=
  RSh K Z H d v ∨ ∃ l a xs, d = .lst l ∧ v = .ref a ∧ H a = some (.lst xs) ∧ own a ≠ none ∧ RShL K Z H l xs
/-- what is known of a value just told -/
def Rm (K : PySem.W.Frag) (Z : Addr → Prop) (own : Addr → Option Nat) (H : Hp) : Md → D → V → (Addr → Prop) → Prop
  | .pk, d, v, _ => RPk K Z own H d v
  | .ow t, d, v, S => R K Z H t d v S
/-- a region of new lists -/
def NewR (H : Hp) (Z' : Addr → Prop) (own' : Addr → Option Nat) (H' : Hp) (S : Addr → Prop) : Prop := ∀ a, S a → H a = none ∧ own' a = none ∧ ¬ Z' a ∧ ∃ o, H' a = some o ∧ Mut o
def tE [Tb] (K : PySem.W.Frag) (τ : Nat → OT) (q : Bool) (md : Md) (m : M D) : TE := fun σ H Q => ∃ Z own ρ d ρ', RS K τ Z own H ρ σ ∧ m ρ = .ok (d, ρ') ∧
  ∀ v Z' own' H' S, RS K τ Z' own' H' ρ' σ → Rm K Z' own' H' md d v S → NewR H Z' own' H' S → Ext q Z own H Z' own' H' → Q v H'
theorem _root_.L2.PE.mono {X : Cx} {e : Expr} {t t' : TE} (h : PE X e t) (f : ∀ σ H Q, t' σ H Q → t σ H Q) : PE X e t' := ⟨fun pins s σ H Q I hw => h.run pins s σ H Q I (f σ H Q hw)⟩
theorem _root_.L2.PT.mono {X : Cx} {e : Expr} {t t' : TT} (h : PT X e t) (f : ∀ σ H Q, t' σ H Q → t σ H Q) : PT X e t' := ⟨fun pins s σ H Q I hw => h.run pins s σ H Q I (f σ H Q hw)⟩
theorem _root_.L2.PA.mono {X : Cx} {e : List Expr} {t t' : TA} (h : PA X e t) (f : ∀ σ H Q, t' σ H Q → t σ H Q) : PA X e t' := ⟨fun pins n s σ H Q I hw => h.run pins n s σ H Q I (f σ H Q hw)⟩
theorem _root_.L2.PS.mono {X : Cx} {e : Stmt} {t t' : TS} (h : PS X e t) (f : ∀ D σ H, t' D σ H → t D σ H) : PS X e t' := ⟨fun pins s σ H Q I hw => h.run pins s σ H Q I (f Q σ H hw)⟩
theorem _root_.L2.PSs.mono {X : Cx} {e : List Stmt} {t t' : TS} (h : PSs X e t) (f : ∀ D σ H, t' D σ H → t D σ H) : PSs X e t' := ⟨fun pins s σ H Q I hw => h.run pins s σ H Q I (f Q σ H hw)⟩
theorem _root_.L2.PI.mono {X : Cx} {tg e : Expr} {t t' : TI} (h : PI X tg e t) (f : ∀ σ H Q, t' σ H Q → t σ H Q) : PI X tg e t' := ⟨fun pins s σ H Q I hw => h.run pins s σ H Q I (f σ H Q hw)⟩
end CL
namespace CL
open PySem PySem.Spec L2
set_option autoImplicit false
def bind {α β : Type} (m : M α) (f : α → M β) : M β := fun ρ => match m ρ with | .ok (a, ρ') => f a ρ' | .exc e => .exc e | .bad => .bad
def ofO (o : Option D) : M D := fun ρ => match o with | some d => .ok (d, ρ) | none => .bad
def mC (d : D) : M D := fun ρ => .ok (d, ρ)
def mV (i : Nat) : M D := fun ρ => match ρ[i]? with | some (some d) => .ok (d, ρ) | _ => .bad
def m1 (f : D → Option D) (a : M D) : M D := bind a fun x => ofO (f x)
def m2 (f : D → D → Option D) (a b : M D) : M D := bind a fun x => bind b fun y => ofO (f x y)
def mNil : M (List D) := fun ρ => .ok ([], ρ)
def mCons (a : M D) (r : M (List D)) : M (List D) := bind a fun x => bind r fun xs => fun ρ => .ok (x :: xs, ρ)
def mN (f : List D → Option D) (as : M (List D)) : M D := bind as fun xs => ofO (f xs)
theorem bind_ok {α β : Type} {m : M α} {f : α → M β} {ρ ρ'' : Sl} {b : β} (h : bind m f ρ = .ok (b, ρ'')) : ∃ a ρ', m ρ = .ok (a, ρ') ∧ f a ρ' = .ok (b, ρ'') := by
  unfold bind at h
  split at h
  · rename_i a ρ' e; exact ⟨a, ρ', e, h⟩
  · cases h
  · cases h
theorem bind_of {α β : Type} {m : M α} {f : α → M β} {ρ ρ' : Sl} {a : α} (h : m ρ = .ok (a, ρ')) : bind m f ρ = f a ρ' := by unfold bind; rw [h]
theorem ofO_ok {o : Option D} {ρ ρ' : Sl} {d : D} (h : ofO o ρ = .ok (d, ρ')) : o = some d ∧ ρ' = ρ := by
  unfold ofO at h
  split at h
  · cases h; exact ⟨rfl, rfl⟩
  · cases h
/-- a value at hand, whoever owns it -/
def Pk0 (K : PySem.W.Frag) (Z : Addr → Prop) (H : Hp) (d : D) (v : V) : Prop :=
  RSh K Z H d v ∨ ∃ l a xs, d = .lst l ∧ v = .ref a ∧ H a = some (.lst xs) ∧ RShL K Z H l xs
def Pk0L (K : PySem.W.Frag) (Z : Addr → Prop) (H : Hp) : List D → List V → Prop
  | [], vs => vs = []
  | d :: ds, vs => ∃ w ws, vs = w :: ws ∧ Pk0 K Z H d w ∧ Pk0L K Z H ds ws
structure Grow [Tb] (H H' : Hp) : Prop where
  at_ : ∀ a o, H a = some o → NT o → H' a = some o
  tk : TK H H'
  live : ∀ a, H a ≠ none → H' a ≠ none
theorem Grow.of [Tb] {H H' : Hp} (h : ∀ a o, H a = some o → H' a = some o) : Grow H H' := ⟨fun a o e _ => h a o e, .of fun a o e _ => h a o e, fun a n z => by
  cases e : H a with
  | none => exact n e
  | some o => rw [h a o e] at z; cases z⟩
def NewS (H H' : Hp) (S : Addr → Prop) : Prop := ∀ a, S a → H a = none ∧ ∃ o, H' a = some o ∧ Mut o
/-- a shared value, or a new list of shared ones -/
def RF (K : PySem.W.Frag) (Z : Addr → Prop) (H : Hp) (d : D) (v : V) (S : Addr → Prop) : Prop := RSh K Z H d v ∨ R K Z H (.ol .sh .sh) d v S
def rF1 [Tb] (K : PySem.W.Frag) (f : D → Option D) : V → Hp → VK → Prop := fun x H Q => ∃ Z a d, Pk0 K Z H a x ∧ f a = some d ∧ ∀ v H' S, Grow H H' → RF K Z H' d v S → NewS H H' S → Q v H'
def rF2 [Tb] (K : PySem.W.Frag) (f : D → D → Option D) : R2 := fun x y H Q => ∃ Z a b d, Pk0 K Z H a x ∧ Pk0 K Z H b y ∧ f a b = some d ∧ ∀ v H' S, Grow H H' → RF K Z H' d v S → NewS H H' S → Q v H'
def rFn [Tb] (K : PySem.W.Frag) (f : List D → Option D) : List V → Hp → VK → Prop := fun xs H Q => ∃ Z ds d, Pk0L K Z H ds xs ∧ f ds = some d ∧ ∀ v H' S, Grow H H' → RF K Z H' d v S → NewS H H' S → Q v H'
theorem Grow.refl [Tb] {H : Hp} : Grow H H := ⟨fun _ _ e _ => e, .refl, fun _ e => e⟩
theorem Grow.new [Tb] {H : Hp} {p : Addr} {o : HO} (h : H p = none) : Grow H (upd H p o) := .of fun a u e => by rw [upd_ne (ne_of_none e h)]; exact e
theorem NewS.none [Tb] {H H' : Hp} : NewS H H' fun _ => False := fun _ h => h.elim
theorem NewS.one [Tb] {H : Hp} {p : Addr} {o : HO} (hm : Mut o) (h : H p = .none) : NewS H (upd H p o) (fun a => a = p) := fun a e => by subst e; exact ⟨h, o, upd_same, hm⟩
section
variable [Tb] {K : PySem.W.Frag} {τ : Nat → OT} {Z Z1 Z2 : Addr → Prop} {own own1 own2 : Addr → Option Nat} {H H' H1 H2 : Hp} {ρ : Sl} {σ : St} {q q1 q2 : Bool} {S : Addr → Prop}
theorem Grow.sh (g : Grow H H') {d : D} {v : V} (h : RSh K Z H d v) : RSh K Z H' d v := RSh.pres (fun _ z => z) (fun a o e _ n => g.at_ a o e n) (fun a o _ e n => g.at_ a o e n) d v h
theorem Grow.shL (g : Grow H H') {d : List D} {v : List V} (h : RShL K Z H d v) : RShL K Z H' d v := RShL.pres (fun _ z => z) (fun a o e _ n => g.at_ a o e n) (fun a o _ e n => g.at_ a o e n) d v h
theorem Grow.r (g : Grow H H') {t : OT} {d : D} {v : V} (h : R K Z H t d v S) : R K Z H' t d v S := R.pres (fun _ z => z) (fun a o e _ n => g.at_ a o e n) (fun a o _ e n => g.at_ a o e n) (fun a xs _ e n => g.at_ a _ e n) h
theorem RF.freeze {d : D} {v : V} (h : RF K Z H d v S) : RSh K (fun a => Z a ∨ S a) H d v := h.elim (RSh.monoZ fun _ => .inl) R.freeze
theorem RF.list {l : List D} {p : Addr} {xs : List V} (h : RShL K Z H l xs) (e : H p = some (.lst xs)) : RF K Z H (.lst l) (.ref p) (fun a => a = p) :=
  .inr ⟨l, p, xs, fun a => if a = p then Option.none else some 0, rfl, rfl, e, rfl, by simp, h.len, fun d v e1 e2 => by
    obtain ⟨w, a, b⟩ := h.get e1
    rw [e2] at a; cases a; exact b, fun k d v e1 e2 => by
    obtain ⟨w, a, b⟩ := h.get e1
    rw [e2] at a; cases a; exact b⟩
theorem RF.tup {l : List D} {p : Addr} {xs : List V} (h : RShL K Z H l xs) (e : SqT K H p xs) : RF K Z H (.tup l) (.ref p) (fun _ => False) := .inl (by simp only [RSh]; exact ⟨p, xs, rfl, e, h⟩)
theorem RPk.pk0 {d : D} {v : V} (h : RPk K Z own H d v) : Pk0 K Z H d v := h.elim .inl fun ⟨l, a, xs, e1, e2, e3, _, e5⟩ => .inr ⟨l, a, xs, e1, e2, e3, e5⟩
theorem RS.grow (h : RS K τ Z own H ρ σ) (g : Grow H H') (n : NewS H H' S) : RS K τ (fun a => Z a ∨ S a) own H' ρ σ where
  sl := fun i d e => by
    obtain ⟨v, e1, e2⟩ := h.sl i d e
    exact ⟨v, e1, R.pres (fun _ z => .inl z) (fun a o e _ n => g.at_ a o e n) (fun a o _ e n => g.at_ a o e n) (fun a xs _ e n => g.at_ a _ e n) e2⟩
  ls := fun a i e => by
    obtain ⟨xs, hx, hm⟩ := h.ls a i e
    exact ⟨xs, g.at_ a _ hx hm.nt, hm⟩
  dz := fun a i e z => by
    rcases z with z | z
    · exact h.dz a i e z
    · obtain ⟨xs, hx, _⟩ := h.ls a i e
      rw [(n a z).1] at hx; cases hx
  zt := fun a z => z.elim (fun z e => g.live a (h.zt a z) e) fun z e => by obtain ⟨xs, hx, _⟩ := (n a z).2; rw [hx] at e; cases e
  len := h.len
  tb := g.tk.ok h.tb
theorem ExtF.grow {fx : Nat → Bool} (g : Grow H H') (n : NewS H H' S) : ExtF fx q Z own H (fun a => Z a ∨ S a) own H' :=
  ⟨fun _ z => .inl z, fun a z => z.elim .inl fun z => .inr (.inl (n a z).1), fun _ _ z => .inl z, fun a o e _ n => g.at_ a o e n, fun a e z => g.live a e z, g.tk⟩
theorem ExtF.growO {fx : Nat → Bool} (g : Grow H H') : ExtF fx q Z own H Z own H' :=
  ⟨fun _ z => z, fun a z => .inl z, fun _ _ z => .inl z, fun a o e _ n => g.at_ a o e n, fun a e z => g.live a e z, g.tk⟩
theorem RS.growO (h : RS K τ Z own H ρ σ) (g : Grow H H') : RS K τ Z own H' ρ σ where
  sl := fun i d e => by
    obtain ⟨v, e1, e2⟩ := h.sl i d e
    exact ⟨v, e1, R.pres (fun _ z => z) (fun a o e _ n => g.at_ a o e n) (fun a o _ e n => g.at_ a o e n) (fun a xs _ e n => g.at_ a _ e n) e2⟩
  ls := fun a i e => by
    obtain ⟨xs, hx, hm⟩ := h.ls a i e
    exact ⟨xs, g.at_ a _ hx hm.nt, hm⟩
  dz := h.dz
  zt := fun a z e => by
    exact g.live a (h.zt a z) e
  len := h.len
  tb := g.tk.ok h.tb
/-- what is at hand stays at hand -/
def Hand : Md → Prop
  | .pk => True
  | .ow .sh => True
  | .ow (.ol _ _) => False
  | .ow .od => False
  | .ow (.dv _) => False
theorem Rm.pk0 {md : Md} {d : D} {v : V} (hm : Hand md) (h : Rm K Z own H md d v S) : Pk0 K Z H d v := by
  cases md with
  | pk => exact RPk.pk0 h
  | ow t =>
    cases t with
    | sh => exact .inl h
    | ol _ _ => exact hm.elim
    | od => exact hm.elim
    | dv _ => exact hm.elim
/-- at hand, behind another step -/
theorem RS.pk0 {fx : Nat → Bool} (h : RS K τ Z own H ρ σ) (e : ExtF fx q Z own H Z1 own1 H1) {md : Md} {d : D} {v : V} (hm : Hand md) (hq : md = .sh ∨ q = true) (r : Rm K Z own H md d v S) : Pk0 K Z1 H1 d v := by
  cases md with
  | pk =>
    rcases r with r | ⟨l, a, xs, e1, e2, e3, e4, e5⟩
    · exact .inl (h.sh e r)
    · exact .inr ⟨l, a, xs, e1, e2, e.keep a _ e3 (.inr (hq.elim (fun z => nomatch z) fun z => z)), h.shL e e5⟩
  | ow t =>
    cases t with
    | sh => exact .inl (h.sh e r)
    | ol _ _ => exact hm.elim
    | od => exact hm.elim
    | dv _ => exact hm.elim
end
/-- arguments from the left -/
def tA [Tb] (K : PySem.W.Frag) (τ : Nat → OT) (q : Bool) (m : M (List D)) : TA := fun σ H Q => ∃ Z own ρ ds ρ', RS K τ Z own H ρ σ ∧ m ρ = .ok (ds, ρ') ∧
  ∀ vs Z' own' H', RS K τ Z' own' H' ρ' σ → Pk0L K Z' H' ds vs → Ext q Z own H Z' own' H' → Q vs H'
/-- .. all of them shared -/
def tAs [Tb] (K : PySem.W.Frag) (τ : Nat → OT) (q : Bool) (m : M (List D)) : TA := fun σ H Q => ∃ Z own ρ ds ρ', RS K τ Z own H ρ σ ∧ m ρ = .ok (ds, ρ') ∧
  ∀ vs Z' own' H', RS K τ Z' own' H' ρ' σ → RShL K Z' H' ds vs → Ext q Z own H Z' own' H' → Q vs H'
section
variable [Tb] {X : Cx} {τ : Nat → OT} {q q1 q2 : Bool} {md md1 md2 : Md} {a b c e : Expr} {es : List Expr} {ma mb : M D} {ms : M (List D)} {pos : Pos}
/-- shared, so at hand -/
theorem e_pk (h : PE X a (tE X.K τ q .sh ma)) : PE X a (tE X.K τ q .pk ma) := h.mono fun σ H Q ⟨Z, own, ρ, d, ρ', rs, e, k⟩ =>
  ⟨Z, own, ρ, d, ρ', rs, e, fun v Z' own' H' S r1 r2 r3 r4 => k v Z' own' H' S r1 (.inl r2) r3 r4⟩
/-- a new list, from now on shared -/
theorem e_sh {t : OT} (h : PE X a (tE X.K τ q (.ow t) ma)) : PE X a (tE X.K τ q .sh ma) := h.mono fun σ H Q ⟨Z, own, ρ, d, ρ', rs, e, k⟩ =>
  ⟨Z, own, ρ, d, ρ', rs, e, fun v Z' own' H' S r1 r2 r3 r4 => by
    refine k v (fun a => Z' a ∨ S a) own' H' (fun _ => False) ⟨fun i d e => ?_, r1.ls, fun a i e z => ?_, fun a z => z.elim (r1.zt a) (fun z e => by obtain ⟨xs, hx, _⟩ := (r3 a z).2.2.2; rw [hx] at e; cases e), r1.len, r1.tb⟩ (R.freeze r2) (fun _ z => z.elim) ⟨fun a z => .inl (r4.z a z), fun a z => z.elim (r4.zn a) fun z => .inr (.inl (r3 a z).1), r4.on, r4.kp, r4.live, r4.tk⟩
    · obtain ⟨v, e1, e2⟩ := r1.sl i d e
      exact ⟨v, e1, R.pres (fun _ z => .inl z) (fun _ _ s _ _ => s) (fun _ _ _ s _ => s) (fun _ _ _ e _ => e) e2⟩
    · rcases z with z | z
      · exact r1.dz a i e z
      · rw [(r3 a z).2.1] at e; cases e⟩
/-- the end of an operation: shared -/
theorem fin_sh {K : PySem.W.Frag} {Z Z1 : Addr → Prop} {own own1 : Addr → Option Nat} {H H1 H2 : Hp} {ρ1 : Sl} {σ : St} {d : D} {v : V} {S : Addr → Prop} {Q : VK} (rs : RS K τ Z1 own1 H1 ρ1 σ) (x : Ext q Z own H Z1 own1 H1) (g : Grow H1 H2) (r : RF K Z1 H2 d v S) (n : NewS H1 H2 S)
    (k : ∀ v Z' own' H' S, RS K τ Z' own' H' ρ1 σ → Rm K Z' own' H' .sh d v S → NewR H Z' own' H' S → Ext q Z own H Z' own' H' → Q v H') : Q v H2 :=
  k v _ own1 H2 (fun _ => False) (rs.grow g n) r.freeze (fun _ z => z.elim) (by have := x.trans (ExtF.grow (q := q) (Z := Z1) (own := own1) g n); rwa [Bool.and_self] at this)
/-- .. a new list of one's own -/
theorem fin_ol {K : PySem.W.Frag} {Z Z1 : Addr → Prop} {own own1 : Addr → Option Nat} {H H1 : Hp} {ρ1 : Sl} {σ : St} {l : List D} {vs : List V} {p : Addr} {Q : VK} (rs : RS K τ Z1 own1 H1 ρ1 σ) (x : Ext q Z own H Z1 own1 H1) (hp : H1 p = none) (rl : RShL K Z1 (upd H1 p (.lst vs)) l vs)
    (k : ∀ v Z' own' H' S, RS K τ Z' own' H' ρ1 σ → Rm K Z' own' H' (.ow (.ol .sh .sh)) (.lst l) v S → NewR H Z' own' H' S → Ext q Z own H Z' own' H' → Q v H') : Q (.ref p) (upd H1 p (.lst vs)) := by
  have g : Grow H1 (upd H1 p (.lst vs)) := Grow.new hp
  have nl : H p = none := Classical.byContradiction fun n => x.live p n hp
  refine k _ Z1 own1 _ (fun a => a = p) (rs.growO g) ?_ (fun a e => ?_) (by have := x.trans (ExtF.growO (q := q) (Z := Z1) (own := own1) g); rwa [Bool.and_self] at this)
  · refine ⟨l, p, vs, fun a => if a = p then Option.none else some 0, rfl, rfl, upd_same, rfl, by simp, rl.len, fun d v e1 e2 => ?_, fun k d v e1 e2 => ?_⟩
    · obtain ⟨w, a, b⟩ := rl.get e1
      rw [e2] at a; cases a; exact b
    · obtain ⟨w, a, b⟩ := rl.get e1
      rw [e2] at a; cases a; exact b
  · subst e
    refine ⟨nl, Classical.byContradiction fun n => ?_, fun z => rs.zt a z hp, _, upd_same, trivial⟩
    cases ho : own1 a with
    | none => exact n ho
    | some i => obtain ⟨ys, hy, _⟩ := rs.ls a i ho; rw [hp] at hy; cases hy
theorem e_1 {f : D → Option D} {op : UnaryOp} (ho : UnR X (unaryOp op) (rF1 X.K f)) (ha : PE X a (tE X.K τ q md ma)) (hm : Hand md := by trivial) : PE X (.UnaryOp op a pos) (tE X.K τ q .sh (m1 f ma)) :=
  (pe_un ho ha).mono fun σ H Q ⟨Z, own, ρ, d, ρ', rs, e, k⟩ => by
    obtain ⟨x, ρ1, e1, e⟩ := bind_ok e
    obtain ⟨e3, rfl⟩ := ofO_ok e
    exact ⟨Z, own, ρ, x, ρ', rs, e1, fun v Z1 own1 H1 S1 rs1 rm1 _ x1 => ⟨Z1, x, d, rm1.pk0 hm, e3, fun w H2 S g r n => fin_sh rs1 x1 g r n k⟩⟩
theorem two {f : D → D → Option D} (hm1 : Hand md1) (hm2 : Hand md2) (hq : md1 = .sh ∨ q2 = true) : ∀ σ H Q, tE X.K τ (q1 && q2) .sh (m2 f ma mb) σ H Q → tOp (rF2 X.K f) (tE X.K τ q1 md1 ma) (tE X.K τ q2 md2 mb) σ H Q := fun σ H Q ⟨Z, own, ρ, d, ρ', rs, e, k⟩ => by
  obtain ⟨x, ρ1, e1, e⟩ := bind_ok e
  obtain ⟨y, ρ2, e2, e⟩ := bind_ok e
  obtain ⟨e3, rfl⟩ := ofO_ok e
  exact ⟨Z, own, ρ, x, ρ1, rs, e1, fun v Z1 own1 H1 S1 rs1 rm1 _ x1 => ⟨Z1, own1, ρ1, y, ρ', rs1, e2, fun w Z2 own2 H2 S2 rs2 rm2 _ x2 =>
    ⟨Z2, x, y, d, rs1.pk0 x2 hm1 hq rm1, rm2.pk0 hm2, e3, fun u H3 S g r n => fin_sh rs2 (x1.trans x2) g r n k⟩⟩⟩
theorem e_2 {f : D → D → Option D} {op : Operator} (ho : OpR X (binaryOp op) (rF2 X.K f)) (ha : PE X a (tE X.K τ q1 md1 ma)) (hb : PE X b (tE X.K τ q2 md2 mb)) (hm1 : Hand md1 := by trivial) (hm2 : Hand md2 := by trivial) (hq : md1 = .sh ∨ q2 = true := by first | exact .inl rfl | exact .inr rfl) :
    PE X (.BinOp a op b pos) (tE X.K τ (q1 && q2) .sh (m2 f ma mb)) := (pe_op ho ha hb).mono (two hm1 hm2 hq)
theorem e_cmp {f : D → D → Option D} {op : CmpOp} (ho : OpR X (compareOp op) (rF2 X.K f)) (ha : PE X a (tE X.K τ q1 md1 ma)) (hb : PE X b (tE X.K τ q2 md2 mb)) (hm1 : Hand md1 := by trivial) (hm2 : Hand md2 := by trivial) (hq : md1 = .sh ∨ q2 = true := by first | exact .inl rfl | exact .inr rfl) (hm : behindInMarks op b = false := by first | exact nomark _ | rfl) :
    PE X (.Compare a [op] [b] pos) (tE X.K τ (q1 && q2) .sh (m2 f ma mb)) := (pe_cmpR ho ha hb hm).mono (two hm1 hm2 hq)
theorem e_ix {f : D → D → Option D} (hr : IxR X (rF2 X.K f)) (ha : PE X a (tE X.K τ q1 md1 ma)) (hb : PE X b (tE X.K τ q2 md2 mb)) (hm1 : Hand md1 := by trivial) (hm2 : Hand md2 := by trivial) (hq : md1 = .sh ∨ q2 = true := by first | exact .inl rfl | exact .inr rfl) (hs : PlainIx b := by exact fun _ _ => rfl) :
    PE X (.Subscript a b pos) (tE X.K τ (q1 && q2) .sh (m2 f ma mb)) := (pe_ix hr ha hb hs).mono (two hm1 hm2 hq)
theorem a_nil : PA X [] (tA X.K τ true mNil) := pa_nil.mono fun σ H Q ⟨Z, own, ρ, ds, ρ', rs, e, k⟩ => by
  have e := e
  unfold mNil at e
  cases e
  exact k [] Z own H rs rfl ExtF.refl
theorem a_cons (ha : PE X a (tE X.K τ q1 md1 ma)) (hr : PA X es (tA X.K τ q2 ms)) (hm1 : Hand md1 := by trivial) (hq : md1 = .sh ∨ q2 = true := by first | exact .inl rfl | exact .inr rfl) (hs : starEach (a :: es) X.env = (false, eval a X.env) :: starEach es X.env := by rfl) :
    PA X (a :: es) (tA X.K τ (q1 && q2) (mCons ma ms)) := (pa_cons ha hr hs).mono fun σ H Q ⟨Z, own, ρ, ds, ρ', rs, e, k⟩ => by
  obtain ⟨x, ρ1, e1, e⟩ := bind_ok e
  obtain ⟨xs, ρ2, e2, e⟩ := bind_ok e
  cases e
  exact ⟨Z, own, ρ, x, ρ1, rs, e1, fun v Z1 own1 H1 S1 rs1 rm1 _ x1 => ⟨Z1, own1, ρ1, xs, ρ', rs1, e2, fun ws Z2 own2 H2 rs2 rl x2 =>
    k (v :: ws) Z2 own2 H2 rs2 ⟨v, ws, rfl, rs1.pk0 x2 hm1 hq rm1, rl⟩ (x1.trans x2)⟩⟩
theorem as_nil : PA X [] (tAs X.K τ true mNil) := pa_nil.mono fun σ H Q ⟨Z, own, ρ, ds, ρ', rs, e, k⟩ => by
  have e := e
  unfold mNil at e
  cases e
  exact k [] Z own H rs (by simp only [RShL]) ExtF.refl
theorem as_cons (ha : PE X a (tE X.K τ q1 .sh ma)) (hr : PA X es (tAs X.K τ q2 ms)) (hs : starEach (a :: es) X.env = (false, eval a X.env) :: starEach es X.env := by rfl) :
    PA X (a :: es) (tAs X.K τ (q1 && q2) (mCons ma ms)) := (pa_cons ha hr hs).mono fun σ H Q ⟨Z, own, ρ, ds, ρ', rs, e, k⟩ => by
  obtain ⟨x, ρ1, e1, e⟩ := bind_ok e
  obtain ⟨xs, ρ2, e2, e⟩ := bind_ok e
  cases e
  exact ⟨Z, own, ρ, x, ρ1, rs, e1, fun v Z1 own1 H1 S1 rs1 rm1 _ x1 => ⟨Z1, own1, ρ1, xs, ρ', rs1, e2, fun ws Z2 own2 H2 rs2 rl x2 =>
    k (v :: ws) Z2 own2 H2 rs2 (by simp only [RShL]; exact ⟨v, ws, rfl, rs1.sh x2 rm1, rl⟩) (x1.trans x2)⟩⟩
theorem nary {f : List D → Option D} : ∀ σ H Q, tE X.K τ q .sh (mN f ms) σ H Q → tCB (rFn X.K f) (tA X.K τ q ms) σ H Q := fun σ H Q ⟨Z, own, ρ, d, ρ', rs, e, k⟩ => by
  obtain ⟨xs, ρ1, e1, e⟩ := bind_ok e
  obtain ⟨e3, rfl⟩ := ofO_ok e
  exact ⟨Z, own, ρ, xs, ρ', rs, e1, fun vs Z1 own1 H1 rs1 rl x1 => ⟨Z1, xs, d, rl, e3, fun u H3 S g r n => fin_sh rs1 x1 g r n k⟩⟩
theorem e_callB {f : List D → Option D} {x : Str} {id : String} {p : Pos} (hc : CallR X (.builtin id) (rFn X.K f)) (ha : PA X (e :: es) (tA X.K τ q ms)) (hg : Gl X x := by rfl) (hm : X.mg x = none := by assumption) (hv : bootBuiltins x = some (.builtin id) := by decide +kernel) (hn : x ≠ "__name__" := by decide) (hdb : (x == ("__debug__" : Str)) = false := by decide) (hst : starEach (e :: es) X.env = (false, eval e X.env) :: starEach es X.env := by rfl) (hpl : (backTo pos (starEach es X.env)).any (·.1) = false := by rfl) :
    PE X (.Call (.Name x p) (e :: es) [] pos) (tE X.K τ q .sh (mN f ms)) := (pe_callB hc hg hm hv ha hn hdb hst hpl).mono nary
theorem e_callTy {f : List D → Option D} {x : Str} {T : String} {p : Pos} (hc : CallR X (.type T) (rFn X.K f)) (ha : PA X (e :: es) (tA X.K τ q ms)) (hg : Gl X x := by rfl) (hm : X.mg x = none := by assumption) (hv : bootBuiltins x = some (.type T) := by decide +kernel) (hn : x ≠ "__name__" := by decide) (hdb : (x == ("__debug__" : Str)) = false := by decide) (hst : starEach (e :: es) X.env = (false, eval e X.env) :: starEach es X.env := by rfl) (hpl : (backTo pos (starEach es X.env)).any (·.1) = false := by rfl) :
    PE X (.Call (.Name x p) (e :: es) [] pos) (tE X.K τ q .sh (mN f ms)) := (pe_callTy hc hg hm hv ha hn hdb hst hpl).mono nary
theorem e_int {i : Int} {j : Nat} : PE X (.Constant (.int i) j pos) (tE X.K τ true .sh (mC (.int i))) := pe_int.mono fun σ H Q ⟨Z, own, ρ, d, ρ', rs, e, k⟩ => by
  unfold mC at e; cases e
  exact k _ Z own H (fun _ => False) rs (by simp only [Rm, R, RSh]) (fun _ z => z.elim) ExtF.refl
theorem e_bl {i : Bool} {j : Nat} : PE X (.Constant (.bool i) j pos) (tE X.K τ true .sh (mC (.bl i))) := pe_bl.mono fun σ H Q ⟨Z, own, ρ, d, ρ', rs, e, k⟩ => by
  unfold mC at e; cases e
  exact k _ Z own H (fun _ => False) rs (by simp only [Rm, R, RSh]) (fun _ z => z.elim) ExtF.refl
theorem e_str {i : Str} {j : Nat} : PE X (.Constant (.str i) j pos) (tE X.K τ true .sh (mC (.str i))) := pe_str.mono fun σ H Q ⟨Z, own, ρ, d, ρ', rs, e, k⟩ => by
  unfold mC at e; cases e
  exact k _ Z own H (fun _ => False) rs (by simp only [Rm, R, RSh]) (fun _ z => z.elim) ExtF.refl
theorem e_non {j : Nat} : PE X (.Constant .none j pos) (tE X.K τ true .sh (mC .non)) := pe_non.mono fun σ H Q ⟨Z, own, ρ, d, ρ', rs, e, k⟩ => by
  unfold mC at e; cases e
  exact k _ Z own H (fun _ => False) rs (by simp only [Rm, R, RSh]) (fun _ z => z.elim) ExtF.refl
omit [Tb] in
theorem mV_ok {i : Nat} {ρ ρ' : Sl} {d : D} (h : mV i ρ = .ok (d, ρ')) : ρ[i]? = some (some d) ∧ ρ' = ρ := by
  unfold mV at h
  split at h
  · rename_i e; cases h; exact ⟨e, rfl⟩
  · cases h
theorem e_v (i : Nat) {x : Str} (ht : τ i = .sh := by rfl) (hN : X.N[i]? = some x := by rfl) (hv : Vis X.env.scope x := by first | exact Or.inl rfl | exact Or.inr (Or.inl rfl) | exact Or.inr (Or.inr rfl)) (hd : (x == ("__debug__" : Str)) = false := by decide)
    (hcd : (x == ("__classdict__" : Str)) = false := by decide) : PE X (.Name x pos) (tE X.K τ true .sh (mV i)) := (pv i hN hv hd hcd).mono fun σ H Q ⟨Z, own, ρ, d, ρ', rs, e, k⟩ => by
  obtain ⟨e, rfl⟩ := mV_ok e
  obtain ⟨v, e1, e2⟩ := rs.sl i d e
  rw [ht] at e2
  exact ⟨v, e1, k v Z own H (fun _ => False) rs e2 (fun _ z => z.elim) ExtF.refl⟩
/-- a slot's own list, at hand -/
theorem e_vp (i : Nat) {x : Str} (ht : τ i = .ol .sh .sh := by rfl) (hN : X.N[i]? = some x := by rfl) (hv : Vis X.env.scope x := by first | exact Or.inl rfl | exact Or.inr (Or.inl rfl) | exact Or.inr (Or.inr rfl)) (hd : (x == ("__debug__" : Str)) = false := by decide)
    (hcd : (x == ("__classdict__" : Str)) = false := by decide) : PE X (.Name x pos) (tE X.K τ true .pk (mV i)) := (pv i hN hv hd hcd).mono fun σ H Q ⟨Z, own, ρ, d, ρ', rs, e, k⟩ => by
  obtain ⟨e, rfl⟩ := mV_ok e
  obtain ⟨v, e1, e2⟩ := rs.sl i d e
  rw [ht] at e2
  obtain ⟨l, a, xs, ow, e1', e2', e3, e4, e5, e6, e7, e8⟩ := e2
  exact ⟨v, e1, k v Z own H (fun _ => False) rs (.inr ⟨l, a, xs, e1', e2', e3, by rw [e4]; simp, .of_get e6 fun i d v p q => by
    cases i with
    | zero => exact e7 d v p q
    | succ n => exact e8 n d v p q⟩) (fun _ z => z.elim) ExtF.refl⟩
theorem szl {m n : Nat} (h : m ≤ 16777216) (e : m = n) : n ≤ sizeLine := by
  have : sizeLine = 16777216 := by decide
  omega
def bTup (l : List D) : Option D := if l.length ≤ 16777216 then some (.tup l) else none
def bLst (l : List D) : Option D := if l.length ≤ 16777216 then some (.lst l) else none
theorem e_tup {x1 : Nat} (h : PA X es (tAs X.K τ q ms)) : PE X (.Tuple es x1 pos) (tE X.K τ q .sh (mN bTup ms)) := (pe_tup h).mono fun σ H Q ⟨Z, own, ρ, d, ρ', rs, e, k⟩ => by
  obtain ⟨xs, ρ1, e1, e⟩ := bind_ok e
  obtain ⟨e3, rfl⟩ := ofO_ok e
  unfold bTup at e3
  split at e3
  · rename_i hl
    cases e3
    refine ⟨Z, own, ρ, xs, ρ', rs, e1, fun vs Z1 own1 H1 rs1 rl x1 => ⟨szl hl rl.len, fun p hp => ?_⟩⟩
    have g : Grow H1 (upd H1 p (.tup vs)) := Grow.new hp
    exact fin_sh rs1 x1 g (RF.tup (g.shL rl) (SqT.of upd_same)) NewS.none k
  · cases e3
theorem e_lstO (h : PA X es (tAs X.K τ q ms)) : PE X (.List es pos) (tE X.K τ q (.ow (.ol .sh .sh)) (mN bLst ms)) := (pe_lst h).mono fun σ H Q ⟨Z, own, ρ, d, ρ', rs, e, k⟩ => by
  obtain ⟨xs, ρ1, e1, e⟩ := bind_ok e
  obtain ⟨e3, rfl⟩ := ofO_ok e
  unfold bLst at e3
  split at e3
  · rename_i hl
    cases e3
    refine ⟨Z, own, ρ, xs, ρ', rs, e1, fun vs Z1 own1 H1 rs1 rl x1 => ⟨szl hl rl.len, fun p hp => ?_⟩⟩
    have g : Grow H1 (upd H1 p (.lst vs)) := Grow.new hp
    exact fin_ol rs1 x1 hp (g.shL rl) k
  · cases e3
end
end CL
namespace CL
open PySem PySem.Spec L2
set_option autoImplicit false
def tT [Tb] (K : PySem.W.Frag) (τ : Nat → OT) (q : Bool) (m : M D) : TT := fun σ H Q => ∃ Z own ρ b ρ', RS K τ Z own H ρ σ ∧ m ρ = .ok (.bl b, ρ') ∧
  ∀ Z' own' H', RS K τ Z' own' H' ρ' σ → Ext q Z own H Z' own' H' → Q b H'
def mAnd (a b : M D) : M D := bind a fun x => match x with | .bl true => b | .bl false => mC (.bl false) | _ => fun _ => .bad
def mOr (a b : M D) : M D := bind a fun x => match x with | .bl true => mC (.bl true) | .bl false => b | _ => fun _ => .bad
def bNot : D → Option D
  | .bl b => some (.bl (!b))
  | _ => none
def mChain (f g : D → D → Option D) (a b c : M D) : M D := bind a fun x => bind b fun y => bind (ofO (f x y)) fun z => match z with
  | .bl true => bind c fun w => ofO (g y w) | .bl false => mC (.bl false) | _ => fun _ => .bad
theorem Pk0.bl {K : PySem.W.Frag} {Z : Addr → Prop} {H : Hp} {b : Bool} {v : V} (h : Pk0 K Z H (.bl b) v) : v = .bl b := by
  rcases h with h | ⟨l, a, xs, e, _⟩
  · simpa only [RSh] using h
  · cases e
theorem Rm.bl {K : PySem.W.Frag} {Z : Addr → Prop} {own : Addr → Option Nat} {H : Hp} {S : Addr → Prop} {b : Bool} {v : V} (h : Rm K Z own H .sh (.bl b) v S) : v = .bl b := by simpa only [Rm, R, RSh] using h
section
variable [Tb] {X : Cx} {τ : Nat → OT} {q q1 q2 q3 : Bool} {md md1 md2 : Md} {a b c e : Expr} {es : List Expr} {ma mb mc : M D} {ms : M (List D)} {pos : Pos}
theorem tT_of : ∀ σ H Q, tT X.K τ q ma σ H Q → tTest (tE X.K τ q .sh ma) σ H Q := fun σ H Q ⟨Z, own, ρ, d, ρ', rs, e, k⟩ =>
  ⟨Z, own, ρ, .bl d, ρ', rs, e, fun v Z1 own1 H1 S1 rs1 rm1 _ x1 => ⟨d, rm1.bl, k Z1 own1 H1 rs1 x1⟩⟩
theorem t_val (h : PE X e (tE X.K τ q .sh ma)) (he : ∀ whole, isTrue e X.env whole = (do let v ← whole; standAt e.pos; holding [v] (truthy v)) := by intro _; rfl) : PT X e (tT X.K τ q ma) := (pt_val h he).mono tT_of
theorem t_cmp {f : D → D → Option D} {op : CmpOp} (ho : OpR X (compareOp op) (rF2 X.K f)) (ha : PE X a (tE X.K τ q1 md1 ma)) (hb : PE X b (tE X.K τ q2 md2 mb)) (hm1 : Hand md1 := by trivial) (hm2 : Hand md2 := by trivial) (hq : md1 = .sh ∨ q2 = true := by first | exact .inl rfl | exact .inr rfl) (hm : behindInMarks op b = false := by first | exact nomark _ | rfl) :
    PT X (.Compare a [op] [b] pos) (tT X.K τ (q1 && q2) (m2 f ma mb)) := (pt_cmpR ho ha hb hm).mono fun σ H Q h => two hm1 hm2 hq σ H _ (tT_of σ H Q h)
theorem t_not (ha : PT X a (tT X.K τ q ma)) : PT X (.UnaryOp .Not a pos) (tT X.K τ q (m1 bNot ma)) := (pt_not ha).mono fun σ H Q ⟨Z, own, ρ, d, ρ', rs, e, k⟩ => by
  obtain ⟨x, ρ1, e1, e⟩ := bind_ok e
  obtain ⟨e3, rfl⟩ := ofO_ok e
  cases x with
  | bl c =>
    cases e3
    exact ⟨Z, own, ρ, c, ρ', rs, e1, k⟩
  | _ => cases e3
theorem ExtF.trans' [Tb] {fx : Nat → Bool} {Z Z1 Z2 : Addr → Prop} {own own1 own2 : Addr → Option Nat} {H H1 H2 : Hp} {q q1 q2 : Bool} (hq : q = true → q1 = true ∧ q2 = true) (a : ExtF fx q1 Z own H Z1 own1 H1) (b : ExtF fx q2 Z1 own1 H1 Z2 own2 H2) : ExtF fx q Z own H Z2 own2 H2 := by
  have x := a.trans b
  exact ⟨x.z, x.zn, x.on, fun c o e h _ => x.keep c o e (h.elim .inl fun z => .inr (by have := hq z; simp [this.1, this.2])), x.live, x.tk⟩
theorem ExtF.of [Tb] {fx : Nat → Bool} {Z Z1 : Addr → Prop} {own own1 : Addr → Option Nat} {H H1 : Hp} {q q1 : Bool} (hq : q = true → q1 = true) (a : ExtF fx q1 Z own H Z1 own1 H1) : ExtF fx q Z own H Z1 own1 H1 :=
  ⟨a.z, a.zn, a.on, fun c o e h _ => a.keep c o e (h.elim .inl fun z => .inr (hq z)), a.live, a.tk⟩
theorem and1 {a b : Bool} (h : (a && b) = true) : a = true := by cases a <;> simp_all
theorem and2 {a b : Bool} (h : (a && b) = true) : a = true ∧ b = true := by cases a <;> simp_all
theorem tAnd_of : ∀ σ H Q, tT X.K τ (q1 && q2) (mAnd ma mb) σ H Q → tAnd (tT X.K τ q1 ma) (tT X.K τ q2 mb) σ H Q := fun σ H Q ⟨Z, own, ρ, d, ρ', rs, e, k⟩ => by
  obtain ⟨x, ρ1, e1, e⟩ := bind_ok e
  match x, e1, e with
  | .bl true, e1, e => exact ⟨Z, own, ρ, true, ρ1, rs, e1, fun Z1 own1 H1 rs1 x1 => iteT ⟨Z1, own1, ρ1, d, ρ', rs1, e, fun Z2 own2 H2 rs2 x2 => k Z2 own2 H2 rs2 (x1.trans x2)⟩⟩
  | .bl false, e1, e =>
    unfold mC at e; cases e
    exact ⟨Z, own, ρ, false, _, rs, e1, fun Z1 own1 H1 rs1 x1 => iteF (k Z1 own1 H1 rs1 (x1.of and1))⟩
theorem tOr_of : ∀ σ H Q, tT X.K τ (q1 && q2) (mOr ma mb) σ H Q → tOr (tT X.K τ q1 ma) (tT X.K τ q2 mb) σ H Q := fun σ H Q ⟨Z, own, ρ, d, ρ', rs, e, k⟩ => by
  obtain ⟨x, ρ1, e1, e⟩ := bind_ok e
  match x, e1, e with
  | .bl false, e1, e => exact ⟨Z, own, ρ, false, ρ1, rs, e1, fun Z1 own1 H1 rs1 x1 => iteF ⟨Z1, own1, ρ1, d, ρ', rs1, e, fun Z2 own2 H2 rs2 x2 => k Z2 own2 H2 rs2 (x1.trans x2)⟩⟩
  | .bl true, e1, e =>
    unfold mC at e; cases e
    exact ⟨Z, own, ρ, true, _, rs, e1, fun Z1 own1 H1 rs1 x1 => iteT (k Z1 own1 H1 rs1 (x1.of and1))⟩
theorem _root_.L2.PW.mono {X : Cx} {e : Expr} {t t' : TT} (h : PW X e t) (f : ∀ σ H Q, t' σ H Q → t σ H Q) : PW X e t' := ⟨fun w pins s σ H Q I hw => h.run w pins s σ H Q I (f σ H Q hw)⟩
theorem w_and1 (ha : PT X a (tT X.K τ q ma)) : PW X (.BoolOp .And [a] pos) (tT X.K τ q ma) := pw_and1 ha
theorem w_or1 (ha : PT X a (tT X.K τ q ma)) : PW X (.BoolOp .Or [a] pos) (tT X.K τ q ma) := pw_or1 ha
theorem w_and (ha : PT X a (tT X.K τ q1 ma)) (hb : PW X (.BoolOp .And (b :: es) pos) (tT X.K τ q2 mb)) : PW X (.BoolOp .And (a :: b :: es) pos) (tT X.K τ (q1 && q2) (mAnd ma mb)) := (pw_and ha hb).mono tAnd_of
theorem w_or (ha : PT X a (tT X.K τ q1 ma)) (hb : PW X (.BoolOp .Or (b :: es) pos) (tT X.K τ q2 mb)) : PW X (.BoolOp .Or (a :: b :: es) pos) (tT X.K τ (q1 && q2) (mOr ma mb)) := (pw_or ha hb).mono tOr_of
theorem e_one {op : BoolOp} (h : PE X a (tE X.K τ q md ma)) : PE X (.BoolOp op [a] pos) (tE X.K τ q md ma) := pe_one h
theorem e_and (ha : PE X a (tE X.K τ q1 .sh ma)) (hb : PE X (.BoolOp .And (b :: es) pos) (tE X.K τ q2 .sh mb)) : PE X (.BoolOp .And (a :: b :: es) pos) (tE X.K τ (q1 && q2) .sh (mAnd ma mb)) := (pe_and ha hb).mono fun σ H Q ⟨Z, own, ρ, d, ρ', rs, e, k⟩ => by
  obtain ⟨x, ρ1, e1, e⟩ := bind_ok e
  match x, e1, e with
  | .bl true, e1, e => exact ⟨Z, own, ρ, _, ρ1, rs, e1, fun v Z1 own1 H1 S1 rs1 rm1 _ x1 => ⟨true, rm1.bl, iteT ⟨Z1, own1, ρ1, d, ρ', rs1, e, fun v Z2 own2 H2 S2 rs2 rm2 n2 x2 => k v Z2 own2 H2 S2 rs2 rm2 (fun a z => ⟨Classical.byContradiction fun n => x1.live a n (n2 a z).1, (n2 a z).2⟩) (x1.trans x2)⟩⟩⟩
  | .bl false, e1, e =>
    unfold mC at e; cases e
    exact ⟨Z, own, ρ, _, _, rs, e1, fun v Z1 own1 H1 S1 rs1 rm1 n1 x1 => ⟨false, rm1.bl, iteF (k _ Z1 own1 H1 S1 rs1 (by simp only [Rm, R, RSh]) n1 (x1.of and1))⟩⟩
theorem e_or (ha : PE X a (tE X.K τ q1 .sh ma)) (hb : PE X (.BoolOp .Or (b :: es) pos) (tE X.K τ q2 .sh mb)) : PE X (.BoolOp .Or (a :: b :: es) pos) (tE X.K τ (q1 && q2) .sh (mOr ma mb)) := (pe_or ha hb).mono fun σ H Q ⟨Z, own, ρ, d, ρ', rs, e, k⟩ => by
  obtain ⟨x, ρ1, e1, e⟩ := bind_ok e
  match x, e1, e with
  | .bl false, e1, e => exact ⟨Z, own, ρ, _, ρ1, rs, e1, fun v Z1 own1 H1 S1 rs1 rm1 _ x1 => ⟨false, rm1.bl, iteF ⟨Z1, own1, ρ1, d, ρ', rs1, e, fun v Z2 own2 H2 S2 rs2 rm2 n2 x2 => k v Z2 own2 H2 S2 rs2 rm2 (fun a z => ⟨Classical.byContradiction fun n => x1.live a n (n2 a z).1, (n2 a z).2⟩) (x1.trans x2)⟩⟩⟩
  | .bl true, e1, e =>
    unfold mC at e; cases e
    exact ⟨Z, own, ρ, _, _, rs, e1, fun v Z1 own1 H1 S1 rs1 rm1 n1 x1 => ⟨true, rm1.bl, iteT (k _ Z1 own1 H1 S1 rs1 (by simp only [Rm, R, RSh]) n1 (x1.of and1))⟩⟩
theorem chain_of {f g : D → D → Option D} : ∀ σ H Q, tE X.K τ (q1 && (q2 && q3)) .sh (mChain f g ma mb mc) σ H Q → tChain (rF2 X.K f) (rF2 X.K g) (tE X.K τ q1 .sh ma) (tE X.K τ q2 .sh mb) (tE X.K τ q3 .sh mc) σ H Q := fun σ H Q h => by
  obtain ⟨Z, own, ρ, d, ρ', rs, e, k⟩ := h
  obtain ⟨x, ρ1, e1, e⟩ := bind_ok e
  obtain ⟨y, ρ2, e2, e⟩ := bind_ok e
  obtain ⟨z, ρ3, e0, e⟩ := bind_ok e
  obtain ⟨e3, rfl⟩ := ofO_ok e0
  unfold tChain
  refine ⟨Z, own, ρ, x, ρ1, rs, e1, ?_⟩
  intro v Z1 own1 H1 S1 rs1 rm1 _ x1
  refine ⟨Z1, own1, ρ1, y, ρ3, rs1, e2, ?_⟩
  intro w Z2 own2 H2 S2 rs2 rm2 _ x2
  refine ⟨Z2, x, y, z, .inl (rs1.sh x2 rm1), .inl rm2, e3, ?_⟩
  intro u H3 S g3 r n3
  have rs3 := rs2.grow g3 n3
  have x3 : Ext true Z2 own2 H2 (fun a => Z2 a ∨ S a) own2 H3 := ExtF.grow g3 n3
  have x13 : Ext (q1 && (q2 && q3)) Z own H (fun a => Z2 a ∨ S a) own2 H3 := (x1.trans' (q := q1 && (q2 && q3)) (fun z => ⟨and1 z, and1 (and2 z).2⟩) x2).trans' (fun z => ⟨z, rfl⟩) x3
  cases z with
  | bl c =>
    have ru : u = .bl c := by have := r.freeze; simpa only [RSh] using this
    refine ⟨c, ru, ?_⟩
    cases c with
    | true =>
      obtain ⟨w3, ρ4, e4, e⟩ := bind_ok e
      obtain ⟨e5, rfl⟩ := ofO_ok e
      rw [if_pos rfl]
      refine ⟨_, own2, ρ3, w3, ρ', rs3, e4, ?_⟩
      intro v4 Z4 own4 H4 S4 rs4 rm4 _ x4
      refine ⟨Z4, y, w3, d, .inl (rs3.sh x4 (rs2.sh x3 rm2)), .inl rm4, e5, ?_⟩
      intro u H5 S5 g5 r5 n5
      exact fin_sh rs4 (x13.trans' (fun z => ⟨z, (and2 (and2 z).2).2⟩) x4) g5 r5 n5 k
    | false =>
      cases e
      rw [if_neg Bool.false_ne_true]
      exact k _ _ own2 H3 (fun _ => False) rs3 (by simp only [Rm, R, RSh]) (fun _ z => z.elim) x13
  | _ => cases e
theorem e_chain {f g : D → D → Option D} {op op' : CmpOp} (ho : OpR X (compareOp op) (rF2 X.K f)) (ho' : OpR X (compareOp op') (rF2 X.K g)) (ha : PE X a (tE X.K τ q1 .sh ma)) (hb : PE X b (tE X.K τ q2 .sh mb)) (hc : PE X c (tE X.K τ q3 .sh mc))
    (h1 : lastMarks [op, op'] [b, c] = false := by with_unfolding_all rfl) : PE X (.Compare a [op, op'] [b, c] pos) (tE X.K τ (q1 && (q2 && q3)) .sh (mChain f g ma mb mc)) := (pe_chain ho ho' ha hb hc h1).mono chain_of
theorem t_chain {f g : D → D → Option D} {op op' : CmpOp} (ho : OpR X (compareOp op) (rF2 X.K f)) (ho' : OpR X (compareOp op') (rF2 X.K g)) (ha : PE X a (tE X.K τ q1 .sh ma)) (hb : PE X b (tE X.K τ q2 .sh mb)) (hc : PE X c (tE X.K τ q3 .sh mc))
    (h1 : lastMarks [op, op'] [b, c] = false := by with_unfolding_all rfl) : PT X (.Compare a [op, op'] [b, c] pos) (tT X.K τ (q1 && (q2 && q3)) (mChain f g ma mb mc)) := (pt_chain ho ho' ha hb hc h1).mono fun σ H Q h => chain_of σ H _ (tT_of σ H Q h)
end
inductive Fl where
  | nx | ret (d : D) | brk | cnt
abbrev MS := M Fl
def Fix (fx : Nat → Bool) (σ σ' : St) : Prop := σ'.length = σ.length ∧ ∀ k, fx k = true → σ'[k]? = σ[k]?
theorem Fix.refl {fx : Nat → Bool} {σ : St} : Fix fx σ σ := ⟨rfl, fun _ _ => rfl⟩
theorem Fix.trans {fx : Nat → Bool} {σ σ1 σ2 : St} (a : Fix fx σ σ1) (b : Fix fx σ1 σ2) : Fix fx σ σ2 := ⟨b.1.trans a.1, fun k h => (b.2 k h).trans (a.2 k h)⟩
structure Fr where
  τ : Nat → OT
  fx : Nat → Bool
  rt : OT
/-- what is handed back: new, or given up by a slot -/
def GivR (fx : Nat → Bool) (own : Addr → Option Nat) (H : Hp) (Z' : Addr → Prop) (own' : Addr → Option Nat) (H' : Hp) (S : Addr → Prop) : Prop :=
  ∀ a, S a → (H a = none ∨ ∃ i, own a = some i ∧ fx i = false) ∧ own' a = none ∧ ¬ Z' a ∧ ∃ o, H' a = some o ∧ Mut o
def Out [Tb] (K : PySem.W.Frag) (F : Fr) (Z : Addr → Prop) (own : Addr → Option Nat) (H : Hp) (σ : St) (ρ' : Sl) (E : Ends) : Fl → Prop
  | .nx => ∀ σ' Z' own' H', RS K F.τ Z' own' H' ρ' σ' → Fix F.fx σ σ' → ExtF F.fx false Z own H Z' own' H' → E.nx σ' H'
  | .brk => ∀ σ' Z' own' H', RS K F.τ Z' own' H' ρ' σ' → Fix F.fx σ σ' → ExtF F.fx false Z own H Z' own' H' → E.bk σ' H'
  | .cnt => ∀ σ' Z' own' H', RS K F.τ Z' own' H' ρ' σ' → Fix F.fx σ σ' → ExtF F.fx false Z own H Z' own' H' → E.ct σ' H'
  | .ret d => ∀ v σ' Z' own' H' S, RS K F.τ Z' own' H' ρ' σ' → Fix F.fx σ σ' → R K Z' H' F.rt d v S → GivR F.fx own H Z' own' H' S → ExtF F.fx false Z own H Z' own' H' → E.rt v H'
def tS [Tb] (K : PySem.W.Frag) (F : Fr) (m : MS) : TS := fun E σ H => ∃ Z own ρ f ρ', RS K F.τ Z own H ρ σ ∧ m ρ = .ok (f, ρ') ∧ Out K F Z own H σ ρ' E f
def sK (f : Fl) : MS := fun ρ => .ok (f, ρ)
def sSeq (a b : MS) : MS := bind a fun f => match f with | .nx => b | f => sK f
def sIf (c : M D) (a b : MS) : MS := bind c fun x => match x with | .bl true => a | .bl false => b | _ => fun _ => .bad
def sRet (e : M D) : MS := bind e fun d => sK (.ret d)
def sExp (e : M D) : MS := bind e fun _ => sK .nx
abbrev Pt := D → Sl → Option Sl
def pN (i : Nat) : Pt := fun d ρ => some (ρ.set i (some d))
abbrev Pts := List D → Sl → Option Sl
def psN : Pts := fun l ρ => match l with | [] => some ρ | _ => none
def psC (p : Pt) (r : Pts) : Pts := fun l ρ => match l with | d :: ds => (p d ρ).bind (r ds) | [] => none
def pT (n : Nat) (ps : Pts) : Pt := fun d ρ => match d with | .tup l => if l.length = n then ps l ρ else none | .lst l => if l.length = n then ps l ρ else none | _ => none
def sAsg (p : Pt) (e : M D) : MS := bind e fun d => fun ρ => match p d ρ with | some ρ' => .ok (.nx, ρ') | none => .bad
def sPar (i j : Nat) (es : M (List D)) : MS := bind es fun vs => fun ρ => match vs with | [v, w] => .ok (.nx, (ρ.set i (some v)).set j (some w)) | _ => .bad
section
variable [Tb] {K : PySem.W.Frag} {τ : Nat → OT} {Z Z1 Z2 : Addr → Prop} {own own1 own2 : Addr → Option Nat} {H H1 H2 : Hp} {ρ : Sl} {σ : St} {S : Addr → Prop}
theorem NewR.giv {fx : Nat → Bool} (n : NewR H Z2 own2 H2 S) : GivR fx own H Z2 own2 H2 S := fun a z => ⟨.inl (n a z).1, (n a z).2⟩
theorem GivR.back {fx : Nat → Bool} {q : Bool} (x : ExtF fx q Z own H Z1 own1 H1) (n : GivR fx own1 H1 Z2 own2 H2 S) : GivR fx own H Z2 own2 H2 S := fun a z => by
  refine ⟨?_, (n a z).2⟩
  rcases (n a z).1 with h | ⟨i, h, hf⟩
  · exact .inl (x.back h)
  · exact (x.on a i h).elim (fun z => .inr ⟨i, z, hf⟩) .inl
theorem Out.back {F : Fr} {σ1 : St} {ρ' : Sl} {E : Ends} {q : Bool} (x : ExtF F.fx q Z own H Z1 own1 H1) (fx : Fix F.fx σ σ1) {f : Fl} (o : Out K F Z own H σ ρ' E f) : Out K F Z1 own1 H1 σ1 ρ' E f := by
  cases f with
  | nx => exact fun σ' Z' own' H' r1 r2 r3 => o σ' Z' own' H' r1 (fx.trans r2) (x.transF r3)
  | brk => exact fun σ' Z' own' H' r1 r2 r3 => o σ' Z' own' H' r1 (fx.trans r2) (x.transF r3)
  | cnt => exact fun σ' Z' own' H' r1 r2 r3 => o σ' Z' own' H' r1 (fx.trans r2) (x.transF r3)
  | ret d => exact fun v σ' Z' own' H' S r1 r2 r3 r4 r5 => o v σ' Z' own' H' S r1 (fx.trans r2) r3 (r4.back x) (x.transF r5)
/-- a slot's shared value -/
theorem RS.set (h : RS K τ Z own H ρ σ) {i : Nat} {d : D} {v : V} (ht : τ i = .sh) (r : RSh K Z H d v) : RS K τ Z own H (ρ.set i (some d)) (σ.set i (some v)) where
  sl := fun j d' e => by
    by_cases hij : i = j
    · subst hij
      rw [List.getElem?_set] at e
      split at e
      · split at e
        · rename_i hl
          cases e
          refine ⟨v, ?_, by rw [ht]; exact r⟩
          rw [List.getElem?_set]
          have := h.len
          simp; omega
        · cases e
      · rename_i n; exact absurd rfl n
    · rw [List.getElem?_set_ne hij] at e
      obtain ⟨w, e1, e2⟩ := h.sl j d' e
      exact ⟨w, by rw [List.getElem?_set_ne hij]; exact e1, e2⟩
  ls := h.ls
  dz := h.dz
  zt := h.zt
  len := by simpa using h.len
  tb := h.tb
/-- a slot's own new list -/
theorem RS.setO (h : RS K τ Z own H ρ σ) {i : Nat} {d : D} {v : V} {t1 : OT} (ht : τ i = t1) (r : R K Z H t1 d v S) (hS : ∀ a, S a → own a = none ∧ ¬ Z a ∧ ∃ o, H a = some o ∧ Mut o) :
    ∃ own', RS K τ Z own' H (ρ.set i (some d)) (σ.set i (some v)) ∧ ∀ a j, own' a = some j → own a = some j ∨ S a := by
  classical
  refine ⟨fun a => if S a then some i else if own a = some i then none else own a, ⟨fun j d' e => ?_, fun a j e => ?_, fun a j e => ?_, h.zt, by simpa using h.len, h.tb⟩, fun a j e => ?_⟩
  · by_cases hij : i = j
    · subst hij
      rw [List.getElem?_set] at e
      split at e
      · split at e
        · rename_i hl
          cases e
          refine ⟨v, ?_, by rw [ht]; exact R.mono r fun a s => if_pos s⟩
          rw [List.getElem?_set]
          have := h.len
          simp; omega
        · cases e
      · rename_i n; exact absurd rfl n
    · rw [List.getElem?_set_ne hij] at e
      obtain ⟨w, e1, e2⟩ := h.sl j d' e
      refine ⟨w, by rw [List.getElem?_set_ne hij]; exact e1, R.mono e2 fun a ha => ?_⟩
      have n1 : ¬ S a := fun s => by rw [(hS a s).1] at ha; cases ha
      have n2 : ¬ own a = some i := fun z => by rw [ha] at z; cases z; exact hij rfl
      show (if S a then some i else if own a = some i then none else own a) = some j
      rw [if_neg n1, if_neg n2]; exact ha
  · by_cases s : S a
    · exact (hS a s).2.2
    · rw [if_neg s] at e
      split at e
      · cases e
      · exact h.ls a j e
  · by_cases s : S a
    · exact (hS a s).2.1
    · rw [if_neg s] at e
      split at e
      · cases e
      · exact h.dz a j e
  · by_cases s : S a
    · exact .inr s
    · dsimp only at e
      rw [if_neg s] at e
      split at e
      · cases e
      · exact .inl e
end
/-- a target -/
def tG [Tb] (K : PySem.W.Frag) (τ : Nat → OT) (fx : Nat → Bool) (p : Pt) : TG := fun v σ H Q => ∃ Z own ρ d ρ', RS K τ Z own H ρ σ ∧ RSh K Z H d v ∧ p d ρ = some ρ' ∧ ∀ σ', RS K τ Z own H ρ' σ' → Fix fx σ σ' → Q σ' H
def tGs [Tb] (K : PySem.W.Frag) (τ : Nat → OT) (fx : Nat → Bool) (p : Pts) : TGs := fun vs σ H Q => ∃ Z own ρ ds ρ', RS K τ Z own H ρ σ ∧ RShL K Z H ds vs ∧ p ds ρ = some ρ' ∧ ∀ σ', RS K τ Z own H ρ' σ' → Fix fx σ σ' → Q σ' H
theorem _root_.L2.PG.mono {X : Cx} {tg : Expr} {t t' : TG} (h : PG X tg t) (f : ∀ v σ H Q, t' v σ H Q → t v σ H Q) : PG X tg t' := ⟨fun pins s σ H v u Q I r hw => h.run pins s σ H v u Q I r (f v σ H Q hw)⟩
theorem _root_.L2.PGs.mono {X : Cx} {tg : List Expr} {t t' : TGs} (h : PGs X tg t) (f : ∀ v σ H Q, t' v σ H Q → t v σ H Q) : PGs X tg t' := ⟨fun pins s σ H v u Q I r hw => h.run pins s σ H v u Q I r (f v σ H Q hw)⟩
theorem Fix.set {fx : Nat → Bool} {σ : St} {i : Nat} {v : Option V} (h : fx i = false) : Fix fx σ (σ.set i v) := ⟨by simp, fun k hk => by
  rw [List.getElem?_set_ne]
  rintro rfl
  rw [h] at hk; cases hk⟩
section
variable [Tb] {X : Cx} {τ : Nat → OT} {fx : Nat → Bool} {tg e : Expr} {tgs : List Expr} {pos : Pos} {p : Pt} {ps : Pts}
theorem g_n (i : Nat) {x : Str} (hN : X.N.Nodup) (ht : τ i = .sh := by rfl) (hfx : fx i = false := by rfl) (hi : X.N[i]? = some x := by rfl) (hx : Loc X.env.scope x := by first | exact Or.inl rfl | exact Or.inr rfl) (hf : X.fn x = true ∨ X.env.scope.names.lookup x = some .local := by first | exact .inl rfl | exact .inr rfl | assumption) :
    PG X (.Name x pos) (tG X.K τ fx (pN i)) := (pg_name hN hi hx hf).mono fun v σ H Q ⟨Z, own, ρ, d, ρ', rs, r, e, k⟩ => by
  unfold pN at e; cases e
  exact k _ (rs.set ht r) (.set hfx)
theorem gs_nil : PGs X [] (tGs X.K τ fx psN) := pgs_nil.mono fun vs σ H Q ⟨Z, own, ρ, ds, ρ', rs, r, e, k⟩ => by
  cases ds with
  | nil => simp only [RShL] at r; unfold psN at e; cases e; exact ⟨r, k σ rs Fix.refl⟩
  | cons _ _ => unfold psN at e; cases e
theorem tGs_cons : ∀ v σ H Q, tGs X.K τ fx (psC p ps) v σ H Q → gCons (tG X.K τ fx p) (tGs X.K τ fx ps) v σ H Q := fun vs σ H Q ⟨Z, own, ρ, ds, ρ', rs, r, e, k⟩ => by
  cases ds with
  | nil => unfold psC at e; cases e
  | cons d ds =>
    simp only [RShL] at r
    obtain ⟨w, ws, rfl, r1, r2⟩ := r
    have e : (p d ρ).bind (ps ds) = some ρ' := e
    obtain ⟨ρ1, e1, e2⟩ := Option.bind_eq_some_iff.mp e
    exact ⟨w, ws, rfl, Z, own, ρ, d, ρ1, rs, r1, e1, fun σ1 rs1 f1 => ⟨Z, own, ρ1, ds, ρ', rs1, r2, e2, fun σ2 rs2 f2 => k σ2 rs2 (f1.trans f2)⟩⟩
end
end CL
namespace CL
open PySem PySem.Spec L2
set_option autoImplicit false
section
variable [Tb] {X : Cx} {F : Fr} {q q1 q2 q3 : Bool} {md md1 md2 : Md} {a b c e tg : Expr} {es tgs : List Expr} {ma mb mc : M D} {ms : M (List D)} {pos : Pos} {st : Stmt} {sts sts2 : List Stmt} {sa sb : MS} {p : Pt} {ps : Pts} {τ : Nat → OT} {fx : Nat → Bool}
theorem gs_cons (h1 : PG X e (tG X.K τ fx p)) (h2 : PGs X es (tGs X.K τ fx ps)) (hs : (assignEach (e :: es) X.env).map (·.2) = assign e X.env :: (assignEach es X.env).map (·.2) := by rfl) : PGs X (e :: es) (tGs X.K τ fx (psC p ps)) := (pgs_cons h1 h2 hs).mono tGs_cons
theorem g_t {n k : Nat} (h : PGs X es (tGs X.K τ fx ps)) (hc : X.calm = true := by rfl) (hn : (assignEach es X.env).length = n := by rfl) (hst : (assignEach es X.env).findIdx? (·.1) = none := by rfl) : PG X (.Tuple es k pos) (tG X.K τ fx (pT n ps)) := by
  refine ⟨fun pins s σ H v u Q I rv ⟨Z, own, ρ, d, ρ', rs, r, e, k⟩ => ?_⟩
  cases d with
  | tup l =>
    have e : (if l.length = n then ps l ρ else none) = some ρ' := e
    split at e
    · rename_i hl
      simp only [RSh] at r
      obtain ⟨a, xs, rfl, s1, rl⟩ := r
      exact (pg_tup hc h hn hst).run pins s σ H _ u Q I rv ⟨a, xs, rfl, s1, by rw [← rl.len]; exact hl, Z, own, ρ, l, ρ', rs, rl, e, k⟩
    · cases e
  | lst l =>
    have e : (if l.length = n then ps l ρ else none) = some ρ' := e
    split at e
    · rename_i hl
      simp only [RSh] at r
      obtain ⟨a, xs, rfl, z, s1, rl⟩ := r
      exact (pg_unl hc h hn hst).run pins s σ H _ u Q I rv ⟨a, xs, rfl, SqL.of s1, by rw [← rl.len]; exact hl, Z, own, ρ, l, ρ', rs, rl, e, k⟩
    · cases e
  | _ => cases e
theorem ss_nil : PSs X [] (tS X.K F (sK .nx)) := pss_nil.mono fun E σ H ⟨Z, own, ρ, f, ρ', rs, e, o⟩ => by
  unfold sK at e; cases e
  exact o σ Z own H rs Fix.refl ExtF.refl
theorem ss_one (h : PS X st (tS X.K F sa)) : PSs X [st] (tS X.K F sa) := pss_one h
theorem ss_cons (h : PS X st (tS X.K F sa)) (hr : PSs X sts (tS X.K F sb)) : PSs X (st :: sts) (tS X.K F (sSeq sa sb)) := (pss_cons h hr).mono fun E σ H ⟨Z, own, ρ, f, ρ', rs, e, o⟩ => by
  obtain ⟨f1, ρ1, e1, e⟩ := bind_ok e
  cases f1 with
  | nx => exact ⟨Z, own, ρ, .nx, ρ1, rs, e1, fun σ1 Z1 own1 H1 rs1 f1 x1 => ⟨Z1, own1, ρ1, f, ρ', rs1, e, o.back x1 f1⟩⟩
  | ret d => cases e; exact ⟨Z, own, ρ, _, _, rs, e1, o⟩
  | brk => cases e; exact ⟨Z, own, ρ, _, _, rs, e1, o⟩
  | cnt => cases e; exact ⟨Z, own, ρ, _, _, rs, e1, o⟩
theorem s_if (hc : PT X c (tT X.K F.τ q mc)) (ha : PSs X sts (tS X.K F sa)) (hb : PSs X sts2 (tS X.K F sb)) : PS X (.If c sts sts2 pos) (tS X.K F (sIf mc sa sb)) := (ps_if hc ha hb).mono fun E σ H ⟨Z, own, ρ, f, ρ', rs, e, o⟩ => by
  obtain ⟨x, ρ1, e1, e⟩ := bind_ok e
  cases x with
  | bl b =>
    cases b with
    | true => exact ⟨Z, own, ρ, true, ρ1, rs, e1, fun Z1 own1 H1 rs1 x1 => iteT ⟨Z1, own1, ρ1, f, ρ', rs1, e, o.back x1.any Fix.refl⟩⟩
    | false => exact ⟨Z, own, ρ, false, ρ1, rs, e1, fun Z1 own1 H1 rs1 x1 => iteF ⟨Z1, own1, ρ1, f, ρ', rs1, e, o.back x1.any Fix.refl⟩⟩
  | _ => cases e
theorem s_ret (he : PE X e (tE X.K F.τ q (.ow F.rt) ma)) : PS X (.Return (some e) pos) (tS X.K F (sRet ma)) := (ps_ret he).mono fun E σ H ⟨Z, own, ρ, f, ρ', rs, e, o⟩ => by
  obtain ⟨x, ρ1, e1, e⟩ := bind_ok e
  cases e
  exact ⟨Z, own, ρ, x, _, rs, e1, fun v Z1 own1 H1 S rs1 rm n x1 => o v σ Z1 own1 H1 S rs1 Fix.refl rm n.giv x1.weak.any⟩
theorem s_exp (he : PE X e (tE X.K F.τ q .pk ma)) (hs : swapsWith e none pos.line X.env = pure false := by rfl) : PS X (.Expr e pos) (tS X.K F (sExp ma)) := (ps_expr he hs).mono fun E σ H ⟨Z, own, ρ, f, ρ', rs, e, o⟩ => by
  obtain ⟨x, ρ1, e1, e⟩ := bind_ok e
  cases e
  exact ⟨Z, own, ρ, x, _, rs, e1, fun v Z1 own1 H1 S rs1 rm n x1 => o σ Z1 own1 H1 rs1 Fix.refl x1.weak.any⟩
theorem asg_of : ∀ E σ H, tS X.K F (sAsg p ma) E σ H → tAsg (tE X.K F.τ q .sh ma) (tG X.K F.τ F.fx p) E σ H := fun E σ H ⟨Z, own, ρ, f, ρ', rs, e, o⟩ => by
  obtain ⟨x, ρ1, e1, e⟩ := bind_ok e
  split at e
  · rename_i ρ2 e2
    cases e
    exact ⟨Z, own, ρ, x, ρ1, rs, e1, fun v Z1 own1 H1 S rs1 rm n x1 => ⟨Z1, own1, ρ1, x, ρ', rs1, rm, e2, fun σ' rs' fx' => o σ' Z1 own1 H1 rs' fx' x1.weak.any⟩⟩
  · cases e
theorem s_asg (he : PE X e (tE X.K F.τ q .sh ma)) (hg : PG X tg (tG X.K F.τ F.fx p)) (hs : swapsWithSole [tg] e pos.line X.env = pure false := by rfl) (hw : swappedStores [tg] e X.env = pure none := by rfl)
    (h1 : (assignEach [tg] X.env).map (·.2) = [assign tg X.env] := by rfl) : PS X (.Assign [tg] e pos) (tS X.K F (sAsg p ma)) := (ps_asg he hg hs hw h1).mono asg_of
theorem name_of {i : Nat} (ht : F.τ i = .sh) (hfx : F.fx i = false) : ∀ E σ H, tS X.K F (sAsg (pN i) ma) E σ H → tAsg (tE X.K F.τ q .sh ma) (gName i) E σ H := fun E σ H ⟨Z, own, ρ, f, ρ', rs, e, o⟩ => by
  obtain ⟨x, ρ1, e1, e⟩ := bind_ok e
  cases e
  exact ⟨Z, own, ρ, x, ρ1, rs, e1, fun v Z1 own1 H1 S rs1 rm n x1 => o _ Z1 own1 H1 (rs1.set ht rm) (.set hfx) x1.weak.any⟩
theorem nameO_of {i : Nat} {t1 : OT} (ht : F.τ i = t1) (hfx : F.fx i = false) : ∀ E σ H, tS X.K F (sAsg (pN i) ma) E σ H → tAsg (tE X.K F.τ q (.ow t1) ma) (gName i) E σ H := fun E σ H ⟨Z, own, ρ, f, ρ', rs, e, o⟩ => by
  obtain ⟨x, ρ1, e1, e⟩ := bind_ok e
  cases e
  refine ⟨Z, own, ρ, x, ρ1, rs, e1, fun v Z1 own1 H1 S rs1 rm n x1 => ?_⟩
  obtain ⟨own2, rs2, h2⟩ := rs1.setO ht rm fun a s => (n a s).2
  refine o _ Z1 own2 H1 rs2 (.set hfx) ⟨x1.z, fun a z => (ExtF.any (fx := F.fx) x1).zn a z, fun a j e => ?_, fun a o e h n => x1.weak.keep a o e h n, x1.live, x1.tk⟩
  rcases h2 a j e with h | h
  · exact x1.on a j h
  · exact .inr (n a h).1
/-- name = e -/
theorem s_set (i : Nat) {x : Str} {pos' : Pos} (hN : X.N.Nodup) (he : PE X e (tE X.K F.τ q .sh ma)) (ht : F.τ i = .sh := by rfl) (hfx : F.fx i = false := by rfl) (hi : X.N[i]? = some x := by rfl) (hx : Loc X.env.scope x := by first | exact Or.inl rfl | exact Or.inr rfl) (hs : swapsWith e (some (.Name x pos')) pos.line X.env = pure false := by rfl)
    (hf : X.fn x = true ∨ X.env.scope.names.lookup x = some .local := by first | exact .inl rfl | exact .inr rfl | assumption) : PS X (.Assign [.Name x pos'] e pos) (tS X.K F (sAsg (pN i) ma)) := (ps_set hN hi hx he hs hf).mono (name_of ht hfx)
/-- name = a new list of its own -/
theorem s_setO (i : Nat) {t1 : OT} {x : Str} {pos' : Pos} (hN : X.N.Nodup) (he : PE X e (tE X.K F.τ q (.ow t1) ma)) (ht : F.τ i = t1 := by rfl) (hfx : F.fx i = false := by rfl) (hi : X.N[i]? = some x := by rfl) (hx : Loc X.env.scope x := by first | exact Or.inl rfl | exact Or.inr rfl) (hs : swapsWith e (some (.Name x pos')) pos.line X.env = pure false := by rfl)
    (hf : X.fn x = true ∨ X.env.scope.names.lookup x = some .local := by first | exact .inl rfl | exact .inr rfl | assumption) : PS X (.Assign [.Name x pos'] e pos) (tS X.K F (sAsg (pN i) ma)) := (ps_set hN hi hx he hs hf).mono (nameO_of ht hfx)
/-- a, b = e1, e2 -/
theorem s_par (i j : Nat) {x y : Str} {px py pt pt2 : Pos} {kt k2 : Nat} (hN : X.N.Nodup) (ha : PA X [a, b] (tAs X.K F.τ q ms)) (hti : F.τ i = .sh := by rfl) (htj : F.τ j = .sh := by rfl) (hfi : F.fx i = false := by rfl) (hfj : F.fx j = false := by rfl) (hi : X.N[i]? = some x := by rfl) (hj : X.N[j]? = some y := by rfl) (hij : i ≠ j := by decide)
    (hx : X.env.scope.names.lookup x = some .local := by rfl) (hy : X.env.scope.names.lookup y = some .local := by rfl) (hc : X.calm = true := by rfl)
    (hw : swappedStores [.Tuple [.Name x px, .Name y py] kt pt] (.Tuple [a, b] k2 pt2) X.env = pure (some [x, y]) := by rfl)
    (hs : swapsWithSole [.Tuple [.Name x px, .Name y py] kt pt] (.Tuple [a, b] k2 pt2) pos.line X.env = pure false := by rfl) :
    PS X (.Assign [.Tuple [.Name x px, .Name y py] kt pt] (.Tuple [a, b] k2 pt2) pos) (tS X.K F (sPar i j ms)) := (ps_par hc hN hi hj hij hx hy ha hw hs).mono fun E σ H ⟨Z, own, ρ, f, ρ', rs, e, o⟩ => by
  obtain ⟨xs, ρ1, e1, e⟩ := bind_ok e
  match xs, e1, e with
  | [v, w], e1, e =>
    cases e
    refine ⟨Z, own, ρ, _, ρ1, rs, e1, fun vs Z1 own1 H1 rs1 rl x1 => ?_⟩
    simp only [RShL] at rl
    obtain ⟨v1, w1, rfl, r1, v2, w2, rfl, r2, rfl⟩ := rl
    exact ⟨v1, v2, rfl, o _ Z1 own1 H1 ((rs1.set hti r1).set htj r2) ((Fix.set hfi).trans (Fix.set hfj)) x1.weak.any⟩
def sFz (i : Nat) (m : MS) : MS := fun ρ => match m ρ with | .ok (f, ρ') => .ok (f, ρ'.set i none) | .exc e => .exc e | .bad => .bad
def Fr.fz (F : Fr) (i : Nat) : Fr := { F with τ := fun j => if j = i then .sh else F.τ j }
theorem RS.forget {K : PySem.W.Frag} {τ τ' : Nat → OT} {Z : Addr → Prop} {own : Addr → Option Nat} {H : Hp} {ρ : Sl} {σ : St} {i : Nat} (h : RS K τ Z own H ρ σ) (ht : ∀ j, j ≠ i → τ' j = τ j) : RS K τ' Z own H (ρ.set i none) σ where
  sl := fun j d e => by
    by_cases hij : i = j
    · subst hij
      rw [List.getElem?_set] at e
      split at e
      · split at e <;> cases e
      · rename_i n; exact absurd rfl n
    · rw [List.getElem?_set_ne hij] at e
      obtain ⟨w, e1, e2⟩ := h.sl j d e
      exact ⟨w, e1, by rw [ht j (Ne.symm hij)]; exact e2⟩
  ls := h.ls
  dz := h.dz
  zt := h.zt
  len := by simpa using h.len
  tb := h.tb
theorem ss_fz (i : Nat) (hfx : F.fx i = false := by rfl) (hr : PSs X sts (tS X.K (F.fz i) sa)) : PSs X sts (tS X.K F (sFz i sa)) := hr.mono fun E σ H ⟨Z, own, ρ, f, ρ', rs, e, o⟩ => by
  unfold sFz at e
  split at e
  · rename_i f1 ρ1 e1
    cases e
    classical
    have rs' : RS X.K (F.fz i).τ (fun a => Z a ∨ own a = some i) (fun a => if own a = some i then none else own a) H ρ σ := by
      refine ⟨fun j d e => ?_, fun a j e => ?_, fun a j e z => ?_, fun a z => z.elim (rs.zt a) fun z e => ?_, rs.len, rs.tb⟩
      · obtain ⟨v, h1, h2⟩ := rs.sl j d e
        refine ⟨v, h1, ?_⟩
        show R X.K _ H (if j = i then .sh else F.τ j) d v _
        by_cases hij : j = i
        · rw [if_pos hij]; subst hij; exact R.freeze h2
        · rw [if_neg hij]
          refine R.pres (fun _ z => .inl z) (fun _ _ s _ _ => s) (fun _ _ _ s _ => s) (fun _ _ _ e _ => e) (R.mono h2 fun a ha => ?_)
          show (if own a = some i then none else own a) = some j
          rw [if_neg (fun z => by rw [ha] at z; cases z; exact hij rfl)]; exact ha
      · split at e
        · cases e
        · exact rs.ls a j e
      · split at e
        · cases e
        · rename_i n
          rcases z with z | z
          · exact rs.dz a j e z
          · exact n z
      · obtain ⟨xs, hx, _⟩ := rs.ls a i z
        rw [hx] at e; cases e
    have x0 : ExtF F.fx true Z own H (fun a => Z a ∨ own a = some i) (fun a => if own a = some i then none else own a) H :=
      ⟨fun _ z => .inl z, fun a z => z.elim .inl fun z => .inr (.inr ⟨i, z, hfx⟩), fun a j e => by
        split at e
        · cases e
        · exact .inl e, fun _ _ e _ _ => e, fun _ e => e, .refl⟩
    have ht : ∀ j, j ≠ i → F.τ j = (F.fz i).τ j := fun j hj => (if_neg hj).symm
    refine ⟨_, _, ρ, f, ρ1, rs', e1, ?_⟩
    cases f with
    | nx => exact fun σ' Z' own' H' r1 r2 r3 => o σ' Z' own' H' (r1.forget ht) r2 (x0.transF r3)
    | brk => exact fun σ' Z' own' H' r1 r2 r3 => o σ' Z' own' H' (r1.forget ht) r2 (x0.transF r3)
    | cnt => exact fun σ' Z' own' H' r1 r2 r3 => o σ' Z' own' H' (r1.forget ht) r2 (x0.transF r3)
    | ret d => exact fun v σ' Z' own' H' S r1 r2 r3 r4 r5 => o v σ' Z' own' H' S (r1.forget ht) r2 r3 (r4.back x0) (x0.transF r5)
  · cases e
  · cases e
end
def LaterH [Tb] (K : PySem.W.Frag) (Z : Addr → Prop) (H : Hp) (Z1 : Addr → Prop) (H1 : Hp) : Prop := (∀ a, Z a → Z1 a) ∧ NL H H1 ∧ (∀ a o, Z a → H a = some o → NT o → H1 a = some o)
structure WalkD [Tb] (K : PySem.W.Frag) (Z : Addr → Prop) (H : Hp) (J : It) (ds : List D) : Prop where
  go : ∀ Z1 H1, LaterH K Z H Z1 H1 → ∀ i, i < ds.length → J.go i H1
  yl : ∀ Z1 H1, LaterH K Z H Z1 H1 → ∀ i d, ds[i]? = some d → ∀ x H2, J.yld i H1 x H2 → Grow H1 H2 ∧ RSh K Z1 H2 d x
  st : ∀ Z1 H1, LaterH K Z H Z1 H1 → J.stop ds.length H1
  sz : ds.length ≤ sizeLine
def tI [Tb] (K : PySem.W.Frag) (τ : Nat → OT) (q : Bool) (m : M (List D)) : TI := fun σ H R => ∃ Z own ρ ds ρ', RS K τ Z own H ρ σ ∧ m ρ = .ok (ds, ρ') ∧
  ∀ J Z' own' H', RS K τ Z' own' H' ρ' σ → WalkD K Z' H' J ds → Ext q Z own H Z' own' H' → R J H'
theorem RS.later [Tb] {K : PySem.W.Frag} {τ : Nat → OT} {Z Z1 : Addr → Prop} {own own1 : Addr → Option Nat} {H H1 : Hp} {ρ : Sl} {σ : St} {q : Bool} {fx : Nat → Bool} (h : RS K τ Z own H ρ σ) (e : ExtF fx q Z own H Z1 own1 H1) : LaterH K Z H Z1 H1 := ⟨e.z, h.nl e, fun _ _ z s n => h.kz e (.inl z) s⟩
def forL (p : Pt) (b : MS) : List D → MS
  | [] => sK .nx
  | x :: xs => fun ρ => match p x ρ with
    | none => .bad
    | some ρ1 => match b ρ1 with
      | .ok (.nx, ρ2) => forL p b xs ρ2
      | .ok (.cnt, ρ2) => forL p b xs ρ2
      | .ok (.brk, ρ2) => .ok (.nx, ρ2)
      | .ok (.ret d, ρ2) => .ok (.ret d, ρ2)
      | .exc e => .exc e
      | .bad => .bad
def sFor (p : Pt) (it : M (List D)) (b : MS) : MS := bind it fun xs => forL p b xs
section
variable [Tb] {X : Cx} {F : Fr} {q q1 q2 q3 : Bool} {c iter tg : Expr} {mc : M D} {mi : M (List D)} {pos : Pos} {sts : List Stmt} {sb : MS} {p : Pt}
theorem s_for (hi : PI X tg iter (tI X.K F.τ q mi)) (hg : PG X tg (tG X.K F.τ F.fx p)) (hb : PSs X sts (tS X.K F sb)) (hp : PassesOwn (model X.prog X.w) X.A X.env X.xe := by exact PassesOwn.never) (hc : X.calm = true := by rfl)
    (hs : ∀ x, foldedSetIterable iter X.env x = pure x := by intro _; rfl) : PS X (.For tg iter sts [] pos) (tS X.K F (sFor p mi sb)) := (ps_for hp hc hi hg hb hs).mono fun E σ H ⟨Z, own, ρ, f, ρ', rs, e, o⟩ => by
  obtain ⟨ds, ρ0, e0, e⟩ := bind_ok e
  refine ⟨Z, own, ρ, ds, ρ0, rs, e0, fun J Z1 own1 H1 rs1 w x1 => ?_⟩
  refine ⟨fun i m σ' H' => m = ds.length - i ∧ i ≤ ds.length ∧ ∃ Z2 own2 ρ2, RS X.K F.τ Z2 own2 H' ρ2 σ' ∧ Fix F.fx σ σ' ∧ ExtF F.fx false Z1 own1 H1 Z2 own2 H' ∧ forL p sb (ds.drop i) ρ2 = .ok (f, ρ'),
    ⟨ds.length, by simp, Nat.zero_le _, Z1, own1, ρ0, rs1, Fix.refl, ExtF.refl, by simpa using e⟩, ?_⟩
  rintro i m σ2 H2 ⟨rfl, hi, Z2, own2, ρ2, rs2, f2, x2, e2⟩
  have lt := rs1.later x2
  by_cases hlt : i < ds.length
  · refine .inr ⟨w.go Z2 H2 lt i hlt, fun σ' H' => ∃ Z3 own3 ρ3, RS X.K F.τ Z3 own3 H' ρ3 σ' ∧ Fix F.fx σ σ' ∧ ExtF F.fx false Z1 own1 H1 Z3 own3 H' ∧ forL p sb (ds.drop (i + 1)) ρ3 = .ok (f, ρ'),
      fun σ' H' h => ⟨ds.length - (i + 1), by omega, rfl, hlt, h⟩, fun x H3 y => ?_⟩
    obtain ⟨d, hd⟩ : ∃ d, ds[i]? = some d := ⟨ds[i], by simp [hlt]⟩
    obtain ⟨g, r⟩ := w.yl Z2 H2 lt i d hd x H3 y
    have ed : ds.drop i = d :: ds.drop (i + 1) := by
      rw [List.drop_eq_getElem_cons hlt]
      have : ds[i] = d := by
        have := List.getElem?_eq_getElem hlt
        rw [hd] at this; exact (Option.some.inj this).symm
      rw [this]
    rw [ed] at e2
    unfold forL at e2
    split at e2
    · cases e2
    · rename_i ρ4 e4
      have rs3 := rs2.growO g
      have x3 : ExtF F.fx false Z1 own1 H1 Z2 own2 H3 := x2.transF (ExtF.growO (q := false) g)
      refine ⟨Z2, own2, ρ2, d, ρ4, rs3, r, e4, fun σ4 rs4 f4 => ?_⟩
      split at e2
      · rename_i ρ5 e5
        exact ⟨Z2, own2, ρ4, .nx, ρ5, rs4, e5, fun σ5 Z5 own5 H5 rs5 f5 x5 => ⟨Z5, own5, ρ5, rs5, (f2.trans f4).trans f5, x3.transF x5, e2⟩⟩
      · rename_i ρ5 e5
        exact ⟨Z2, own2, ρ4, .cnt, ρ5, rs4, e5, fun σ5 Z5 own5 H5 rs5 f5 x5 => ⟨Z5, own5, ρ5, rs5, (f2.trans f4).trans f5, x3.transF x5, e2⟩⟩
      · rename_i ρ5 e5
        cases e2
        exact ⟨Z2, own2, ρ4, .brk, _, rs4, e5, fun σ5 Z5 own5 H5 rs5 f5 x5 => o σ5 Z5 own5 H5 rs5 ((f2.trans f4).trans f5) ((x1.any).transF (x3.transF x5))⟩
      · rename_i d' ρ5 e5
        cases e2
        exact ⟨Z2, own2, ρ4, .ret d', _, rs4, e5, (o.back (x1.any) Fix.refl).back (x3) (f2.trans f4)⟩
      · cases e2
      · cases e2
  · have ei : i = ds.length := by omega
    subst ei
    refine .inl ⟨w.st Z2 H2 lt, ?_⟩
    rw [List.drop_length] at e2
    unfold forL sK at e2
    cases e2
    exact o σ2 Z2 own2 H2 rs2 f2 ((x1.any).transF x2)
end
end CL
namespace CL
open PySem PySem.Spec L2
set_option autoImplicit false
theorem ints_rel {K : PySem.W.Frag} {Z : Addr → Prop} {H : Hp} : ∀ ns : List Int, RShL K Z H (ns.map D.int) (ns.map V.int)
  | [] => by simp only [List.map_nil, RShL]
  | n :: ns => by simp only [List.map_cons, RShL]; exact ⟨_, _, rfl, by simp only [RSh], ints_rel ns⟩
def signs (z : Str) : List D := z.cps.toList.map fun c => .str ⟨#[c]⟩
def itemsOf : D → Option (List D)
  | .tup l => some l
  | .lst l => some l
  | .scr ns => some (ns.map D.int)
  | .str z => if z.cps.size ≤ 16777216 then some (signs z) else none
  | _ => none
def ofL (o : Option (List D)) : M (List D) := fun ρ => match o with | some d => .ok (d, ρ) | none => .bad
theorem ofL_ok {o : Option (List D)} {ρ ρ' : Sl} {d : List D} (h : ofL o ρ = .ok (d, ρ')) : o = some d ∧ ρ' = ρ := by
  unfold ofL at h
  split at h
  · cases h; exact ⟨rfl, rfl⟩
  · cases h
def mIt (m : M D) : M (List D) := bind m fun d => ofL (itemsOf d)
def rangeL (a b : Int) : List D := (List.range (b - a).toNat).map fun i => .int (a + (i : Nat))
def range1 : List D → Option (List D)
  | [.int b] => if b ≤ 16777216 ∧ -(2 ^ 62) ≤ b then some (rangeL 0 b) else none
  | _ => none
def mItN (f : List D → Option (List D)) (m : M (List D)) : M (List D) := bind m fun ds => ofL (f ds)
theorem szL : sizeLine = 16777216 := by decide
section
variable [Tb] {X : Cx} {τ : Nat → OT} {q : Bool} {tg e a b : Expr} {es : List Expr} {m : M D} {ms : M (List D)} {pos : Pos}
/-- a list, a tuple or a text that is walked -/
theorem pi_any {te : TE} (he : PE X e te) : PI X tg e (fun σ H Rk => te σ H fun x H1 => (∃ l xs, x = .ref l ∧ SqL X.K H1 l xs ∧ (xs.length ≤ sizeLine → Rk (Itl X.K l) H1)) ∨
    (∃ l xs, x = .ref l ∧ SqT X.K H1 l xs ∧ (xs.length ≤ sizeLine → Rk (Itt X.K l) H1)) ∨ ∃ z, x = .str z ∧ Rk (Its z) H1) := by
  constructor
  intro pins s0 σ H Rk I0 hw
  apply thn (he.run pins s0 σ H _ I0 hw)
  rintro val s2 ⟨x, H2, I2, rel, hx⟩
  rcases hx with ⟨l, xs, rfl, hs, k⟩ | ⟨l, xs, rfl, hs, k⟩ | ⟨z, rfl, k⟩
  · cases rel
    obtain ⟨vals, rvs, pl, sz⟩ := I2.list hs
    exact wpAny_pyIter_list pl.isList (pi_one (tk := s2.toks) I2 _ (turn_list l _) ⟨_, Heap.get?_push_size _ rfl, rfl, rfl⟩ (k sz))
  · cases rel
    obtain ⟨vals, rvs, pl, sz⟩ := I2.tuple hs
    exact wpAny_pyIter_tuple (show s2.heap.IsTuple l vals.toArray from pl) (pi_one (tk := s2.toks) I2 _ (turn_tuple l _) ⟨_, Heap.get?_push_size _ rfl, rfl, rfl⟩ (k sz))
  · obtain ⟨tok, rfl⟩ := rel
    cases hall : z.cps.all (· < 128) with
    | false => exact wpAny_pyIter_wide hall (pi_one (tk := s2.toks) I2 _ (turn_str _ z tok "str_iterator" (Or.inr rfl)) ⟨_, Heap.get?_push_size _ rfl, rfl, rfl⟩ k)
    | true => exact wpAny_pyIter_ascii hall (pi_one (tk := s2.toks) I2 _ (turn_str _ z tok "str_ascii_iterator" (Or.inl rfl)) ⟨_, Heap.get?_push_size _ rfl, rfl, rfl⟩ k)
theorem WalkD.list {K : PySem.W.Frag} {Z : Addr → Prop} {H : Hp} {l : Addr} {ds : List D} {xs : List V} (z : Z l ∨ KL K l xs) (s : SqL K H l xs) (r : RShL K Z H ds xs) (sz : xs.length ≤ sizeLine) : WalkD K Z H (Itl K l) ds where
  go := fun Z1 H1 lt i hi => ⟨xs, xs[i]'(by rw [← r.len]; exact hi), z.elim (fun z => sqL_keep (fun o => lt.2.2 l o z) s) (fun z => z _), List.getElem?_eq_getElem _⟩
  yl := fun Z1 H1 lt i d hd x H2 y => by
    obtain ⟨v, hv, rv⟩ := r.get hd
    obtain ⟨rfl, hy⟩ := y
    have := hy xs (z.elim (fun z => sqL_keep (fun o => lt.2.2 l o z) s) (fun z => z _))
    rw [hv] at this; cases this
    exact ⟨Grow.refl, RSh.pres lt.1 lt.2.1 lt.2.2 d _ rv⟩
  st := fun Z1 H1 lt => ⟨xs, z.elim (fun z => sqL_keep (fun o => lt.2.2 l o z) s) (fun z => z _), by rw [r.len]; exact Nat.le_refl _⟩
  sz := by rw [r.len]; exact sz
theorem WalkD.tuple {K : PySem.W.Frag} {Z : Addr → Prop} {H : Hp} {l : Addr} {ds : List D} {xs : List V} (s : SqT K H l xs) (r : RShL K Z H ds xs) (sz : xs.length ≤ sizeLine) : WalkD K Z H (Itt K l) ds where
  go := fun Z1 H1 lt i hi => ⟨xs, xs[i]'(by rw [← r.len]; exact hi), NL.sqT lt.2.1 s, List.getElem?_eq_getElem _⟩
  yl := fun Z1 H1 lt i d hd x H2 y => by
    obtain ⟨v, hv, rv⟩ := r.get hd
    obtain ⟨rfl, hy⟩ := y
    have := hy xs (NL.sqT lt.2.1 s)
    rw [hv] at this; cases this
    exact ⟨Grow.refl, RSh.pres lt.1 lt.2.1 lt.2.2 d _ rv⟩
  st := fun Z1 H1 lt => ⟨xs, NL.sqT lt.2.1 s, by rw [r.len]; exact Nat.le_refl _⟩
  sz := by rw [r.len]; exact sz
theorem i_any (he : PE X e (tE X.K τ q .sh m)) : PI X tg e (tI X.K τ q (mIt m)) := (pi_any he).mono fun σ H Rk ⟨Z, own, ρ, ds, ρ', rs, e, k⟩ => by
  obtain ⟨d, ρ1, e1, e⟩ := bind_ok e
  obtain ⟨e3, rfl⟩ := ofL_ok e
  refine ⟨Z, own, ρ, d, ρ', rs, e1, fun v Z1 own1 H1 S rs1 rm n x1 => ?_⟩
  cases d with
  | tup l =>
    cases e3
    simp only [Rm, R, RSh] at rm
    obtain ⟨a, xs, rfl, s, rl⟩ := rm
    exact .inr (.inl ⟨a, xs, rfl, s, fun sz => k _ Z1 own1 H1 rs1 (.tuple s rl sz) x1⟩)
  | lst l =>
    cases e3
    simp only [Rm, R, RSh] at rm
    obtain ⟨a, xs, rfl, z, s, rl⟩ := rm
    exact .inl ⟨a, xs, rfl, SqL.of s, fun sz => k _ Z1 own1 H1 rs1 (.list (.inl z) (SqL.of s) rl sz) x1⟩
  | scr ns =>
    cases e3
    simp only [Rm, R, RSh] at rm
    obtain ⟨a, rfl, z, s⟩ := rm
    exact .inl ⟨a, _, rfl, s, fun sz => k _ Z1 own1 H1 rs1 (.list z s (ints_rel ns) sz) x1⟩
  | str z =>
    simp only [itemsOf] at e3
    split at e3
    · rename_i hz
      cases e3
      simp only [Rm, R, RSh] at rm
      subst rm
      refine .inr (.inr ⟨z, rfl, k _ Z1 own1 H1 rs1 ⟨fun Z2 H2 lt i hi => ?_, fun Z2 H2 lt i d hd x H3 y => ?_, fun Z2 H2 lt => ?_, ?_⟩ x1⟩)
      · show i < z.cps.size
        simpa [signs] using hi
      · obtain ⟨rfl, c, hc, rfl⟩ := y
        refine ⟨Grow.refl, ?_⟩
        simp only [signs, List.getElem?_map, Array.getElem?_toList] at hd
        rw [hc] at hd
        cases hd
        simp only [RSh]
      · show z.cps.size ≤ (signs z).length
        simp [signs]
      · rw [szL]; simpa [signs] using hz
    · cases e3
  | _ => cases e3
theorem WalkD.range {K : PySem.W.Frag} {Z : Addr → Prop} {H : Hp} {a b : Int} (h : b - a ≤ 16777216) : WalkD K Z H (Itr a (b - a).toNat) (rangeL a b) where
  go := fun Z1 H1 lt i hi => by show i < (b - a).toNat; simpa [rangeL] using hi
  yl := fun Z1 H1 lt i d hd x H2 y => by
    obtain ⟨rfl, rfl⟩ := y
    refine ⟨Grow.refl, ?_⟩
    simp only [rangeL, List.getElem?_map] at hd
    obtain ⟨j, hj, rfl⟩ := Option.map_eq_some_iff.mp hd
    rw [List.getElem?_range (by
      have := (List.getElem?_eq_some_iff.mp hj).1
      simpa using this)] at hj
    cases hj
    simp only [RSh]
  st := fun Z1 H1 lt => by show (b - a).toNat ≤ _; simp [rangeL]
  sz := by rw [szL]; simp [rangeL]; omega
theorem Pk0.int {K : PySem.W.Frag} {Z : Addr → Prop} {H : Hp} {i : Int} {v : V} (h : Pk0 K Z H (.int i) v) : v = .int i := by
  rcases h with h | ⟨l, a, xs, e, _⟩
  · simpa only [RSh] using h
  · cases e
theorem i_range1 {p : Pos} (ha : PA X [a] (tA X.K τ q ms)) (hg : Gl X "range" := by rfl) (hm : X.mg "range" = none := by assumption) (hs : starEach [a] X.env = [(false, eval a X.env)] := by rfl) : PI X tg (.Call (.Name "range" p) [a] [] pos) (tI X.K τ q (mItN range1 ms)) := (pi_range1 hg hm ha hs).mono fun σ H Rk ⟨Z, own, ρ, ds, ρ', rs, e, k⟩ => by
  obtain ⟨d, ρ1, e1, e⟩ := bind_ok e
  obtain ⟨e3, rfl⟩ := ofL_ok e
  refine ⟨Z, own, ρ, d, ρ', rs, e1, fun vs Z1 own1 H1 rs1 rl x1 => ?_⟩
  unfold range1 at e3
  split at e3
  · rename_i b
    split at e3
    · rename_i hb
      cases e3
      obtain ⟨w, ws, rfl, r1, r2⟩ := rl
      have r2 : ws = [] := r2
      subst r2
      rw [r1.int]
      refine ⟨b, rfl, hb.2, by omega, ?_⟩
      have := k (Itr 0 (b - 0).toNat) Z1 own1 H1 rs1 (.range (by omega)) x1
      simpa using this
    · cases e3
  · cases e3
end
def wipeD (ρ : Sl) : List Nat → Sl
  | [] => ρ
  | v :: vs => (wipeD ρ vs).set v none
def compL (vs : List Nat) (p : Pt) (c e : M D) : List D → M (List D)
  | [] => fun ρ => .ok ([], ρ)
  | x :: xs => fun ρ => match p x ρ with
    | none => .bad
    | some ρ1 => match c ρ1 with
      | .ok (.bl true, ρ2) => (match e ρ2 with
        | .ok (d, ρ3) => (match compL vs p c e xs (wipeD ρ3 vs) with
          | .ok (ds, ρ4) => .ok (d :: ds, ρ4)
          | .exc x => .exc x
          | .bad => .bad)
        | .exc x => .exc x
        | .bad => .bad)
      | .ok (.bl false, ρ2) => compL vs p c e xs (wipeD ρ2 vs)
      | .exc x => .exc x
      | _ => .bad
def mComp (vs : List Nat) (p : Pt) (it : M (List D)) (c e : M D) : M D := bind it fun xs => fun ρ => match compL vs p c e xs (wipeD ρ vs) with
  | .ok (ds, ρ') => .ok (.lst ds, ρ')
  | .exc x => .exc x
  | .bad => .bad
def gxOf (vs : List Nat) : Nat → Bool := fun k => !vs.contains k
theorem wipeD_some {ρ : Sl} {i : Nat} {x : D} : ∀ {vs : List Nat}, (wipeD ρ vs)[i]? = some (some x) → ρ[i]? = some (some x) ∧ i ∉ vs
  | [], h => ⟨h, by simp⟩
  | v :: vs, h => by
    unfold wipeD at h
    by_cases hi : v = i
    · subst hi
      rw [List.getElem?_set] at h
      split at h
      · split at h <;> cases h
      · rename_i n; exact absurd rfl n
    · rw [List.getElem?_set_ne hi] at h
      obtain ⟨a1, a2⟩ := wipeD_some h
      exact ⟨a1, by simp only [List.mem_cons, not_or]; exact ⟨fun e => hi e.symm, a2⟩⟩
theorem wipeD_len (ρ : Sl) : ∀ vs : List Nat, (wipeD ρ vs).length = ρ.length
  | [] => rfl
  | v :: vs => by unfold wipeD; rw [List.length_set]; exact wipeD_len ρ vs
theorem wipe_at (σ : St) (k : Nat) : ∀ vs : List Nat, (wipe σ vs)[k]? = if k ∈ vs then (if k < σ.length then some none else none) else σ[k]?
  | [] => by simp [wipe]
  | v :: vs => by
    unfold wipe
    by_cases hi : v = k
    · subst hi
      rw [List.getElem?_set, wipe_length]
      simp
    · rw [List.getElem?_set_ne hi, wipe_at σ k vs]
      have : (k ∈ v :: vs) ↔ k ∈ vs := by simp [List.mem_cons, Ne.symm hi]
      simp only [this]
theorem wipe_fix {σ σ2 : St} {vs : List Nat} (h : Fix (gxOf vs) (wipe σ vs) σ2) : wipe σ2 vs = wipe σ vs := by
  apply List.ext_getElem?
  intro k
  rw [wipe_at, wipe_at]
  have hl : σ2.length = σ.length := by rw [h.1, wipe_length]
  rw [hl]
  by_cases hk : k ∈ vs
  · rw [if_pos hk, if_pos hk]
  · rw [if_neg hk, if_neg hk]
    have := h.2 k (by simp [gxOf, hk])
    rw [this, wipe_at, if_neg hk]
section
variable [Tb] {K : PySem.W.Frag} {τ : Nat → OT} {Z Z1 : Addr → Prop} {own own1 : Addr → Option Nat} {H H1 : Hp} {ρ : Sl} {σ : St} {q : Bool}
theorem RS.wipe (h : RS K τ Z own H ρ σ) (vs : List Nat) : RS K τ Z own H (wipeD ρ vs) (L2.wipe σ vs) where
  sl := fun i d e => by
    obtain ⟨e1, n⟩ := wipeD_some e
    obtain ⟨v, a1, a2⟩ := h.sl i d e1
    exact ⟨v, by rw [wipe_at, if_neg n]; exact a1, a2⟩
  ls := h.ls
  dz := h.dz
  zt := h.zt
  len := by rw [wipeD_len, wipe_length]; exact h.len
  tb := h.tb
theorem RS.unwipe {vs : List Nat} (h : RS K τ Z own H ρ (L2.wipe σ vs)) : RS K τ Z own H ρ σ where
  sl := fun i d e => by
    obtain ⟨v, a1, a2⟩ := h.sl i d e
    exact ⟨v, (wipe_some a1).1, a2⟩
  ls := h.ls
  dz := h.dz
  zt := h.zt
  len := by have := h.len; rwa [wipe_length] at this
  tb := h.tb
/-- a list that nothing owns and nothing shares is changed -/
theorem upd_nl {H : Hp} {p : Addr} {o o' : HO} (hp : H p = some o) (hm : Mut o) : NL H (upd H p o') := fun a u hu hn _ => by
  rw [upd_ne (fun e => by subst e; rw [hp] at hu; cases hu; exact hn hm)]; exact hu
theorem upd_tk [Tb] {H : Hp} {p : Addr} {o o' : HO} (hp : H p = some o) (hm : Mut o) : TK H (upd H p o') := .of fun a u hu hn => by
  rw [upd_ne (fun e => by subst e; rw [hp] at hu; cases hu; exact hn hm)]; exact hu
theorem RS.updD {p : Addr} {xs ys : List V} (h : RS K τ Z own H ρ σ) (hp : H p = some (.lst xs)) (ho : own p = none) (hz : ¬ Z p) : RS K τ Z own (upd H p (.lst ys)) ρ σ := by
  have ht : NL H (upd H p (.lst ys)) := upd_nl hp trivial
  have hl : ∀ a o, Z a → H a = some o → NT o → upd H p (.lst ys) a = some o := fun a o z s _ => by
    rw [upd_ne (fun e => by subst e; exact hz z)]; exact s
  refine ⟨fun i d e => ?_, fun a i e => ?_, h.dz, fun a z e => ?_, h.len, (upd_tk hp trivial).ok h.tb⟩
  · obtain ⟨v, a1, a2⟩ := h.sl i d e
    refine ⟨v, a1, R.pres (fun _ z => z) ht hl (fun a zs s e _ => ?_) a2⟩
    rw [upd_ne (fun z => by subst z; rw [ho] at s; cases s)]; exact e
  · obtain ⟨zs, hx, hm⟩ := h.ls a i e
    exact ⟨zs, by rw [upd_ne (fun z => by subst z; rw [ho] at e; cases e)]; exact hx, hm⟩
  · rw [upd_ne (fun w => by subst w; exact hz z)] at e
    exact h.zt a z e
theorem RS.updShL {p : Addr} {xs ys : List V} {ds : List D} {vs : List V} (hp : H p = some (.lst xs)) (hz : ¬ Z p) (r : RShL K Z H ds vs) : RShL K Z (upd H p (.lst ys)) ds vs := by
  refine RShL.pres (fun _ z => z) (upd_nl hp trivial) (fun a zs z s _ => ?_) ds vs r
  rw [upd_ne (fun e => by subst e; exact hz z)]; exact s
theorem ExtF.updN [Tb] {fx : Nat → Bool} {p : Addr} {o o1 : HO} (x : ExtF fx q Z own H Z1 own1 H1) (hp : H p = none) (h1 : H1 p = some o1) (hm : Mut o1) : ExtF fx q Z own H Z1 own1 (upd H1 p o) :=
  ⟨x.z, x.zn, x.on, fun a u e h n => by rw [upd_ne (ne_of_none e hp)]; exact x.keep a u e h, fun a e n => by
    have ne : a ≠ p := fun z => by subst z; exact e hp
    rw [upd_ne ne] at n; exact x.live a e n, x.tk.trans (upd_tk h1 hm)⟩
end
def mYes : M D := mC (.bl true)
theorem _root_.L2.PTs.mono {X : Cx} {ifs : List Expr} {t t' : TT} (h : PTs X ifs t) (f : ∀ σ H Q, t' σ H Q → t σ H Q) : PTs X ifs t' := ⟨fun pins s σ H Q I hw => h.run pins s σ H Q I (f σ H Q hw)⟩
section
variable [Tb] {X : Cx} {τ : Nat → OT} {q q1 q2 : Bool} {elt tg iter c : Expr} {ifs : List Expr} {pos : Pos} {mi : M (List D)} {mc me : M D} {p : Pt}
theorem ts_nil : PTs X [] (tT X.K τ true mYes) := pts_nil.mono fun σ H Q ⟨Z, own, ρ, b, ρ', rs, e, k⟩ => by
  unfold mYes mC at e; cases e
  exact k Z own H rs ExtF.refl
theorem ts_one (h : PT X c (tT X.K τ q mc)) : PTs X [c] (tT X.K τ q mc) := pts_one h
/-- [elt for tg in iter if ..] -/
theorem lc_of {own' : List (Str × Nat)} {vs : List Nat} {qi : Bool} (hv : own'.map (·.2) = vs) : ∀ σ H Q, tE X.K τ (qi && (q1 && q2)) (.ow (.ol .sh .sh)) (mComp vs p mi mc me) σ H Q →
    tLc (tI X.K τ qi mi) (tG X.K τ (gxOf vs) p) (tT X.K τ q1 mc) (tE X.K τ q2 .sh me) (own'.map (·.2)) σ H Q := fun σ H Q ⟨Z, own, ρ, d, ρ', rs, e, k⟩ => by
  rw [hv]
  obtain ⟨ds, ρ0, e0, e⟩ := bind_ok e
  split at e
  case h_2 => cases e
  case h_3 => cases e
  rename_i out ρe ee
  cases e
  refine ⟨Z, own, ρ, ds, ρ0, rs, e0, fun J Z1 own1 H1 rs1 w x1 L hL => ?_⟩
  have hLo : own1 L = none := by
    cases ho : own1 L with
    | none => rfl
    | some i => obtain ⟨ys, hy, _⟩ := rs1.ls L i ho; rw [hL] at hy; cases hy
  have hLz : ¬ Z1 L := fun z => rs1.zt L z hL
  refine ⟨fun i m H' => m = ds.length - i ∧ i ≤ ds.length ∧ ∃ Z2 own2 ρ2 acc dacc rest, RS X.K τ Z2 own2 H' ρ2 (wipe σ vs) ∧ Ext (q1 && q2) Z1 own1 H1 Z2 own2 H' ∧ H' L = some (.lst acc) ∧ own2 L = none ∧ ¬ Z2 L ∧ RShL X.K Z2 H' dacc acc ∧ acc.length ≤ i ∧
      compL vs p mc me (ds.drop i) ρ2 = .ok (rest, ρ') ∧ dacc ++ rest = out,
    ⟨ds.length, by simp, Nat.zero_le _, Z1, own1, wipeD ρ0 vs, [], [], out, (rs1.growO (Grow.new hL)).wipe vs, ExtF.growO (Grow.new hL), upd_same, hLo, hLz, by simp only [RShL], Nat.zero_le _, by simpa using ee, rfl⟩, ?_⟩
  rintro i m H2 ⟨rfl, hi, Z2, own2, ρ2, acc, dacc, rest, rs2, x2, hacc, ho2, hz2, rl, hal, ec, eo⟩
  have lt := rs1.later x2
  by_cases hlt : i < ds.length
  · refine .inr ⟨w.go Z2 H2 lt i hlt, fun H' => ∃ Z3 own3 ρ3 acc3 dacc3 rest3, RS X.K τ Z3 own3 H' ρ3 (wipe σ vs) ∧ Ext (q1 && q2) Z1 own1 H1 Z3 own3 H' ∧ H' L = some (.lst acc3) ∧ own3 L = none ∧ ¬ Z3 L ∧ RShL X.K Z3 H' dacc3 acc3 ∧ acc3.length ≤ i + 1 ∧
      compL vs p mc me (ds.drop (i + 1)) ρ3 = .ok (rest3, ρ') ∧ dacc3 ++ rest3 = out, fun H' h => ⟨ds.length - (i + 1), by omega, rfl, hlt, h⟩, fun x H3 y => ?_⟩
    obtain ⟨d, hd⟩ : ∃ d, ds[i]? = some d := ⟨ds[i], by simp [hlt]⟩
    obtain ⟨g, r⟩ := w.yl Z2 H2 lt i d hd x H3 y
    have ed : ds.drop i = d :: ds.drop (i + 1) := by
      rw [List.drop_eq_getElem_cons hlt]
      have : ds[i] = d := by
        have := List.getElem?_eq_getElem hlt
        rw [hd] at this; exact (Option.some.inj this).symm
      rw [this]
    rw [ed] at ec
    unfold compL at ec
    split at ec
    · cases ec
    · rename_i ρ4 e4
      have rs3 : RS X.K τ Z2 own2 H3 ρ2 (wipe σ vs) := rs2.growO g
      have x3 : Ext (q1 && q2) Z1 own1 H1 Z2 own2 H3 := by have := x2.trans (ExtF.growO (q := q1 && q2) (Z := Z2) (own := own2) g); rwa [Bool.and_self] at this
      have hacc3 := g.at_ L _ hacc True.intro
      have rl3 := g.shL rl
      refine ⟨Z2, own2, ρ2, d, ρ4, rs3, r, e4, fun σ4 rs4 f4 => ⟨wipe_fix f4, ?_⟩⟩
      have hw := wipe_fix f4
      split at ec
      · rename_i ρ5 e5
        refine ⟨Z2, own2, ρ4, true, ρ5, rs4, e5, fun Z5 own5 H5 rs5 x5 => iteT ?_⟩
        split at ec
        · rename_i d6 ρ6 e6
          split at ec
          · rename_i ds7 ρ7 e7
            cases ec
            refine ⟨Z5, own5, ρ5, d6, ρ6, rs5, e6, fun v Z6 own6 H6 S6 rs6 rm6 n6 x6 => ?_⟩
            have x56 : ExtF fxT false Z2 own2 H3 Z6 own6 H6 := x5.transF x6
            have hL6 : H6 L = some (.lst acc) := x56.keep L _ hacc3 (.inl ho2)
            have ho6 : own6 L = none := by
              cases h : own6 L with
              | none => rfl
              | some j =>
                rcases x56.on L j h with z | z
                · rw [ho2] at z; cases z
                · rw [hacc3] at z; cases z
            have hz6 : ¬ Z6 L := fun z => by
              rcases x56.zn L z with z | z | ⟨j, z, _⟩
              · exact hz2 z
              · rw [hacc3] at z; cases z
              · rw [ho2] at z; cases z
            have rl6 : RShL X.K Z6 H6 dacc acc := rs4.shL x56 rl3
            refine ⟨acc, hL6, by have := w.sz; omega, Z6, own6, wipeD ρ6 vs, acc ++ [v], dacc ++ [d6], ds7, ?_, ?_, upd_same, ho6, hz6, ?_, by simp; omega, e7, by rw [← eo]; simp⟩
            · have := (rs6.updD (ys := acc ++ [v]) hL6 ho6 hz6).wipe vs
              rwa [hw] at this
            · have x : Ext (q1 && q2) Z1 own1 H1 Z6 own6 H6 := x3.trans' (fun z => ⟨z, z⟩) (x5.trans x6)
              exact x.updN hL hL6 trivial
            · exact RS.updShL hL6 hz6 (rl6.append (.one rm6))
          · cases ec
          · cases ec
        · cases ec
        · cases ec
      · rename_i ρ5 e5
        refine ⟨Z2, own2, ρ4, false, ρ5, rs4, e5, fun Z5 own5 H5 rs5 x5 => iteF ?_⟩
        have hL6 : H5 L = some (.lst acc) := x5.keep L _ hacc3 (.inl ho2)
        have ho6 : own5 L = none := by
          cases h : own5 L with
          | none => rfl
          | some j =>
            rcases x5.on L j h with z | z
            · rw [ho2] at z; cases z
            · rw [hacc3] at z; cases z
        have hz6 : ¬ Z5 L := fun z => by
          rcases x5.zn L z with z | z | ⟨j, z, _⟩
          · exact hz2 z
          · rw [hacc3] at z; cases z
          · rw [ho2] at z; cases z
        refine ⟨Z5, own5, wipeD ρ5 vs, acc, dacc, rest, ?_, x3.trans' (fun z => ⟨z, and1 z⟩) x5, hL6, ho6, hz6, rs4.shL x5 rl3, by omega, ec, eo⟩
        have := rs5.wipe vs
        rwa [hw] at this
      · cases ec
      · cases ec
  · have ei : i = ds.length := by omega
    subst ei
    refine .inl ⟨w.st Z2 H2 lt, ?_⟩
    rw [List.drop_length] at ec
    unfold compL at ec
    cases ec
    have eo' : dacc = out := by simpa using eo
    subst eo'
    refine k _ Z2 own2 H2 (fun a => a = L) rs2.unwipe ?_ (fun a e => ?_) (x1.trans x2)
    · refine ⟨dacc, L, acc, fun a => if a = L then none else some 0, rfl, rfl, hacc, rfl, by simp, rl.len, fun d v e1 e2 => ?_, fun k d v e1 e2 => ?_⟩
      · obtain ⟨w, a, b⟩ := rl.get e1
        rw [e2] at a; cases a; exact b
      · obtain ⟨w, a, b⟩ := rl.get e1
        rw [e2] at a; cases a; exact b
    · subst e
      exact ⟨x1.back hL, ho2, hz2, _, hacc, trivial⟩
end
end CL
namespace CL
open PySem PySem.Spec L2
set_option autoImplicit false
section
variable [Tb] {X : Cx} {τ : Nat → OT} {q q1 q2 : Bool} {elt tg iter c : Expr} {ifs : List Expr} {pos : Pos} {mi : M (List D)} {mc me : M D} {p : Pt}
theorem e_lcO {own' : List (Str × Nat)} {vs : List Nat} {qi : Bool} {scope : Scope} (hN : X.N.Nodup) (ok : BlkOk X.N X.env.scope scope own') (hi : PI X tg iter (tI X.K τ qi mi))
    (hg : ∀ (s : Shared) (H : Hp) (C : Addr) (cl : List (Str × Addr)) (fp : List Addr), PG (X.blk s H scope (compEnvC scope cl C X.env) fp) tg (tG X.K τ (gxOf vs) p)) (ht : ∀ (s : Shared) (H : Hp) (C : Addr) (cl : List (Str × Addr)) (fp : List Addr), PTs (X.blk s H scope (compEnvC scope cl C X.env) fp) ifs (tT X.K τ q1 mc))
    (he : ∀ (s : Shared) (H : Hp) (C : Addr) (cl : List (Str × Addr)) (fp : List Addr), PE (X.blk s H scope (compEnvC scope cl C X.env) fp) elt (tE X.K τ q2 .sh me)) (hv : own'.map (·.2) = vs := by rfl) (hc : X.calm = true := by rfl) (hs : ∀ x, foldedSetIterable iter X.env x = pure x := by intro _; rfl) :
    PE X (.ListComp elt [⟨tg, iter, ifs, 0⟩] scope pos) (tE X.K τ (qi && (q1 && q2)) (.ow (.ol .sh .sh)) (mComp vs p mi mc me)) := (pe_lc hc hN hi ok hg ht he hs).mono (lc_of hv)
end
/-- a def keeps its promise where no repr is under way -/
structure FnG (P : Program) (w : World) (K : PySem.W.Frag) (mg : Str → Option Value) (base : Heap) (k : Nat) (f : Addr) (fd : FuncData) (ps : List Str) (sp : Sp) : Prop where
  len : ∀ vs H Q E, sp vs H Q E → vs.length = ps.length
  run : ∀ (A : Around) (outer : List Env) (s0 : Shared) (H : Hp) (ar : Args) (us : List Value) (vs : List V) (Q : VK) (E : XK), Room k A → A.guards = some [] → Env0 P w K mg base A outer s0 H → BindsTo s0 fd ar (ps.zip us) → Vals vs us → sp vs H Q E →
    codeAny (model P w) A (.call (.ref f) ar) (CR CX0 outer P w H s0 Q E) s0
theorem FnG.mono {P : Program} {w : World} {K : PySem.W.Frag} {mg : Str → Option Value} {base : Heap} {j k : Nat} {f : Addr} {fd : FuncData} {ps : List Str} {sp : Sp} (F : FnG P w K mg base j f fd ps sp) (h : j ≤ k) : FnG P w K mg base k f fd ps sp := ⟨F.len, fun A o s0 H ar us vs Q E r => F.run A o s0 H ar us vs Q E (r.mono h)⟩
section
variable [Tb] {P : Program} {w : World} {K : PySem.W.Frag} {mg : Str → Option Value} {base : Heap}
theorem fng_ok {x qual : Str} {st : Stmt} {f : Addr} {fd : FuncData} {N ps : List Str} {k : Nat} {sp : Sp} (Fu : Fun K x qual st f fd) (Sc : FnScope N ps (defScope st)) (len : ∀ vs H Q E, sp vs H Q E → vs.length = ps.length)
    (hbody : ∀ (cdv : Value) (A : Around) (outer : List Env) (s0 : Shared) (H : Hp) (vs : List V) (Q : VK) (E : XK), Room k (A.deeper (PyProof.Rows.envOfC qual (defScope st) s0.heap.objs.size f cdv)) → A.guards = some [] → fd.code = cdv → sp vs H Q E →
      ∃ t, PSs (cxOf CX0 P w K mg base N qual (defScope st) f cdv A outer s0 H E).nox (defBody st) t ∧ t { nx := fun _ H' => Q .non H', rt := Q } (L2.start N vs) H) : FnG P w K mg base (k + 1) f fd ps sp := by
  obtain ⟨oc, od, kV, doc, pm, an, cdv, ct, osl, rfl, lk, hcd⟩ := Fu.ex
  constructor
  · exact len
  intro A outer s0 H ar us vs Q E room hgu e0 hbd rel hsp
  have KIn : K.In s0.heap := e0.mod.kin.keeps fun c ob ec => (e0.bs c ob ec).1
  have limit : s0.heap.NoLimit := e0.mod.nolimit.keeps fun c ob ec => (e0.bs c ob ec).1
  apply codeAny_call_function room.depth (KIn _ _ lk) rfl Sc.co Sc.gen rfl (PySem.W.codeRec_of KIn hcd)
  apply hbd
  apply wpAny_newFunctionEnv_cells Sc.kind
  · rintro ⟨nm, vl⟩ hm
    rcases Sc.par nm (List.of_mem_zip hm).1 with lc | lc
    · exact Or.inl lc
    · exact Or.inr ⟨lc, PySem.W.cellsFrom_some _ _ _ (Or.inl lc)⟩
  · intro env he s1 ic
    subst he
    refine ⟨limit.keeps ic.toInCall.keep, codeAny_func ?_⟩
    obtain ⟨t, ht, hq⟩ := hbody cdv A outer s0 H vs Q E (room.deeper _) hgu rfl hsp
    have I0 : Inv (cxOf CX0 P w K mg base N qual (defScope st) f cdv A outer s0 H E) [] (L2.start N vs) H s1 := inv_start Sc room.hd e0 (len _ _ _ _ hsp) rel ic
    apply wpAny_mono (ht.nox.run [] s1 (L2.start N vs) H _ I0 hq)
    · intro fl s2 hs
      cases fl with
      | ret u =>
        obtain ⟨v, σ2, H2, J, rv, hv⟩ := hs
        exact ⟨v, H2, J.os, J.bare, J.base, J.hok, rv, hv⟩
      | next =>
        obtain ⟨σ2, H2, J, hv⟩ := hs
        exact ⟨V.non, H2, J.os, J.bare, J.base, J.hok, rfl, hv⟩
      | brk => obtain ⟨_, _, _, hv⟩ := hs; exact hv.elim
      | cont => obtain ⟨_, _, _, hv⟩ := hs; exact hv.elim
    · exact fun _ _ hs => hs
end
section
variable [Tb] {X : Cx} {k : Nat} {f : Addr} {fd : FuncData} {ps : List Str} {sp : Sp} {x : Str} {p pos : Pos} {e : Expr} {es : List Expr} {t : TA}
theorem pe_callG (F : FnG X.prog X.w X.K X.mg X.base k f fd ps sp) (hr : Room k X.A) (hgu : X.A.guards = some []) (hg : Gl X x) (hm : X.mg x = some (.ref f)) (hk : PySem.W.keepIn X.K (.ref f) = true) (hb : Binds X.K fd ps [])
    (ha : PA X (e :: es) t) (hdb : (x == ("__debug__" : Str)) = false := by decide) (he : starEach (e :: es) X.env = (false, eval e X.env) :: starEach es X.env := by rfl) (hpl : (backTo pos (starEach es X.env)).any (·.1) = false := by rfl) :
    PE X (.Call (.Name x p) (e :: es) [] pos) (fun σ H Q => t σ H fun vs H1 => sp vs H1 Q E0) := by
  constructor
  intro pins s0 σ H Q I0 hw
  apply wpAny_Call_Name_kw (ld_glob I0 hg hm _ hdb)
  apply PySem.W.callWith_K (h₀ := X.base) I0.ok.mod.kin hk _ he hpl
  apply thn (ha.run pos pins s0 σ H _ I0 hw)
  rintro us s1 ⟨vs, H1, I1, rel, hsp⟩
  refine ⟨I1.kIn, ?_⟩
  have hl : (us ++ []).length = ps.length := by rw [List.append_nil, ← rel.length]; exact F.len _ _ _ _ hsp
  have hbd := hb s1 us I1.kIn hl
  rw [List.append_nil] at hbd
  apply wpAny_call
  apply codeAny_mono (F.run X.A X.stack s1 H1 ⟨us, []⟩ us vs Q E0 hr hgu I1.env0 hbd rel hsp)
  intro res s2 hres
  cases res with
  | error er => exact hres.elim
  | ok fl =>
    cases fl with
    | ret u => exact I1.after hres
    | next => exact hres.elim
    | brk => exact hres.elim
    | cont => exact hres.elim
end
abbrev Fn := List D → Res (D × List D)
inductive Ag where
  | e (m : M D) | io (i : Nat)
def evA : List Ag → M (List D)
  | [] => mNil
  | .e m :: r => mCons m (evA r)
  | .io i :: r => mCons (mV i) (evA r)
def fillA : List Ag → List D → Sl → Option (List D)
  | [], [], _ => some []
  | .e _ :: r, d :: ds, ρ => (fillA r ds ρ).map (d :: ·)
  | .io i :: r, _ :: ds, ρ => match ρ[i]? with | some (some d) => (fillA r ds ρ).map (d :: ·) | _ => none
  | _, _, _ => none
def backA : List Ag → List D → Sl → Sl
  | .io i :: r, d :: ds, ρ => backA r ds (ρ.set i (some d))
  | .e _ :: r, _ :: ds, ρ => backA r ds ρ
  | _, _, ρ => ρ
def mCall (F : Fn) (as : List Ag) : M D := bind (evA as) fun ds => fun ρ => match fillA as ds ρ with
  | none => .bad
  | some full => match F full with
    | .ok (d, out) => .ok (d, backA as out ρ)
    | .exc e => .exc e
    | .bad => .bad
def mCallP (F : List D → Res D) (ms : M (List D)) : M D := bind ms fun ds => fun ρ => match F ds with
  | .ok d => .ok (d, ρ)
  | .exc e => .exc e
  | .bad => .bad
/-- what a def that changes nothing promises -/
def spP [Tb] (K : PySem.W.Frag) (n : Nat) (rt : OT) (F : List D → Res D) : Sp := fun vs H Q _ => ∃ Z ds d, vs.length = n ∧ RShL K Z H ds vs ∧ (∀ a, Z a → H a ≠ none) ∧ TbOk H ∧ F ds = .ok d ∧
  ∀ v Z' H' S, (∀ a, Z a → Z' a) → (∀ a, Z' a → Z a ∨ H a = none) → (∀ a, Z' a → H' a ≠ none) → Grow H H' → R K Z' H' rt d v S → (∀ a, S a → H a = none ∧ ¬ Z' a ∧ ∃ o, H' a = some o ∧ Mut o) → Q v H'
def runP (nl : Nat) (b : MS) : List D → Res D := fun ds => match b (ds.map some ++ List.replicate nl none) with
  | .ok (.ret d, _) => .ok d
  | .ok (.nx, _) => .ok .non
  | .exc e => .exc e
  | _ => .bad
def ioOf (ts : List OT) : Nat → Bool := fun k => match ts[k]? with | some (.ol _ _) => true | some .od => true | some (.dv _) => true | _ => false
def τOf (ts : List OT) : Nat → OT := fun k => (ts[k]?).getD .sh
/-- what a def promises that may change the lists that are handed in -/
def spD [Tb] (K : PySem.W.Frag) (ts : List OT) (rt : OT) (F : Fn) : Sp := fun vs H Q _ => ∃ Z own ds d out, vs.length = ts.length ∧ ds.length = ts.length ∧ RS K (τOf ts) Z own H (ds.map some) (vs.map some) ∧ (∀ a i, own a = some i → ioOf ts i = true) ∧ F ds = .ok (d, out) ∧
  ∀ v Z' own' H' S, RS K (τOf ts) Z' own' H' (out.map some) (vs.map some) → (∀ a i, own' a = some i → ioOf ts i = true) → R K Z' H' rt d v S → NewR H Z' own' H' S → Ext false Z own H Z' own' H' → Q v H'
/-- the lists that were handed in, as they are now -/
def outs : List OT → List D → Sl → Option (List D)
  | [], [], _ => some []
  | .sh :: ts, d :: ds, ρ => (outs ts ds ρ.tail).map (d :: ·)
  | .ol _ _ :: ts, _ :: ds, ρ => match ρ.head? with | some (some d) => (outs ts ds ρ.tail).map (d :: ·) | _ => none
  | .od :: ts, _ :: ds, ρ => match ρ.head? with | some (some d) => (outs ts ds ρ.tail).map (d :: ·) | _ => none
  | .dv _ :: ts, _ :: ds, ρ => match ρ.head? with | some (some d) => (outs ts ds ρ.tail).map (d :: ·) | _ => none
  | _, _, _ => none
def runF (ts : List OT) (nl : Nat) (b : MS) : Fn := fun ds => match b (ds.map some ++ List.replicate nl none) with
  | .ok (.ret d, ρ) => (match outs ts ds ρ with | some out => .ok (d, out) | none => .bad)
  | .ok (.nx, ρ) => (match outs ts ds ρ with | some out => .ok (.non, out) | none => .bad)
  | .exc e => .exc e
  | _ => .bad
theorem getElem?_app {ds : List D} {nl i : Nat} {d : D} (h : (ds.map some ++ List.replicate nl none : Sl)[i]? = some (some d)) : ds[i]? = some d := by
  rw [List.getElem?_append] at h
  split at h
  · rw [List.getElem?_map] at h
    obtain ⟨x, hx, e⟩ := Option.map_eq_some_iff.mp h
    cases e; exact hx
  · rw [List.getElem?_replicate] at h
    split at h <;> cases h
theorem start_get {N : List Str} {vs : List V} {i : Nat} {v : V} (h : vs[i]? = some v) : (L2.start N vs)[i]? = some (some v) := by
  unfold L2.start
  rw [List.getElem?_append_left (by
    have := (List.getElem?_eq_some_iff.mp h).1
    simpa using this), List.getElem?_map, h]
  rfl
theorem start_len {N : List Str} {vs : List V} (h : vs.length ≤ N.length) : (L2.start N vs).length = N.length := by
  unfold L2.start
  simp; omega
section
variable [Tb] {P : Program} {w : World} {K : PySem.W.Frag} {mg : Str → Option Value} {base : Heap}
/-- a def that changes nothing keeps its promise -/
theorem ok_p {x qual : Str} {st : Stmt} {f : Addr} {fd : FuncData} {N ps : List Str} {k n nl : Nat} {F : Fr} {b : MS} (Fu : Fun K x qual st f fd) (S : FnScope N ps (defScope st)) (hF : ∀ i, i < n → F.τ i = .sh) (hn : ps.length = n) (hl : n + nl = N.length) (hrt : F.rt = .sh ∨ ∀ (ds : List D) (ρ : Sl), b (ds.map some ++ List.replicate nl none) ≠ .ok (.nx, ρ))
    (hb : ∀ (cdv : Value) (A : Around) (outer : List Env) (s : Shared) (H : Hp) (E : XK), Room k (A.deeper (PyProof.Rows.envOfC qual (defScope st) s.heap.objs.size f cdv)) → A.guards = some [] → fd.code = cdv → PSs (cxOf CX0 P w K mg base N qual (defScope st) f cdv A outer s H E).nox (defBody st) (tS K F b)) :
    FnG P w K mg base (k + 1) f fd ps (spP K n F.rt (runP nl b)) := by
  refine fng_ok Fu S (fun vs H Q E h => ?_) (fun cdv A outer s H vs Q E hr hgu hcd h => ?_)
  · obtain ⟨Z, ds, d, h1, _⟩ := h
    rw [h1, hn]
  · obtain ⟨Z, ds, d, h1, rl, zt, tb, e, kk⟩ := h
    refine ⟨_, hb cdv A outer s H E hr hgu hcd, ?_⟩
    have hlen := rl.len
    have hvl : vs.length ≤ N.length := by omega
    have rs : RS K F.τ Z (fun _ => none) H (ds.map some ++ List.replicate nl none) (L2.start N vs) := by
      refine ⟨fun i d e => ?_, fun a i e => (by cases e), fun a i e => (by cases e), zt, by rw [start_len hvl]; simp; omega, tb⟩
      have e := getElem?_app e
      obtain ⟨v, hv, r⟩ := rl.get e
      refine ⟨v, start_get hv, ?_⟩
      rw [hF i (by have := (List.getElem?_eq_some_iff.mp e).1; omega)]
      exact r
    unfold runP at e
    split at e
    · rename_i d' ρ' e'
      cases e
      refine ⟨Z, fun _ => none, _, _, ρ', rs, e', fun v σ' Z' own' H' S rs' fx r gv x => kk v Z' H' S x.z (fun a z => ?_) rs'.zt ⟨fun a o e n => x.keep a o e (.inl rfl), x.tk, x.live⟩ r fun a s => ?_⟩
      · rcases x.zn a z with z | z | ⟨i, z, _⟩
        · exact .inl z
        · exact .inr z
        · cases z
      · obtain ⟨g1, g2, g3, g4⟩ := gv a s
        refine ⟨?_, g3, g4⟩
        rcases g1 with g | ⟨i, g, _⟩
        · exact g
        · cases g
    · rename_i ρ' e'
      cases e
      rcases hrt with hrt | hrt
      · refine ⟨Z, fun _ => none, _, _, ρ', rs, e', fun σ' Z' own' H' rs' fx x => kk .non Z' H' (fun _ => False) x.z (fun a z => ?_) rs'.zt ⟨fun a o e n => x.keep a o e (.inl rfl), x.tk, x.live⟩ (by rw [hrt]; simp only [R, RSh]) fun a s => s.elim⟩
        rcases x.zn a z with z | z | ⟨i, z, _⟩
        · exact .inl z
        · exact .inr z
        · cases z
      · exact absurd e' (hrt ds ρ')
    · cases e
    · cases e
end
section
variable [Tb] {X : Cx} {τ : Nat → OT} {q : Bool} {CX : CXT} {k : Nat} {f : Addr} {fd : FuncData} {ps : List Str} {x : Str} {p pos : Pos} {e : Expr} {es : List Expr} {ms : M (List D)} {rt : OT} {n : Nat} {G : List D → Res D}
theorem callP_of : ∀ σ H Q, tE X.K τ q (.ow rt) (mCallP G ms) σ H Q → (∀ ds (d : D) ρ ρ', ms ρ = .ok (ds, ρ') → ds.length = n) → tAs X.K τ q ms σ H fun vs H1 => spP X.K n rt G vs H1 Q E0 := fun σ H Q ⟨Z, own, ρ, d, ρ', rs, e, kk⟩ hn => by
  obtain ⟨ds, ρ1, e1, e⟩ := bind_ok e
  split at e
  · rename_i d' e2
    cases e
    refine ⟨Z, own, ρ, ds, _, rs, e1, fun vs Z1 own1 H1 rs1 rl x1 => ?_⟩
    refine ⟨Z1, ds, _, by rw [← rl.len]; exact hn ds d ρ _ e1, rl, rs1.zt, rs1.tb, e2, fun v Z2 H2 S h1 h2 h3 g r hS => ?_⟩
    have ow : ∀ a, H1 a = none → own1 a = none := fun a e => by
      cases ho : own1 a with
      | none => rfl
      | some i => obtain ⟨ys, hy, _⟩ := rs1.ls a i ho; rw [e] at hy; cases hy
    refine kk v Z2 own1 H2 S ⟨fun i d e => ?_, fun a i e => ?_, fun a i e z => ?_, h3, rs1.len, g.tk.ok rs1.tb⟩ r (fun a s => ⟨x1.back (hS a s).1, ow a (hS a s).1, (hS a s).2⟩)
      (x1.trans' (fun z => ⟨z, rfl⟩) (⟨h1, fun a z => (h2 a z).elim .inl fun z => .inr (.inl z), fun a i z => .inl z, fun a o e _ n => g.at_ a o e n, g.live, g.tk⟩ : ExtF fxT true Z1 own1 H1 Z2 own1 H2))
    · obtain ⟨w, a1, a2⟩ := rs1.sl i d e
      exact ⟨w, a1, R.pres h1 (fun a o e _ n => g.at_ a o e n) (fun a o _ e n => g.at_ a o e n) (fun a xs _ e n => g.at_ a _ e n) a2⟩
    · obtain ⟨xs, hx, hm⟩ := rs1.ls a i e
      exact ⟨xs, g.at_ a _ hx hm.nt, hm⟩
    · rcases h2 a z with z | z
      · exact rs1.dz a i e z
      · obtain ⟨xs, hx, _⟩ := rs1.ls a i e
        rw [z] at hx; cases hx
  · cases e
  · cases e
theorem e_call (Fu : FnG X.prog X.w X.K X.mg X.base k f fd ps (spP X.K n rt G)) (hk : PySem.W.keepIn X.K (.ref f) = true) (hb : Binds X.K fd ps []) (hr : Room k X.A) (hgu : X.A.guards = some []) (hm : X.mg x = some (.ref f)) (ha : PA X (e :: es) (tAs X.K τ q ms)) (hn : ∀ ds (d : D) ρ ρ', ms ρ = .ok (ds, ρ') → ds.length = n) (hg : Gl X x := by rfl)
    (hdb : (x == ("__debug__" : Str)) = false := by decide) (he : starEach (e :: es) X.env = (false, eval e X.env) :: starEach es X.env := by rfl) (hpl : (backTo pos (starEach es X.env)).any (·.1) = false := by rfl) :
    PE X (.Call (.Name x p) (e :: es) [] pos) (tE X.K τ q (.ow rt) (mCallP G ms)) := (pe_callG Fu hr hgu hg hm hk hb ha hdb he hpl).mono fun σ H Q h => callP_of σ H Q h hn
end
theorem len_nil : ∀ ds (d : D) ρ ρ', mNil ρ = .ok (ds, ρ') → ds.length = 0 := fun ds d ρ ρ' e => by unfold mNil at e; cases e; rfl
theorem len_cons {m : M D} {ms : M (List D)} {n : Nat} (h : ∀ ds (d : D) ρ ρ', ms ρ = .ok (ds, ρ') → ds.length = n) : ∀ ds (d : D) ρ ρ', mCons m ms ρ = .ok (ds, ρ') → ds.length = n + 1 := fun ds d ρ ρ' e => by
  obtain ⟨x, ρ1, e1, e⟩ := bind_ok e
  obtain ⟨xs, ρ2, e2, e⟩ := bind_ok e
  cases e
  simp [h xs d _ _ e2]
end CL
namespace CL
open PySem PySem.Spec L2
set_option autoImplicit false
theorem outs_get : ∀ {ts : List OT} {ds : List D} {ρ : Sl} {out : List D}, outs ts ds ρ = some out → out.length = ts.length ∧ ∀ (k : Nat) (t : OT), ts[k]? = some t → (t = OT.sh → out[k]? = ds[k]?) ∧ (t ≠ OT.sh → ∃ d, ρ[k]? = some (some d) ∧ out[k]? = some d)
  | [], [], ρ, out, h => by simp only [outs] at h; cases h; exact ⟨rfl, fun k t e => by simp at e⟩
  | [], _ :: _, ρ, out, h => by simp [outs] at h
  | .sh :: ts, [], ρ, out, h => by simp [outs] at h
  | .ol _ _ :: ts, [], ρ, out, h => by simp [outs] at h
  | .od :: ts, [], ρ, out, h => by simp [outs] at h
  | .dv _ :: ts, [], ρ, out, h => by simp [outs] at h
  | .sh :: ts, d :: ds, ρ, out, h => by
    simp only [outs] at h
    obtain ⟨o, ho, rfl⟩ := Option.map_eq_some_iff.mp h
    obtain ⟨h1, h2⟩ := outs_get ho
    refine ⟨by simp [h1], fun k t e => ?_⟩
    cases k with
    | zero => simp at e; subst e; exact ⟨fun _ => by simp, fun n => absurd rfl n⟩
    | succ k =>
      have e' : ts[k]? = some t := by simpa using e
      obtain ⟨a, b⟩ := h2 k t e'
      refine ⟨fun z => by simpa using a z, fun z => ?_⟩
      obtain ⟨d', b1, b2⟩ := b z
      exact ⟨d', by simpa using b1, by simpa using b2⟩
  | .ol t0 t1 :: ts, d :: ds, ρ, out, h => by
    simp only [outs] at h
    split at h
    · rename_i d' hd
      obtain ⟨o, ho, rfl⟩ := Option.map_eq_some_iff.mp h
      obtain ⟨h1, h2⟩ := outs_get ho
      refine ⟨by simp [h1], fun k t e => ?_⟩
      cases k with
      | zero =>
        simp at e; subst e
        refine ⟨fun z => (by cases z), fun _ => ⟨d', ?_, by simp⟩⟩
        cases ρ with
        | nil => simp at hd
        | cons x r => simpa using hd
      | succ k =>
        have e' : ts[k]? = some t := by simpa using e
        obtain ⟨a, b⟩ := h2 k t e'
        refine ⟨fun z => by simpa using a z, fun z => ?_⟩
        obtain ⟨d'', b1, b2⟩ := b z
        exact ⟨d'', by simpa using b1, by simpa using b2⟩
    · cases h
  | .od :: ts, d :: ds, ρ, out, h => by
    simp only [outs] at h
    split at h
    · rename_i d' hd
      obtain ⟨o, ho, rfl⟩ := Option.map_eq_some_iff.mp h
      obtain ⟨h1, h2⟩ := outs_get ho
      refine ⟨by simp [h1], fun k t e => ?_⟩
      cases k with
      | zero =>
        simp at e; subst e
        refine ⟨fun z => (by cases z), fun _ => ⟨d', ?_, by simp⟩⟩
        cases ρ with
        | nil => simp at hd
        | cons x r => simpa using hd
      | succ k =>
        have e' : ts[k]? = some t := by simpa using e
        obtain ⟨a, b⟩ := h2 k t e'
        refine ⟨fun z => by simpa using a z, fun z => ?_⟩
        obtain ⟨d'', b1, b2⟩ := b z
        exact ⟨d'', by simpa using b1, by simpa using b2⟩
    · cases h
  | .dv _ :: ts, d :: ds, ρ, out, h => by
    simp only [outs] at h
    split at h
    · rename_i d' hd
      obtain ⟨o, ho, rfl⟩ := Option.map_eq_some_iff.mp h
      obtain ⟨h1, h2⟩ := outs_get ho
      refine ⟨by simp [h1], fun k t e => ?_⟩
      cases k with
      | zero =>
        simp at e; subst e
        refine ⟨fun z => (by cases z), fun _ => ⟨d', ?_, by simp⟩⟩
        cases ρ with
        | nil => simp at hd
        | cons x r => simpa using hd
      | succ k =>
        have e' : ts[k]? = some t := by simpa using e
        obtain ⟨a, b⟩ := h2 k t e'
        refine ⟨fun z => by simpa using a z, fun z => ?_⟩
        obtain ⟨d'', b1, b2⟩ := b z
        exact ⟨d'', by simpa using b1, by simpa using b2⟩
    · cases h
section
variable [Tb] {P : Program} {w : World} {K : PySem.W.Frag} {mg : Str → Option Value} {base : Heap}
/-- a def that may change what is handed in keeps its promise -/
theorem ok_d {x qual : Str} {st : Stmt} {f : Addr} {fd : FuncData} {N ps : List Str} {k nl : Nat} {ts : List OT} {F : Fr} {b : MS} (Fu : Fun K x qual st f fd) (S : FnScope N ps (defScope st)) (hF : ∀ i, i < ts.length → F.τ i = τOf ts i) (hfx : ∀ i, ioOf ts i = true → F.fx i = true) (hn : ps.length = ts.length) (hl : ts.length + nl = N.length)
    (hrt : F.rt = .sh ∨ ∀ (ds : List D) (ρ : Sl), b (ds.map some ++ List.replicate nl none) ≠ .ok (.nx, ρ))
    (hb : ∀ (cdv : Value) (A : Around) (outer : List Env) (s : Shared) (H : Hp) (E : XK), Room k (A.deeper (PyProof.Rows.envOfC qual (defScope st) s.heap.objs.size f cdv)) → A.guards = some [] → fd.code = cdv → PSs (cxOf CX0 P w K mg base N qual (defScope st) f cdv A outer s H E).nox (defBody st) (tS K F b)) :
    FnG P w K mg base (k + 1) f fd ps (spD K ts F.rt (runF ts nl b)) := by
  refine fng_ok Fu S (fun vs H Q E h => ?_) (fun cdv A outer s H vs Q E hr hgu hcd h => ?_)
  · obtain ⟨Z, own, ds, d, out, h1, _⟩ := h
    rw [h1, hn]
  · obtain ⟨Z, own, ds, d, out, h1, hd, rs0, hio, e, kk⟩ := h
    refine ⟨_, hb cdv A outer s H E hr hgu hcd, ?_⟩
    have hvl : vs.length ≤ N.length := by omega
    have rs : RS K F.τ Z own H (ds.map some ++ List.replicate nl none) (L2.start N vs) := by
      refine ⟨fun i d e => ?_, rs0.ls, rs0.dz, rs0.zt, by rw [start_len hvl]; simp; omega, rs0.tb⟩
      have e := getElem?_app e
      have hi : i < ts.length := by have := (List.getElem?_eq_some_iff.mp e).1; omega
      obtain ⟨v, hv, r⟩ := rs0.sl i d (by rw [List.getElem?_map, e]; rfl)
      rw [List.getElem?_map] at hv
      obtain ⟨v', hv', ev⟩ := Option.map_eq_some_iff.mp hv
      cases ev
      exact ⟨v, start_get hv', by rw [hF i hi]; exact r⟩
    have fin : ∀ {ρ' : Sl} {d : D} {v : V} {σ' : St} {Z' : Addr → Prop} {own' : Addr → Option Nat} {H' : Hp} {S : Addr → Prop} {out : List D}, outs ts ds ρ' = some out →
        (∀ v Z' own' H' S, RS K (τOf ts) Z' own' H' (out.map some) (vs.map some) → (∀ a i, own' a = some i → ioOf ts i = true) → R K Z' H' F.rt d v S → NewR H Z' own' H' S → Ext false Z own H Z' own' H' → Q v H') →
        RS K F.τ Z' own' H' ρ' σ' → Fix F.fx (L2.start N vs) σ' → R K Z' H' F.rt d v S → GivR F.fx own H Z' own' H' S → ExtF F.fx false Z own H Z' own' H' → Q v H' := fun {ρ' d v σ' Z' own' H' S out} ho kk rs' fx r gv x => by
      obtain ⟨o1, o2⟩ := outs_get ho
      have nofx : ∀ a i, own a = some i → F.fx i = false → False := fun a i h hf => by
        have := hfx i (hio a i h)
        rw [hf] at this; cases this
      refine kk v Z' (fun a => match own' a with | some i => if ioOf ts i = true then some i else none | none => none) H' S ⟨fun i d' e => ?_, fun a i e => ?_, fun a i e => ?_, rs'.zt, by simp [o1, h1], rs'.tb⟩ (fun a i e => ?_) r (fun a s => ?_) ⟨x.z, fun a z => ?_, fun a i e => ?_, x.kp, x.live, x.tk⟩
      · rw [List.getElem?_map] at e
        obtain ⟨d'', e', ed⟩ := Option.map_eq_some_iff.mp e
        cases ed
        have hi : i < ts.length := by have := (List.getElem?_eq_some_iff.mp e').1; omega
        obtain ⟨a1, a2⟩ := o2 i ts[i] (List.getElem?_eq_getElem hi)
        have hτ : τOf ts i = ts[i] := by simp [τOf, hi]
        cases ht : ts[i] with
        | sh =>
          rw [a1 ht] at e'
          obtain ⟨v', hv', r'⟩ := rs.sl i d' (by
            rw [List.getElem?_append_left (by simp; omega), List.getElem?_map, e']; rfl)
          rw [hF i hi, hτ, ht] at r'
          have hvv : (vs.map some)[i]? = some (some v') := by
            have hl2 : i < vs.length := by omega
            have := start_get (N := N) (List.getElem?_eq_getElem hl2)
            rw [this] at hv'
            rw [List.getElem?_map, List.getElem?_eq_getElem hl2]
            simpa using hv'
          refine ⟨v', hvv, ?_⟩
          rw [hτ, ht]
          exact rs.sh x r'
        | ol t0 t1 =>
          obtain ⟨d3, b1, b2⟩ := a2 (by rw [ht]; exact fun z => nomatch z)
          rw [b2] at e'; cases e'
          have hio' : ioOf ts i = true := by
            unfold ioOf
            rw [List.getElem?_eq_getElem hi, ht]
          obtain ⟨v', hv', r'⟩ := rs'.sl i d' b1
          rw [fx.2 i (hfx i hio')] at hv'
          have hvv : (vs.map some)[i]? = some (some v') := by
            have hl2 : i < vs.length := by omega
            have := start_get (N := N) (List.getElem?_eq_getElem hl2)
            rw [this] at hv'
            rw [List.getElem?_map, List.getElem?_eq_getElem hl2]
            simpa using hv'
          refine ⟨v', hvv, ?_⟩
          rw [← hF i hi]
          refine R.mono r' fun a ha => ?_
          show (match own' a with | some i => if ioOf ts i = true then some i else none | none => none) = some i
          rw [ha]
          exact if_pos hio'
        | od =>
          obtain ⟨d3, b1, b2⟩ := a2 (by rw [ht]; exact fun z => nomatch z)
          rw [b2] at e'; cases e'
          have hio' : ioOf ts i = true := by
            unfold ioOf
            rw [List.getElem?_eq_getElem hi, ht]
          obtain ⟨v', hv', r'⟩ := rs'.sl i d' b1
          rw [fx.2 i (hfx i hio')] at hv'
          have hvv : (vs.map some)[i]? = some (some v') := by
            have hl2 : i < vs.length := by omega
            have := start_get (N := N) (List.getElem?_eq_getElem hl2)
            rw [this] at hv'
            rw [List.getElem?_map, List.getElem?_eq_getElem hl2]
            simpa using hv'
          refine ⟨v', hvv, ?_⟩
          rw [← hF i hi]
          refine R.mono r' fun a ha => ?_
          show (match own' a with | some i => if ioOf ts i = true then some i else none | none => none) = some i
          rw [ha]
          exact if_pos hio'
        | dv t2 =>
          obtain ⟨d3, b1, b2⟩ := a2 (by rw [ht]; exact fun z => nomatch z)
          rw [b2] at e'; cases e'
          have hio' : ioOf ts i = true := by
            unfold ioOf
            rw [List.getElem?_eq_getElem hi, ht]
          obtain ⟨v', hv', r'⟩ := rs'.sl i d' b1
          rw [fx.2 i (hfx i hio')] at hv'
          have hvv : (vs.map some)[i]? = some (some v') := by
            have hl2 : i < vs.length := by omega
            have := start_get (N := N) (List.getElem?_eq_getElem hl2)
            rw [this] at hv'
            rw [List.getElem?_map, List.getElem?_eq_getElem hl2]
            simpa using hv'
          refine ⟨v', hvv, ?_⟩
          rw [← hF i hi]
          refine R.mono r' fun a ha => ?_
          show (match own' a with | some i => if ioOf ts i = true then some i else none | none => none) = some i
          rw [ha]
          exact if_pos hio'
      · split at e
        · split at e
          · cases e; rename_i hh _; exact rs'.ls a i hh
          · cases e
        · cases e
      · split at e
        · split at e
          · cases e; rename_i hh _; exact rs'.dz a i hh
          · cases e
        · cases e
      · split at e
        · split at e
          · cases e; assumption
          · cases e
        · cases e
      · obtain ⟨g1, g2, g3, g4⟩ := gv a s
        refine ⟨?_, ?_, g3, g4⟩
        · rcases g1 with g | ⟨i, g, gf⟩
          · exact g
          · exact (nofx a i g gf).elim
        · show (match own' a with | some i => if ioOf ts i = true then some i else none | none => none) = none
          rw [g2]
      · rcases x.zn a z with z | z | ⟨i, z, zf⟩
        · exact .inl z
        · exact .inr (.inl z)
        · exact (nofx a i z zf).elim
      · have e : (match own' a with | some i => if ioOf ts i = true then some i else none | none => none) = some i := e
        split at e
        · split at e
          · cases e; rename_i hh _; exact x.on a i hh
          · cases e
        · cases e
    unfold runF at e
    split at e
    · rename_i d' ρ' e'
      split at e
      · rename_i out' ho
        cases e
        exact ⟨Z, own, _, _, ρ', rs, e', fun v σ' Z' own' H' S rs' fx r gv x => fin ho kk rs' fx r gv x⟩
      · cases e
    · rename_i ρ' e'
      split at e
      · rename_i out' ho
        cases e
        rcases hrt with hrt | hrt
        · exact ⟨Z, own, _, _, ρ', rs, e', fun σ' Z' own' H' rs' fx x => fin (S := fun _ => False) ho kk rs' fx (by rw [hrt]; simp only [R, RSh]) (fun _ z => z.elim) x⟩
        · exact absurd e' (hrt ds ρ')
      · cases e
    · cases e
    · cases e
end
def AgR [Tb] (K : PySem.W.Frag) (Z : Addr → Prop) (H : Hp) (σ : St) : List Ag → List D → List V → Prop
  | [], ds, vs => ds = [] ∧ vs = []
  | .e _ :: r, ds, vs => ∃ d ds' v vs', ds = d :: ds' ∧ vs = v :: vs' ∧ RSh K Z H d v ∧ AgR K Z H σ r ds' vs'
  | .io i :: r, ds, vs => ∃ d ds' v vs', ds = d :: ds' ∧ vs = v :: vs' ∧ σ[i]? = some (some v) ∧ AgR K Z H σ r ds' vs'
def tAg [Tb] (K : PySem.W.Frag) (τ : Nat → OT) (q : Bool) (as : List Ag) : TA := fun σ H Q => ∃ Z own ρ ds ρ', RS K τ Z own H ρ σ ∧ evA as ρ = .ok (ds, ρ') ∧
  ∀ vs Z' own' H', RS K τ Z' own' H' ρ' σ → AgR K Z' H' σ as ds vs → Ext q Z own H Z' own' H' → Q vs H'
section
variable [Tb] {X : Cx} {τ : Nat → OT} {q q1 q2 : Bool} {a : Expr} {es : List Expr} {ma : M D} {as : List Ag} {pos : Pos}
theorem ag_nil : PA X [] (tAg X.K τ true []) := pa_nil.mono fun σ H Q ⟨Z, own, ρ, ds, ρ', rs, e, k⟩ => by
  have e : Res.ok (([] : List D), ρ) = .ok (ds, ρ') := e
  cases e
  exact k [] Z own H rs ⟨rfl, rfl⟩ ExtF.refl
theorem ag_e (ha : PE X a (tE X.K τ q1 .sh ma)) (hr : PA X es (tAg X.K τ q2 as)) (hs : starEach (a :: es) X.env = (false, eval a X.env) :: starEach es X.env := by rfl) : PA X (a :: es) (tAg X.K τ (q1 && q2) (.e ma :: as)) := (pa_cons ha hr hs).mono fun σ H Q ⟨Z, own, ρ, ds, ρ', rs, e, k⟩ => by
  have e : mCons ma (evA as) ρ = .ok (ds, ρ') := e
  obtain ⟨x, ρ1, e1, e⟩ := bind_ok e
  obtain ⟨xs, ρ2, e2, e⟩ := bind_ok e
  cases e
  exact ⟨Z, own, ρ, x, ρ1, rs, e1, fun v Z1 own1 H1 S1 rs1 rm1 _ x1 => ⟨Z1, own1, ρ1, xs, ρ', rs1, e2, fun ws Z2 own2 H2 rs2 rl x2 =>
    k (v :: ws) Z2 own2 H2 rs2 ⟨x, xs, v, ws, rfl, rfl, rs1.sh x2 rm1, rl⟩ (x1.trans x2)⟩⟩
theorem ag_io (i : Nat) {x : Str} {p : Pos} (hr : PA X es (tAg X.K τ q as)) (hN : X.N[i]? = some x := by rfl) (hv : Vis X.env.scope x := by first | exact Or.inl rfl | exact Or.inr (Or.inl rfl) | exact Or.inr (Or.inr rfl)) (hd : (x == ("__debug__" : Str)) = false := by decide)
    (hcd : (x == ("__classdict__" : Str)) = false := by decide) (hs : starEach (.Name x p :: es) X.env = (false, eval (.Name x p) X.env) :: starEach es X.env := by rfl) : PA X (.Name x p :: es) (tAg X.K τ q (.io i :: as)) := (pa_cons (pv i hN hv hd hcd) hr hs).mono fun σ H Q ⟨Z, own, ρ, ds, ρ', rs, e, k⟩ => by
  have e : mCons (mV i) (evA as) ρ = .ok (ds, ρ') := e
  obtain ⟨d, ρ1, e1, e⟩ := bind_ok e
  obtain ⟨xs, ρ2, e2, e⟩ := bind_ok e
  cases e
  obtain ⟨e1, rfl⟩ := mV_ok e1
  obtain ⟨v, h1, _⟩ := rs.sl i d e1
  exact ⟨v, h1, Z, own, ρ1, xs, ρ', rs, e2, fun ws Z2 own2 H2 rs2 rl x2 => k (v :: ws) Z2 own2 H2 rs2 ⟨d, xs, v, ws, rfl, rfl, h1, rl⟩ x2⟩
end
def posIo : List Ag → Nat → Option Nat
  | [], _ => none
  | .e _ :: r, i => (posIo r i).map (· + 1)
  | .io j :: r, i => if j = i then some 0 else (posIo r i).map (· + 1)
def ioIx : List Ag → List Nat
  | [] => []
  | .e _ :: r => ioIx r
  | .io j :: r => j :: ioIx r
def tysOf (τ : Nat → OT) : List Ag → List OT
  | [] => []
  | .e _ :: r => .sh :: tysOf τ r
  | .io j :: r => τ j :: tysOf τ r
def isOl : OT → Bool
  | .ol _ _ => true
  | .od => true
  | .dv _ => true
  | .sh => false
/-- the i-th argument is slot j's own list -/
def IsIo (as : List Ag) (k j : Nat) : Prop := as[k]? = some (.io j)
theorem posIo_of : ∀ {as : List Ag} {i k : Nat}, posIo as i = some k → IsIo as k i
  | [], _, _, h => by simp [posIo] at h
  | .e _ :: r, i, k, h => by
    simp only [posIo] at h
    obtain ⟨j, hj, rfl⟩ := Option.map_eq_some_iff.mp h
    have := posIo_of hj
    unfold IsIo at *
    simpa using this
  | .io j :: r, i, k, h => by
    simp only [posIo] at h
    split at h
    · rename_i e; subst e; cases h; simp [IsIo]
    · obtain ⟨j, hj, rfl⟩ := Option.map_eq_some_iff.mp h
      have := posIo_of hj
      unfold IsIo at *
      simpa using this
theorem mem_ioIx : ∀ {as : List Ag} {i k : Nat}, IsIo as k i → i ∈ ioIx as
  | [], _, _, h => by simp [IsIo] at h
  | .e _ :: r, i, 0, h => by simp [IsIo] at h
  | .e _ :: r, i, k + 1, h => by
    have : IsIo r k i := by simpa [IsIo] using h
    simpa [ioIx] using mem_ioIx this
  | .io j :: r, i, 0, h => by
    have : j = i := by simpa [IsIo] using h
    simp [ioIx, this]
  | .io j :: r, i, k + 1, h => by
    have : IsIo r k i := by simpa [IsIo] using h
    simp [ioIx, mem_ioIx this]
theorem posIo_is : ∀ {as : List Ag} {i k : Nat}, (ioIx as).Nodup → IsIo as k i → posIo as i = some k
  | [], _, _, _, h => by simp [IsIo] at h
  | .e _ :: r, i, 0, _, h => by simp [IsIo] at h
  | .e _ :: r, i, k + 1, n, h => by
    have h' : IsIo r k i := by simpa [IsIo] using h
    simp [posIo, posIo_is (by simpa [ioIx] using n) h']
  | .io j :: r, i, 0, n, h => by
    have : j = i := by simpa [IsIo] using h
    simp [posIo, this]
  | .io j :: r, i, k + 1, n, h => by
    have h' : IsIo r k i := by simpa [IsIo] using h
    have n' : j ∉ ioIx r ∧ (ioIx r).Nodup := by simpa [ioIx] using n
    have : j ≠ i := fun e => n'.1 (e ▸ mem_ioIx h')
    simp [posIo, this, posIo_is n'.2 h']
/-- what is handed in, by places -/
theorem fill_get [Tb] {K : PySem.W.Frag} {Z : Addr → Prop} {H : Hp} {σ : St} {τ : Nat → OT} {ρ : Sl} : ∀ {as : List Ag} {ds full : List D} {vs : List V}, fillA as ds ρ = some full → AgR K Z H σ as ds vs →
    full.length = as.length ∧ vs.length = as.length ∧ (tysOf τ as).length = as.length ∧ ∀ k d, full[k]? = some d → ∃ v, vs[k]? = some v ∧
      (((tysOf τ as)[k]? = some OT.sh ∧ (∀ i, ¬ IsIo as k i) ∧ RSh K Z H d v) ∨ ∃ i, IsIo as k i ∧ (tysOf τ as)[k]? = some (τ i) ∧ ρ[i]? = some (some d) ∧ σ[i]? = some (some v))
  | [], _, full, _, e, ⟨e1, e2⟩ => by
    subst e1 e2
    simp only [fillA] at e
    cases e
    exact ⟨rfl, rfl, rfl, fun k d h => by simp at h⟩
  | .e m :: r, _, full, _, e, ⟨d, ds', v, vs', e1, e2, r1, r2⟩ => by
    subst e1 e2
    simp only [fillA] at e
    obtain ⟨o, ho, rfl⟩ := Option.map_eq_some_iff.mp e
    obtain ⟨a1, a2, a3, a4⟩ := fill_get (τ := τ) ho r2
    refine ⟨by simp [a1], by simp [a2], by simp [tysOf, a3], fun k d' h => ?_⟩
    cases k with
    | zero => simp at h; subst h; exact ⟨v, by simp, .inl ⟨by simp [tysOf], fun i z => by simp [IsIo] at z, r1⟩⟩
    | succ k =>
      obtain ⟨w, b1, b2⟩ := a4 k d' (by simpa using h)
      refine ⟨w, by simpa using b1, ?_⟩
      rcases b2 with ⟨c1, c2, c3⟩ | ⟨i, c1, c2, c3⟩
      · exact .inl ⟨by simpa [tysOf] using c1, fun i z => c2 i (by simpa [IsIo] using z), c3⟩
      · exact .inr ⟨i, by simpa [IsIo] using c1, by simpa [tysOf] using c2, c3⟩
  | .io j :: r, _, full, _, e, ⟨d, ds', v, vs', e1, e2, r1, r2⟩ => by
    subst e1 e2
    simp only [fillA] at e
    split at e
    · rename_i d0 hd0
      obtain ⟨o, ho, rfl⟩ := Option.map_eq_some_iff.mp e
      obtain ⟨a1, a2, a3, a4⟩ := fill_get (τ := τ) ho r2
      refine ⟨by simp [a1], by simp [a2], by simp [tysOf, a3], fun k d' h => ?_⟩
      cases k with
      | zero => simp at h; subst h; exact ⟨v, by simp, .inr ⟨j, by simp [IsIo], by simp [tysOf], hd0, r1⟩⟩
      | succ k =>
        obtain ⟨w, b1, b2⟩ := a4 k d' (by simpa using h)
        refine ⟨w, by simpa using b1, ?_⟩
        rcases b2 with ⟨c1, c2, c3⟩ | ⟨i, c1, c2, c3⟩
        · exact .inl ⟨by simpa [tysOf] using c1, fun i z => c2 i (by simpa [IsIo] using z), c3⟩
        · exact .inr ⟨i, by simpa [IsIo] using c1, by simpa [tysOf] using c2, c3⟩
    · cases e
/-- what stands in the slots behind the call -/
theorem back_get : ∀ {as : List Ag} {out : List D} {ρ : Sl} {i : Nat} {d : D}, (ioIx as).Nodup → out.length = as.length → (backA as out ρ)[i]? = some (some d) → (∃ k, IsIo as k i ∧ out[k]? = some d) ∨ ((∀ k, ¬ IsIo as k i) ∧ ρ[i]? = some (some d))
  | [], out, ρ, i, d, _, _, h => .inr ⟨fun k z => by simp [IsIo] at z, by simpa [backA] using h⟩
  | .e m :: r, [], ρ, i, d, _, hl, h => by simp at hl
  | .io j :: r, [], ρ, i, d, _, hl, h => by simp at hl
  | .e m :: r, o :: out, ρ, i, d, n, hl, h => by
    simp only [backA] at h
    rcases back_get (by simpa [ioIx] using n) (by simpa using hl) h with ⟨k, a, b⟩ | ⟨a, b⟩
    · exact .inl ⟨k + 1, by simpa [IsIo] using a, by simpa using b⟩
    · refine .inr ⟨fun k z => ?_, b⟩
      cases k with
      | zero => simp [IsIo] at z
      | succ k => exact a k (by simpa [IsIo] using z)
  | .io j :: r, o :: out, ρ, i, d, n, hl, h => by
    simp only [backA] at h
    have n' : j ∉ ioIx r ∧ (ioIx r).Nodup := by simpa [ioIx] using n
    rcases back_get n'.2 (by simpa using hl) h with ⟨k, a, b⟩ | ⟨a, b⟩
    · exact .inl ⟨k + 1, by simpa [IsIo] using a, by simpa using b⟩
    · by_cases hij : j = i
      · subst hij
        rw [List.getElem?_set] at b
        split at b
        · split at b
          · cases b; exact .inl ⟨0, by simp [IsIo], by simp⟩
          · cases b
        · rename_i z; exact absurd rfl z
      · rw [List.getElem?_set_ne hij] at b
        refine .inr ⟨fun k z => ?_, b⟩
        cases k with
        | zero => exact hij (by simpa [IsIo] using z)
        | succ k => exact a k (by simpa [IsIo] using z)
theorem back_len : ∀ (as : List Ag) (out : List D) (ρ : Sl), (backA as out ρ).length = ρ.length
  | [], _, _ => by simp [backA]
  | .e _ :: r, [], _ => by simp [backA]
  | .io _ :: r, [], _ => by simp [backA]
  | .e _ :: r, _ :: o, ρ => by simp only [backA]; exact back_len r o ρ
  | .io i :: r, d :: o, ρ => by simp only [backA]; rw [back_len r o]; simp
section
variable [Tb] {X : Cx} {τ : Nat → OT} {q : Bool} {k : Nat} {f : Addr} {fd : FuncData} {ps : List Str} {x : Str} {p pos : Pos} {e : Expr} {es : List Expr} {as : List Ag} {rt : OT} {G : Fn}
theorem callF_of (hnd : (ioIx as).Nodup) (hol : ∀ i, i ∈ ioIx as → isOl (τ i) = true) (hG : ∀ ds d out, G ds = .ok (d, out) → out.length = (tysOf τ as).length) : ∀ σ H Q, tE X.K τ false (.ow rt) (mCall G as) σ H Q → tAg X.K τ q as σ H fun vs H1 => spD X.K (tysOf τ as) rt G vs H1 Q E0 := fun σ H Q ⟨Z, own, ρ, d, ρ', rs, e, kk⟩ => by
  obtain ⟨ds, ρ1, e1, e⟩ := bind_ok e
  split at e
  case h_1 => cases e
  rename_i full ef
  split at e
  case h_2 => cases e
  case h_3 => cases e
  rename_i d' out eg
  cases e
  refine ⟨Z, own, ρ, ds, ρ1, rs, e1, fun vs Z1 own1 H1 rs1 rl x1 => ?_⟩
  obtain ⟨l1, l2, l3, hf⟩ := fill_get (τ := τ) ef rl
  have lo : out.length = as.length := by rw [hG _ _ _ eg, l3]
  have ioT : ∀ k i, IsIo as k i → (tysOf τ as)[k]? = some (τ i) ∧ ioOf (tysOf τ as) k = true := fun k i h => by
    have hk : k < full.length := by
      have := (List.getElem?_eq_some_iff.mp h).1
      omega
    obtain ⟨v, _, c⟩ := hf k full[k] (List.getElem?_eq_getElem hk)
    rcases c with ⟨c1, c2, c3⟩ | ⟨j, c1, c2, _⟩
    · exact absurd h (c2 i)
    · have : j = i := by
        unfold IsIo at h c1
        rw [h] at c1; cases c1; rfl
      subst this
      refine ⟨c2, ?_⟩
      have := hol j (mem_ioIx h)
      unfold ioOf
      rw [c2]
      revert this
      cases τ j <;> simp [isOl]
  let oc : Addr → Option Nat := fun a => (own1 a).bind (posIo as)
  have hoc : ∀ a k, oc a = some k → ∃ i, own1 a = some i ∧ IsIo as k i := fun a k h => by
    obtain ⟨i, h1, h2⟩ := Option.bind_eq_some_iff.mp h
    exact ⟨i, h1, posIo_of h2⟩
  have rsc : RS X.K (τOf (tysOf τ as)) Z1 oc H1 (full.map some) (vs.map some) := by
    refine ⟨fun k d e => ?_, fun a k h => ?_, fun a k h => ?_, rs1.zt, by simp [l1, l2], rs1.tb⟩
    · rw [List.getElem?_map] at e
      obtain ⟨d', e', ed⟩ := Option.map_eq_some_iff.mp e
      cases ed
      obtain ⟨v, hv, c⟩ := hf k d e'
      refine ⟨v, by rw [List.getElem?_map, hv]; rfl, ?_⟩
      rcases c with ⟨c1, c2, c3⟩ | ⟨i, c1, c2, c3, c4⟩
      · have : τOf (tysOf τ as) k = .sh := by simp [τOf, c1]
        rw [this]; exact c3
      · have : τOf (tysOf τ as) k = τ i := by simp [τOf, c2]
        rw [this]
        obtain ⟨v', hv', r'⟩ := rs1.sl i d c3
        rw [c4] at hv'; cases hv'
        refine R.mono r' fun a ha => ?_
        show (own1 a).bind (posIo as) = some k
        rw [ha]
        exact posIo_is hnd c1
    · obtain ⟨i, h1, _⟩ := hoc a k h
      exact rs1.ls a i h1
    · obtain ⟨i, h1, _⟩ := hoc a k h
      exact rs1.dz a i h1
  refine ⟨Z1, oc, full, _, out, by rw [l2, l3], by rw [l1, l3], rsc, fun a k h => ?_, eg, fun v Z2 oc2 H2 S rs2 h2 r hS x2 => ?_⟩
  · obtain ⟨i, _, h2⟩ := hoc a k h
    exact (ioT k i h2).2
  · let ow2 : Addr → Option Nat := fun a => match oc2 a with
      | some k => (match as[k]? with | some (.io i) => some i | _ => none)
      | none => (match own1 a with | some i => if posIo as i = none then some i else none | none => none)
    have hio2 : ∀ a i, ow2 a = some i → (∃ k, oc2 a = some k ∧ IsIo as k i) ∨ (oc2 a = none ∧ own1 a = some i ∧ posIo as i = none) := fun a i h => by
      have h : (match oc2 a with
        | some k => (match as[k]? with | some (.io i) => some i | _ => none)
        | none => (match own1 a with | some i => if posIo as i = none then some i else none | none => none)) = some i := h
      split at h
      · rename_i k hk
        split at h
        · rename_i j hj
          cases h
          exact .inl ⟨k, hk, hj⟩
        · cases h
      · rename_i hk
        split at h
        · rename_i j hj
          split at h
          · cases h; exact .inr ⟨hk, hj, by assumption⟩
          · cases h
        · cases h
    refine kk v Z2 ow2 H2 S ⟨fun i d0 e => ?_, fun a i h => ?_, fun a i h => ?_, rs2.zt, by rw [back_len]; exact rs1.len, rs2.tb⟩ r (fun a s => ?_) (x1.trans' (q2 := false) (fun z => nomatch z) (⟨x2.z, fun a z => (x2.zn a z).elim .inl (fun z => z.elim (fun z => .inr (.inl z)) (fun ⟨_, _, z⟩ => absurd z (by simp))), fun a i h => ?_, fun a o e h n => ?_, x2.live, x2.tk⟩ : ExtF fxT false Z1 own1 H1 Z2 ow2 H2))
    · rcases back_get hnd lo e with ⟨k, c1, c2⟩ | ⟨c1, c2⟩
      · obtain ⟨w, hw, rw'⟩ := rs2.sl k d0 (by rw [List.getElem?_map, c2]; rfl)
        have hk : k < full.length := by
          have := (List.getElem?_eq_some_iff.mp c1).1
          omega
        obtain ⟨v0, hv0, c⟩ := hf k full[k] (List.getElem?_eq_getElem hk)
        have c4 : σ[i]? = some (some v0) := by
          rcases c with ⟨_, c, _⟩ | ⟨j, d1, _, _, d4⟩
          · exact absurd c1 (c i)
          · have : j = i := by
              unfold IsIo at c1 d1
              rw [c1] at d1; cases d1; rfl
            subst this; exact d4
        rw [List.getElem?_map, hv0] at hw
        cases hw
        refine ⟨_, c4, ?_⟩
        have : τOf (tysOf τ as) k = τ i := by simp [τOf, (ioT k i c1).1]
        rw [this] at rw'
        refine R.mono rw' fun a ha => ?_
        show (match oc2 a with
          | some k => (match as[k]? with | some (.io i) => some i | _ => none)
          | none => (match own1 a with | some i => if posIo as i = none then some i else none | none => none)) = some i
        rw [ha]
        show (match as[k]? with | some (.io i) => some i | _ => none) = some i
        rw [show as[k]? = some (.io i) from c1]
      · obtain ⟨w, hw, rw'⟩ := rs1.sl i d0 c2
        refine ⟨w, hw, ?_⟩
        have np : posIo as i = none := by
          cases h : posIo as i with
          | none => rfl
          | some k => exact absurd (posIo_of h) (c1 k)
        have ocn : ∀ a, own1 a = some i → oc a = none := fun a h => by
          show (own1 a).bind (posIo as) = none
          rw [h]; exact np
        refine R.mono (R.pres x2.z (rsc.nl x2) (fun _ _ z s _ => rsc.kz x2 (.inl z) s) (fun a xs s hx _ => x2.keep a _ hx (.inl (ocn a s))) rw') fun a ha => ?_
        have oc2n : oc2 a = none := by
          cases h : oc2 a with
          | none => rfl
          | some k =>
            rcases x2.on a k h with z | z
            · rw [ocn a ha] at z; cases z
            · obtain ⟨xs, hx, _⟩ := rs1.ls a i ha
              rw [hx] at z; cases z
        show (match oc2 a with
          | some k => (match as[k]? with | some (.io i) => some i | _ => none)
          | none => (match own1 a with | some i => if posIo as i = none then some i else none | none => none)) = some i
        rw [oc2n, ha]
        exact if_pos np
    · rcases hio2 a i h with ⟨k, h1, _⟩ | ⟨h1, h2', h3⟩
      · exact rs2.ls a k h1
      · obtain ⟨xs, hx, hm⟩ := rs1.ls a i h2'
        have ocn : oc a = none := by
          show (own1 a).bind (posIo as) = none
          rw [h2']; exact h3
        exact ⟨xs, x2.keep a _ hx (.inl ocn), hm⟩
    · rcases hio2 a i h with ⟨k, h1, _⟩ | ⟨h1, h2', h3⟩
      · exact rs2.dz a k h1
      · intro z
        rcases x2.zn a z with z | z | ⟨j, z, zf⟩
        · exact rs1.dz a i h2' z
        · obtain ⟨xs, hx, _⟩ := rs1.ls a i h2'
          rw [hx] at z; cases z
        · cases zf
    · obtain ⟨s1, s2, s3, s4⟩ := hS a s
      refine ⟨x1.back s1, ?_, s3, s4⟩
      show (match oc2 a with
        | some k => (match as[k]? with | some (.io i) => some i | _ => none)
        | none => (match own1 a with | some i => if posIo as i = none then some i else none | none => none)) = none
      rw [s2]
      cases ho : own1 a with
      | none => rfl
      | some i => obtain ⟨xs, hx, _⟩ := rs1.ls a i ho; rw [s1] at hx; cases hx
    · rcases hio2 a i h with ⟨k, h1, h2'⟩ | ⟨h1, h2', h3⟩
      · rcases x2.on a k h1 with z | z
        · obtain ⟨j, z1, z2⟩ := hoc a k z
          have : j = i := by
            unfold IsIo at h2' z2
            rw [h2'] at z2; cases z2; rfl
          subst this
          exact .inl z1
        · exact .inr z
      · exact .inl h2'
    · rcases h with h | h
      · exact x2.keep a o e (.inl (by show (own1 a).bind (posIo as) = none; rw [h]; rfl))
      · cases h
theorem e_callF (Fu : FnG X.prog X.w X.K X.mg X.base k f fd ps (spD X.K (tysOf τ as) rt G)) (hk : PySem.W.keepIn X.K (.ref f) = true) (hb : Binds X.K fd ps []) (hr : Room k X.A) (hgu : X.A.guards = some []) (hm : X.mg x = some (.ref f)) (ha : PA X (e :: es) (tAg X.K τ q as)) (hG : ∀ ds d out, G ds = .ok (d, out) → out.length = (tysOf τ as).length) (hnd : (ioIx as).Nodup := by simp [ioIx]) (hol : ∀ i, i ∈ ioIx as → isOl (τ i) = true := by simp [ioIx, isOl]) (hg : Gl X x := by rfl)
    (hdb : (x == ("__debug__" : Str)) = false := by decide) (he : starEach (e :: es) X.env = (false, eval e X.env) :: starEach es X.env := by rfl) (hpl : (backTo pos (starEach es X.env)).any (·.1) = false := by rfl) :
    PE X (.Call (.Name x p) (e :: es) [] pos) (tE X.K τ false (.ow rt) (mCall G as)) := (pe_callG Fu hr hgu hg hm hk hb ha hdb he hpl).mono (callF_of hnd hol hG)
end
theorem runF_len {ts : List OT} {nl : Nat} {b : MS} : ∀ ds d out, runF ts nl b ds = .ok (d, out) → out.length = ts.length := fun ds d out e => by
  unfold runF at e
  split at e
  · split at e
    · rename_i ho; cases e; exact (outs_get ho).1
    · cases e
  · split at e
    · rename_i ho; cases e; exact (outs_get ho).1
    · cases e
  · cases e
  · cases e
end CL
namespace CL
open PySem PySem.Spec L2
set_option autoImplicit false
section
variable [Tb] {K : PySem.W.Frag} {τ : Nat → OT} {Z : Addr → Prop} {own : Addr → Option Nat} {H : Hp} {ρ : Sl} {σ : St} {i : Nat}
theorem upd_sqL {a : Addr} {ys : List V} (hz : ¬ Z a) : ∀ b o, Z b → H b = some o → NT o → upd H a (.lst ys) b = some o := fun b o z s _ => by
  rw [upd_ne (fun e => by subst e; exact hz z)]; exact s
/-- a slot's own list is changed -/
theorem RS.updOwn {a : Addr} {xs ys : List V} {v : V} {d : D} (h : RS K τ Z own H ρ σ) (ho : own a = some i) (ha : H a = some (.lst xs)) (hv : σ[i]? = some (some v)) (hn : R K Z (upd H a (.lst ys)) (τ i) d v (fun b => own b = some i)) :
    RS K τ Z own (upd H a (.lst ys)) (ρ.set i (some d)) σ ∧ Ext false Z own H Z own (upd H a (.lst ys)) := by
  have hz := h.dz a i ho
  refine ⟨⟨fun j d' e => ?_, fun b j e => ?_, h.dz, fun b z e => ?_, by simpa using h.len, (upd_tk ha trivial).ok h.tb⟩, fun _ z => z, fun _ z => .inl z, fun _ _ z => .inl z, fun b o e hb _ => ?_, fun b e n => ?_, upd_tk ha trivial⟩
  · by_cases hij : i = j
    · subst hij
      rw [List.getElem?_set] at e
      split at e
      · split at e
        · cases e; exact ⟨v, hv, hn⟩
        · cases e
      · rename_i n; exact absurd rfl n
    · rw [List.getElem?_set_ne hij] at e
      obtain ⟨w, e1, e2⟩ := h.sl j d' e
      refine ⟨w, e1, R.pres (fun _ z => z) (upd_nl ha trivial) (upd_sqL hz) (fun b zs s hb _ => ?_) e2⟩
      rw [upd_ne (fun e => by subst e; rw [ho] at s; cases s; exact hij rfl)]; exact hb
  · by_cases hb : b = a
    · subst hb; exact ⟨_, upd_same, trivial⟩
    · obtain ⟨zs, hx, hm⟩ := h.ls b j e
      exact ⟨zs, by rw [upd_ne hb]; exact hx, hm⟩
  · rw [upd_ne (fun w => by subst w; exact hz z)] at e
    exact h.zt b z e
  · rcases hb with hb | hb
    · rw [upd_ne (fun w => by subst w; rw [ho] at hb; cases hb)]; exact e
    · cases hb
  · by_cases hb : b = a
    · subst hb; rw [upd_same] at n; cases n
    · rw [upd_ne hb] at n; exact e n
theorem RS.own1 {l : List D} (h : RS K τ Z own H ρ σ) (ht : τ i = .ol .sh .sh) (hi : ρ[i]? = some (some (.lst l))) : ∃ a xs, σ[i]? = some (some (.ref a)) ∧ H a = some (.lst xs) ∧ own a = some i ∧ RShL K Z H l xs ∧
    ∀ l' ys, RShL K Z H l' ys → RS K τ Z own (upd H a (.lst ys)) (ρ.set i (some (.lst l'))) σ ∧ Ext false Z own H Z own (upd H a (.lst ys)) := by
  obtain ⟨v, hv, r⟩ := h.sl i _ hi
  rw [ht] at r
  obtain ⟨l0, a, xs, ow, e1, rfl, e3, e4, e5, e6, e7, e8⟩ := r
  cases e1
  refine ⟨a, xs, hv, e3, e4, .of_get e6 fun n d v p q => ?_, fun l' ys r' => h.updOwn e4 e3 hv ?_⟩
  · cases n with
    | zero => exact e7 d v p q
    | succ n => exact e8 n d v p q
  · rw [ht]
    have rr : RShL K Z (upd H a (.lst ys)) l' ys := RShL.pres (fun _ z => z) (upd_nl e3 trivial) (upd_sqL (h.dz a i e4)) _ _ r'
    refine ⟨l', a, ys, ow, rfl, rfl, upd_same, e4, e5, rr.len, fun d v p q => ?_, fun n d v p q => ?_⟩
    · obtain ⟨w, x, y⟩ := rr.get p
      rw [q] at x; cases x; exact y
    · obtain ⟨w, x, y⟩ := rr.get p
      rw [q] at x; cases x; exact y
theorem RS.own0 {l r : List D} {t : OT} (h : RS K τ Z own H ρ σ) (ht : τ i = .ol (.ol .sh .sh) t) (hi : ρ[i]? = some (some (.lst (.lst l :: r)))) : ∃ a b xs ys, σ[i]? = some (some (.ref a)) ∧ H a = some (.lst (.ref b :: xs)) ∧ H b = some (.lst ys) ∧ own b = some i ∧ RShL K Z H l ys ∧
    ∀ l' ys', RShL K Z H l' ys' → RS K τ Z own (upd H b (.lst ys')) (ρ.set i (some (.lst (.lst l' :: r)))) σ ∧ Ext false Z own H Z own (upd H b (.lst ys')) := by
  obtain ⟨v, hv, rr⟩ := h.sl i _ hi
  rw [ht] at rr
  obtain ⟨l0, a, xs0, ow, e1, rfl, e3, e4, e5, e6, e7, e8⟩ := rr
  cases e1
  cases xs0 with
  | nil => simp at e6
  | cons v0 xs =>
    obtain ⟨l1, b, ys, ow', f1, rfl, f3, f4, f5, f6, f7, f8⟩ := e7 (.lst l) v0 (by simp) (by simp)
    cases f1
    have hz := h.dz b i f4.1
    have nab : a ≠ b := fun e => by subst e; rw [e5] at f4; cases f4.2
    refine ⟨a, b, xs, ys, hv, e3, f3, f4.1, .of_get f6 fun n d v p q => ?_, fun l' ys' r' => h.updOwn f4.1 f3 hv ?_⟩
    · cases n with
      | zero => exact f7 d v p q
      | succ n => exact f8 n d v p q
    · rw [ht]
      have rl : RShL K Z (upd H b (.lst ys')) l' ys' := RShL.pres (fun _ z => z) (upd_nl f3 trivial) (upd_sqL hz) _ _ r'
      refine ⟨.lst l' :: r, a, .ref b :: xs, ow, rfl, rfl, by rw [upd_ne nab]; exact e3, e4, e5, by simpa using e6, fun d v p q => ?_, fun n d v p q => ?_⟩
      · simp at p q
        subst p q
        refine ⟨l', b, ys', ow', rfl, rfl, upd_same, f4, f5, rl.len, fun d v p q => ?_, fun n d v p q => ?_⟩
        · obtain ⟨w, x, y⟩ := rl.get p
          rw [q] at x; cases x; exact y
        · obtain ⟨w, x, y⟩ := rl.get p
          rw [q] at x; cases x; exact y
      · refine R.pres (fun _ z => z) (upd_nl f3 trivial) (upd_sqL hz) (fun c zs s hc _ => ?_) (e8 n d v (by simpa using p) (by simpa using q))
        rw [upd_ne (fun e => by subst e; rw [f4.2] at s; cases s.2)]; exact hc
theorem RS.ownS {l : List D} {t0 : OT} (h : RS K τ Z own H ρ σ) (ht : τ i = .ol t0 .sh) (hi : ρ[i]? = some (some (.lst l))) : ∃ a xs, σ[i]? = some (some (.ref a)) ∧ H a = some (.lst xs) ∧ l.length = xs.length ∧ (∀ k d, l[k + 1]? = some d → ∃ v, xs[k + 1]? = some v ∧ RSh K Z H d v) ∧
    ∀ k d v, RSh K Z H d v → RS K τ Z own (upd H a (.lst (xs.set (k + 1) v))) (ρ.set i (some (.lst (l.set (k + 1) d)))) σ ∧ Ext false Z own H Z own (upd H a (.lst (xs.set (k + 1) v))) := by
  obtain ⟨v, hv, rr⟩ := h.sl i _ hi
  rw [ht] at rr
  obtain ⟨l0, a, xs, ow, e1, rfl, e3, e4, e5, e6, e7, e8⟩ := rr
  cases e1
  have hz := h.dz a i e4
  refine ⟨a, xs, hv, e3, e6, fun k d e => ?_, fun k d v r => h.updOwn e4 e3 hv ?_⟩
  · have hk : k + 1 < xs.length := by rw [← e6]; exact (List.getElem?_eq_some_iff.mp e).1
    exact ⟨_, List.getElem?_eq_getElem hk, e8 k d _ e (List.getElem?_eq_getElem hk)⟩
  · rw [ht]
    have rn : RSh K Z (upd H a (.lst (xs.set (k + 1) v))) d v := RSh.pres (fun _ z => z) (upd_nl e3 trivial) (upd_sqL hz) _ _ r
    refine ⟨l.set (k + 1) d, a, _, ow, rfl, rfl, upd_same, e4, e5, by simpa using e6, fun d' v' p q => ?_, fun n d' v' p q => ?_⟩
    · rw [List.getElem?_set_ne (by omega)] at p q
      refine R.pres (fun _ z => z) (upd_nl e3 trivial) (upd_sqL hz) (fun c zs s hc _ => ?_) (e7 d' v' p q)
      rw [upd_ne (fun e => by subst e; rw [e5] at s; cases s.2)]; exact hc
    · by_cases hn : k = n
      · subst hn
        rw [List.getElem?_set] at p q
        simp only [if_true] at p q
        split at p
        · split at q
          · cases p; cases q; exact rn
          · cases q
        · cases p
      · rw [List.getElem?_set_ne (by omega)] at p q
        exact RSh.pres (fun _ z => z) (upd_nl e3 trivial) (upd_sqL hz) _ _ (e8 n d' v' p q)
end
def mApp (i : Nat) (m : M D) : M D := bind (mV i) fun _ => bind m fun d => fun ρ => match ρ[i]? with
  | some (some (.lst l)) => if l.length < 16777216 then .ok (.non, ρ.set i (some (.lst (l ++ [d])))) else .bad
  | _ => .bad
def mIx0 (i : Nat) : M D := fun ρ => match ρ[i]? with
  | some (some (.lst (.lst l :: _))) => .ok (.lst l, ρ)
  | _ => .bad
def mApp0 (i : Nat) (m : M D) : M D := bind (mIx0 i) fun _ => bind m fun d => fun ρ => match ρ[i]? with
  | some (some (.lst (.lst l :: r))) => if l.length < 16777216 then .ok (.non, ρ.set i (some (.lst (.lst (l ++ [d]) :: r)))) else .bad
  | _ => .bad
def mPop0 (i : Nat) : M D := fun ρ => match ρ[i]? with
  | some (some (.lst (.lst l :: r))) => (match l[l.length - 1]? with | some d => .ok (d, ρ.set i (some (.lst (.lst l.dropLast :: r)))) | none => .bad)
  | _ => .bad
def mIxS (i k : Nat) : M D := fun ρ => match ρ[i]? with
  | some (some (.lst l)) => (match l[k + 1]? with | some d => .ok (d, ρ) | none => .bad)
  | _ => .bad
def sSto (i k : Nat) (m : M D) : MS := bind m fun d => fun ρ => match ρ[i]? with
  | some (some (.lst l)) => if k + 1 < l.length then .ok (.nx, ρ.set i (some (.lst (l.set (k + 1) d)))) else .bad
  | _ => .bad
theorem RShL.dropLast {K : PySem.W.Frag} {Z : Addr → Prop} {H : Hp} {ds : List D} {vs : List V} (h : RShL K Z H ds vs) : RShL K Z H ds.dropLast vs.dropLast := by
  rw [List.dropLast_eq_take, List.dropLast_eq_take, h.len]
  exact h.take _
section
variable [Tb] {X : Cx} {τ : Nat → OT} {q : Bool} {e : Expr} {ma : M D} {pos apos p1 p2 : Pos} {x : Str} {kk : Nat}
theorem e_app (i : Nat) (he : PA X [e] (tAs X.K τ q (mCons ma mNil))) (ht : τ i = .ol .sh .sh := by rfl) (hN : X.N[i]? = some x := by rfl) (hv : Vis X.env.scope x := by first | exact Or.inl rfl | exact Or.inr (Or.inl rfl) | exact Or.inr (Or.inr rfl)) (hd : (x == ("__debug__" : Str)) = false := by decide)
    (hcd : (x == ("__classdict__" : Str)) = false := by decide) (hbase : attributeBase (.Name x p1) "append" X.env (eval (.Name x p1) X.env) = eval (.Name x p1) X.env := by rfl)
    (hfew : ((backTo pos (starEach [e] X.env)).all (fun x => !x.1) && (backToKw pos (keywordEach [] X.env)).all (fun x => x.1.isSome) && decide ([e].length + ([] : List Keyword).length + (if ([] : List Keyword).isEmpty then 0 else 1) < 30)) = true := by rfl)
    (hline : (apos.endLine == pos.line) = true := by rfl) (hs : starEach [e] X.env = (false, eval e X.env) :: starEach [] X.env := by rfl) (hplain : (backTo pos (starEach [] X.env)).any (·.1) = false := by rfl) :
    PE X (.Call (.Attribute (.Name x p1) "append" apos) [e] [] pos) (tE X.K τ false .sh (mApp i ma)) :=
  (pe_bm PySem.F.plainAttrs_list PySem.F.slot_list_append PySem.F.type_list_append mt_append (pv i hN hv hd hcd) he hbase hfew hline hs hplain).mono fun σ H Q ⟨Z, own, ρ, d, ρ', rs, e, k⟩ => by
    obtain ⟨y, ρ1, e1, f1⟩ := bind_ok e
    obtain ⟨e1, rfl⟩ := mV_ok e1
    obtain ⟨d1, ρ2, e2, f2⟩ := bind_ok f1
    split at f2
    · rename_i l hl
      split at f2
      · rename_i hll
        cases f2
        obtain ⟨v, hv1, hr⟩ := rs.sl i y e1
        rw [ht] at hr
        obtain ⟨l0, a, xs, ow, h1, rfl, h3, h4, h5, h6, h7, h8⟩ := hr
        refine ⟨.ref a, hv1, .inl ⟨rfl, xs, SqL.of h3⟩, Z, own, ρ1, [d1], ρ2, rs, by unfold mCons; rw [bind_of e2]; rfl, fun vs Z1 own1 H1 rs1 rl x1 => ?_⟩
        simp only [RShL] at rl
        obtain ⟨w, ws, rfl, r1, rfl⟩ := rl
        obtain ⟨a', xs', g1, g2, g3, g4, g5⟩ := rs1.own1 ht hl
        rw [hv1] at g1; cases g1
        obtain ⟨rs2, x2⟩ := g5 (l ++ [d1]) (xs' ++ [w]) (g4.append (.one r1))
        refine ⟨a, xs', w, rfl, rfl, g2, by rw [← g4.len, szL]; exact hll, k _ Z1 own1 _ (fun _ => False) rs2 (by simp only [Rm, R, RSh]) (fun _ z => z.elim) ((x1.weak).transF x2)⟩
      · cases f2
    · cases f2
theorem e_ix0 (i : Nat) {t : OT} (ht : τ i = .ol (.ol .sh .sh) t := by rfl) (hN : X.N[i]? = some x := by rfl) (hv : Vis X.env.scope x := by first | exact Or.inl rfl | exact Or.inr (Or.inl rfl) | exact Or.inr (Or.inr rfl)) (hd : (x == ("__debug__" : Str)) = false := by decide)
    (hcd : (x == ("__classdict__" : Str)) = false := by decide) : PE X (.Subscript (.Name x p1) (.Constant (.int 0) kk p2) pos) (tE X.K τ true .pk (mIx0 i)) :=
  (pe_ix ix_list (pv i hN hv hd hcd) pe_int (fun _ _ => rfl)).mono fun σ H Q ⟨Z, own, ρ, d, ρ', rs, e, k⟩ => by
    unfold mIx0 at e
    split at e
    · rename_i l r hl
      cases e
      obtain ⟨a, b, xs, ys, g1, g2, g3, g4, g5, g6⟩ := rs.own0 ht hl
      exact ⟨.ref a, g1, a, .ref b :: xs, 0, .ref b, rfl, rfl, SqL.of g2, atI_nat (j := 0) rfl, k _ Z own H (fun _ => False) rs (.inr ⟨l, b, ys, rfl, rfl, g3, by rw [g4]; simp, g5⟩) (fun _ z => z.elim) ExtF.refl⟩
    · cases e
theorem e_ixS (i k : Nat) {t0 : OT} {j : Int} (ht : τ i = .ol t0 .sh := by rfl) (hj : j = ((k + 1 : Nat) : Int) := by rfl) (hN : X.N[i]? = some x := by rfl) (hv : Vis X.env.scope x := by first | exact Or.inl rfl | exact Or.inr (Or.inl rfl) | exact Or.inr (Or.inr rfl)) (hd : (x == ("__debug__" : Str)) = false := by decide)
    (hcd : (x == ("__classdict__" : Str)) = false := by decide) : PE X (.Subscript (.Name x p1) (.Constant (.int j) kk p2) pos) (tE X.K τ true .sh (mIxS i k)) :=
  (pe_ix ix_list (pv i hN hv hd hcd) pe_int (fun _ _ => rfl)).mono fun σ H Q ⟨Z, own, ρ, d, ρ', rs, e, kq⟩ => by
    unfold mIxS at e
    split at e
    · rename_i l hl
      split at e
      · rename_i d1 hd1
        cases e
        obtain ⟨a, xs, g1, g2, g3, g4, g5⟩ := rs.ownS ht hl
        obtain ⟨v, hv1, rv⟩ := g4 k d hd1
        exact ⟨.ref a, g1, a, xs, j, v, rfl, rfl, SqL.of g2, by rw [hj]; exact atI_nat hv1, kq v Z own H (fun _ => False) rs rv (fun _ z => z.elim) ExtF.refl⟩
      · cases e
    · cases e
theorem e_pop0 (i : Nat) {t : OT} (ht : τ i = .ol (.ol .sh .sh) t := by rfl) (hN : X.N[i]? = some x := by rfl) (hv : Vis X.env.scope x := by first | exact Or.inl rfl | exact Or.inr (Or.inl rfl) | exact Or.inr (Or.inr rfl)) (hd : (x == ("__debug__" : Str)) = false := by decide)
    (hcd : (x == ("__classdict__" : Str)) = false := by decide) {p0 : Pos} (hbase : attributeBase (.Subscript (.Name x p1) (.Constant (.int 0) kk p2) p0) "pop" X.env (eval (.Subscript (.Name x p1) (.Constant (.int 0) kk p2) p0) X.env) = eval (.Subscript (.Name x p1) (.Constant (.int 0) kk p2) p0) X.env := by rfl) (hline : (apos.endLine == pos.line) = true := by rfl) :
    PE X (.Call (.Attribute (.Subscript (.Name x p1) (.Constant (.int 0) kk p2) p0) "pop" apos) [] [] pos) (tE X.K τ false .sh (mPop0 i)) :=
  (pe_bm0 PySem.F.plainAttrs_list PySem.F.slot_list_pop PySem.F.type_list_pop mt_pop (pe_ix ix_list (pv i hN hv hd hcd) pe_int (fun _ _ => rfl)) hbase hline).mono fun σ H Q ⟨Z, own, ρ, d, ρ', rs, e, k⟩ => by
    unfold mPop0 at e
    split at e
    · rename_i l r hl
      split at e
      · rename_i d1 hd1
        cases e
        obtain ⟨a, b, xs, ys, g1, g2, g3, g4, g5, g6⟩ := rs.own0 ht hl
        obtain ⟨rs2, x2⟩ := g6 l.dropLast ys.dropLast g5.dropLast
        obtain ⟨v, hv1, rv⟩ := g5.get hd1
        rw [g5.len] at hv1
        exact ⟨.ref a, g1, a, .ref b :: xs, 0, .ref b, rfl, rfl, SqL.of g2, atI_nat (j := 0) rfl, .inl ⟨rfl, ys, SqL.of g3⟩, b, ys, v, rfl, rfl, g3, hv1, k v Z own _ (fun _ => False) rs2 (rs.sh x2 rv) (fun _ z => z.elim) x2⟩
      · cases e
    · cases e
theorem e_app0 (i : Nat) {t : OT} (he : PA X [e] (tAs X.K τ true (mCons ma mNil))) (ht : τ i = .ol (.ol .sh .sh) t := by rfl) (hN : X.N[i]? = some x := by rfl) (hv : Vis X.env.scope x := by first | exact Or.inl rfl | exact Or.inr (Or.inl rfl) | exact Or.inr (Or.inr rfl)) (hd : (x == ("__debug__" : Str)) = false := by decide)
    (hcd : (x == ("__classdict__" : Str)) = false := by decide) {p0 : Pos} (hbase : attributeBase (.Subscript (.Name x p1) (.Constant (.int 0) kk p2) p0) "append" X.env (eval (.Subscript (.Name x p1) (.Constant (.int 0) kk p2) p0) X.env) = eval (.Subscript (.Name x p1) (.Constant (.int 0) kk p2) p0) X.env := by rfl)
    (hfew : ((backTo pos (starEach [e] X.env)).all (fun x => !x.1) && (backToKw pos (keywordEach [] X.env)).all (fun x => x.1.isSome) && decide ([e].length + ([] : List Keyword).length + (if ([] : List Keyword).isEmpty then 0 else 1) < 30)) = true := by rfl)
    (hline : (apos.endLine == pos.line) = true := by rfl) (hs : starEach [e] X.env = (false, eval e X.env) :: starEach [] X.env := by rfl) (hplain : (backTo pos (starEach [] X.env)).any (·.1) = false := by rfl) :
    PE X (.Call (.Attribute (.Subscript (.Name x p1) (.Constant (.int 0) kk p2) p0) "append" apos) [e] [] pos) (tE X.K τ false .sh (mApp0 i ma)) :=
  (pe_bm PySem.F.plainAttrs_list PySem.F.slot_list_append PySem.F.type_list_append mt_append (pe_ix ix_list (pv i hN hv hd hcd) pe_int (fun _ _ => rfl)) he hbase hfew hline hs hplain).mono fun σ H Q ⟨Z, own, ρ, d, ρ', rs, e, k⟩ => by
    obtain ⟨y, ρ1, e1, f1⟩ := bind_ok e
    obtain ⟨d1, ρ2, e2, f2⟩ := bind_ok f1
    unfold mIx0 at e1
    split at e1
    · rename_i l1 r1 hl1
      cases e1
      split at f2
      · rename_i l r hl
        split at f2
        · rename_i hll
          cases f2
          obtain ⟨a, b, xs, ys, g1, g2, g3, g4, g5, g6⟩ := rs.own0 ht hl1
          refine ⟨.ref a, g1, a, .ref b :: xs, 0, .ref b, rfl, rfl, SqL.of g2, atI_nat (j := 0) rfl, .inl ⟨rfl, ys, SqL.of g3⟩, Z, own, _, [d1], ρ2, rs, by unfold mCons; rw [bind_of e2]; rfl, fun vs Z1 own1 H1 rs1 rl x1 => ?_⟩
          simp only [RShL] at rl
          obtain ⟨w, ws, rfl, rw1, rfl⟩ := rl
          obtain ⟨a', b', xs', ys', f1, f2, f3, f4, f5, f6⟩ := rs1.own0 ht hl
          rw [g1] at f1; cases f1
          rw [x1.keep a _ g2 (.inr rfl)] at f2; cases f2
          obtain ⟨rs2, x2⟩ := f6 (l ++ [d1]) (ys' ++ [w]) (f5.append (.one rw1))
          exact ⟨b, ys', w, rfl, rfl, f3, by rw [← f5.len, szL]; exact hll, k _ Z1 own1 _ (fun _ => False) rs2 (by simp only [Rm, R, RSh]) (fun _ z => z.elim) ((x1.weak).transF x2)⟩
        · cases f2
      · cases f2
    · cases e1
/-- slot[k + 1] = e -/
theorem s_sto {F : Fr} {j : Int} {t0 : OT} (i k : Nat) (he : PE X e (tE X.K F.τ q .sh ma)) (ht : F.τ i = .ol t0 .sh := by rfl) (hj : j = ((k + 1 : Nat) : Int) := by rfl) (hN : X.N[i]? = some x := by rfl) (hv : Vis X.env.scope x := by first | exact Or.inl rfl | exact Or.inr (Or.inl rfl) | exact Or.inr (Or.inr rfl)) (hd : (x == ("__debug__" : Str)) = false := by decide)
    (hcd : (x == ("__classdict__" : Str)) = false := by decide) {p0 : Pos} (hs : swapsWithSole [.Subscript (.Name x p1) (.Constant (.int j) kk p2) p0] e pos.line X.env = pure false := by rfl) (hw : swappedStores [.Subscript (.Name x p1) (.Constant (.int j) kk p2) p0] e X.env = pure none := by rfl) :
    PS X (.Assign [.Subscript (.Name x p1) (.Constant (.int j) kk p2) p0] e pos) (tS X.K F (sSto i k ma)) := (ps_asg he (pg_sub (pv i hN hv hd hcd) pe_int set_list) hs hw).mono fun E σ H ⟨Z, own, ρ, f, ρ', rs, e, o⟩ => by
  obtain ⟨d1, ρ1, e1, f1⟩ := bind_ok e
  split at f1
  · rename_i l hl
    split at f1
    · rename_i hk
      cases f1
      refine ⟨Z, own, ρ, d1, ρ1, rs, e1, fun v Z1 own1 H1 S rs1 rm n x1 => ?_⟩
      obtain ⟨a, xs, g1, g2, g3, g4, g5⟩ := rs1.ownS ht hl
      obtain ⟨rs2, x2⟩ := g5 k d1 v rm
      refine ⟨.ref a, g1, a, xs, j, k + 1, rfl, rfl, g2, ?_, o σ Z1 own1 _ rs2 Fix.refl ((x1.weak.any).transF x2.any)⟩
      rw [hj, ← g3]
      unfold ixN
      rw [if_pos (by omega), if_pos (by omega)]
      simp
    · cases f1
  · cases f1
/-- [e, ..], the first one a new list of its own -/
theorem e_lstH {es : List Expr} {q2 : Bool} {ms : M (List D)} {t : OT} (ha : PE X e (tE X.K τ q (.ow t) ma)) (hr : PA X es (tAs X.K τ q2 ms)) (hs : starEach (e :: es) X.env = (false, eval e X.env) :: starEach es X.env := by rfl) :
    PE X (.List (e :: es) pos) (tE X.K τ (q && q2) (.ow (.ol t .sh)) (mN bLst (mCons ma ms))) := (pe_lst (pa_cons ha hr hs)).mono fun σ H Q ⟨Z, own, ρ, d, ρ', rs, e, k⟩ => by
  obtain ⟨xs0, ρ1, e1, f1⟩ := bind_ok e
  obtain ⟨d0, ρ2, e2, f2⟩ := bind_ok e1
  obtain ⟨ds, ρ3, e3, f3⟩ := bind_ok f2
  cases f3
  obtain ⟨f4, rfl⟩ := ofO_ok f1
  unfold bLst at f4
  split at f4
  · rename_i hl
    cases f4
    refine ⟨Z, own, ρ, d0, ρ2, rs, e2, fun v Z1 own1 H1 S1 rs1 rm1 n1 x1 => ⟨Z1, own1, ρ2, ds, ρ', rs1, e3, fun vs Z2 own2 H2 rs2 rl x2 => ⟨szl hl (by simp [rl.len]), fun p hp => ?_⟩⟩⟩
    have g : Grow H2 (upd H2 p (.lst (v :: vs))) := Grow.new hp
    have rm2 : R X.K Z2 H2 t d0 v S1 := rs1.apart x2 (fun a s => (n1 a s).2.1) rm1
    have n2 : ∀ a, S1 a → H a = none ∧ own2 a = none ∧ ¬ Z2 a ∧ ∃ o, H2 a = some o ∧ Mut o := fun a s => by
      obtain ⟨m1, m2, m3, xs, m4, m5⟩ := n1 a s
      refine ⟨m1, ?_, fun z => ?_, xs, x2.keep a _ m4 (.inl m2), m5⟩
      · cases h : own2 a with
        | none => rfl
        | some i =>
          rcases x2.on a i h with z | z
          · rw [m2] at z; cases z
          · rw [m4] at z; cases z
      · rcases x2.zn a z with z | z | ⟨i, z, _⟩
        · exact m3 z
        · rw [m4] at z; cases z
        · rw [m2] at z; cases z
    have np : ∀ a, S1 a → a ≠ p := fun a s e => by
      subst e
      obtain ⟨_, _, _, xs, m, _⟩ := n2 a s
      rw [hp] at m; cases m
    have pf : H p = none := (x1.transF x2).back hp
    classical
    refine k _ Z2 own2 _ (fun a => a = p ∨ S1 a) (rs2.growO g) ⟨d0 :: ds, p, v :: vs, fun a => if a = p then none else some 0, rfl, rfl, upd_same, .inl rfl, if_pos rfl, by simp [rl.len], fun d w h1 h2 => ?_, fun n d w h1 h2 => ?_⟩ (fun a s => ?_) ((x1.trans x2).trans' (fun z => ⟨z, rfl⟩) (ExtF.growO (q := true) g))
    · simp at h1 h2
      subst h1 h2
      exact R.mono (g.r rm2) fun a s => ⟨.inr s, if_neg (np a s)⟩
    · obtain ⟨w', y1, y2⟩ := rl.get (i := n) (d := d) (by simpa using h1)
      have : vs[n]? = some w := by simpa using h2
      rw [this] at y1; cases y1
      exact g.sh y2
    · rcases s with rfl | s
      · refine ⟨pf, ?_, fun z => rs2.zt a z hp, _, upd_same, trivial⟩
        cases h : own2 a with
        | none => rfl
        | some i => obtain ⟨xs, hx, _⟩ := rs2.ls a i h; rw [hp] at hx; cases hx
      · obtain ⟨m1, m2, m3, xs, m4, m5⟩ := n2 a s
        exact ⟨m1, m2, m3, xs, g.at_ a _ m4 m5.nt, m5⟩
  · cases f4
end
end CL
namespace CL
open PySem PySem.Spec L2
set_option autoImplicit false
def big : Nat := 2 ^ 400000
def bigD : Nat := 2 ^ 8000
def bAdd : D → D → Option D
  | .int a, .int b => some (.int (a + b))
  | .str a, .str b => if a.length + b.length ≤ 16777216 then some (.str (a ++ b)) else none
  | .tup a, .tup b => if a.length + b.length ≤ 16777216 then some (.tup (a ++ b)) else none
  | .lst a, .lst b => if a.length + b.length ≤ 16777216 then some (.lst (a ++ b)) else none
  | _, _ => none
def bSub : D → D → Option D
  | .int a, .int b => some (.int (a - b))
  | _, _ => none
def bMul : D → D → Option D
  | .int a, .int b => if a.natAbs < 2 ^ 64 ∨ b.natAbs < 2 ^ 64 ∨ (a.natAbs < big ∧ b.natAbs < big) then some (.int (a * b)) else none
  | _, _ => none
def bDiv : D → D → Option D
  | .int a, .int b => if b ≠ 0 ∧ b.natAbs < bigD then some (.int (a.fdiv b)) else none
  | _, _ => none
def bMod : D → D → Option D
  | .int a, .int b => if b ≠ 0 then some (.int (a.fmod b)) else none
  | _, _ => none
def bPow : D → D → Option D
  | .int a, .int b => if 0 ≤ b ∧ b ≤ 1000000 ∧ a.natAbs < 2 ^ 64 then some (.int (a ^ b.toNat)) else none
  | _, _ => none
def bNeg : D → Option D
  | .int a => some (.int (-a))
  | _ => none
def bLt : D → D → Option D
  | .int a, .int b => some (.bl (decide (a < b)))
  | _, _ => none
def bLe : D → D → Option D
  | .int a, .int b => some (.bl (decide (a ≤ b)))
  | _, _ => none
def bGt : D → D → Option D
  | .int a, .int b => some (.bl (decide (b < a)))
  | _, _ => none
def bGe : D → D → Option D
  | .int a, .int b => some (.bl (decide (b ≤ a)))
  | _, _ => none
theorem big_log {a : Int} (h : a.natAbs < big) : a.natAbs.log2 < 400000 := by
  by_cases z : a.natAbs = 0
  · rw [z]; decide
  · exact (Nat.log2_lt z).mpr h
theorem bigD_log {a : Int} (h : a.natAbs < bigD) : a.natAbs.log2 < 9000 := by
  by_cases z : a.natAbs = 0
  · rw [z]; decide
  · exact Nat.lt_trans ((Nat.log2_lt z).mpr h) (by decide)
section
variable [Tb] {K : PySem.W.Frag} {Z : Addr → Prop} {H : Hp} {v : V}
theorem Pk0.str {x : Str} (h : Pk0 K Z H (.str x) v) : v = .str x := by
  rcases h with h | ⟨l, a, xs, e, _⟩
  · simpa only [RSh] using h
  · cases e
theorem Pk0.non (h : Pk0 K Z H .non v) : v = .non := by
  rcases h with h | ⟨l, a, xs, e, _⟩
  · simpa only [RSh] using h
  · cases e
theorem Pk0.tup {l : List D} (h : Pk0 K Z H (.tup l) v) : ∃ a xs, v = .ref a ∧ SqT K H a xs ∧ RShL K Z H l xs := by
  rcases h with h | ⟨l, a, xs, e, _⟩
  · simpa only [RSh] using h
  · cases e
theorem Pk0.lst {l : List D} (h : Pk0 K Z H (.lst l) v) : ∃ a xs, v = .ref a ∧ H a = some (.lst xs) ∧ RShL K Z H l xs := by
  rcases h with h | ⟨l, a, xs, e, e1, e2, e3⟩
  · simp only [RSh] at h
    obtain ⟨a, xs, e, z, h1, h2⟩ := h
    exact ⟨a, xs, e, h1, h2⟩
  · cases e; exact ⟨a, xs, e1, e2, e3⟩
theorem Pk0.scr {l : List Int} (h : Pk0 K Z H (.scr l) v) : ∃ a, v = .ref a ∧ SqL K H a (l.map V.int) := by
  rcases h with h | ⟨l, a, xs, e, e1, e2, e3⟩
  · simp only [RSh] at h
    obtain ⟨a, e, z, h1⟩ := h
    exact ⟨a, e, h1⟩
  · cases e
end
/-- the end of an operation that lays nothing -/
theorem fin0 [Tb] {K : PySem.W.Frag} {Z : Addr → Prop} {H : Hp} {d : D} {v : V} {Q : VK} (r : RSh K Z H d v) (k : ∀ v H' S, Grow H H' → RF K Z H' d v S → NewS H H' S → Q v H') : Q v H := k v H (fun _ => False) Grow.refl (.inl r) NewS.none
theorem finT [Tb] {K : PySem.W.Frag} {Z : Addr → Prop} {H : Hp} {l : List D} {xs : List V} {p : Addr} {Q : VK} (hp : H p = none) (r : RShL K Z H l xs) (k : ∀ v H' S, Grow H H' → RF K Z H' (.tup l) v S → NewS H H' S → Q v H') : Q (.ref p) (upd H p (.tup xs)) :=
  k _ _ (fun _ => False) (Grow.new hp) (RF.tup ((Grow.new hp).shL r) (SqT.of upd_same)) NewS.none
theorem finL [Tb] {K : PySem.W.Frag} {Z : Addr → Prop} {H : Hp} {l : List D} {xs : List V} {p : Addr} {Q : VK} (hp : H p = none) (r : RShL K Z H l xs) (k : ∀ v H' S, Grow H H' → RF K Z H' (.lst l) v S → NewS H H' S → Q v H') : Q (.ref p) (upd H p (.lst xs)) :=
  k _ _ (fun a => a = p) (Grow.new hp) (RF.list ((Grow.new hp).shL r) upd_same) (NewS.one trivial hp)
section
variable [Tb] {X : Cx}
/-- a rule for two ints -/
theorem o_ii {f : Value → Value → Sem Value} {g : D → D → Option D} {r : R2} (ho : OpR X f r) (hg : ∀ a b d, g a b = some d → ∃ i j, a = .int i ∧ b = .int j ∧ ∀ K Z H Q, (∀ v H' S, Grow H H' → RF K Z H' d v S → NewS H H' S → Q v H') → r (.int i) (.int j) H Q) : OpR X f (rF2 X.K g) := by
  intro pins s σ H x y v u Q I r1 r2 h
  obtain ⟨Z, a, b, d, p1, p2, e, k⟩ := h
  obtain ⟨i, j, rfl, rfl, h⟩ := hg a b d e
  rw [p1.int] at r1
  rw [p2.int] at r2
  exact ho pins s σ H _ _ v u Q I r1 r2 (h X.K Z H Q k)
theorem o_sub : OpR X (binaryOp .Sub) (rF2 X.K bSub) := o_ii op_sub fun a b d e => by
  unfold bSub at e
  split at e
  · rename_i i j; cases e; exact ⟨i, j, rfl, rfl, fun K Z H Q k => ⟨i, j, rfl, rfl, fin0 (by simp only [RSh]) k⟩⟩
  · cases e
def CMulX (i j : Int) : Prop := i.natAbs < 2 ^ 64 ∨ j.natAbs < 2 ^ 64 ∨ (i.natAbs < big ∧ j.natAbs < big)
theorem op_mulX : OpR X (binaryOp .Mult) (rI CMulX fun i j => .int (i * j)) := by
  intro pins s σ H x y v u Q I r1 r2 ⟨i, j, e1, e2, c, k⟩
  rcases c with c | c | c
  · exact op_mul pins s σ H x y v u Q I r1 r2 ⟨i, j, e1, e2, .inl (by omega), k⟩
  · exact op_mul pins s σ H x y v u Q I r1 r2 ⟨i, j, e1, e2, .inr (by omega), k⟩
  · refine op_mulW pins s σ H x y v u Q I r1 r2 ⟨i, j, e1, e2, ?_, k⟩
    have h1 := big_log c.1
    have h2 := big_log c.2
    unfold CMulW
    omega
theorem o_mul : OpR X (binaryOp .Mult) (rF2 X.K bMul) := o_ii op_mulX fun a b d e => by
  unfold bMul at e
  split at e
  · rename_i i j
    split at e
    · rename_i hb
      cases e
      exact ⟨i, j, rfl, rfl, fun K Z H Q k => ⟨i, j, rfl, rfl, hb, fin0 (by simp only [RSh]) k⟩⟩
    · cases e
  · cases e
def CDivX (_ j : Int) : Prop := j ≠ 0 ∧ j.natAbs.log2 < 9000
theorem op_divX : OpR X (binaryOp .FloorDiv) (rI CDivX fun i j => .int (i.fdiv j)) := by
  intro pins s σ H x y v u Q I r1 r2 ⟨i, j, e1, e2, c, k⟩
  subst e1 e2
  obtain ⟨t, rfl⟩ := r1
  obtain ⟨t', rfl⟩ := r2
  exact PyProof.Rows.floordiv_int c.1 ⟨.int _, H, I.tok _, ⟨_, rfl⟩, k⟩ (.inl (PyProof.noPylong_of_log2 c.2))
theorem o_div : OpR X (binaryOp .FloorDiv) (rF2 X.K bDiv) := o_ii op_divX fun a b d e => by
  unfold bDiv at e
  split at e
  · rename_i i j
    split at e
    · rename_i hb
      cases e
      exact ⟨i, j, rfl, rfl, fun K Z H Q k => ⟨i, j, rfl, rfl, ⟨hb.1, bigD_log hb.2⟩, fin0 (by simp only [RSh]) k⟩⟩
    · cases e
  · cases e
theorem o_mod : OpR X (binaryOp .Mod) (rF2 X.K bMod) := o_ii op_modN fun a b d e => by
  unfold bMod at e
  split at e
  · rename_i i j
    split at e
    · rename_i hb
      cases e
      exact ⟨i, j, rfl, rfl, fun K Z H Q k => ⟨i, j, rfl, rfl, hb, fin0 (by simp only [RSh]) k⟩⟩
    · cases e
  · cases e
theorem o_pow : OpR X (binaryOp .Pow) (rF2 X.K bPow) := o_ii op_pow fun a b d e => by
  unfold bPow at e
  split at e
  · rename_i i j
    split at e
    · rename_i hb
      cases e
      exact ⟨i, j, rfl, rfl, fun K Z H Q k => ⟨i, j, rfl, rfl, hb, fin0 (by simp only [RSh]) k⟩⟩
    · cases e
  · cases e
theorem o_lt : OpR X (compareOp .Lt) (rF2 X.K bLt) := o_ii op_lt fun a b d e => by
  unfold bLt at e
  split at e
  · rename_i i j; cases e; exact ⟨i, j, rfl, rfl, fun K Z H Q k => ⟨i, j, rfl, rfl, fin0 (by simp only [RSh]) k⟩⟩
  · cases e
theorem o_le : OpR X (compareOp .LtE) (rF2 X.K bLe) := o_ii op_le fun a b d e => by
  unfold bLe at e
  split at e
  · rename_i i j; cases e; exact ⟨i, j, rfl, rfl, fun K Z H Q k => ⟨i, j, rfl, rfl, fin0 (by simp only [RSh]) k⟩⟩
  · cases e
theorem o_gt : OpR X (compareOp .Gt) (rF2 X.K bGt) := o_ii op_gt fun a b d e => by
  unfold bGt at e
  split at e
  · rename_i i j; cases e; exact ⟨i, j, rfl, rfl, fun K Z H Q k => ⟨i, j, rfl, rfl, fin0 (by simp only [RSh]) k⟩⟩
  · cases e
theorem o_ge : OpR X (compareOp .GtE) (rF2 X.K bGe) := o_ii op_ge fun a b d e => by
  unfold bGe at e
  split at e
  · rename_i i j; cases e; exact ⟨i, j, rfl, rfl, fun K Z H Q k => ⟨i, j, rfl, rfl, fin0 (by simp only [RSh]) k⟩⟩
  · cases e
theorem u_neg : UnR X (unaryOp .USub) (rF1 X.K bNeg) := by
  intro pins s σ H x v Q I r1 h
  obtain ⟨Z, a, d, p1, e, k⟩ := h
  unfold bNeg at e
  split at e
  · rename_i i
    cases e
    rw [p1.int] at r1
    exact un_neg pins s σ H _ v Q I r1 ⟨i, rfl, fin0 (by simp only [RSh]) k⟩
  · cases e
theorem sum_le {m n : Nat} {a b : Nat} (h : m + n ≤ 16777216) (e1 : m = a) (e2 : n = b) : a + b ≤ sizeLine := by rw [szL]; omega
theorem o_add : OpR X (binaryOp .Add) (rF2 X.K bAdd) := by
  intro pins s σ H x y v u Q I r1 r2 h
  obtain ⟨Z, a, b, d, p1, p2, e, k⟩ := h
  unfold bAdd at e
  split at e
  · rename_i i j
    cases e
    rw [p1.int] at r1
    rw [p2.int] at r2
    exact op_add pins s σ H _ _ v u Q I r1 r2 ⟨i, j, rfl, rfl, fin0 (by simp only [RSh]) k⟩
  · rename_i i j
    split at e
    · rename_i hl
      cases e
      rw [p1.str] at r1
      rw [p2.str] at r2
      exact op_add_str pins s σ H _ _ v u Q I r1 r2 ⟨i, j, rfl, rfl, by rw [szL]; exact hl, fin0 (by simp only [RSh]) k⟩
    · cases e
  · rename_i l m
    split at e
    · rename_i hl
      cases e
      obtain ⟨a, xs, rfl, s1, l1⟩ := p1.tup
      obtain ⟨b, ys, rfl, s2, l2⟩ := p2.tup
      refine op_catA pins s σ H _ _ v u Q I r1 r2 ⟨a, b, xs, ys, rfl, rfl, s1, s2, sum_le hl l1.len l2.len, fun e => ?_, fun e1 e2 => ?_, fun _ _ p hp => finT hp (l1.append l2) k⟩
      · have : l = [] := List.eq_nil_of_length_eq_zero (by rw [l1.len, e]; rfl)
        subst this
        exact fin0 (by simp only [List.nil_append, RSh]; exact ⟨b, ys, rfl, s2, l2⟩) k
      · have : m = [] := List.eq_nil_of_length_eq_zero (by rw [l2.len, e2]; rfl)
        subst this
        exact fin0 (by simp only [List.append_nil, RSh]; exact ⟨a, xs, rfl, s1, l1⟩) k
    · cases e
  · rename_i l m
    split at e
    · rename_i hl
      cases e
      obtain ⟨a, xs, rfl, s1, l1⟩ := p1.lst
      obtain ⟨b, ys, rfl, s2, l2⟩ := p2.lst
      exact op_cat pins s σ H _ _ v u Q I r1 r2 ⟨a, b, xs, ys, rfl, rfl, s1, s2, sum_le hl l1.len l2.len, fun p hp => finL hp (l1.append l2) k⟩
    · cases e
  · cases e
end
section
variable [Tb] {X : Cx}
end
end CL
namespace CL
open PySem PySem.Spec L2
set_option autoImplicit false
mutual
def D.py : D → PyData
  | .non => .none
  | .bl b => .bool b
  | .int i => .int i
  | .str x => .str x
  | .tup l => .tuple (D.pyL l)
  | .lst l => .list (D.pyL l)
  | .scr l => .list (l.map .int)
  | .dct _ _ => .none
  | .kdc _ _ => .none
  | .ins _ _ _ => .none
def D.pyL : List D → List PyData
  | [] => []
  | d :: ds => D.py d :: D.pyL ds
end
mutual
/-- plain data, at most so deep -/
def D.okB : Nat → D → Bool
  | _, .non => true
  | _, .bl _ => true
  | _, .int _ => true
  | _, .str x => x.cps.all (· < 0x110000)
  | n + 1, .tup l => D.okL n l
  | n + 1, .lst l => D.okL n l
  | _, _ => false
def D.okL : Nat → List D → Bool
  | _, [] => true
  | n, d :: ds => D.okB n d && D.okL n ds
end
section
variable [Tb] {K : PySem.W.Frag} {Z : Addr → Prop} {H : Hp}
mutual
theorem RSh.dp : ∀ (n : Nat) (d : D) (v : V), D.okB n d = true → RSh K Z H d v → Dp K H v d.py
  | _, .non, v, _, h => by simp only [RSh] at h; subst h; simp only [D.py]; exact .non
  | _, .bl b, v, _, h => by simp only [RSh] at h; subst h; simp only [D.py]; exact .bl b
  | _, .int i, v, _, h => by simp only [RSh] at h; subst h; simp only [D.py]; exact .int i
  | _, .str x, v, _, h => by simp only [RSh] at h; subst h; simp only [D.py]; exact .str x
  | n + 1, .tup l, v, o, h => by
    simp only [D.okB] at o
    simp only [RSh] at h
    obtain ⟨a, xs, rfl, s, r⟩ := h
    simp only [D.py]
    exact .tup s (RShL.dp n l xs o r)
  | n + 1, .lst l, v, o, h => by
    simp only [D.okB] at o
    simp only [RSh] at h
    obtain ⟨a, xs, rfl, z, s, r⟩ := h
    simp only [D.py]
    exact .lst (SqL.of s) (RShL.dp n l xs o r)
  | 0, .tup l, v, o, h => by simp [D.okB] at o
  | 0, .lst l, v, o, h => by simp [D.okB] at o
  | _, .dct _ _, v, o, h => by simp [D.okB] at o
  | _, .kdc _ _, v, o, h => by simp [D.okB] at o
  | _, .ins _ _ _, v, o, h => by simp [D.okB] at o
  | _, .scr _, v, o, h => by simp [D.okB] at o
theorem RShL.dp : ∀ (n : Nat) (l : List D) (xs : List V), D.okL n l = true → RShL K Z H l xs → DpAll K H xs (D.pyL l)
  | _, [], xs, _, h => by simp only [RShL] at h; subst h; simp only [D.pyL]; exact .nil
  | n, d :: ds, xs, o, h => by
    simp only [D.okL, Bool.and_eq_true] at o
    simp only [RShL] at h
    obtain ⟨w, ws, rfl, r1, r2⟩ := h
    simp only [D.pyL]
    exact .cons (RSh.dp n d w o.1 r1) (RShL.dp n ds ws o.2 r2)
end
end
theorem Pk0.dp [Tb] {K : PySem.W.Frag} {Z : Addr → Prop} {H : Hp} {n : Nat} {d : D} {v : V} (o : D.okB n d = true) (h : Pk0 K Z H d v) : Dp K H v d.py := by
  rcases h with h | ⟨l, a, xs, rfl, rfl, s, r⟩
  · exact RSh.dp n d v o h
  · cases n with
    | zero => simp [D.okB] at o
    | succ n =>
      simp only [D.okB] at o
      simp only [D.py]
      exact .lst (SqL.of s) (RShL.dp n l xs o r)
mutual
theorem ok_lay : ∀ (n : Nat) (d : D), D.okB n d = true → d.py.canLay0 = true ∧ d.py.depth ≤ n
  | _, .non, _ => by simp only [D.py, PyData.canLay0, PyData.depth]; exact ⟨trivial, Nat.zero_le _⟩
  | _, .bl _, _ => by simp only [D.py, PyData.canLay0, PyData.depth]; exact ⟨trivial, Nat.zero_le _⟩
  | _, .int _, _ => by simp only [D.py, PyData.canLay0, PyData.depth]; exact ⟨trivial, Nat.zero_le _⟩
  | _, .str x, o => by
    simp only [D.okB] at o
    simp only [D.py, PyData.canLay0, PyData.depth]
    exact ⟨o, Nat.zero_le _⟩
  | n + 1, .tup l, o => by
    simp only [D.okB] at o
    simp only [D.py, PyData.canLay0, PyData.depth]
    obtain ⟨a, b⟩ := ok_layL n l o
    exact ⟨a, by omega⟩
  | n + 1, .lst l, o => by
    simp only [D.okB] at o
    simp only [D.py, PyData.canLay0, PyData.depth]
    obtain ⟨a, b⟩ := ok_layL n l o
    exact ⟨a, by omega⟩
  | 0, .tup l, o => by simp [D.okB] at o
  | 0, .lst l, o => by simp [D.okB] at o
  | _, .dct _ _, o => by simp [D.okB] at o
  | _, .kdc _ _, o => by simp [D.okB] at o
  | _, .ins _ _ _, o => by simp [D.okB] at o
  | _, .scr _, o => by simp [D.okB] at o
theorem ok_layL : ∀ (n : Nat) (l : List D), D.okL n l = true → PyData.canLayAll0 (D.pyL l) = true ∧ PyData.depthAll (D.pyL l) ≤ n
  | _, [], _ => by simp only [D.pyL, PyData.canLayAll0, PyData.depthAll]; exact ⟨trivial, Nat.zero_le _⟩
  | n, d :: ds, o => by
    simp only [D.okL, Bool.and_eq_true] at o
    obtain ⟨a, b⟩ := ok_lay n d o.1
    obtain ⟨c, e⟩ := ok_layL n ds o.2
    simp only [D.pyL, PyData.canLayAll0, PyData.depthAll, a, c, Bool.and_self]
    exact ⟨trivial, by omega⟩
end
theorem ok_shaped {d : D} (h : D.okB 60 d = true) : SeqAt.shaped d.py = true := by
  obtain ⟨a, b⟩ := ok_lay 60 d h
  unfold SeqAt.shaped
  rw [a, Bool.true_and]
  exact decide_eq_true (by omega)
def D.eqv (a b : D) : Bool := PyData.eqv a.py b.py
def bEq : D → D → Option D
  | .str a, .str b => some (.bl (decide (a = b)))
  | .lst l, .lst [] => some (.bl (l.isEmpty))
  | .tup l, .tup [] => some (.bl (l.isEmpty))
  | a, b => if D.okB 60 a = true ∧ D.okB 60 b = true then some (.bl (a.eqv b)) else none
def bNe : D → D → Option D
  | .str a, .str b => some (.bl (!decide (a = b)))
  | .lst l, .lst [] => some (.bl (!l.isEmpty))
  | .tup l, .tup [] => some (.bl (!l.isEmpty))
  | a, b => if D.okB 60 a = true ∧ D.okB 60 b = true then some (.bl (!a.eqv b)) else none
theorem dec_strD (i j : Str) : decide (V.str i = V.str j) = decide (i = j) := by simp
def D.isNon : D → Bool
  | .non => true
  | _ => false
def bIsN (a b : D) : Option D := match b with | .non => some (.bl a.isNon) | _ => none
section
variable [Tb] {X : Cx}
theorem o_eq (hu : X.A.units + 64 < cLine) : OpR X (compareOp .Eq) (rF2 X.K bEq) := by
  intro pins s σ H x y v u Q I r1 r2 h
  obtain ⟨Z, a, b, d, p1, p2, e, k⟩ := h
  unfold bEq at e
  split at e
  · cases e
    rw [p1.str] at r1
    rw [p2.str] at r2
    exact op_eq pins s σ H _ _ v u Q I r1 r2 ⟨rfl, fin0 (by simp only [RSh, dec_strD]) k⟩
  · rename_i l
    cases e
    cases l with
    | nil => exact op_eqD hu pins s σ H _ _ v u Q I r1 r2 ⟨D.py (.lst []), D.py (.lst []), p1.dp (n := 60) rfl, p2.dp (n := 60) rfl, ok_shaped rfl, ok_shaped rfl, fin0 (d := .bl true) (by simp only [RSh]; rfl) k⟩
    | cons z l =>
      obtain ⟨a1, xs, rfl, s1, l1⟩ := p1.lst
      obtain ⟨a2, ys, rfl, s2, l2⟩ := p2.lst
      cases r1
      cases r2
      obtain ⟨i1, e1, t1, _⟩ := I.list (SqL.of s1)
      obtain ⟨i2, e2, t2, _⟩ := I.list (SqL.of s2)
      have n1 := l1.len
      have n2 := l2.len
      have m1 := e1.length
      have m2 := e2.length
      simp at n1 n2
      exact SeqAt.RcAt.lists_lengths t1.isList t2.isList (by simp; omega) (by omega) _ _ _ _ ⟨.bl false, H, I, rfl, fin0 (d := .bl false) (by simp only [RSh]) k⟩
  · rename_i l
    cases e
    obtain ⟨a1, xs, rfl, s1, l1⟩ := p1.tup
    obtain ⟨a2, ys, rfl, s2, l2⟩ := p2.tup
    cases r1
    cases r2
    obtain ⟨i1, e1, t1, _⟩ := I.tuple s1
    obtain ⟨i2, e2, t2, _⟩ := I.tuple s2
    have n1 := l1.len
    have n2 := l2.len
    have m1 := e1.length
    have m2 := e2.length
    simp at n2
    have z2 : i2 = [] := List.eq_nil_of_length_eq_zero (by omega)
    subst z2
    refine SeqAt.RcAt.tuples (e := fun _ => true) t1 t2 (by omega) (fun j h1 h2 => by simp at h2) _ _ _ _ ⟨.bl (l.isEmpty), H, I, ?_, fin0 (by simp only [RSh]) k⟩
    have : l.isEmpty = (i1.toArray.size == 0) := by
      cases l with
      | nil => have : i1 = [] := List.eq_nil_of_length_eq_zero (by simp at n1; omega)
               subst this; rfl
      | cons z l => cases i1 with
        | nil => simp at m1; subst m1; simp at n1
        | cons _ _ => simp
    rw [this]
    simp [RelV]
  · split at e
    · rename_i ho
      cases e
      exact op_eqD hu pins s σ H _ _ v u Q I r1 r2 ⟨a.py, b.py, p1.dp ho.1, p2.dp ho.2, ok_shaped ho.1, ok_shaped ho.2, fin0 (by simp only [RSh, D.eqv]) k⟩
    · cases e
theorem o_ne (hu : X.A.units + 64 < cLine) : OpR X (compareOp .NotEq) (rF2 X.K bNe) := by
  intro pins s σ H x y v u Q I r1 r2 h
  obtain ⟨Z, a, b, d, p1, p2, e, k⟩ := h
  unfold bNe at e
  split at e
  · cases e
    rw [p1.str] at r1
    rw [p2.str] at r2
    exact op_ne pins s σ H _ _ v u Q I r1 r2 ⟨rfl, fin0 (by simp only [RSh, dec_strD]) k⟩
  · rename_i l
    cases e
    cases l with
    | nil => exact op_neD hu pins s σ H _ _ v u Q I r1 r2 ⟨D.py (.lst []), D.py (.lst []), p1.dp (n := 60) rfl, p2.dp (n := 60) rfl, ok_shaped rfl, ok_shaped rfl, fin0 (d := .bl false) (by simp only [RSh]; rfl) k⟩
    | cons z l =>
      obtain ⟨a1, xs, rfl, s1, l1⟩ := p1.lst
      obtain ⟨a2, ys, rfl, s2, l2⟩ := p2.lst
      cases r1
      cases r2
      obtain ⟨i1, e1, t1, _⟩ := I.list (SqL.of s1)
      obtain ⟨i2, e2, t2, _⟩ := I.list (SqL.of s2)
      have n1 := l1.len
      have n2 := l2.len
      have m1 := e1.length
      have m2 := e2.length
      simp at n1 n2
      exact SeqAt.RcNeAt.lists_lengths t1.isList t2.isList (by simp; omega) (by omega) _ _ _ _ ⟨.bl true, H, I, rfl, fin0 (d := .bl true) (by simp only [RSh]) k⟩
  · rename_i l
    cases e
    obtain ⟨a1, xs, rfl, s1, l1⟩ := p1.tup
    obtain ⟨a2, ys, rfl, s2, l2⟩ := p2.tup
    cases r1
    cases r2
    obtain ⟨i1, e1, t1, _⟩ := I.tuple s1
    obtain ⟨i2, e2, t2, _⟩ := I.tuple s2
    have n1 := l1.len
    have n2 := l2.len
    have m1 := e1.length
    have m2 := e2.length
    simp at n2
    have z2 : i2 = [] := List.eq_nil_of_length_eq_zero (by omega)
    subst z2
    refine SeqAt.RcNeAt.tuples (e := fun _ => true) t1 t2 (by omega) (fun j h1 h2 => by simp at h2) _ _ _ _ ⟨.bl (!l.isEmpty), H, I, ?_, fin0 (by simp only [RSh]) k⟩
    have : l.isEmpty = (i1.toArray.size == 0) := by
      cases l with
      | nil => have : i1 = [] := List.eq_nil_of_length_eq_zero (by simp at n1; omega)
               subst this; rfl
      | cons z l => cases i1 with
        | nil => simp at m1; subst m1; simp at n1
        | cons _ _ => simp
    rw [this]
    simp [RelV]
  · split at e
    · rename_i ho
      cases e
      exact op_neD hu pins s σ H _ _ v u Q I r1 r2 ⟨a.py, b.py, p1.dp ho.1, p2.dp ho.2, ok_shaped ho.1, ok_shaped ho.2, fin0 (by simp only [RSh, D.eqv]) k⟩
    · cases e
theorem Pk0.notnon [Tb] {K : PySem.W.Frag} {Z : Addr → Prop} {H : Hp} {d : D} {v : V} (h : Pk0 K Z H d v) : decide (v = .non) = d.isNon := by
  cases d with
  | non => rw [h.non]; rfl
  | bl b => rw [h.bl]; rfl
  | int b => rw [h.int]; rfl
  | str b => rw [h.str]; rfl
  | tup b => obtain ⟨a, xs, rfl, _⟩ := h.tup; rfl
  | lst b => obtain ⟨a, xs, rfl, _⟩ := h.lst; rfl
  | scr b => obtain ⟨a, rfl, _⟩ := h.scr; rfl
  | dct _ _ => rcases h with h | ⟨_, _, _, e, _⟩; (simp only [RSh] at h; obtain ⟨a, _, rfl, _⟩ := h; simp [D.isNon]); cases e
  | ins _ _ _ => rcases h with h | ⟨_, _, _, e, _⟩; (simp only [RSh] at h; obtain ⟨_, a, _, _, rfl, _⟩ := h; simp [D.isNon]); cases e
  | kdc _ _ => rcases h with h | ⟨_, _, _, e, _⟩; (simp only [RSh] at h; obtain ⟨a, _, rfl, _⟩ := h; simp [D.isNon]); cases e
theorem o_is : OpR X (compareOp .Is) (rF2 X.K bIsN) := by
  intro pins s σ H x y v u Q I r1 r2 h
  obtain ⟨Z, a, b, d, p1, p2, e, k⟩ := h
  unfold bIsN at e
  split at e
  · cases e
    exact op_isN pins s σ H _ _ v u Q I r1 r2 ⟨p2.non, fin0 (by simp only [RSh]; rw [p1.notnon]) k⟩
  · cases e
end
def bIx : D → D → Option D
  | .tup l, .int i => atI l i
  | .lst l, .int i => atI l i
  | .scr l, .int i => (atI l i).map .int
  | .str z, .int i => if z.length ≤ 16777216 then (atI z.cps.toList i).map fun c => .str ⟨#[c]⟩ else none
  | _, _ => none
theorem atI_rel [Tb] {K : PySem.W.Frag} {Z : Addr → Prop} {H : Hp} {l : List D} {xs : List V} {i : Int} {d : D} (r : RShL K Z H l xs) (h : atI l i = some d) : ∃ v, atI xs i = some v ∧ RSh K Z H d v := by
  unfold atI at h ⊢
  obtain ⟨j, h1, h2⟩ := Option.bind_eq_some_iff.mp h
  obtain ⟨v, h3, h4⟩ := r.get h2
  rw [r.len] at h1
  exact ⟨v, by rw [h1]; exact h3, h4⟩
section
variable [Tb] {X : Cx}
theorem x_ix : IxR X (rF2 X.K bIx) := by
  intro val sli pins s σ H x y v u Q I r1 r2 h hsu
  obtain ⟨Z, a, b, d, p1, p2, e, k⟩ := h
  unfold bIx at e
  split at e
  · rename_i l i
    rw [p2.int] at r2
    obtain ⟨a, xs, rfl, s1, l1⟩ := p1.tup
    obtain ⟨w, h1, h2⟩ := atI_rel l1 e
    exact ix_tup val sli pins s σ H _ _ v u Q I r1 r2 ⟨a, xs, i, w, rfl, rfl, s1, h1, fin0 h2 k⟩ hsu
  · rename_i l i
    rw [p2.int] at r2
    obtain ⟨a, xs, rfl, s1, l1⟩ := p1.lst
    obtain ⟨w, h1, h2⟩ := atI_rel l1 e
    exact ix_list val sli pins s σ H _ _ v u Q I r1 r2 ⟨a, xs, i, w, rfl, rfl, SqL.of s1, h1, fin0 h2 k⟩ hsu
  · rename_i l i
    rw [p2.int] at r2
    obtain ⟨a, rfl, s1⟩ := p1.scr
    obtain ⟨z, h1, rfl⟩ := Option.map_eq_some_iff.mp e
    refine ix_list val sli pins s σ H _ _ v u Q I r1 r2 ⟨a, _, i, .int z, rfl, rfl, s1, ?_, fin0 (by simp only [RSh]) k⟩ hsu
    unfold atI at h1 ⊢
    obtain ⟨j, h3, h4⟩ := Option.bind_eq_some_iff.mp h1
    rw [List.length_map, h3]
    show (l.map V.int)[j]? = _
    rw [List.getElem?_map, h4]; rfl
  · rename_i z i
    split at e
    · rename_i hz
      rw [p2.int] at r2
      rw [p1.str] at r1
      obtain ⟨c, h1, rfl⟩ := Option.map_eq_some_iff.mp e
      exact ix_str val sli pins s σ H _ _ v u Q I r1 r2 ⟨z, i, c, rfl, rfl, by rw [szL]; exact hz, h1, fin0 (by simp only [RSh]) k⟩ hsu
    · cases e
  · cases e
end
def cutD {α : Type} (xs : List α) (lo hi : Option Int) : List α := (xs.drop (HT.sIx xs.length 0 lo)).take (HT.sIx xs.length xs.length hi - HT.sIx xs.length 0 lo)
def bSl : D → Option Int → Option Int → Option D
  | .tup l, lo, hi => some (.tup (cutD l lo hi))
  | .lst l, lo, hi => some (.lst (cutD l lo hi))
  | .scr l, lo, hi => some (.lst ((cutD l lo hi).map .int))
  | .str z, lo, hi => if z.length ≤ 16777216 then some (.str (cutS z lo hi)) else none
  | _, _, _ => none
theorem cut_rel [Tb] {K : PySem.W.Frag} {Z : Addr → Prop} {H : Hp} {l : List D} {xs : List V} {lo hi : Option Int} (r : RShL K Z H l xs) : RShL K Z H (cutD l lo hi) (cutV xs lo hi) := by
  unfold cutD cutV
  rw [r.len]
  exact (r.drop _).take _
def rFs [Tb] (K : PySem.W.Frag) : V → Option Int → Option Int → Hp → VK → Prop := fun x lo hi H Q => ∃ Z a d, Pk0 K Z H a x ∧ bSl a lo hi = some d ∧ ∀ v H' S, Grow H H' → RF K Z H' d v S → NewS H H' S → Q v H'
theorem x_sl [Tb] {X : Cx} : SlR X (rFs X.K) := by
  intro pins s σ H x v vl vu lo hi sl Q I rx hs pl pu h
  obtain ⟨Z, a, d, p1, e, k⟩ := h
  unfold bSl at e
  split at e
  · rename_i l
    cases e
    obtain ⟨a, xs, rfl, s1, l1⟩ := p1.tup
    refine sl_tupA pins s σ H _ v vl vu lo hi sl Q I rx hs pl pu ⟨a, xs, rfl, s1, fun h => ?_, fun _ p hp => finT hp (cut_rel l1) k⟩
    refine fin0 ?_ k
    simp only [RSh]
    refine ⟨a, xs, rfl, s1, ?_⟩
    have : cutD l lo hi = l := by
      unfold cutD
      rw [l1.len, h.1, h.2]
      simp [← l1.len]
    rw [this]; exact l1
  · rename_i l
    cases e
    obtain ⟨a, xs, rfl, s1, l1⟩ := p1.lst
    exact sl_list pins s σ H _ v vl vu lo hi sl Q I rx hs pl pu ⟨a, xs, rfl, SqL.of s1, fun p hp => finL hp (cut_rel l1) k⟩
  · rename_i l
    cases e
    obtain ⟨a, rfl, s1⟩ := p1.scr
    refine sl_list pins s σ H _ v vl vu lo hi sl Q I rx hs pl pu ⟨a, _, rfl, s1, fun p hp => finL hp ?_ k⟩
    have := cut_rel (lo := lo) (hi := hi) (ints_rel (K := X.K) (Z := Z) (H := H) l)
    have e : cutD (l.map D.int) lo hi = (cutD l lo hi).map D.int := by
      unfold cutD
      simp [List.map_take, List.map_drop]
    rwa [e] at this
  · rename_i z
    split at e
    · rename_i hz
      cases e
      rw [p1.str] at rx
      exact sl_str pins s σ H _ v vl vu lo hi sl Q I rx hs pl pu ⟨z, rfl, by rw [szL]; exact hz, fin0 (by simp only [RSh]) k⟩
    · cases e
  · cases e
/-- a slice's part -/
def mPt : Option (M D) → M (Option Int)
  | none => fun ρ => .ok (none, ρ)
  | some m => bind m fun d => fun ρ => match d with | .int i => .ok (some i, ρ) | _ => .bad
def mSl (a : M D) (lo hi : Option (M D)) : M D := bind a fun x => bind (mPt lo) fun l => bind (mPt hi) fun h => ofO (bSl x l h)
def tPo [Tb] (K : PySem.W.Frag) (τ : Nat → OT) (m : Option (M D)) : TO := fun σ H Q => ∃ Z own ρ o ρ', RS K τ Z own H ρ σ ∧ mPt m ρ = .ok (o, ρ') ∧ ∀ Z' own' H', RS K τ Z' own' H' ρ' σ → Ext true Z own H Z' own' H' → Q o H'
theorem _root_.L2.PO.mono [Tb] {X : Cx} {e : Option Expr} {t t' : TO} (h : PO X e t) (f : ∀ σ H Q, t' σ H Q → t σ H Q) : PO X e t' := ⟨fun pins s σ H Q I hw => h.run pins s σ H Q I (f σ H Q hw)⟩
section
variable [Tb] {X : Cx} {τ : Nat → OT} {q : Bool} {md : Md} {e : Expr} {lo hi : Option Expr} {ma : M D} {ml mh : Option (M D)} {pos p2 : Pos}
theorem po_n : PO X none (tPo X.K τ none) := po_none.mono fun σ H Q ⟨Z, own, ρ, o, ρ', rs, e, k⟩ => by
  have e : Res.ok (none, ρ) = .ok (o, ρ') := e
  cases e
  exact k Z own H rs ExtF.refl
theorem po_s (h : PE X e (tE X.K τ true .sh ma)) : PO X (some e) (tPo X.K τ (some ma)) := (po_some h).mono fun σ H Q ⟨Z, own, ρ, o, ρ', rs, e, k⟩ => by
  obtain ⟨d, ρ1, e1, f1⟩ := bind_ok e
  split at f1
  · rename_i i
    cases f1
    exact ⟨Z, own, ρ, _, ρ', rs, e1, fun v Z1 own1 H1 S rs1 rm n x1 => ⟨i, by simpa only [Rm, R, RSh] using rm, k Z1 own1 H1 rs1 x1⟩⟩
  · cases f1
theorem e_sl (he : PE X e (tE X.K τ q md ma)) (hl : PO X lo (tPo X.K τ ml)) (hh : PO X hi (tPo X.K τ mh)) (hm : Hand md := by trivial) : PE X (.Subscript e (.Slice lo hi none p2) pos) (tE X.K τ q .sh (mSl ma ml mh)) := (pe_slice x_sl he hl hh).mono fun σ H Q ⟨Z, own, ρ, d, ρ', rs, e, k⟩ => by
  obtain ⟨x, ρ1, e1, f1⟩ := bind_ok e
  obtain ⟨l, ρ2, e2, f2⟩ := bind_ok f1
  obtain ⟨h, ρ3, e3, f3⟩ := bind_ok f2
  obtain ⟨f4, rfl⟩ := ofO_ok f3
  refine ⟨Z, own, ρ, x, ρ1, rs, e1, fun v Z1 own1 H1 S1 rs1 rm1 _ x1 => ⟨Z1, own1, ρ1, l, ρ2, rs1, e2, fun Z2 own2 H2 rs2 x2 => ⟨Z2, own2, ρ2, h, ρ', rs2, e3, fun Z3 own3 H3 rs3 x3 => ?_⟩⟩⟩
  have x23 : ExtF fxT true Z1 own1 H1 Z3 own3 H3 := x2.trans x3
  exact ⟨Z3, x, d, rs1.pk0 x23 hm (.inr rfl) rm1, f4, fun u H4 S g r n => fin_sh rs3 (x1.trans' (fun z => ⟨z, rfl⟩) x23) g r n k⟩
/-- xs[::-1] of a list -/
def bRev : D → Option D
  | .lst l => some (.lst l.reverse)
  | _ => none
theorem e_revO {k1 : Nat} {p1 p3 : Pos} (he : PE X e (tE X.K τ q md ma)) (hm : Hand md := by trivial) : PE X (.Subscript e (.Slice none none (some (.UnaryOp .USub (.Constant (.int 1) k1 p1) p2)) p3) pos) (tE X.K τ q (.ow (.ol .sh .sh)) (m1 bRev ma)) := (pe_revL he).mono fun σ H Q ⟨Z, own, ρ, d, ρ', rs, e, k⟩ => by
  obtain ⟨x, ρ1, e1, f1⟩ := bind_ok e
  obtain ⟨f2, rfl⟩ := ofO_ok f1
  unfold bRev at f2
  split at f2
  · rename_i l
    cases f2
    refine ⟨Z, own, ρ, _, ρ', rs, e1, fun v Z1 own1 H1 S1 rs1 rm1 _ x1 => ?_⟩
    obtain ⟨a, xs, rfl, s1, l1⟩ := (rm1.pk0 hm).lst
    exact ⟨a, xs, rfl, SqL.of s1, fun p hp => fin_ol rs1 x1 hp ((Grow.new hp).shL l1.reverse) k⟩
  · cases f2
end
end CL
namespace CL
open PySem PySem.Spec L2
set_option autoImplicit false
def bLen : List D → Option D
  | [.tup l] => some (.int l.length)
  | [.lst l] => some (.int l.length)
  | [.scr l] => some (.int l.length)
  | [.str z] => if z.length ≤ 16777216 then some (.int z.length) else none
  | _ => none
def bMax2 : List D → Option D
  | [.int i, .int j] => some (.int (if j > i then j else i))
  | _ => none
def bMin2 : List D → Option D
  | [.int i, .int j] => some (.int (if j < i then j else i))
  | _ => none
def bInt : List D → Option D
  | [.int i] => some (.int i)
  | [.bl b] => some (.int (if b then 1 else 0))
  | _ => none
def intsOf : List D → Option (List Int)
  | [] => some []
  | .int i :: r => (intsOf r).map (i :: ·)
  | _ => none
def bSum : List D → Option D
  | [.lst l] => (intsOf l).map fun ns => .int ns.sum
  | _ => none
def bTuple : List D → Option D
  | [.lst l] => some (.tup l)
  | [.tup l] => some (.tup l)
  | _ => none
/-- the items of list(x) -/
def listOfD : List D → Option (List D)
  | [.lst l] => some l
  | [.tup l] => some l
  | [.scr l] => some (l.map .int)
  | _ => none
def bigR : Nat := 2 ^ 1900
/-- the text of repr -/
def D.shown (d : D) : Str := d.py.shown
theorem slen (a b : Str) : (a ++ b).length = a.length + b.length := strLen_append a b
theorem textFrom_le : ∀ (ts : List Str) (k : Nat) (acc : Str), (textFrom k acc ts).length ≤ acc.length + piled ts
  | [], k, acc => by show acc.length ≤ _; omega
  | t :: r, k, acc => by
    have h := textFrom_le r (k + 1) (acc ++ (if k > 0 then ", " else "" : String) ++ t)
    have e : (acc ++ (if k > 0 then ", " else "" : String) ++ t).length ≤ acc.length + 2 + t.length := by
      rw [slen, slen]
      split
      · have : ((", " : String) : Str).length = 2 := rfl
        omega
      · have : (("" : String) : Str).length = 0 := rfl
        omega
    have e2 : piled (t :: r) = t.length + 2 + piled r := by simp [piled]
    have e3 : textFrom k acc (t :: r) = textFrom (k + 1) (acc ++ (if k > 0 then ", " else "" : String) ++ t) r := rfl
    rw [e2, e3]
    omega
theorem bigR_log {a : Int} (h : a.natAbs < bigR) : a.natAbs.log2 < 1920 := by
  by_cases z : a.natAbs = 0
  · rw [z]; decide
  · exact Nat.lt_trans ((Nat.log2_lt z).mpr h) (by decide)
section
variable [Tb] {K : PySem.W.Frag} {Z : Addr → Prop} {H : Hp}
theorem ints_of : ∀ {l : List D} {ns : List Int} {xs : List V}, intsOf l = some ns → RShL K Z H l xs → xs = ns.map V.int
  | [], ns, xs, e, r => by simp only [intsOf] at e; cases e; simpa only [RShL, List.map_nil] using r
  | .int i :: l, ns, xs, e, r => by
    simp only [intsOf] at e
    obtain ⟨m, hm, rfl⟩ := Option.map_eq_some_iff.mp e
    simp only [RShL] at r
    obtain ⟨w, ws, rfl, r1, r2⟩ := r
    simp only [RSh] at r1
    rw [r1, ints_of hm r2]; rfl
  | .non :: _, _, _, e, _ => by simp [intsOf] at e
  | .bl _ :: _, _, _, e, _ => by simp [intsOf] at e
  | .str _ :: _, _, _, e, _ => by simp [intsOf] at e
  | .tup _ :: _, _, _, e, _ => by simp [intsOf] at e
  | .lst _ :: _, _, _, e, _ => by simp [intsOf] at e
  | .scr _ :: _, _, _, e, _ => by simp [intsOf] at e
  | .dct _ _ :: _, _, _, e, _ => by simp [intsOf] at e
  | .ins _ _ _ :: _, _, _, e, _ => by simp [intsOf] at e
theorem Pk0L.one {d : D} {vs : List V} (h : Pk0L K Z H [d] vs) : ∃ v, vs = [v] ∧ Pk0 K Z H d v := by
  obtain ⟨w, ws, rfl, h1, h2⟩ := h
  have h2 : ws = [] := h2
  subst h2
  exact ⟨w, rfl, h1⟩
theorem Pk0L.two {d e : D} {vs : List V} (h : Pk0L K Z H [d, e] vs) : ∃ v w, vs = [v, w] ∧ Pk0 K Z H d v ∧ Pk0 K Z H e w := by
  obtain ⟨w, ws, rfl, h1, h2⟩ := h
  obtain ⟨u, rfl, h3⟩ := Pk0L.one h2
  exact ⟨w, u, rfl, h1, h3⟩
end
section
variable [Tb] {X : Cx}
theorem c_len : CallR X (.builtin "len") (rFn X.K bLen) := by
  intro pins s σ H xs us Q I r h
  obtain ⟨Z, ds, d, pl, e, k⟩ := h
  unfold bLen at e
  split at e
  · rename_i l
    cases e
    obtain ⟨v, rfl, p⟩ := pl.one
    obtain ⟨a, ys, rfl, s1, l1⟩ := p.tup
    exact call_len_seq pins s σ H _ us Q I r ⟨a, ys, rfl, .inr s1, fin0 (by simp only [RSh]; rw [l1.len]) k⟩
  · rename_i l
    cases e
    obtain ⟨v, rfl, p⟩ := pl.one
    obtain ⟨a, ys, rfl, s1, l1⟩ := p.lst
    exact call_len_seq pins s σ H _ us Q I r ⟨a, ys, rfl, .inl (SqL.of s1), fin0 (by simp only [RSh]; rw [l1.len]) k⟩
  · rename_i l
    cases e
    obtain ⟨v, rfl, p⟩ := pl.one
    obtain ⟨a, rfl, s1⟩ := p.scr
    exact call_len_seq pins s σ H _ us Q I r ⟨a, _, rfl, .inl s1, fin0 (by simp only [RSh]; rw [List.length_map]) k⟩
  · rename_i z
    split at e
    · rename_i hz
      cases e
      obtain ⟨v, rfl, p⟩ := pl.one
      rw [p.str] at r
      exact call_len_str pins s σ H _ us Q I r ⟨z, rfl, by rw [szL]; exact hz, fin0 (by simp only [RSh]) k⟩
    · cases e
  · cases e
theorem c_max2 (hc : X.calm = true) : CallR X (.builtin "max") (rFn X.K bMax2) := by
  intro pins s σ H xs us Q I r h
  obtain ⟨Z, ds, d, pl, e, k⟩ := h
  unfold bMax2 at e
  split at e
  · rename_i i j
    cases e
    obtain ⟨v, w, rfl, p, p'⟩ := pl.two
    rw [p.int, p'.int] at r
    exact call_max2 hc pins s σ H _ us Q I r ⟨i, j, rfl, fin0 (by simp only [RSh]) k⟩
  · cases e
theorem c_min2 (hc : X.calm = true) : CallR X (.builtin "min") (rFn X.K bMin2) := by
  intro pins s σ H xs us Q I r h
  obtain ⟨Z, ds, d, pl, e, k⟩ := h
  unfold bMin2 at e
  split at e
  · rename_i i j
    cases e
    obtain ⟨v, w, rfl, p, p'⟩ := pl.two
    rw [p.int, p'.int] at r
    exact call_min2 hc pins s σ H _ us Q I r ⟨i, j, rfl, fin0 (by simp only [RSh]) k⟩
  · cases e
theorem c_int : CallR X (.type "int") (rFn X.K bInt) := by
  intro pins s σ H xs us Q I r h
  obtain ⟨Z, ds, d, pl, e, k⟩ := h
  unfold bInt at e
  split at e
  · rename_i i
    cases e
    obtain ⟨v, rfl, p⟩ := pl.one
    rw [p.int] at r
    exact call_int1 pins s σ H _ us Q I r (.inl ⟨i, rfl, fin0 (by simp only [RSh]) k⟩)
  · rename_i b
    cases e
    obtain ⟨v, rfl, p⟩ := pl.one
    rw [p.bl] at r
    exact call_int1 pins s σ H _ us Q I r (.inr ⟨b, rfl, fin0 (by simp only [RSh]) k⟩)
  · cases e
theorem c_sum (hc : X.calm = true) : CallR X (.builtin "sum") (rFn X.K bSum) := by
  intro pins s σ H xs us Q I r h
  obtain ⟨Z, ds, d, pl, e, k⟩ := h
  unfold bSum at e
  split at e
  · rename_i l
    obtain ⟨ns, hn, rfl⟩ := Option.map_eq_some_iff.mp e
    obtain ⟨v, rfl, p⟩ := pl.one
    obtain ⟨a, ys, rfl, s1, l1⟩ := p.lst
    rw [ints_of hn l1] at s1
    exact cr_sum hc pins s σ H _ us Q I r ⟨a, ns, rfl, SqL.of s1, fin0 (by simp only [RSh]) k⟩
  · cases e
theorem c_tuple : CallR X (.type "tuple") (rFn X.K bTuple) := by
  intro pins s σ H xs us Q I r h
  obtain ⟨Z, ds, d, pl, e, k⟩ := h
  unfold bTuple at e
  split at e
  · rename_i l
    cases e
    obtain ⟨v, rfl, p⟩ := pl.one
    obtain ⟨a, ys, rfl, s1, l1⟩ := p.lst
    exact call_tuple_of pins s σ H _ us Q I r ⟨a, ys, rfl, .inl ⟨SqL.of s1, fun q hq => finT hq l1 k⟩⟩
  · rename_i l
    cases e
    obtain ⟨v, rfl, p⟩ := pl.one
    obtain ⟨a, ys, rfl, s1, l1⟩ := p.tup
    exact call_tuple_of pins s σ H _ us Q I r ⟨a, ys, rfl, .inr ⟨s1, fin0 (by simp only [RSh]; exact ⟨a, ys, rfl, s1, l1⟩) k⟩⟩
  · cases e
end
def rLn [Tb] (K : PySem.W.Frag) (f : List D → Option (List D)) : List V → Hp → VK → Prop := fun xs H Q => ∃ Z ds l, Pk0L K Z H ds xs ∧ f ds = some l ∧ ∀ p ys, H p = none → RShL K Z H l ys → Q (.ref p) (upd H p (.lst ys))
def mL (f : List D → Option (List D)) (ms : M (List D)) : M D := bind ms fun ds => ofO ((f ds).map .lst)
section
variable [Tb] {X : Cx} {τ : Nat → OT} {q : Bool} {e : Expr} {es : List Expr} {ms : M (List D)} {pos : Pos}
theorem c_list : CallR X (.type "list") (rLn X.K listOfD) := by
  intro pins s σ H xs us Q I r h
  obtain ⟨Z, ds, l, pl, e, k⟩ := h
  unfold listOfD at e
  split at e
  · cases e
    obtain ⟨v, rfl, p⟩ := pl.one
    obtain ⟨a, ys, rfl, s1, l1⟩ := p.lst
    exact call_list_of pins s σ H _ us Q I r ⟨a, ys, rfl, .inl (SqL.of s1), fun q hq => k q ys hq l1⟩
  · cases e
    obtain ⟨v, rfl, p⟩ := pl.one
    obtain ⟨a, ys, rfl, s1, l1⟩ := p.tup
    exact call_list_of pins s σ H _ us Q I r ⟨a, ys, rfl, .inr s1, fun q hq => k q ys hq l1⟩
  · cases e
    obtain ⟨v, rfl, p⟩ := pl.one
    obtain ⟨a, rfl, s1⟩ := p.scr
    exact call_list_of pins s σ H _ us Q I r ⟨a, _, rfl, .inl s1, fun q hq => k q _ hq (ints_rel _)⟩
  · cases e
theorem naryL {f : List D → Option (List D)} : ∀ σ H Q, tE X.K τ q (.ow (.ol .sh .sh)) (mL f ms) σ H Q → tCB (rLn X.K f) (tA X.K τ q ms) σ H Q := fun σ H Q ⟨Z, own, ρ, d, ρ', rs, e, k⟩ => by
  obtain ⟨xs, ρ1, e1, f1⟩ := bind_ok e
  obtain ⟨f2, rfl⟩ := ofO_ok f1
  obtain ⟨l, hl, rfl⟩ := Option.map_eq_some_iff.mp f2
  exact ⟨Z, own, ρ, xs, ρ', rs, e1, fun vs Z1 own1 H1 rs1 rl x1 => ⟨Z1, xs, l, rl, hl, fun p ys hp r => fin_ol rs1 x1 hp ((Grow.new hp).shL r) k⟩⟩
theorem e_callTyO {f : List D → Option (List D)} {x : Str} {T : String} {p : Pos} (hc : CallR X (.type T) (rLn X.K f)) (ha : PA X (e :: es) (tA X.K τ q ms)) (hg : Gl X x := by rfl) (hm : X.mg x = none := by assumption) (hv : bootBuiltins x = some (.type T) := by decide +kernel) (hn : x ≠ "__name__" := by decide) (hdb : (x == ("__debug__" : Str)) = false := by decide) (hst : starEach (e :: es) X.env = (false, eval e X.env) :: starEach es X.env := by rfl) (hpl : (backTo pos (starEach es X.env)).any (·.1) = false := by rfl) :
    PE X (.Call (.Name x p) (e :: es) [] pos) (tE X.K τ q (.ow (.ol .sh .sh)) (mL f ms)) := (pe_callTy hc hg hm hv ha hn hdb hst hpl).mono naryL
theorem e_callBO {f : List D → Option (List D)} {x : Str} {T : String} {p : Pos} (hc : CallR X (.builtin T) (rLn X.K f)) (ha : PA X (e :: es) (tA X.K τ q ms)) (hg : Gl X x := by rfl) (hm : X.mg x = none := by assumption) (hv : bootBuiltins x = some (.builtin T) := by decide +kernel) (hn : x ≠ "__name__" := by decide) (hdb : (x == ("__debug__" : Str)) = false := by decide) (hst : starEach (e :: es) X.env = (false, eval e X.env) :: starEach es X.env := by rfl) (hpl : (backTo pos (starEach es X.env)).any (·.1) = false := by rfl) :
    PE X (.Call (.Name x p) (e :: es) [] pos) (tE X.K τ q (.ow (.ol .sh .sh)) (mL f ms)) := (pe_callB hc hg hm hv ha hn hdb hst hpl).mono naryL
end
end CL
namespace CL
open PySem PySem.Spec L2
set_option autoImplicit false
/-- the tables that a law makes lambdas by: code object, table, name -/
abbrev tbOf (cs : List (Addr × Addr × Str)) : Tb := ⟨cs.map fun c => (c.2.1, c.2.2)⟩
theorem tab_new {q : Str} {H : Hp} : TabE H #[] q := ⟨True.intro, fun pos cv hc => by
  have hc : codeAmong pos [] = some cv := hc
  simp [codeAmong] at hc⟩
theorem law_start {P : Program} {w : World} {K : PySem.W.Frag} {mg mb : Str → Option Value} {k : Nat} {fa sc : Addr} {fd : FuncData} {x : Str} {G : List D → Res D} {s1 : Shared} {vals : List Value} {ns : List Int} {cs : List (Addr × Addr × Str)}
    (KX : K.In s1.heap) (hns : s1.heap.Ns mainGlobals mg) (hbl : s1.heap.Ns builtinsNs mb) (hbb : ∀ y : Str, y ≠ "__name__" → mb y = bootBuiltins y) (hlim : s1.heap.NoLimit) (hgen : s1.gens = #[])
    (tabE : ∀ c ∈ cs, s1.heap.get? c.2.1 = some { cls := .none, data := .fields #[] }) (tabN : ∀ c ∈ cs, K.lookup c.2.1 = none) (tabC : ∀ c ∈ cs, PySem.W.CodeHd s1.heap c.1 c.2.1)
    (main_b : ∃ (bm : Addr) (ob : Obj), mg "__builtins__" = some (.ref bm) ∧ bm ≠ builtinsNs ∧ s1.heap.get? bm = some ob ∧ ob.cls = .type "module" ∧ ob.dict = some builtinsNs ∧ ob.data = .plain)
    (hsc : s1.heap.get? sc = some { cls := .type "list", data := .seq vals.toArray }) (hint : PyProof.Rows.IntsAre vals ns) (hlen : ns.length ≤ sizeLine) (room : Room k callerA)
    (F : ∀ base : Heap, K.In base → base.Ns mainGlobals mg → (∀ c ∈ cs, LamX.TabB base mg c.1 c.2.1) → FnG P w K mg base k fa fd [x] (@spP (tbOf cs) K 1 .sh G)) (hbind : ∀ (s0 : Shared) (u : Value), BindsTo s0 fd ⟨[u], []⟩ [(x, u)])
    (hG : G [.scr ns] = .ok (.bl true)) :
    codeAny (model P w) callerA (.call (.ref fa) ⟨[.ref sc], []⟩) (fun r s2 => r = .ok (.ret (.bool true)) ∧ OldK s1.heap s2.heap ∧ s2.os = s1.os ∧ PyProof.Rows.AllBare s2.gens) s1 := by
  have relv := vals_ints hint
  have lenv := hint.length
  let tabs : List Addr := cs.map fun c => c.2.1
  have tabs_at : ∀ t : Addr, t ∈ tabs → ∃ c ∈ cs, c.2.1 = t := fun t ht => List.mem_map.mp ht
  have tabs_of : ∀ c ∈ cs, c.2.1 ∈ tabs := fun c hc => List.mem_map.mpr ⟨c, hc, rfl⟩
  have tabs_obj : ∀ t ∈ tabs, s1.heap.get? t = some { cls := .none, data := .fields #[] } := fun t ht => by
    obtain ⟨c, hc, rfl⟩ := tabs_at t ht
    exact tabE c hc
  have sc_tabs : sc ∉ tabs := fun z => by
    have y := tabs_obj sc z
    rw [hsc] at y
    have y2 := congrArg Obj.data (Option.some.inj y)
    cases y2
  have main : ∀ H : Hp, (∀ c ∈ cs, H c.2.1 = some (.tbl #[])) → (∀ c, H c = none ∨ c ∈ tabs ∨ ∃ ob ys, H c = some (.frz ob (.lst ys))) → (SqL K H sc (ns.map V.int)) → (H sc = none → KL K sc (ns.map V.int)) → HOk P w H s1.heap → (∀ c, H c ≠ none → c = sc ∨ c ∈ tabs) → (H sc ≠ none → K.lookup sc = none) →
      codeAny (model P w) callerA (.call (.ref fa) ⟨[.ref sc], []⟩) (fun r s2 => r = .ok (.ret (.bool true)) ∧ OldK s1.heap s2.heap ∧ s2.os = s1.os ∧ PyProof.Rows.AllBare s2.gens) s1 := by
    intro H htab honly hsq hkl hok hsole hnk
    have hid : ∀ {c : Addr} {ob : Obj}, s1.heap.get? c = some ob → H c = none → (hidT s1.heap H).get? c = some ob := fun e1 e2 => hidT_get e1 e2
    have other : ∀ {c : Addr} {ob : Obj}, s1.heap.get? c = some ob → (∀ ys m, ob.data ≠ .seq ys m) → ob.data ≠ .fields #[] → H c = none := by
      intro c ob e1 e2 e3
      apply Classical.byContradiction
      intro hne
      rcases hsole c hne with ec | ec
      · subst ec
        rw [hsc] at e1
        cases e1
        exact e2 _ _ rfl
      · rw [tabs_obj c ec] at e1
        cases e1
        exact e3 rfl
    have nodict : ∀ {c : Addr} {ob : Obj} {es : Array DictEntry} {ep : Nat}, s1.heap.get? c = some ob → ob.data = .dict es ep → H c = none := fun e1 e2 => other e1 (by rw [e2]; exact fun _ _ z => nomatch z) (by rw [e2]; exact fun z => nomatch z)
    have keepNs : ∀ {c : Addr} {m : Str → Option Value}, s1.heap.Ns c m → (hidT s1.heap H).Ns c m := by
      rintro c m ⟨ob, es, ep, e1, e2, rest⟩
      exact ⟨ob, es, ep, hid e1 (nodict e1 e2), e2, rest⟩
    have KB : K.In (hidT s1.heap H) := by
      intro c ob hc
      apply hid (KX c ob hc)
      apply Classical.byContradiction
      intro hne
      rcases hsole c hne with ec | ec
      · subst ec
        rw [hnk hne] at hc
        cases hc
      · obtain ⟨d, hd, rfl⟩ := tabs_at c ec
        rw [tabN d hd] at hc
        cases hc
    have hmod : Mod K mg (hidT s1.heap H) := by
      refine ⟨KB, keepNs hns, ⟨mb, keepNs hbl, hbb⟩, ?_⟩
      obtain ⟨mc, n1, n2⟩ := hlim
      exact ⟨mc, keepNs n1, n2⟩
    have TBs : ∀ c ∈ cs, LamX.TabB (hidT s1.heap H) mg c.1 c.2.1 := by
      intro c hc
      have hTc := tabE c hc
      constructor
      · obtain ⟨o, us, file, tf, flags, tg, inF, text, tt, e1, r1, r2, r3, rest⟩ := tabC c hc
        exact ⟨o, us, file, tf, flags, tg, inF, text, tt, hid e1 (other e1 (by rw [r2]; exact fun _ _ z => nomatch z) (by
          rw [r2]; intro z; cases z; simp at r3)), r1, r2, r3, rest⟩
      · obtain ⟨bm, ob, b1, b2, b3, b4, b5, b6⟩ := main_b
        have n1 : bm ≠ mainGlobals := by
          rintro rfl
          obtain ⟨o, es, ep, e, hd, _⟩ := hns
          rw [e] at b3
          cases b3
          rw [hd] at b6
          cases b6
        have n2 : bm ≠ c.2.1 := by
          intro z
          rw [z, hTc] at b3
          cases b3
          cases b6
        exact ⟨bm, ob, b1, b2, n1, n2, hid b3 (other b3 (by rw [b6]; exact fun _ _ z => nomatch z) (by rw [b6]; exact fun z => nomatch z)), b4, b5, b6⟩
      · intro z
        obtain ⟨o, es, ep, e, hd, _⟩ := hns
        rw [z, hTc] at e
        cases e
        cases hd
    have env0 : Env0 P w K mg (hidT s1.heap H) callerA [] s1 H :=
      ⟨rfl, hmod, fun c ob e1 => of_hidT e1, Nat.le_of_eq (hidT_size _ _), trivial, fun c hc => absurd (show c ∈ ([] : List Addr) from hc) (by simp), hok, .of_eq hgen⟩
    have tbok : @TbOk (tbOf cs) H := by
      intro p hp
      obtain ⟨c, hc, rfl⟩ := List.mem_map.mp hp
      exact ⟨#[], htab c hc, tab_new⟩
    have hsp : @spP (tbOf cs) K 1 .sh G [.ref sc] H (fun v _ => v = .bl true) (fun _ _ _ => False) := by
      refine ⟨fun c => c = sc ∧ H sc ≠ none, [.scr ns], .bl true, rfl, ?_, fun a z => by rw [z.1]; exact z.2, tbok, hG, fun v Z' H' S _ _ _ _ r _ => by simpa only [R, RSh] using r⟩
      apply RShL.one
      simp only [RSh]
      refine ⟨sc, rfl, ?_, hsq⟩
      cases hh : H sc with
      | none => exact .inr (hkl hh)
      | some o => exact .inl ⟨rfl, by simp⟩
    apply codeAny_mono ((F _ KB (keepNs hns) TBs).run callerA [] s1 H ⟨[.ref sc], []⟩ [.ref sc] [.ref sc] _ _ room rfl env0 (hbind s1 (.ref sc)) (.cons rfl .nil) hsp)
    intro res s2 hres
    cases res with
    | error er => exact hres.elim
    | ok fl =>
      cases fl with
      | next => exact hres.elim
      | brk => exact hres.elim
      | cont => exact hres.elim
      | ret u =>
        obtain ⟨v, H2, hos, hbare, hun, hok2, hrv, hv⟩ := hres
        have hv : v = .bl true := hv
        subst hv
        obtain rfl : u = Value.bool true := hrv
        have same : ∀ c ob, c ∉ tabs → s1.heap.get? c = some ob → s2.heap.get? c = some ob := by
          intro c ob nt e1
          rcases honly c with hn | ht | ⟨ob2, ys, hf⟩
          · exact hun.keep c ob e1 hn (fun z => absurd (show c ∈ ([] : List Addr) from z) (by simp)) (by simp)
          · exact absurd ht nt
          · have hf2 := hun.frzs c ob2 _ hf
            have o1 := (hok c _ hf).1
            have o2 := (hok2 c _ hf2).1
            rw [e1] at o1
            cases o1
            exact o2
        have more : ∀ c ∈ cs, ∃ ps : Array Value, s2.heap.get? c.2.1 = some { cls := .none, data := .fields ps } := by
          intro c hc
          obtain ⟨ps, hps⟩ := hun.tbls c.2.1 #[] (htab c hc)
          exact ⟨_, hok2 _ _ hps⟩
        refine ⟨rfl, ⟨fun c ob e1 => ?_, fun c ob e1 => ?_⟩, hos, hbare⟩ <;> by_cases hc : c ∈ tabs
        · obtain ⟨d, hd, rfl⟩ := tabs_at c hc
          obtain ⟨ps, hps⟩ := more d hd
          rw [tabE d hd] at e1
          cases e1
          exact .inr (.inl ⟨((tabC d hd).tab (tabE d hd)).isCodeTable, rfl, #[], ps, rfl, by rw [Array.empty_append]; exact hps⟩)
        · exact .inl (same c ob hc e1)
        · obtain ⟨d, hd, rfl⟩ := tabs_at c hc
          obtain ⟨ps, hps⟩ := more d hd
          exact ⟨_, hps⟩
        · exact ⟨ob, same c ob hc e1⟩
  cases hk : K.lookup sc with
  | some ob =>
    have e1 := KX sc ob hk
    rw [hsc] at e1
    cases e1
    have hkl : KL K sc (ns.map V.int) := fun H => .inr ⟨_, vals.toArray, _, hk, rfl, rfl, rfl, by rw [List.size_toArray, lenv]; exact hlen, by simpa using relv⟩
    have at0 : ∀ {c : Addr}, c ∈ tabs → (if c ∈ tabs then some (HO.tbl #[]) else none) = some (HO.tbl #[]) := fun h => if_pos h
    have at1 : ∀ {c : Addr}, c ∉ tabs → (if c ∈ tabs then some (HO.tbl #[]) else none) = none := fun h => if_neg h
    refine main (fun c => if c ∈ tabs then some (.tbl #[]) else none) (fun c hc => at0 (tabs_of c hc)) (fun c => ?_) (hkl _) (fun _ => hkl) (fun c u z => ?_) (fun c z => ?_) fun z => absurd (at1 sc_tabs) z
    · by_cases hc : c ∈ tabs
      · exact .inr (.inl hc)
      · exact .inl (at1 hc)
    · by_cases hc : c ∈ tabs
      · have y := (at0 hc).symm.trans z
        cases y
        exact tabs_obj c hc
      · have y := (at1 hc).symm.trans z
        cases y
    · by_cases hc : c ∈ tabs
      · exact .inr hc
      · exact absurd (at1 hc) z
  | none =>
    obtain ⟨H, hH⟩ : ∃ H : Hp, H = fun c => if c = sc then some (HO.frz { cls := .type "list", data := .seq vals.toArray } (.lst (ns.map V.int))) else if c ∈ tabs then some (HO.tbl #[]) else none := ⟨_, rfl⟩
    have atS : H sc = some (HO.frz { cls := .type "list", data := .seq vals.toArray } (.lst (ns.map V.int))) := by rw [hH]; exact if_pos rfl
    have atT : ∀ {c : Addr}, c ∈ tabs → H c = some (HO.tbl #[]) := fun {c} h => by
      rw [hH]
      exact (if_neg (show c ≠ sc from fun z => sc_tabs (z ▸ h))).trans (if_pos h)
    have atN : ∀ {c : Addr}, c ≠ sc → c ∉ tabs → H c = none := fun h1 h2 => by
      rw [hH]
      exact (if_neg h1).trans (if_neg h2)
    refine main H (fun c hc => atT (tabs_of c hc)) (fun c => ?_) (.inl (.inr ⟨_, atS⟩)) (fun z => by rw [atS] at z; cases z) (fun c u z => ?_) (fun c z => ?_) fun _ => hk
    · by_cases h1 : c = sc
      · subst h1; exact .inr (.inr ⟨_, _, atS⟩)
      · by_cases h2 : c ∈ tabs
        · exact .inr (.inl h2)
        · exact .inl (atN h1 h2)
    · by_cases h1 : c = sc
      · subst h1
        have y := atS.symm.trans z
        cases y
        exact ⟨hsc, by rw [List.length_map]; exact hlen, vals, _, relv, hsc⟩
      · by_cases h2 : c ∈ tabs
        · have y := (atT h2).symm.trans z
          cases y
          exact tabs_obj c h2
        · have y := (atN h1 h2).symm.trans z
          cases y
    · by_cases h1 : c = sc
      · exact .inl h1
      · by_cases h2 : c ∈ tabs
        · exact .inr h2
        · exact absurd (atN h1 h2) z
/-- the goal that the head leaves, from the law as a function of data -/
theorem walk_cl {l : PySem.W.OpenLaw} {n k : Nat} {q : Program} {loose : List Str} {XP : (Str → Option Value) → Heap → Prop} {YP : World → Heap → Prop} {d : DefRec} {K : Params → PySem.W.Frag} {x : Str} {G : List D → Res D}
    (hn : l.most = some n) (hn2 : n ≤ sizeLine) (hdf : d.params.defaults = []) (hr : Room k callerA)
    (hY : ∀ (w : World) (h : Heap), YP w h → (K w.params).In h)
    (F : ∀ (w : World) (mg : Str → Option Value) (fa : Addr) (h : Heap), YP w h → (K w.params).In h → h.Ns mainGlobals mg → mg d.name = some (.ref fa) →
      ∃ (cs : List (Addr × Addr × Str)) (fd : FuncData), (∀ c ∈ cs, h.get? c.2.1 = some { cls := .none, data := .fields #[] }) ∧ (∀ c ∈ cs, (K w.params).lookup c.2.1 = none) ∧ (∀ c ∈ cs, PySem.W.CodeHd h c.1 c.2.1) ∧
        (∀ (s : Shared) (u : Value), BindsTo s fd ⟨[u], []⟩ [(x, u)]) ∧ ∀ base : Heap, (K w.params).In base → base.Ns mainGlobals mg → (∀ c ∈ cs, LamX.TabB base mg c.1 c.2.1) → FnG l.prog w (K w.params) mg base k fa fd [x] (@spP (tbOf cs) (K w.params) 1 .sh G))
    (hG : ∀ ns : List Int, ns.length ≤ n → (∀ z ∈ ns, Builtin.Int.intBits z ≤ 1048576) → G [.scr ns] = .ok (.bl true)) :
    PySem.W.WalkO q loose XP YP l.row.toRowW d [] (fun f vs => PySem.call f vs) := by
  apply Att.attach_callB hn hdf
  intro w s0 s1 mg mb fa ob pm cd doc sc vals ns Gd Y ho hd hcd hmg hobj hints hlen hbits hg
  obtain ⟨cs, fd, t1, t2, t3, hb, hF⟩ := F w mg fa _ Y (hY w _ Y) Gd.T.g hmg
  exact law_start (hY w _ Y) Gd.T.g Gd.T.b Gd.T.builtins Gd.T.nolimit hg t1 t2 t3 Gd.T.bmain hobj hints (Nat.le_trans hlen hn2) hr hF hb (hG ns hlen hbits)
end CL
namespace CL
open PySem PySem.Spec L2
set_option autoImplicit false
/-- a def of the text as it stands behind the top -/
def TxF [Tb] (K : PySem.W.Frag) (mg : Str → Option Value) (x : Str) (st : Stmt) (ps : List Str) : Prop := ∃ f fd, Fun K x x st f fd ∧ Binds K fd ps [] ∧ mg x = some (.ref f)
def CalP [Tb] (P : Program) (w : World) (K : PySem.W.Frag) (mg : Str → Option Value) (base : Heap) (k : Nat) (x : Str) (n : Nat) (rt : OT) (G : List D → Res D) : Prop :=
  ∃ f fd ps, FnG P w K mg base k f fd ps (spP K n rt G) ∧ PySem.W.keepIn K (.ref f) = true ∧ Binds K fd ps [] ∧ mg x = some (.ref f)
def CalF [Tb] (P : Program) (w : World) (K : PySem.W.Frag) (mg : Str → Option Value) (base : Heap) (k : Nat) (x : Str) (ts : List OT) (rt : OT) (G : Fn) : Prop :=
  ∃ f fd ps, FnG P w K mg base k f fd ps (spD K ts rt G) ∧ PySem.W.keepIn K (.ref f) = true ∧ Binds K fd ps [] ∧ mg x = some (.ref f)
section
variable [Tb] {X : Cx} {τ : Nat → OT} {q : Bool} {k j : Nat} {x : Str} {p pos : Pos} {e : Expr} {es : List Expr} {ms : M (List D)} {as : List Ag} {rt : OT} {n nl : Nat} {ts : List OT} {G : List D → Res D} {b : MS}
theorem e_c (c : CalP X.prog X.w X.K X.mg X.base k x n rt G) (hr : Room j X.A) (hgu : X.A.guards = some []) (ha : PA X (e :: es) (tAs X.K τ q ms)) (hn : ∀ ds (d : D) ρ ρ', ms ρ = .ok (ds, ρ') → ds.length = n) (hj : k ≤ j := by decide) (hg : Gl X x := by rfl)
    (hdb : (x == ("__debug__" : Str)) = false := by decide) (he : starEach (e :: es) X.env = (false, eval e X.env) :: starEach es X.env := by rfl) (hpl : (backTo pos (starEach es X.env)).any (·.1) = false := by rfl) :
    PE X (.Call (.Name x p) (e :: es) [] pos) (tE X.K τ q (.ow rt) (mCallP G ms)) := by
  obtain ⟨f, fd, ps, h1, h2, h3, h4⟩ := c
  exact e_call (h1.mono hj) h2 h3 hr hgu h4 ha hn hg hdb he hpl
theorem e_cF (c : CalF X.prog X.w X.K X.mg X.base k x ts rt (runF ts nl b)) (hr : Room j X.A) (hgu : X.A.guards = some []) (ha : PA X (e :: es) (tAg X.K τ q as)) (hts : tysOf τ as = ts := by rfl) (hj : k ≤ j := by decide) (hnd : (ioIx as).Nodup := by decide) (hol : (ioIx as).all (fun i => isOl (τ i)) = true := by rfl) (hg : Gl X x := by rfl)
    (hdb : (x == ("__debug__" : Str)) = false := by decide) (he : starEach (e :: es) X.env = (false, eval e X.env) :: starEach es X.env := by rfl) (hpl : (backTo pos (starEach es X.env)).any (·.1) = false := by rfl) :
    PE X (.Call (.Name x p) (e :: es) [] pos) (tE X.K τ false (.ow rt) (mCall (runF ts nl b) as)) := by
  subst hts
  obtain ⟨f, fd, ps, h1, h2, h3, h4⟩ := c
  exact e_callF (h1.mono hj) h2 h3 hr hgu h4 ha runF_len hnd (fun i hi => by simpa using List.all_eq_true.mp hol i hi) hg hdb he hpl
end
theorem sh_ok (τ : Nat → OT) (n : Nat) (h : (List.range n).all (fun i => !isOl (τ i)) = true) : ∀ i, i < n → τ i = .sh := fun i hi => by
  have := List.all_eq_true.mp h i (List.mem_range.mpr hi)
  cases ht : τ i with
  | sh => rfl
  | ol _ _ => rw [ht] at this; simp [isOl] at this
  | od => rw [ht] at this; simp [isOl] at this
  | dv _ => rw [ht] at this; simp [isOl] at this
def eqOT : OT → OT → Bool
  | .sh, .sh => true
  | .ol a b, .ol c d => eqOT a c && eqOT b d
  | .od, .od => true
  | .dv a, .dv b => eqOT a b
  | _, _ => false
theorem eqOT_eq : ∀ {a b : OT}, eqOT a b = true → a = b
  | .sh, .sh, _ => rfl
  | .ol a b, .ol c d, h => by
    simp only [eqOT, Bool.and_eq_true] at h
    rw [eqOT_eq h.1, eqOT_eq h.2]
  | .sh, .ol _ _, h => by simp [eqOT] at h
  | .ol _ _, .sh, h => by simp [eqOT] at h
  | .od, .od, _ => rfl
  | .od, .sh, h => by simp [eqOT] at h
  | .sh, .od, h => by simp [eqOT] at h
  | .od, .ol _ _, h => by simp [eqOT] at h
  | .ol _ _, .od, h => by simp [eqOT] at h
  | .dv a, .dv b, h => by
    simp only [eqOT] at h
    rw [eqOT_eq h]
  | .dv _, .sh, h => by simp [eqOT] at h
  | .dv _, .od, h => by simp [eqOT] at h
  | .dv _, .ol _ _, h => by simp [eqOT] at h
  | .sh, .dv _, h => by simp [eqOT] at h
  | .od, .dv _, h => by simp [eqOT] at h
  | .ol _ _, .dv _, h => by simp [eqOT] at h
theorem τs_ok (τ : Nat → OT) (ts : List OT) (h : (List.range ts.length).all (fun i => eqOT (τ i) (τOf ts i)) = true) : ∀ i, i < ts.length → τ i = τOf ts i := fun i hi => eqOT_eq (List.all_eq_true.mp h i (List.mem_range.mpr hi))
theorem fx_ok (fx : Nat → Bool) (ts : List OT) (h : (List.range ts.length).all (fun i => !ioOf ts i || fx i) = true) : ∀ i, ioOf ts i = true → fx i = true := fun i hi => by
  by_cases hl : i < ts.length
  · have := List.all_eq_true.mp h i (List.mem_range.mpr hl)
    rw [hi] at this; simpa using this
  · unfold ioOf at hi
    rw [List.getElem?_eq_none (by omega)] at hi
    cases hi
def NoNx (b : MS) : Prop := ∀ ρ ρ', b ρ ≠ .ok (.nx, ρ')
theorem NoNx.ret {m : M D} : NoNx (sRet m) := fun ρ ρ' h => by
  obtain ⟨d, ρ1, _, e⟩ := bind_ok h
  cases e
theorem NoNx.ifs {c : M D} {a b : MS} (ha : NoNx a) (hb : NoNx b) : NoNx (sIf c a b) := fun ρ ρ' h => by
  obtain ⟨f, ρ1, _, e⟩ := bind_ok h
  cases f with
  | bl x => cases x with
    | true => exact ha _ _ e
    | false => exact hb _ _ e
  | _ => cases e
end CL
namespace CL
open PySem L2
set_option autoImplicit false
def W {α : Type} (m : M α) (ρ : Sl) (Q : α → Sl → Prop) : Prop := ∃ a ρ', m ρ = .ok (a, ρ') ∧ Q a ρ'
section
variable {α β : Type} {ρ : Sl} {Q : α → Sl → Prop} {QD : D → Sl → Prop} {QL : List D → Sl → Prop} {QF : Fl → Sl → Prop}
theorem W.mono {m : M α} {Q' : α → Sl → Prop} (h : W m ρ Q) (f : ∀ a ρ', Q a ρ' → Q' a ρ') : W m ρ Q' := let ⟨a, ρ', e, q⟩ := h; ⟨a, ρ', e, f a ρ' q⟩
theorem W_bind {m : M β} {f : β → M α} : W (CL.bind m f) ρ Q ↔ W m ρ fun a ρ1 => W (f a) ρ1 Q := by
  constructor
  · rintro ⟨a, ρ', e, q⟩
    obtain ⟨b, ρ1, e1, e2⟩ := bind_ok e
    exact ⟨b, ρ1, e1, a, ρ', e2, q⟩
  · rintro ⟨b, ρ1, e1, a, ρ', e2, q⟩
    exact ⟨a, ρ', by rw [bind_of e1]; exact e2, q⟩
theorem W_mC {d : D} : W (mC d) ρ QD ↔ QD d ρ := ⟨fun ⟨_, _, e, q⟩ => by cases e; exact q, fun q => ⟨_, _, rfl, q⟩⟩
theorem W_sK {f : Fl} : W (sK f) ρ QF ↔ QF f ρ := ⟨fun ⟨_, _, e, q⟩ => by cases e; exact q, fun q => ⟨_, _, rfl, q⟩⟩
theorem W_mNil : W mNil ρ QL ↔ QL [] ρ := ⟨fun ⟨_, _, e, q⟩ => by cases e; exact q, fun q => ⟨_, _, rfl, q⟩⟩
theorem W_ofO {o : Option D} : W (ofO o) ρ QD ↔ ∃ d, o = some d ∧ QD d ρ := by
  constructor
  · rintro ⟨a, ρ', e, q⟩
    obtain ⟨e1, rfl⟩ := ofO_ok e
    exact ⟨a, e1, q⟩
  · rintro ⟨d, rfl, q⟩
    exact ⟨d, ρ, rfl, q⟩
theorem W_ofL {o : Option (List D)} : W (ofL o) ρ QL ↔ ∃ d, o = some d ∧ QL d ρ := by
  constructor
  · rintro ⟨a, ρ', e, q⟩
    obtain ⟨e1, rfl⟩ := ofL_ok e
    exact ⟨a, e1, q⟩
  · rintro ⟨d, rfl, q⟩
    exact ⟨d, ρ, rfl, q⟩
theorem W_ok {a : α} : W (fun ρ => .ok (a, ρ)) ρ Q ↔ Q a ρ := ⟨fun ⟨_, _, e, q⟩ => by cases e; exact q, fun q => ⟨_, _, rfl, q⟩⟩
theorem W_mV {i : Nat} : W (mV i) ρ QD ↔ ∃ d, ρ[i]? = some (some d) ∧ QD d ρ := by
  constructor
  · rintro ⟨a, ρ', e, q⟩
    obtain ⟨e, rfl⟩ := mV_ok e
    exact ⟨a, e, q⟩
  · rintro ⟨d, e, q⟩
    exact ⟨d, ρ, by unfold mV; rw [e], q⟩
theorem W_m1 {f : D → Option D} {a : M D} : W (m1 f a) ρ QD ↔ W a ρ fun x ρ1 => ∃ d, f x = some d ∧ QD d ρ1 := by simp only [m1, W_bind, W_ofO]
theorem W_m2 {f : D → D → Option D} {a b : M D} : W (m2 f a b) ρ QD ↔ W a ρ fun x ρ1 => W b ρ1 fun y ρ2 => ∃ d, f x y = some d ∧ QD d ρ2 := by simp only [m2, W_bind, W_ofO]
theorem W_mCons {a : M D} {r : M (List D)} : W (mCons a r) ρ QL ↔ W a ρ fun x ρ1 => W r ρ1 fun xs ρ2 => QL (x :: xs) ρ2 := by simp only [mCons, W_bind, W_ok]
theorem W_mN {f : List D → Option D} {ms : M (List D)} : W (mN f ms) ρ QD ↔ W ms ρ fun xs ρ1 => ∃ d, f xs = some d ∧ QD d ρ1 := by simp only [mN, W_bind, W_ofO]
theorem W_mL {f : List D → Option (List D)} {ms : M (List D)} : W (mL f ms) ρ QD ↔ W ms ρ fun xs ρ1 => ∃ l, f xs = some l ∧ QD (.lst l) ρ1 := by
  simp only [mL, W_bind, W_ofO, Option.map_eq_some_iff]
  constructor
  · exact fun h => h.mono fun xs ρ1 ⟨d, ⟨l, h1, h2⟩, q⟩ => ⟨l, h1, h2 ▸ q⟩
  · exact fun h => h.mono fun xs ρ1 ⟨l, h1, q⟩ => ⟨_, ⟨l, h1, rfl⟩, q⟩
theorem W_mIt {m : M D} : W (mIt m) ρ QL ↔ W m ρ fun d ρ1 => ∃ l, itemsOf d = some l ∧ QL l ρ1 := by simp only [mIt, W_bind, W_ofL]
theorem W_mItN {f : List D → Option (List D)} {m : M (List D)} : W (mItN f m) ρ QL ↔ W m ρ fun d ρ1 => ∃ l, f d = some l ∧ QL l ρ1 := by simp only [mItN, W_bind, W_ofL]
theorem W_mAnd {a b : M D} : W (mAnd a b) ρ QD ↔ W a ρ fun x ρ1 => (x = .bl true ∧ W b ρ1 QD) ∨ (x = .bl false ∧ QD (.bl false) ρ1) := by
  simp only [mAnd, W_bind]
  constructor <;> refine fun h => h.mono fun x ρ1 q => ?_
  · cases x with
    | bl c => cases c <;> simp_all [W_mC]
    | _ => obtain ⟨_, _, e, _⟩ := q; cases e
  · rcases q with ⟨rfl, q⟩ | ⟨rfl, q⟩
    · exact q
    · exact W_mC.mpr q
theorem W_mOr {a b : M D} : W (mOr a b) ρ QD ↔ W a ρ fun x ρ1 => (x = .bl true ∧ QD (.bl true) ρ1) ∨ (x = .bl false ∧ W b ρ1 QD) := by
  simp only [mOr, W_bind]
  constructor <;> refine fun h => h.mono fun x ρ1 q => ?_
  · cases x with
    | bl c => cases c <;> simp_all [W_mC]
    | _ => obtain ⟨_, _, e, _⟩ := q; cases e
  · rcases q with ⟨rfl, q⟩ | ⟨rfl, q⟩
    · exact W_mC.mpr q
    · exact q
theorem W_mChain {f g : D → D → Option D} {a b c : M D} : W (mChain f g a b c) ρ QD ↔ W a ρ fun x ρ1 => W b ρ1 fun y ρ2 => ∃ z, f x y = some z ∧ ((z = .bl true ∧ W c ρ2 fun w ρ3 => ∃ d, g y w = some d ∧ QD d ρ3) ∨ (z = .bl false ∧ QD (.bl false) ρ2)) := by
  simp only [mChain, W_bind, W_ofO]
  constructor <;> refine fun h => h.mono fun x ρ1 q => q.mono fun y ρ2 ⟨z, hz, q⟩ => ⟨z, hz, ?_⟩
  · cases z with
    | bl c => cases c <;> simp_all [W_mC, W_bind, W_ofO]
    | _ => obtain ⟨_, _, e, _⟩ := q; cases e
  · rcases q with ⟨rfl, q⟩ | ⟨rfl, q⟩
    · exact W_bind.mpr (q.mono fun _ _ h => W_ofO.mpr h)
    · exact W_mC.mpr q
theorem W_mPtN {QO : Option Int → Sl → Prop} : W (mPt none) ρ QO ↔ QO none ρ := ⟨fun ⟨_, _, e, q⟩ => by cases e; exact q, fun q => ⟨_, _, rfl, q⟩⟩
theorem W_mPtS {m : M D} {QO : Option Int → Sl → Prop} : W (mPt (some m)) ρ QO ↔ W m ρ fun d ρ1 => ∃ i, d = .int i ∧ QO (some i) ρ1 := by
  simp only [mPt, W_bind]
  constructor <;> refine fun h => h.mono fun d ρ1 q => ?_
  · cases d with
    | int i => obtain ⟨_, _, e, q⟩ := q; cases e; exact ⟨i, rfl, q⟩
    | _ => obtain ⟨_, _, e, _⟩ := q; cases e
  · obtain ⟨i, rfl, q⟩ := q
    exact ⟨_, _, rfl, q⟩
theorem W_mSl {a : M D} {lo hi : Option (M D)} : W (mSl a lo hi) ρ QD ↔ W a ρ fun x ρ1 => W (mPt lo) ρ1 fun l ρ2 => W (mPt hi) ρ2 fun h ρ3 => ∃ d, bSl x l h = some d ∧ QD d ρ3 := by simp only [mSl, W_bind, W_ofO]
theorem W_mCallP {F : List D → Res D} {ms : M (List D)} : W (mCallP F ms) ρ QD ↔ W ms ρ fun ds ρ1 => ∃ d, F ds = .ok d ∧ QD d ρ1 := by
  simp only [mCallP, W_bind]
  constructor <;> refine fun h => h.mono fun ds ρ1 q => ?_
  · obtain ⟨d, ρ', e, q⟩ := q
    split at e
    · rename_i d' e'; cases e; exact ⟨_, e', q⟩
    · cases e
    · cases e
  · obtain ⟨d, e, q⟩ := q
    exact ⟨d, ρ1, by simp [e], q⟩
theorem W_mCall {F : Fn} {as : List Ag} : W (mCall F as) ρ QD ↔ W (evA as) ρ fun ds ρ1 => ∃ full, fillA as ds ρ1 = some full ∧ ∃ d out, F full = .ok (d, out) ∧ QD d (backA as out ρ1) := by
  simp only [mCall, W_bind]
  constructor <;> refine fun h => h.mono fun ds ρ1 q => ?_
  · obtain ⟨d, ρ', e, q⟩ := q
    dsimp only at e
    split at e
    · cases e
    · rename_i full ef
      split at e
      · rename_i d' out e'; cases e; exact ⟨full, ef, _, out, e', q⟩
      · cases e
      · cases e
  · obtain ⟨full, ef, d, out, e, q⟩ := q
    exact ⟨d, _, by simp [ef, e], q⟩
/-- on to the next statement -/
def Kq (b : MS) (Q : Fl → Sl → Prop) : Fl → Sl → Prop := fun f ρ1 => (f = .nx ∧ W b ρ1 Q) ∨ (f ≠ .nx ∧ Q f ρ1)
theorem Kq_nx {b : MS} : Kq b QF .nx ρ ↔ W b ρ QF := by simp [Kq]
theorem Kq_ret {b : MS} {d : D} : Kq b QF (.ret d) ρ ↔ QF (.ret d) ρ := by simp [Kq]
theorem Kq_brk {b : MS} : Kq b QF .brk ρ ↔ QF .brk ρ := by simp [Kq]
theorem Kq_cnt {b : MS} : Kq b QF .cnt ρ ↔ QF .cnt ρ := by simp [Kq]
theorem W_sSeq {a b : MS} : W (sSeq a b) ρ QF ↔ W a ρ (Kq b QF) := by
  unfold Kq
  simp only [sSeq, W_bind]
  constructor <;> refine fun h => h.mono fun f ρ1 q => ?_
  · cases f with
    | nx => exact .inl ⟨rfl, q⟩
    | ret d => exact .inr ⟨by simp, W_sK.mp q⟩
    | brk => exact .inr ⟨by simp, W_sK.mp q⟩
    | cnt => exact .inr ⟨by simp, W_sK.mp q⟩
  · rcases q with ⟨rfl, q⟩ | ⟨n, q⟩
    · exact q
    · cases f with
      | nx => exact absurd rfl n
      | ret d => exact W_sK.mpr q
      | brk => exact W_sK.mpr q
      | cnt => exact W_sK.mpr q
theorem W_sIf {c : M D} {a b : MS} : W (sIf c a b) ρ QF ↔ W c ρ fun x ρ1 => (x = .bl true ∧ W a ρ1 QF) ∨ (x = .bl false ∧ W b ρ1 QF) := by
  simp only [sIf, W_bind]
  constructor <;> refine fun h => h.mono fun x ρ1 q => ?_
  · cases x with
    | bl c => cases c <;> simp_all
    | _ => obtain ⟨_, _, e, _⟩ := q; cases e
  · rcases q with ⟨rfl, q⟩ | ⟨rfl, q⟩ <;> exact q
theorem W_sRet {m : M D} : W (sRet m) ρ QF ↔ W m ρ fun d ρ1 => QF (.ret d) ρ1 := by simp only [sRet, W_bind, W_sK]
theorem W_sExp {m : M D} : W (sExp m) ρ QF ↔ W m ρ fun d ρ1 => QF .nx ρ1 := by simp only [sExp, W_bind, W_sK]
theorem W_sAsg {p : Pt} {m : M D} : W (sAsg p m) ρ QF ↔ W m ρ fun d ρ1 => ∃ ρ2, p d ρ1 = some ρ2 ∧ QF .nx ρ2 := by
  simp only [sAsg, W_bind]
  constructor <;> refine fun h => h.mono fun d ρ1 q => ?_
  · obtain ⟨f, ρ', e, q⟩ := q
    dsimp only at e
    split at e
    · rename_i ρ2 e2; cases e; exact ⟨_, e2, q⟩
    · cases e
  · obtain ⟨ρ2, e, q⟩ := q
    exact ⟨.nx, ρ2, by simp [e], q⟩
def parW (vs : List D) (P : D → D → Prop) : Prop := match vs with
  | [v, w] => P v w
  | _ => False
@[simp] theorem parW_mk {v w : D} {P : D → D → Prop} : parW [v, w] P ↔ P v w := Iff.rfl
theorem W_sPar {i j : Nat} {ms : M (List D)} : W (sPar i j ms) ρ QF ↔ W ms ρ fun vs ρ1 => parW vs fun v w => QF .nx ((ρ1.set i (some v)).set j (some w)) := by
  simp only [sPar, W_bind]
  constructor <;> refine fun h => h.mono fun d ρ1 q => ?_
  · obtain ⟨f, ρ', e, q⟩ := q
    split at e
    · cases e; exact q
    · cases e
  · unfold parW at q
    split at q
    · exact ⟨.nx, _, rfl, q⟩
    · exact q.elim
theorem W_sFor {p : Pt} {it : M (List D)} {b : MS} : W (sFor p it b) ρ QF ↔ W it ρ fun xs ρ1 => W (forL p b xs) ρ1 QF := by simp only [sFor, W_bind]
theorem W_mIxS {i k : Nat} : W (mIxS i k) ρ QD ↔ ∃ l, ρ[i]? = some (some (.lst l)) ∧ ∃ d, l[k + 1]? = some d ∧ QD d ρ := by
  constructor
  · rintro ⟨a, ρ', e, q⟩
    unfold mIxS at e
    split at e
    · rename_i l hl
      split at e
      · rename_i d hd; cases e; exact ⟨l, hl, _, hd, q⟩
      · cases e
    · cases e
  · rintro ⟨l, hl, d, hd, q⟩
    exact ⟨d, ρ, by unfold mIxS; rw [hl]; simp only [hd], q⟩
theorem W_forNil {p : Pt} {b : MS} : W (forL p b []) ρ QF ↔ QF .nx ρ := by unfold forL; exact W_sK
theorem W_forCons {p : Pt} {b : MS} {x : D} {xs : List D} : W (forL p b (x :: xs)) ρ QF ↔ ∃ ρ1, p x ρ = some ρ1 ∧ W b ρ1 fun f ρ2 => ((f = .nx ∨ f = .cnt) ∧ W (forL p b xs) ρ2 QF) ∨ (f = .brk ∧ QF .nx ρ2) ∨ ∃ d, f = .ret d ∧ QF (.ret d) ρ2 := by
  constructor
  · rintro ⟨f, ρ', e, q⟩
    unfold forL at e
    split at e
    · cases e
    · rename_i ρ1 e1
      refine ⟨ρ1, e1, ?_⟩
      split at e
      · rename_i ρ2 e2; exact ⟨.nx, ρ2, e2, .inl ⟨.inl rfl, f, ρ', e, q⟩⟩
      · rename_i ρ2 e2; exact ⟨.cnt, ρ2, e2, .inl ⟨.inr rfl, f, ρ', e, q⟩⟩
      · rename_i ρ2 e2; cases e; exact ⟨.brk, _, e2, .inr (.inl ⟨rfl, q⟩)⟩
      · rename_i d ρ2 e2; cases e; exact ⟨.ret d, _, e2, .inr (.inr ⟨d, rfl, q⟩)⟩
      · cases e
      · cases e
  · rintro ⟨ρ1, e1, f, ρ2, e2, h⟩
    unfold W forL
    simp only [e1]
    rcases h with ⟨rfl | rfl, a, ρ', e, q⟩ | ⟨rfl, q⟩ | ⟨d, rfl, q⟩
    · exact ⟨a, ρ', by simp only [e2]; exact e, q⟩
    · exact ⟨a, ρ', by simp only [e2]; exact e, q⟩
    · exact ⟨_, _, by simp only [e2], q⟩
    · exact ⟨_, _, by simp only [e2], q⟩
theorem W_compNil {vs : List Nat} {p : Pt} {c e : M D} : W (compL vs p c e []) ρ QL ↔ QL [] ρ := by unfold compL; exact W_ok
theorem W_compCons {vs : List Nat} {p : Pt} {c e : M D} {x : D} {xs : List D} : W (compL vs p c e (x :: xs)) ρ QL ↔ ∃ ρ1, p x ρ = some ρ1 ∧ W c ρ1 fun b ρ2 => (b = .bl true ∧ W e ρ2 fun d ρ3 => W (compL vs p c e xs) (wipeD ρ3 vs) fun ds ρ4 => QL (d :: ds) ρ4) ∨ (b = .bl false ∧ W (compL vs p c e xs) (wipeD ρ2 vs) QL) := by
  constructor
  · rintro ⟨l, ρ', h, q⟩
    unfold compL at h
    split at h
    · cases h
    · rename_i ρ1 e1
      refine ⟨ρ1, e1, ?_⟩
      split at h
      · rename_i ρ2 e2
        refine ⟨_, ρ2, e2, .inl ⟨rfl, ?_⟩⟩
        split at h
        · rename_i d ρ3 e3
          refine ⟨d, ρ3, e3, ?_⟩
          split at h
          · rename_i ds ρ4 e4
            cases h
            exact ⟨ds, _, e4, q⟩
          · cases h
          · cases h
        · cases h
        · cases h
      · rename_i ρ2 e2
        exact ⟨_, ρ2, e2, .inr ⟨rfl, l, ρ', h, q⟩⟩
      · cases h
      · cases h
  · rintro ⟨ρ1, e1, b, ρ2, e2, h⟩
    unfold W compL
    simp only [e1]
    rcases h with ⟨rfl, d, ρ3, e3, ds, ρ4, e4, q⟩ | ⟨rfl, l, ρ', e4, q⟩
    · exact ⟨d :: ds, ρ4, by simp only [e2, e3, e4], q⟩
    · exact ⟨l, ρ', by simp only [e2, e4], q⟩
theorem W_mComp {vs : List Nat} {p : Pt} {it : M (List D)} {c e : M D} : W (mComp vs p it c e) ρ QD ↔ W it ρ fun xs ρ1 => W (compL vs p c e xs) (wipeD ρ1 vs) fun ds ρ2 => QD (.lst ds) ρ2 := by
  simp only [mComp, W_bind]
  constructor <;> refine fun h => h.mono fun xs ρ1 q => ?_
  · obtain ⟨d, ρ', h, q⟩ := q
    dsimp only at h
    split at h
    · rename_i ds ρ2 e2; cases h; exact ⟨ds, _, e2, q⟩
    · cases h
    · cases h
  · obtain ⟨ds, ρ2, e2, q⟩ := q
    exact ⟨.lst ds, ρ2, by simp [e2], q⟩
/-- each item's value, the slots as they were -/
theorem W_compMap {vs : List Nat} {p : Pt} {e : M D} {f : D → D} {xs : List D} (h : ∀ x ∈ xs, ∃ ρ1 ρ2, p x ρ = some ρ1 ∧ e ρ1 = .ok (f x, ρ2) ∧ wipeD ρ2 vs = ρ) (q : QL (xs.map f) ρ) : W (compL vs p mYes e xs) ρ QL := by
  induction xs generalizing QL with
  | nil => exact W_compNil.mpr q
  | cons x xs ih =>
    obtain ⟨ρ1, ρ2, e1, e2, e3⟩ := h x (by simp)
    refine W_compCons.mpr ⟨ρ1, e1, _, ρ1, rfl, .inl ⟨rfl, f x, ρ2, e2, ?_⟩⟩
    show W (compL vs p mYes e xs) (wipeD ρ2 vs) _
    rw [e3]
    exact ih (fun y hy => h y (by simp [hy])) q
theorem W_mYes : W mYes ρ QD ↔ QD (.bl true) ρ := W_mC
/-- a loop through all items -/
theorem W_forInv {p : Pt} {b : MS} (I : Sl → Prop) {xs : List D} (h : ∀ x ∈ xs, ∀ ρ, I ρ → ∃ ρ1, p x ρ = some ρ1 ∧ W b ρ1 fun f ρ2 => (f = .nx ∨ f = .cnt) ∧ I ρ2) (h0 : I ρ) (hq : ∀ ρ', I ρ' → QF .nx ρ') : W (forL p b xs) ρ QF := by
  induction xs generalizing ρ with
  | nil => exact W_forNil.mpr (hq ρ h0)
  | cons x xs ih =>
    obtain ⟨ρ1, e1, hb⟩ := h x (by simp) ρ h0
    exact W_forCons.mpr ⟨ρ1, e1, hb.mono fun f ρ2 ⟨hf, hi⟩ => .inl ⟨hf, ih (fun y hy => h y (by simp [hy])) hi⟩⟩
theorem runP_of {nl : Nat} {b : MS} {ds : List D} {d : D} (h : W b (ds.map some ++ List.replicate nl none) fun f _ => f = .ret d) : runP nl b ds = .ok d := by
  obtain ⟨f, ρ', e, rfl⟩ := h
  unfold runP
  rw [e]
theorem runP_ex {nl : Nat} {b : MS} {ds : List D} {Q : D → Prop} (h : W b (ds.map some ++ List.replicate nl none) fun f _ => ∃ d, f = .ret d ∧ Q d) : ∃ d, runP nl b ds = .ok d ∧ Q d := by
  obtain ⟨f, ρ', e, d, rfl, q⟩ := h
  exact ⟨d, by unfold runP; rw [e], q⟩
theorem runF_ex {ts : List OT} {nl : Nat} {b : MS} {ds : List D} {Q : D → List D → Prop} (h : W b (ds.map some ++ List.replicate nl none) fun f ρ' => ∃ d out, f = .ret d ∧ outs ts ds ρ' = some out ∧ Q d out) : ∃ d out, runF ts nl b ds = .ok (d, out) ∧ Q d out := by
  obtain ⟨f, ρ', e, d, out, rfl, ho, q⟩ := h
  exact ⟨d, out, by unfold runF; rw [e]; simp only [ho], q⟩
end
theorem fmod_nn {a b : Int} (hb : 0 < b) : 0 ≤ a.fmod b := by
  rw [Int.fmod_eq_emod_of_nonneg a (by omega)]
  exact Int.emod_nonneg a (by omega)
theorem fmod_lt {a b : Int} (hb : 0 < b) : a.fmod b < b := by
  rw [Int.fmod_eq_emod_of_nonneg a (by omega)]
  exact Int.emod_lt_of_pos a hb
theorem natAbs_fmod {a b : Int} (hb : 0 < b) (h : b < 2 ^ 64) : (a.fmod b).natAbs < 2 ^ 64 := by
  have := fmod_nn (a := a) hb
  have := fmod_lt (a := a) hb
  omega
theorem lt_bigD {n : Nat} (h : n < 2 ^ 100) : n < bigD := Nat.lt_of_lt_of_le h (Nat.pow_le_pow_right (by decide) (by decide))
/-- a deck -/
def Deck (d : D) : Prop := ∃ (l : List Int) (a n : Int), d = .lst [.lst (l.map .int), .int a, .int n] ∧ l.length ≤ 63
theorem okL_ints (n : Nat) : ∀ l : List Int, D.okL n (l.map .int) = true
  | [] => by simp [D.okL]
  | i :: l => by simp [D.okL, D.okB, okL_ints n l]
def tailD : MS := (sSeq (sAsg (pN 3) (m2 bMod (m2 bMul (m2 bAdd (m2 bAdd (m2 bMod (mV 2) (mC (.int 2147483629))) (m2 bMul (mC (.int 65537)) (mIxS 0 1))) (mC (.int 3))) (mC (.int 48271))) (mC (.int 2147483647)))) (sSeq (sAsg (pN 3) (m2 bMod (m2 bAdd (m2 bAdd (m2 bMul (mV 3) (mV 3)) (m2 bMul (mC (.int 69621)) (mIxS 0 1))) (mC (.int 17))) (mC (.int 2147483587)))) (sRet (m2 bMod (m2 bDiv (m2 bMod (m2 bAdd (m2 bMul (mV 3) (mV 3)) (mC (.int 39373))) (mC (.int 2147483563))) (mC (.int 64))) (mV 1)))))
theorem tail_ok {x : D} {r0 n c m : Int} {o : Option D} {r : List D} (h0 : 0 < m) : ∃ (v : Int) (o' : Option D), tailD [some (.lst (x :: .int r0 :: .int n :: r)), some (.int m), some (.int c), o] = .ok (.ret (.int v), [some (.lst (x :: .int r0 :: .int n :: r)), some (.int m), some (.int c), o']) ∧ 0 ≤ v ∧ v < m := by
  have k1 : ∀ a : Int, (a.fmod 2147483647).natAbs < 18446744073709551616 := fun a => natAbs_fmod (by decide) (by decide)
  have k2 : ∀ a : Int, (a.fmod 2147483587).natAbs < 18446744073709551616 := fun a => natAbs_fmod (by decide) (by decide)
  have k3 : (64 : Nat) < bigD := lt_bigD (by decide)
  have k4 : m ≠ 0 := by omega
  simp [tailD, sSeq, CL.bind, sAsg, pN, m2, mV, mC, ofO, bMod, bMul, bAdd, mIxS, sRet, sK, bDiv, k1, k2, k3, k4]
  exact ⟨fmod_nn h0, fmod_lt h0⟩
def drawB : MS := sSeq (sSto 0 1 (m2 bAdd (mIxS 0 1) (mC (.int 1)))) (sSeq (sAsg (pN 2) (mIxS 0 0)) (sSeq (sIf (m2 bNe (mIx0 0) (mN bLst mNil)) (sSeq (sAsg (pN 2) (mPop0 0)) (sIf (m2 bGe (mV 2) (m2 bPow (mC (.int 10)) (mC (.int 18)))) (sSeq (sExp (mApp0 0 (m2 bDiv (mV 2) (mV 1)))) (sRet (m2 bMod (mV 2) (mV 1)))) (sK .nx))) (sK .nx)) tailD))
def drawF : Fn := runF [.ol (.ol .sh .sh) .sh, .sh] 2 drawB
theorem draw_ok {dk : D} {m : Int} (h : Deck dk) (h0 : 0 < m) (h1 : m < 2 ^ 100) : ∃ (r : Int) (dk' : D), drawF [dk, .int m] = .ok (.int r, [dk', .int m]) ∧ 0 ≤ r ∧ r < m ∧ Deck dk' := by
  obtain ⟨l, a, n, rfl, hl⟩ := h
  have hb : m.natAbs < bigD := lt_bigD (by omega)
  have k4 : m ≠ 0 := by omega
  unfold drawF drawB
  rcases List.eq_nil_or_concat l with rfl | ⟨l', c, rfl⟩
  · obtain ⟨v, o', ht, h2, h3⟩ := tail_ok (x := .lst []) (n := n + 1) (c := a) (r0 := a) (o := none) (r := []) h0
    refine ⟨v, .lst [.lst [], .int a, .int (n + 1)], ?_, h2, h3, [], a, n + 1, by simp, by simp⟩
    simp [runF, sSeq, CL.bind, sSto, m2, mIxS, mC, ofO, bAdd, sAsg, pN, sIf, mIx0, bNe, mN, bLst, mNil, D.okB, D.okL, D.eqv, D.py, D.pyL, PyData.eqv, PyData.eqvAll, sK, ht, outs]
  · simp only [List.concat_eq_append] at hl ⊢
    have hll : l'.length < 16777216 := by simp at hl; omega
    have hok := okL_ints 59 (l' ++ [c])
    rw [List.map_append, List.map_cons, List.map_nil] at hok
    have hne : (l'.map D.int ++ [D.int c]).isEmpty = false := by cases l' <;> rfl
    by_cases hc : 1000000000000000000 ≤ c
    · refine ⟨c.fmod m, .lst [.lst ((l' ++ [c.fdiv m]).map .int), .int a, .int (n + 1)], ?_, fmod_nn h0, fmod_lt h0, l' ++ [c.fdiv m], a, n + 1, rfl, by simpa using hl⟩
      simp [runF, sSeq, CL.bind, sSto, m2, mIxS, mC, ofO, bAdd, sAsg, pN, sIf, mIx0, bNe, mN, bLst, mNil, D.okB, D.okL, hok, D.eqv, D.py, D.pyL, PyData.eqv, hne, mPop0, bGe, mV, bPow, hc, sExp, mApp0, bDiv, hb, k4, hll, sK, sRet, bMod, outs]
    · obtain ⟨v, o', ht, h2, h3⟩ := tail_ok (x := .lst (l'.map .int)) (n := n + 1) (c := c) (r0 := a) (o := none) (r := []) h0
      refine ⟨v, .lst [.lst (l'.map .int), .int a, .int (n + 1)], ?_, h2, h3, l', a, n + 1, rfl, by simp at hl; omega⟩
      simp [runF, sSeq, CL.bind, sSto, m2, mIxS, mC, ofO, bAdd, sAsg, pN, sIf, mIx0, bNe, mN, bLst, mNil, D.okB, D.okL, hok, D.eqv, D.py, D.pyL, PyData.eqv, hne, mPop0, bGe, mV, bPow, hc, sK, ht, outs]
/-- a draw, and on -/
theorem draw_step {dk : D} {m : Int} {Q : D → List D → Prop} (h : Deck dk) (h0 : 0 < m) (h1 : m < 2 ^ 100) (k : ∀ r dk', 0 ≤ r → r < m → Deck dk' → Q (.int r) [dk', .int m]) : ∃ d out, drawF [dk, .int m] = .ok (d, out) ∧ Q d out := by
  obtain ⟨r, dk', e, h2, h3, h4⟩ := draw_ok h h0 h1
  exact ⟨_, _, e, k r dk' h2 h3 h4⟩
def deckB : MS := (sRet (mN bLst (mCons (m1 bRev (mL listOfD (mCons (mSl (mV 0) none (some (mC (.int 63)))) mNil))) (mCons (m2 bAdd (mN bSum (mCons (mComp [1] (pN 1) (mIt (mSl (mV 0) none (some (mC (.int 63))))) mYes (m2 bMod (mV 1) (mC (.int 1000003)))) mNil)) (m2 bMul (mC (.int 7919)) (mN bLen (mCons (mSl (mV 0) none (some (mC (.int 63)))) mNil)))) (mCons (mC (.int 0)) mNil)))))
theorem intsOf_map : ∀ l : List Int, intsOf (l.map .int) = some l
  | [] => rfl
  | i :: l => by simp [intsOf, intsOf_map l]
theorem cut63 {ns : List Int} (h : ns.length ≤ 63) : cutD ns none (some 63) = ns := by
  unfold cutD
  rw [show HT.sIx ns.length 0 none = 0 from HT.sIx_none ns.length 0, show HT.sIx ns.length ns.length (some 63) = min 63 ns.length from HT.sIx_nat ns.length ns.length 63]
  rw [List.drop_zero]
  exact List.take_of_length_le (by omega)
theorem deck_ok {ns : List Int} (h : ns.length ≤ 63) : ∃ dk, runP 1 deckB [.scr ns] = .ok dk ∧ Deck dk := by
  refine ⟨.lst [.lst (ns.reverse.map .int), .int ((ns.map fun c => c.fmod 1000003).sum + 7919 * ns.length), .int 0], runP_of ?_, ns.reverse, _, 0, rfl, by simpa using h⟩
  have hc : ∀ (x : Option D) (Q : List D → Sl → Prop), Q ((ns.map fun c => c.fmod 1000003).map .int) [x, none] → W (compL [1] (pN 1) mYes (m2 bMod (mV 1) (mC (.int 1000003))) (ns.map .int)) [x, none] Q := fun x Q q => by
    refine W_compMap (f := fun d => match d with | .int i => .int (i.fmod 1000003) | d => d) (fun y hy => ?_) (by simpa [List.map_map, Function.comp_def] using q)
    obtain ⟨i, _, rfl⟩ := List.mem_map.mp hy
    exact ⟨_, _, rfl, rfl, rfl⟩
  simp only [deckB, W_sRet, W_mN, W_mCons, W_m1, W_mL, W_mSl, W_mV, W_mPtN, W_mPtS, W_mC, W_mNil, W_m2, W_mComp, W_mIt]
  simp [bSl, cut63 h, listOfD, bRev, itemsOf, wipeD]
  refine hc _ _ ?_
  refine ⟨_, (show (intsOf (List.map D.int (List.map (fun c => c.fmod 1000003) ns))).map (fun ns => D.int ns.sum) = some _ by rw [intsOf_map]; rfl), ?_⟩
  simp [bLen, bMul, bAdd, bLst, cut63 h]
end CL
namespace CL
end CL
namespace CL
open PySem
set_option autoImplicit false
theorem eq_int2 {a b : Int} : bEq (.int a) (.int b) = some (.bl (decide (a = b))) := by
  simp [bEq, D.okB, D.eqv, D.py, PyData.eqv]
  by_cases h : a = b <;> simp [h]
theorem ne_int2 {a b : Int} : bNe (.int a) (.int b) = some (.bl (!decide (a = b))) := by
  simp [bNe, D.okB, D.eqv, D.py, PyData.eqv]
  by_cases h : a = b <;> simp [h]
end CL
namespace CL
open PySem PySem.Spec L2 PyProof.Rows
set_option autoImplicit false
mutual
def D.pure : D → Bool
  | .non => true
  | .bl _ => true
  | .int _ => true
  | .str _ => true
  | .tup l => D.pureL l
  | .ins _ _ l => D.pureL l
  | _ => false
def D.pureL : List D → Bool
  | [] => true
  | d :: ds => D.pure d && D.pureL ds
end
def D.key : D → Option Key
  | .int i => some (Sum.inl i)
  | .str x => some (Sum.inr x)
  | _ => none
section
variable [Tb] {X : Cx} {τ : Nat → OT} {q q1 q2 : Bool} {a b : Expr} {ma mb : M D} {pos : Pos}
end
section
variable {prog : Program} {w : World} {A : Around} {E : Value → Shared → Prop} {s : Shared}
theorem pick_rev (ys : Array Value) : ((List.range ys.size).filterMap fun (m : Nat) => ys[(((ys.size : Int) - 1) + (m : Int) * (-1)).toNat]?).toArray = ys.toList.reverse.toArray := by
  have e : (fun (m : Nat) => ys[(((ys.size : Int) - 1) + (m : Int) * (-1)).toNat]?) = (ys[·]?) ∘ fun (m : Nat) => (((ys.size : Int) - 1) + (m : Int) * (-1)).toNat := rfl
  rw [e, ← List.filterMap_map]
  have e2 : (List.range ys.size).map (fun (m : Nat) => (((ys.size : Int) - 1) + (m : Int) * (-1)).toNat) = (List.range ys.size).map fun k => ys.size - 1 - k := List.map_congr_left fun k hk => by
    have := List.mem_range.mp hk
    omega
  rw [e2, PySem.W.krv_range, List.filterMap_reverse, PySem.W.krv_all]
theorem applied_rev {sl : Addr} {v1 v2 v3 : Value} {n : Nat} {Q : Int × Int × Nat → Shared → Prop} (hs : s.heap.IsSliceOf sl v1 v2 v3) (p1 : IsPart v1 none) (p2 : IsPart v2 none) (p3 : IsPart v3 (some (-1)))
    (h : Q ((n : Int) - 1, -1, n) s) : wpAny (model prog w) A (Builtin.Slice.sliceApplied (.ref sl) (pure (n : Int))) Q E s := by
  obtain ⟨ob, h1, h2, h3⟩ := id hs
  unfold Builtin.Slice.sliceApplied Builtin.Slice.sliceFields
  refine wpAny_bind (wpAny_bind (wpAny_field h1 h3 (x := v1) rfl (wpAny_bind (wpAny_field h1 h3 (x := v2) rfl (wpAny_bind (wpAny_field h1 h3 (x := v3) rfl (wpAny_pure ?_)))))))
  refine wpAny_bind (HT.slicePart_ p3 ?_)
  show wpAny _ _ (if ((-1 : Int) == 0) = true then _ else _) _ _ s
  rw [if_neg (by decide)]
  refine wpAny_bind (HT.slicePart_ p1 (wpAny_bind (HT.slicePart_ p2 (wpAny_bind (wpAny_pure ?_)))))
  show wpAny _ _ (match Builtin.Slice.sliceAdjust none none (-1) (n : Int) with | (lo, hi) => pure (lo, (-1 : Int), Builtin.Slice.slicePlaces lo hi (-1))) _ _ s
  have e1 : Builtin.Slice.sliceAdjust none none (-1) (n : Int) = ((n : Int) - 1, -1) := by simp [Builtin.Slice.sliceAdjust]
  have e2 : Builtin.Slice.slicePlaces ((n : Int) - 1) (-1) (-1) = n := by
    simp only [Builtin.Slice.slicePlaces]
    rw [if_neg (by decide)]
    by_cases h0 : (n : Int) - 1 > -1
    · rw [if_pos h0, show (- -1 : Int) = 1 by decide, Int.ediv_one]; omega
    · rw [if_neg h0]; omega
  rw [e1]
  show wpAny _ _ (pure ((n : Int) - 1, (-1 : Int), Builtin.Slice.slicePlaces ((n : Int) - 1) (-1) (-1))) _ _ s
  rw [e2]
  exact wpAny_pure h
theorem item_tuple_rev {t sl : Addr} {ys : Array Value} {v1 v2 v3 : Value} {Q : Value → Shared → Prop} (ht : PyProof.Rows.IsTup s.heap t ys) (hs : s.heap.IsSliceOf sl v1 v2 v3) (p1 : IsPart v1 none) (p2 : IsPart v2 none) (p3 : IsPart v3 (some (-1)))
    (h : Q (.ref s.heap.objs.size) { s with heap := s.heap.push { cls := .type "tuple", data := .seq ys.toList.reverse.toArray } }) (hz : ys.size ≤ sizeLine) : wpAny (model prog w) A (getItem (.ref t) (.ref sl)) Q E s := by
  have ho : sizeOk (.seq ys.toList.reverse.toArray) := by
    show ys.toList.reverse.toArray.size ≤ sizeLine
    simpa using hz
  obtain ⟨ob, h1, h2, h3⟩ := id hs
  have ts : s.TypeIs (.ref sl) "slice" := ⟨ob, h1, h2⟩
  unfold getItem
  try with_reducible refine wpAny_holding ?_
  first | refine wpAny_bind (wpAny_pure ?_) | skip
  refine wpAny_bind (wpAny_sequenceKey ht.typeIs (by decide) ?_)
  refine wpAny_bind (wpAny_callSpecial?_slot (name := Str.ofString "__getitem__") ht.typeIs PyProof.Rows.slot_tuple_getitem (wpAny_call_entry PyProof.Rows.slot_tuple_getitem ht.typeIs PyProof.Rows.entry_tuple_getitem ?_ (PyProof.Rows.args_tuple_getitem _ _)))
  show wpAny _ _ (Builtin.Tuple.tupleItemsOf (.ref t) >>= _) _ _ s
  refine wpAny_bind (PyProof.Rows.tupleItemsOf_ ht (wpAny_bind (wpAny_typeOf ts ?_)))
  rw [if_pos (by decide)]
  refine wpAny_bind (applied_rev hs p1 p2 p3 ?_)
  show wpAny _ _ (if (((ys.size : Int) - 1) == 0 && (-1 : Int) == 1 && ys.size == ys.size) = true then _ else _) _ _ s
  rw [if_neg (by simp), pick_rev]
  first
    | exact wpAny_bind (m := Builtin.Tuple.tupleExact _) (wpAny_newObj_type (wpAny_pure ⟨_, rfl, wpAny_pure h⟩) ho)
    | exact wpAny_bind (m := Builtin.Tuple.tupleExact _) (wpAny_newObj_type (wpAny_bind (wpAny_pure (wpAny_pure ⟨_, rfl, wpAny_pure h⟩))) ho)
    | exact wpAny_bind (wpAny_bind (m := Builtin.Tuple.tupleExact _) (wpAny_newObj_type (wpAny_pure (wpAny_pure ⟨_, rfl, wpAny_pure h⟩)) ho))
    | exact wpAny_bind (wpAny_bind (m := Builtin.Tuple.tupleExact _) (wpAny_newObj_type (wpAny_pure ⟨_, rfl, wpAny_pure h⟩) ho))
end
section
variable [Tb] {X : Cx}
def tRevT [Tb] (K : PySem.W.Frag) (te : TE) : TE := fun σ H Q => te σ H fun x H1 => ∃ a xs, x = .ref a ∧ SqT K H1 a xs ∧ ∀ p, H1 p = none → Q (.ref p) (upd H1 p (.tup xs.reverse))
theorem pe_revT {e : Expr} {te : TE} {k : Nat} {p1 p2 p3 pos : Pos} (he : PE X e te) : PE X (.Subscript e (.Slice none none (some (.UnaryOp .USub (.Constant (.int 1) k p1) p2)) p3) pos) (tRevT X.K te) := by
  refine ⟨fun pins s σ H Q I h => ?_⟩
  refine PyProof.Rows.Subscript_ (thn (he.run pins s σ H _ I h) fun v s1 ⟨x, H1, I1, r1, a, xs, ex, hx, qq⟩ => ?_)
  subst ex
  cases r1
  have hst : PO X (some (.UnaryOp .USub (.Constant (.int 1) k p1) p2)) (tPart (tUn (rU fun i => .int (-i)) (tC (.int 1)))) := po_some (pe_un un_neg pe_int)
  refine wpAny_Slice (thn (po_none.run pins s1 σ H1 (fun o H2 => o = none ∧ H2 = H1) I1 ⟨rfl, rfl⟩) fun vl s2 ⟨l, H2, I2, pl, el, e2⟩ => ?_)
  subst el e2
  refine thn (po_none.run pins s2 σ H2 (fun o H3 => o = none ∧ H3 = H2) I2 ⟨rfl, rfl⟩) fun vu s3 ⟨u, H3, I3, pu, eu, e3⟩ => ?_
  subst eu e3
  refine thn (hst.run pins s3 σ H3 (fun o H4 => o = some (-1) ∧ H4 = H3) I3 ⟨1, rfl, -1, rfl, rfl, rfl⟩) fun vs s4 ⟨o, H4, I4, ps, eo, e4⟩ => ?_
  subst eo e4
  have J : Inv X pins σ H4 { s4 with heap := s4.heap.push { cls := .type "slice", data := .fields #[vl, vu, vs] } } := I4.kept (t' := s4.toks) fun b ob q => Heap.get?_push_of_some _ q
  obtain ⟨its, r, ht, hz⟩ := J.tuple hx
  have hlen := r.length
  show wpAny (model X.prog X.w) X.A (subscriptTail e (.Slice none none (some (.UnaryOp .USub (.Constant (.int 1) k p1) p2)) p3) (.ref a) (.ref s4.heap.objs.size)) (EP X pins σ Q) X.xe { s4 with heap := s4.heap.push { cls := .type "slice", data := .fields #[vl, vu, vs] } }
  refine tail_any (ops := [.ref a, .ref s4.heap.objs.size]) ht.typeIs (PyProof.Rows.slot_tuple_getitem.lookup) ?_ (by with_unfolding_all rfl)
  refine item_tuple_rev ht (Heap.IsSliceOf.new _ vl vu vs) pl pu ps ?_ (by rw [List.size_toArray]; omega)
  refine ⟨.ref _, _, J.laid (t' := s4.toks) (o := .tup xs.reverse) (fun b ob q => Heap.get?_push_of_some _ q) (Nat.le_refl _) ?_, rfl, qq _ (J.hok.fresh (Nat.le_refl _))⟩
  exact ⟨by rw [List.length_reverse]; exact hz, _, r.reverse, PyProof.Rows.IsTup.new _ _⟩
def bRevT : D → Option D
  | .tup l => some (.tup l.reverse)
  | _ => none
variable {τ : Nat → OT} {q : Bool} {md : Md} {e : Expr} {ma : M D} {pos p2 : Pos}
theorem e_revT {k1 : Nat} {p1 p3 : Pos} (he : PE X e (tE X.K τ q md ma)) (hm : Hand md := by trivial) : PE X (.Subscript e (.Slice none none (some (.UnaryOp .USub (.Constant (.int 1) k1 p1) p2)) p3) pos) (tE X.K τ q .sh (m1 bRevT ma)) := (pe_revT he).mono fun σ H Q ⟨Z, own, ρ, d, ρ', rs, e, k⟩ => by
  obtain ⟨x, ρ1, e1, f1⟩ := bind_ok e
  obtain ⟨f2, rfl⟩ := ofO_ok f1
  unfold bRevT at f2
  split at f2
  · rename_i l
    cases f2
    refine ⟨Z, own, ρ, _, ρ', rs, e1, fun v Z1 own1 H1 S1 rs1 rm1 _ x1 => ?_⟩
    obtain ⟨a, xs, rfl, s1, l1⟩ := (rm1.pk0 hm).tup
    refine ⟨a, xs, rfl, s1, fun p hp => ?_⟩
    have g : Grow H1 (upd H1 p (.tup xs.reverse)) := Grow.new hp
    exact fin_sh rs1 x1 g (RF.tup (g.shL l1.reverse) (SqT.of upd_same)) NewS.none k
  · cases f2
end
end CL
namespace CL
open PySem PySem.Spec L2 PyProof.Rows
open AutoSeq1 (wpAny_loadPart')
set_option autoImplicit false
theorem enum_newT (t : Addr) (ys : Array Value) :
    Meets (Builtin.«enumerate.__new__» ⟨[.type "enumerate", .ref t], []⟩) (fun _ R s => s.heap.IsTuple t ys ∧
      R (.ok (.ret (.ref (s.heap.push { cls := .type "tuple_iterator", data := .fields #[.ref t, .int 0 0] }).objs.size)))
        { s with heap := (s.heap.push { cls := .type "tuple_iterator", data := .fields #[.ref t, .int 0 0] }).push { cls := .type "enumerate", data := .fields #[.none, .bool false, .ref s.heap.objs.size, rawInt 0, .none, .none] } }) :=
  .of_wp fun prog w A R s h => by
    obtain ⟨hp, g, d, tk, os⟩ := s; obtain ⟨ht, h⟩ := h
    have hsub := sub_enumerate
    have q1 : ∀ {A' : Around} {E : Value → Shared → Prop} {Q : Value → Shared → Prop}, Q (.ref hp.objs.size) ⟨hp.push { cls := .type "tuple_iterator", data := .fields #[.ref t, .int 0 0] }, g, d, tk, os⟩ → wpAny (model prog w) A' (pyIter (.ref t)) Q E ⟨hp, g, d, tk, os⟩ :=
      fun q => wpAny_pyIter_tuple ht q
    wp_walk using q1
    refine wpAny_stack_any fun st => wpAny_pure ?_
    split
    · rename_i c _ _ _ _ _
      cases (c == Value.type "enumerate")
      · wp_walk using q1
        exact ⟨_, rfl, h⟩
      · wp_walk using q1
        exact ⟨_, rfl, h⟩
    · wp_walk using q1
      exact ⟨_, rfl, h⟩
theorem enum_tuple {prog : Program} {w : World} {A : Around} {E : Value → Shared → Prop} {s : Shared} {t : Addr} {ys : Array Value} {Q : Value → Shared → Prop} (hT : s.heap.IsTuple t ys)
    (h : ∀ h', IsEnum h' (s.heap.objs.size + 1) s.heap.objs.size 0 .none → h'.IsTupleIter s.heap.objs.size t 0 → h'.objs.size = s.heap.objs.size + 2 →
      (∀ b o, s.heap.get? b = some o → h'.get? b = some o) → Q (.ref (s.heap.objs.size + 1)) { s with heap := h' }) :
    wpAny (model prog w) A (call (.type "enumerate") [.ref t]) Q E s := by
  refine callType_new F.called_enumerate (by decide) (F.typeCall_enumerate_1 _) (F.newCall_enumerate_1 _) (fun ob => F.args_object_init_2 ob _) F.entry_enumerate_new (enum_newT t ys) ⟨hT, ?_⟩
  have hz : (s.heap.push { cls := .type "tuple_iterator", data := .fields #[.ref t, .int 0 0] }).objs.size = s.heap.objs.size + 1 := Heap.size_push ..
  show _ ∧ _
  rw [hz]
  have he : IsEnum ((s.heap.push { cls := .type "tuple_iterator", data := .fields #[.ref t, .int 0 0] }).push { cls := .type "enumerate", data := .fields #[.none, .bool false, .ref s.heap.objs.size, rawInt 0, .none, .none] }) (s.heap.objs.size + 1) s.heap.objs.size 0 .none := by
    have := Heap.get?_push_size (s.heap.push { cls := .type "tuple_iterator", data := .fields #[.ref t, .int 0 0] }) (o := { cls := .type "enumerate", data := .fields #[.none, .bool false, .ref s.heap.objs.size, rawInt 0, .none, .none] }) rfl
    rw [hz] at this; exact this
  refine ⟨⟨_, he, rfl⟩, h _ he ⟨_, Heap.get?_push_of_some _ (Heap.get?_push_size _ rfl), rfl, rfl⟩ (by rw [Heap.size_push, hz]) fun b o x => Heap.get?_push_of_some _ (Heap.get?_push_of_some _ x)⟩
/-- the tuple at a, each item in a new pair -/
def IteT [Tb] (K : PySem.W.Frag) (a : Addr) : It :=
  ⟨fun i H => ∃ (xs : List V) (x : V), SqT K H a xs ∧ xs[i]? = some x, fun i H v H' => ∃ T x, v = .ref T ∧ H T = none ∧ H' = upd H T (.tup [.int (i : Nat), x]) ∧ ∀ xs, SqT K H a xs → xs[i]? = some x, fun i H => ∃ xs : List V, SqT K H a xs ∧ xs.length = i⟩
theorem turn_enumT [Tb] {P : Program} {w : World} {K : PySem.W.Frag} {elts : List Expr} {kk : Nat} {tpos : Pos} (a e it : Addr) (ha : a ≠ e ∧ a ≠ it) :
    Turn P w K (.Tuple elts kk tpos) (IteT K a) [e, it] e (fun i h => (∃ old, IsEnum h e it ((i : Nat) : Int) old) ∧ h.IsTupleIter it a i ∧ e ≠ it) where
  mem := by simp
  obj := fun i h st b hb => by
    obtain ⟨⟨old, he⟩, ⟨o, ho, hc, hd⟩, _⟩ := st
    rcases (show b = e ∨ b = it by simpa using hb) with z | z
    · rw [z]; exact ⟨_, he, fun v q => nomatch q⟩
    · rw [z]; exact ⟨o, ho, fun v q => by rw [hd] at q; cases q⟩
  keep := fun i h h' st k => let ⟨⟨old, he⟩, hi, hne⟩ := st; ⟨⟨old, k e (by simp) _ he⟩, hi.at fun o q => k it (by simp) o q, hne⟩
  item := by
    intro X hP hw hK hc i pins s σ H E I hf st hg
    subst hP hw hK
    obtain ⟨⟨old, he⟩, hit, hne⟩ := st
    obtain ⟨xs, x, hq, hx⟩ := hg
    obtain ⟨its, rv, p, hz⟩ := I.tuple hq
    obtain ⟨u, hu, ru⟩ := rv.get hx
    have hel : e < s.heap.objs.size := Heap.lt_size he
    have hil : it < s.heap.objs.size := by obtain ⟨_, q, _⟩ := hit; exact Heap.lt_size q
    have hh : X.A.in1.handled = none := I.ok.hd hc
    have hlt : i < its.toArray.size := by
      have := (List.getElem?_eq_some_iff.mp hu).1
      simpa using this
    refine wpAny_pyNext_enum_itemC (Draws.tuple hh it a ha.2 its.toArray) he ⟨hit, p⟩ hlt hne (by simp [hne, Ne.symm ha.1]) fun x' h' tk hP ho hst hT hsz hk => ?_
    have ex : x' = u := by
      have hP : its.toArray[i]? = some x' := hP
      rw [List.getElem?_toArray, hu] at hP
      exact (Option.some.inj hP).symm
    subst ex
    refine ⟨_, rfl, wpAny_letOwnedTupleGo_enum (s := { s with heap := h', toks := tk + 1 }) ho fun h'' he' sb => ?_⟩
    have hT2 : h''.get? s.heap.objs.size = some { cls := .type "tuple", data := .seq #[.int i tk, x'] } := (sb.2 _ (Nat.ne_of_gt hel)).trans hT
    have new : ObjOk X.prog X.w (upd H s.heap.objs.size (.tup [.int (i : Nat), x])) h'' s.heap.objs.size (.tup [.int (i : Nat), x]) := ⟨by show 2 ≤ sizeLine; decide, [.int i tk, x'], .cons ⟨_, rfl⟩ (.cons ru .nil), ⟨_, hT2, rfl, _, rfl⟩⟩
    have J : Inv X pins σ (upd H s.heap.objs.size (.tup [.int (i : Nat), x])) { s with heap := h'', toks := tk + 1 } :=
      I.turnedNew (ch := [e, it]) (fun b ob hb q => (sb.2 b (fun z => hb (by simp [z]))).trans (hk b ob (fun z => hb (by simp [z])) (fun z => hb (by simp [z])) q)) hf (Nat.le_refl _) new
    refine ⟨.ref s.heap.objs.size, _, J, rfl, ⟨_, x, rfl, I.hok.fresh (Nat.le_refl _), rfl, fun ys hy => by rw [I.tuple_inj hy hq]; exact hx⟩, ⟨⟨x', ?_⟩, hst.1.at fun o q => (sb.2 it (Ne.symm hne)).trans q, hne⟩, fun b hb => ?_⟩
    · rw [show ((i + 1 : Nat) : Int) = (i : Int) + 1 by omega]; exact he'
    · have hb' : b < s.heap.objs.size := by
        rcases (show b = e ∨ b = it by simpa using hb) with z | z
        · rw [z]; exact hel
        · rw [z]; exact hil
      rw [upd_ne (Nat.ne_of_lt hb')]
      exact (hf b hb).1
  done := by
    intro X hP hw hK hc i pins s σ H E I hf st hg
    subst hP hw hK
    obtain ⟨⟨old, he⟩, hit, hne⟩ := st
    obtain ⟨xs, hq, hx⟩ := hg
    obtain ⟨its, rv, p, hz⟩ := I.tuple hq
    obtain ⟨f0, f1, f2, f3, f4, f5⟩ := hf it (by simp)
    have hl := rv.length
    have hh : X.A.in1.handled = none := I.ok.hd hc
    have ei : its.toArray.size = i := by simp; omega
    refine wpAny_pyNext_enum_endD (Draws.tuple hh it a ha.2 its.toArray) he ⟨by rw [ei]; exact hit, p⟩ fun h' eb => ⟨rfl, I.turned (t' := s.toks) (fun b o hb q => eb b o hb q) f0 f1 f3 f4 f5⟩
  self := fun A i s Q E st h => let ⟨⟨_, he⟩, _⟩ := st; wpAny_pyIter_enum he h
def iEnumA [Tb] (K : PySem.W.Frag) (ta : TA) : TI := fun σ H R => ta σ H fun vs H1 => ∃ a xs, vs = [.ref a] ∧ ((SqL K H1 a xs ∧ R (Ite K a) H1) ∨ (SqT K H1 a xs ∧ R (IteT K a) H1))
theorem pi_enumA [Tb] {X : Cx} {e : Expr} {ta : TA} {p pos tpos : Pos} {elts : List Expr} {kk : Nat} (hg : Gl X "enumerate") (hm : X.mg "enumerate" = none) (ha : PA X [e] ta) (hs : starEach [e] X.env = [(false, eval e X.env)] := by rfl) :
    PI X (.Tuple elts kk tpos) (.Call (.Name "enumerate" p) [e] [] pos) (iEnumA X.K ta) := by
  refine ⟨fun pins s σ H R I h => ?_⟩
  refine Call_ (ld_blt I hg hm boot_enumerate (PyProof.Rows.callWith_type1 (thn (ha.run pos pins s σ H _ I h) fun us s1 ⟨vs, H1, J, r1, a, xs, ex, q1⟩ => ?_) hs rfl))
  subst ex
  cases r1 with
  | cons r rr =>
    cases rr
    cases r
    have fin : ∀ b ∈ [s1.heap.objs.size + 1, s1.heap.objs.size], s1.heap.objs.size ≤ b := fun b hb => by
      rcases (show b = s1.heap.objs.size + 1 ∨ b = s1.heap.objs.size by simpa using hb) with z | z
      · rw [z]; exact Nat.le_add_right _ _
      · rw [z]; exact Nat.le_refl _
    rcases q1 with ⟨hq, q⟩ | ⟨hq, q⟩
    · obtain ⟨its, rv, p', hz⟩ := J.list hq
      refine call_enumerate_list p'.isList fun h' he hit hsz hk => wpAny_pyIter_enum he ?_
      have J2 : Inv X pins σ H1 { s1 with heap := h' } := J.kept (t' := s1.toks) hk
      exact ⟨s1.heap.objs.size + 1, [s1.heap.objs.size + 1, s1.heap.objs.size], _, _, H1, rfl, J2, turn_enum a (s1.heap.objs.size + 1) s1.heap.objs.size, ⟨⟨.none, he⟩, hit, Nat.succ_ne_self _⟩, fun b hb => J.fpOk (fin b hb) (J.hok.fresh (fin b hb)), q⟩
    · obtain ⟨its, rv, p', hz⟩ := J.tuple hq
      have la : a < s1.heap.objs.size := p'.lt
      refine enum_tuple p' fun h' he hit hsz hk => wpAny_pyIter_enum he ?_
      have J2 : Inv X pins σ H1 { s1 with heap := h' } := J.kept (t' := s1.toks) hk
      exact ⟨s1.heap.objs.size + 1, [s1.heap.objs.size + 1, s1.heap.objs.size], _, _, H1, rfl, J2, turn_enumT a (s1.heap.objs.size + 1) s1.heap.objs.size ⟨Nat.ne_of_lt (Nat.lt_succ_of_lt la), Nat.ne_of_lt la⟩, ⟨⟨.none, he⟩, hit, Nat.succ_ne_self _⟩, fun b hb => J.fpOk (fin b hb) (J.hok.fresh (fin b hb)), q⟩
end CL
namespace CL
open PySem PySem.Spec L2
set_option autoImplicit false
def enumFrom : Nat → List D → List D
  | _, [] => []
  | k, d :: ds => .tup [.int (k : Nat), d] :: enumFrom (k + 1) ds
theorem enumFrom_len : ∀ (k : Nat) (l : List D), (enumFrom k l).length = l.length
  | _, [] => rfl
  | k, d :: ds => by simp [enumFrom, enumFrom_len (k + 1) ds]
theorem enumFrom_get : ∀ {k i : Nat} {l : List D} {d : D}, (enumFrom k l)[i]? = some d → ∃ e, l[i]? = some e ∧ d = .tup [.int ((k + i : Nat) : Int), e]
  | _, _, [], _, h => by simp [enumFrom] at h
  | k, 0, e :: l, d, h => by simp [enumFrom] at h; exact ⟨e, by simp, by simp [← h]⟩
  | k, i + 1, e :: l, d, h => by
    obtain ⟨e', h1, h2⟩ := enumFrom_get (k := k + 1) (i := i) (by simpa [enumFrom] using h)
    exact ⟨e', by simpa using h1, by rw [h2]; congr 3; omega⟩
def enumL : List D → Option (List D)
  | [.tup l] => some (enumFrom 0 l)
  | [.lst l] => some (enumFrom 0 l)
  | _ => none
def zipL : List D → List D → List D
  | a :: as, b :: bs => .tup [a, b] :: zipL as bs
  | _, _ => []
theorem zipL_len : ∀ (a b : List D), (zipL a b).length = min a.length b.length
  | [], b => by simp [zipL]
  | a :: as, [] => by simp [zipL]
  | a :: as, b :: bs => by simp [zipL, zipL_len as bs]
theorem zipL_get : ∀ {i : Nat} {a b : List D} {d : D}, (zipL a b)[i]? = some d → ∃ x y, a[i]? = some x ∧ b[i]? = some y ∧ d = .tup [x, y]
  | _, [], _, _, h => by simp [zipL] at h
  | _, _ :: _, [], _, h => by simp [zipL] at h
  | 0, a :: as, b :: bs, d, h => by simp [zipL] at h; exact ⟨a, b, by simp, by simp, h.symm⟩
  | i + 1, a :: as, b :: bs, d, h => by
    obtain ⟨x, y, h1, h2, h3⟩ := zipL_get (i := i) (by simpa [zipL] using h)
    exact ⟨x, y, by simpa using h1, by simpa using h2, h3⟩
def zip2 : List D → Option (List D)
  | [.tup l, .tup m] => some (zipL l m)
  | [.lst l, .lst m] => some (zipL l m)
  | _ => none
section
variable [Tb] {X : Cx} {τ : Nat → OT} {q : Bool} {a b : Expr} {ms : M (List D)} {pos p tpos : Pos} {elts : List Expr} {kk : Nat}
theorem shL1 [Tb] {K : PySem.W.Frag} {Z : Addr → Prop} {H : Hp} {d : D} {vs : List V} (h : RShL K Z H [d] vs) : ∃ v, vs = [v] ∧ RSh K Z H d v := by
  simp only [RShL] at h
  obtain ⟨v, ws, rfl, r, rfl⟩ := h
  exact ⟨v, rfl, r⟩
theorem shL2 [Tb] {K : PySem.W.Frag} {Z : Addr → Prop} {H : Hp} {d e : D} {vs : List V} (h : RShL K Z H [d, e] vs) : ∃ v w, vs = [v, w] ∧ RSh K Z H d v ∧ RSh K Z H e w := by
  simp only [RShL] at h
  obtain ⟨v, ws, rfl, r, w, us, rfl, r2, rfl⟩ := h
  exact ⟨v, w, rfl, r, r2⟩
theorem pairRel [Tb] {K : PySem.W.Frag} {Z : Addr → Prop} {H : Hp} {T : Addr} {d e : D} {v w : V} (hT : H T = none) (r1 : RSh K Z H d v) (r2 : RSh K Z H e w) : Grow H (upd H T (.tup [v, w])) ∧ RSh K Z (upd H T (.tup [v, w])) (.tup [d, e]) (.ref T) := by
  have g : Grow H (upd H T (.tup [v, w])) := Grow.new hT
  refine ⟨g, ?_⟩
  simp only [RSh, RShL]
  exact ⟨T, [v, w], rfl, SqT.of upd_same, v, [w], rfl, g.sh r1, w, [], rfl, g.sh r2, rfl⟩
theorem pi_know {tg e : Expr} {ti : TI} (h : PI X tg e ti) : PI X tg e (fun σ H R => ti σ H fun J H1 => (∀ a xs, SqT X.K H1 a xs ∨ SqL X.K H1 a xs → xs.length ≤ sizeLine) → R J H1) := ⟨fun pins s σ H R I hw =>
  thn (h.run pins s σ H _ I hw) fun v s1 h1 => thn h1 fun itv s2 ⟨it, fp, tn, J, H', h1, I2, h3, h4, h5, h6⟩ => ⟨it, fp, tn, J, H', h1, I2, h3, h4, h5, h6 fun a xs q => q.elim (fun q => by
    obtain ⟨_, _, _, z⟩ := I2.tuple q; exact z) fun q => by obtain ⟨_, _, _, z⟩ := I2.list q; exact z⟩⟩
theorem i_enum (ha : PA X [a] (tAs X.K τ q ms)) (hm : X.mg "enumerate" = none := by assumption) (hg : Gl X "enumerate" := by rfl) (hs : starEach [a] X.env = [(false, eval a X.env)] := by rfl) :
    PI X (.Tuple elts kk tpos) (.Call (.Name "enumerate" p) [a] [] pos) (tI X.K τ q (mItN enumL ms)) := (pi_know (pi_enumA hg hm ha hs)).mono fun σ H Rk ⟨Z, own, ρ, ds, ρ', rs, e, k⟩ => by
  obtain ⟨d, ρ1, e1, e⟩ := bind_ok e
  obtain ⟨e3, rfl⟩ := ofL_ok e
  refine ⟨Z, own, ρ, d, ρ', rs, e1, fun vs Z1 own1 H1 rs1 rl x1 => ?_⟩
  unfold enumL at e3
  split at e3
  · rename_i l
    cases e3
    obtain ⟨v, rfl, rv⟩ := shL1 rl
    simp only [RSh] at rv
    obtain ⟨t, xs, rfl, s, r⟩ := rv
    refine ⟨t, xs, rfl, .inr ⟨s, fun hsz => k _ Z1 own1 H1 rs1 ⟨fun Z2 H2 lt i hi => ?_, fun Z2 H2 lt i d hd x H3 y => ?_, fun Z2 H2 lt => ?_, ?_⟩ x1⟩⟩
    · rw [enumFrom_len, r.len] at hi
      exact ⟨xs, xs[i], NL.sqT lt.2.1 s, List.getElem?_eq_getElem hi⟩
    · obtain ⟨e', g1, rfl⟩ := enumFrom_get hd
      obtain ⟨T, z, rfl, hT, rfl, hz⟩ := y
      obtain ⟨w, g2, g3⟩ := r.get g1
      rw [hz xs (NL.sqT lt.2.1 s)] at g2; cases g2
      rw [Nat.zero_add]
      exact pairRel hT (by simp only [RSh]) (RSh.pres lt.1 lt.2.1 lt.2.2 e' _ g3)
    · exact ⟨xs, NL.sqT lt.2.1 s, by rw [enumFrom_len, r.len]⟩
    · rw [enumFrom_len, r.len]
      exact hsz t xs (.inl s)
  · rename_i l
    cases e3
    obtain ⟨v, rfl, rv⟩ := shL1 rl
    simp only [RSh] at rv
    obtain ⟨t, xs, rfl, z, s, r⟩ := rv
    refine ⟨t, xs, rfl, .inl ⟨SqL.of s, fun hsz => k _ Z1 own1 H1 rs1 ⟨fun Z2 H2 lt i hi => ?_, fun Z2 H2 lt i d hd x H3 y => ?_, fun Z2 H2 lt => ?_, ?_⟩ x1⟩⟩
    · rw [enumFrom_len, r.len] at hi
      exact ⟨xs, xs[i], SqL.of (lt.2.2 t _ z s True.intro), List.getElem?_eq_getElem hi⟩
    · obtain ⟨e', g1, rfl⟩ := enumFrom_get hd
      obtain ⟨T, y', rfl, hT, rfl, hz⟩ := y
      obtain ⟨w, g2, g3⟩ := r.get g1
      rw [hz xs (SqL.of (lt.2.2 t _ z s True.intro))] at g2; cases g2
      rw [Nat.zero_add]
      exact pairRel hT (by simp only [RSh]) (RSh.pres lt.1 lt.2.1 lt.2.2 e' _ g3)
    · exact ⟨xs, SqL.of (lt.2.2 t _ z s True.intro), by rw [enumFrom_len, r.len]; exact Nat.le_refl _⟩
    · rw [enumFrom_len, r.len]
      exact hsz t xs (.inr (SqL.of s))
  · cases e3
theorem i_zip2 (ha : PA X [a, b] (tAs X.K τ q ms)) (hm : X.mg "zip" = none := by assumption) (hg : Gl X "zip" := by rfl) (hs : starEach [a, b] X.env = (false, eval a X.env) :: starEach [b] X.env := by rfl) (hpl : (backTo pos (starEach [b] X.env)).any (·.1) = false := by rfl) :
    PI X (.Tuple elts kk tpos) (.Call (.Name "zip" p) [a, b] [] pos) (tI X.K τ q (mItN zip2 ms)) := (pi_know (RZ.pi_zipA hg hm ha hs hpl)).mono fun σ H Rk ⟨Z, own, ρ, ds, ρ', rs, e, k⟩ => by
  obtain ⟨d, ρ1, e1, e⟩ := bind_ok e
  obtain ⟨e3, rfl⟩ := ofL_ok e
  refine ⟨Z, own, ρ, d, ρ', rs, e1, fun vs Z1 own1 H1 rs1 rl x1 => ?_⟩
  unfold zip2 at e3
  split at e3
  · rename_i l m
    cases e3
    obtain ⟨v, w, rfl, rv, rw'⟩ := shL2 rl
    simp only [RSh] at rv rw'
    obtain ⟨t, xs, rfl, s, r⟩ := rv
    obtain ⟨u, ys, rfl, s2, r2⟩ := rw'
    refine ⟨t, u, xs, ys, rfl, .inr ⟨s, s2, fun hsz => k _ Z1 own1 H1 rs1 ⟨fun Z2 H2 lt i hi => ?_, fun Z2 H2 lt i d hd x H3 y => ?_, fun Z2 H2 lt => ?_, ?_⟩ x1⟩⟩
    · rw [zipL_len, r.len, r2.len] at hi
      exact ⟨xs, ys, xs[i], ys[i], NL.sqT lt.2.1 s, NL.sqT lt.2.1 s2, List.getElem?_eq_getElem (by omega), List.getElem?_eq_getElem (by omega)⟩
    · obtain ⟨x', y', g1, g2, rfl⟩ := zipL_get hd
      obtain ⟨T, z1, z2, rfl, hT, rfl, hz1, hz2⟩ := y
      obtain ⟨w1, k1, k2⟩ := r.get g1
      obtain ⟨w2, k3, k4⟩ := r2.get g2
      rw [hz1 xs (NL.sqT lt.2.1 s)] at k1; cases k1
      rw [hz2 ys (NL.sqT lt.2.1 s2)] at k3; cases k3
      exact pairRel hT (RSh.pres lt.1 lt.2.1 lt.2.2 _ _ k2) (RSh.pres lt.1 lt.2.1 lt.2.2 _ _ k4)
    · exact ⟨xs, ys, NL.sqT lt.2.1 s, NL.sqT lt.2.1 s2, by rw [zipL_len, r.len, r2.len]; omega⟩
    · have := hsz t xs (.inl s)
      rw [zipL_len, r.len]; omega
  · rename_i l m
    cases e3
    obtain ⟨v, w, rfl, rv, rw'⟩ := shL2 rl
    simp only [RSh] at rv rw'
    obtain ⟨t, xs, rfl, z1, s, r⟩ := rv
    obtain ⟨u, ys, rfl, z2, s2, r2⟩ := rw'
    refine ⟨t, u, xs, ys, rfl, .inl ⟨SqL.of s, SqL.of s2, fun hsz => k _ Z1 own1 H1 rs1 ⟨fun Z2 H2 lt i hi => ?_, fun Z2 H2 lt i d hd x H3 y => ?_, fun Z2 H2 lt => ?_, ?_⟩ x1⟩⟩
    · rw [zipL_len, r.len, r2.len] at hi
      exact ⟨xs, ys, xs[i], ys[i], SqL.of (lt.2.2 t _ z1 s True.intro), SqL.of (lt.2.2 u _ z2 s2 True.intro), List.getElem?_eq_getElem (by omega), List.getElem?_eq_getElem (by omega)⟩
    · obtain ⟨x', y', g1, g2, rfl⟩ := zipL_get hd
      obtain ⟨T, y1, y2, rfl, hT, rfl, hz1, hz2⟩ := y
      obtain ⟨w1, k1, k2⟩ := r.get g1
      obtain ⟨w2, k3, k4⟩ := r2.get g2
      rw [hz1 xs (SqL.of (lt.2.2 t _ z1 s True.intro))] at k1; cases k1
      rw [hz2 ys (SqL.of (lt.2.2 u _ z2 s2 True.intro))] at k3; cases k3
      exact pairRel hT (RSh.pres lt.1 lt.2.1 lt.2.2 _ _ k2) (RSh.pres lt.1 lt.2.1 lt.2.2 _ _ k4)
    · exact ⟨xs, ys, SqL.of (lt.2.2 t _ z1 s True.intro), SqL.of (lt.2.2 u _ z2 s2 True.intro), by rw [zipL_len, r.len, r2.len]; omega⟩
    · have := hsz t xs (.inr (SqL.of s))
      rw [zipL_len, r.len]; omega
  · cases e3
end
section
variable [Tb] {X : Cx}
end
def sPar3 (i j l : Nat) (es : M (List D)) : MS := bind es fun vs => fun ρ => match vs with | [u, v, w] => .ok (.nx, ((ρ.set i (some u)).set j (some v)).set l (some w)) | _ => .bad
section
variable [Tb] {X : Cx} {F : Fr} {q : Bool} {a b c : Expr} {ms : M (List D)} {pos : Pos}
theorem s_par3 (i j l : Nat) {x y z : Str} {px py pz pt pt2 : Pos} {kt k2 : Nat} (hN : X.N.Nodup) (ha : PA X [a, b, c] (tAs X.K F.τ q ms)) (hti : F.τ i = .sh := by rfl) (htj : F.τ j = .sh := by rfl) (htl : F.τ l = .sh := by rfl) (hfi : F.fx i = false := by rfl) (hfj : F.fx j = false := by rfl) (hfl : F.fx l = false := by rfl)
    (hi : X.N[i]? = some x := by rfl) (hj : X.N[j]? = some y := by rfl) (hl : X.N[l]? = some z := by rfl) (hij : i ≠ j := by decide) (hil : i ≠ l := by decide) (hjl : j ≠ l := by decide)
    (hx : X.env.scope.names.lookup x = some .local := by rfl) (hy : X.env.scope.names.lookup y = some .local := by rfl) (hz : X.env.scope.names.lookup z = some .local := by rfl) (hc : X.calm = true := by rfl)
    (hw : swappedStores [.Tuple [.Name x px, .Name y py, .Name z pz] kt pt] (.Tuple [a, b, c] k2 pt2) X.env = pure (some [x, y, z]) := by rfl)
    (hs : swapsWithSole [.Tuple [.Name x px, .Name y py, .Name z pz] kt pt] (.Tuple [a, b, c] k2 pt2) pos.line X.env = pure false := by rfl) :
    PS X (.Assign [.Tuple [.Name x px, .Name y py, .Name z pz] kt pt] (.Tuple [a, b, c] k2 pt2) pos) (tS X.K F (sPar3 i j l ms)) := (ps_par3 hc hN hi hj hl hij hil hjl hx hy hz ha hw hs).mono fun E σ H ⟨Z, own, ρ, f, ρ', rs, e, o⟩ => by
  obtain ⟨xs, ρ1, e1, e⟩ := bind_ok e
  match xs, e1, e with
  | [u, v, w], e1, e =>
    cases e
    refine ⟨Z, own, ρ, _, ρ1, rs, e1, fun vs Z1 own1 H1 rs1 rl x1 => ?_⟩
    simp only [RShL] at rl
    obtain ⟨v1, w1, rfl, r1, v2, w2, rfl, r2, v3, w3, rfl, r3, rfl⟩ := rl
    exact ⟨v1, v2, v3, rfl, o _ Z1 own1 H1 (((rs1.set hti r1).set htj r2).set htl r3) (((Fix.set hfi).trans (Fix.set hfj)).trans (Fix.set hfl)) x1.weak.any⟩
end
def par3W (vs : List D) (P : D → D → D → Prop) : Prop := match vs with
  | [u, v, w] => P u v w
  | _ => False
@[simp] theorem par3W_mk {u v w : D} {P : D → D → D → Prop} : par3W [u, v, w] P ↔ P u v w := Iff.rfl
theorem W_sPar3 {i j l : Nat} {ms : M (List D)} {ρ : Sl} {QF : Fl → Sl → Prop} : W (sPar3 i j l ms) ρ QF ↔ W ms ρ fun vs ρ1 => par3W vs fun u v w => QF .nx (((ρ1.set i (some u)).set j (some v)).set l (some w)) := by
  simp only [sPar3, W_bind]
  constructor <;> refine fun h => h.mono fun d ρ1 q => ?_
  · obtain ⟨f, ρ', e, q⟩ := q
    split at e
    · cases e; exact q
    · cases e
  · unfold par3W at q
    split at q
    · exact ⟨.nx, _, rfl, q⟩
    · exact q.elim
def bIn (a b : D) : Option D := match b with
  | .lst l => if D.okB 60 a && D.okB 60 (.lst l) then some (.bl (l.any fun z => D.eqv z a)) else none
  | _ => none
theorem pyL_any {f : PyData → Bool} : ∀ l : List D, (D.pyL l).any f = l.any fun z => f z.py
  | [] => by simp [D.pyL]
  | d :: l => by simp [D.pyL, pyL_any l]
section
variable [Tb] {X : Cx}
theorem o_in (hu : X.A.units + 65 < cLine) : OpR X (compareOp .In) (rF2 X.K bIn) := by
  intro pins s σ H x y v u Q I r1 r2 h
  obtain ⟨Z, a, b, d, p1, p2, e, k⟩ := h
  unfold bIn at e
  split at e
  · split at e
    · rename_i ho
      simp only [Bool.and_eq_true] at ho
      cases e
      refine op_inD hu pins s σ H _ _ v u Q I r1 r2 ⟨_, _, p1.dp ho.1, p2.dp ho.2, ok_shaped ho.1, ok_shaped ho.2, fin0 (by simp only [RSh, D.eqv]; rw [pyL_any]) k⟩
    · cases e
  · cases e
end
section
variable [Tb] {X : Cx} {τ : Nat → OT} {q q1 q2 : Bool} {e a b : Expr} {ma mb : M D} {pos apos p1 p2 : Pos} {x : Str} {kk : Nat}
end
theorem _root_.L2.Room.units65 {k : Nat} {A : Around} (r : Room k A) : A.units + 65 < cLine := by have := r.un; omega
end CL
namespace CL
open PySem PySem.Spec L2
set_option autoImplicit false
mutual
/-- a thing of a known kind, and so all that lies in its tuples, numbers not too great -/
def D.dt : D → Bool
  | .int i => decide (i.natAbs < 2 ^ 900)
  | .tup l => D.dtL l
  | .ins _ _ _ => false
  | .kdc _ _ => false
  | _ => true
def D.dtL : List D → Bool
  | [] => true
  | d :: ds => D.dt d && D.dtL ds
end
/-- the part at a place -/
inductive At : D → List Nat → D → Prop where
  | nil (d : D) : At d [] d
  | cons {l : List D} {k : Nat} {x : D} {p : List Nat} {e : D} (h : l[k]? = some x) (r : At x p e) : At (.tup l) (k :: p) e
theorem cut_from {α : Type} {l : List α} {k : Nat} : cutD l (some (k : Int)) none = l.drop k := by
  unfold cutD
  rw [HT.sIx_none, HT.sIx_nat]
  rw [List.take_of_length_le (by simp)]
  by_cases h : k ≤ l.length
  · rw [Nat.min_eq_left h]
  · rw [Nat.min_eq_right (by omega), List.drop_of_length_le (by omega), List.drop_of_length_le (by omega)]
theorem at_nat {α : Type} {l : List α} {k : Nat} {x : α} (h : l[k]? = some x) : atI l (k : Int) = some x := by
  have := (List.getElem?_eq_some_iff.mp h).1
  unfold atI ixN
  rw [if_pos (by omega), if_pos (by omega)]
  simpa using h
/-- the part put in -/
def putAt : D → List Nat → D → D
  | _, [], v => v
  | .tup l, k :: p, v => (match l[k]? with | some x => .tup (l.set k (putAt x p v)) | none => .tup l)
  | d, _ :: _, _ => d
def D.sz : D → Nat
  | .tup l => l.length
  | _ => 0
end CL
namespace CL
open PySem PySem.Spec L2
set_option autoImplicit false
local macro_rules | `(tactic| walk_at "v") => `(tactic| simp only [W_sSeq, W_sIf, W_sRet, W_sExp, W_sAsg, W_sPar, W_sPar3, W_sK, W_mC, W_mV, W_m1, W_m2, W_mN, W_mL, W_mCons, W_mNil, W_mIf, W_mAnd, W_mOr, W_mChain, W_mCallP, W_mCall, W_mSl, W_mPtN, W_mPtS, W_mIt, W_mItN, W_mIxS, W_mComp, W_sFor, evA, pN, pT, psC, psN, fillA, backA])
local macro_rules | `(tactic| walk_at "n") => `(tactic| simp only [Kq_nx, Kq_ret, Kq_brk, Kq_cnt])
abbrev DKt : OT := .ol (.ol .sh .sh) .sh
def pt (x y : Int) : D := .tup [.int x, .int y]
def ln (x y u v : Int) : D := .tup [pt x y, pt u v]
theorem eq_pt {x y u v : Int} : bEq (pt x y) (pt u v) = some (.bl (decide (x = u ∧ y = v))) := by
  simp [pt, bEq, D.okB, D.okL, D.eqv, D.py, D.pyL, PyData.eqv, PyData.eqvAll]
  by_cases h1 : x = u <;> by_cases h2 : y = v <;> simp [h1, h2]
theorem W_mApp {i : Nat} {m : M D} {ρ : Sl} {Q : D → Sl → Prop} : W (mApp i m) ρ Q ↔ ∃ d0, ρ[i]? = some (some d0) ∧ W m ρ fun d ρ1 => ∃ l, ρ1[i]? = some (some (.lst l)) ∧ l.length < 16777216 ∧ Q .non (ρ1.set i (some (.lst (l ++ [d])))) := by
  unfold mApp
  simp only [W_bind, W_mV]
  constructor
  · rintro ⟨d0, h0, h⟩
    refine ⟨d0, h0, h.mono fun d ρ1 ⟨a, ρ', e, q⟩ => ?_⟩
    dsimp only at e
    split at e
    · rename_i l hl
      split at e
      · rename_i hll; cases e; exact ⟨l, hl, hll, q⟩
      · cases e
    · cases e
  · rintro ⟨d0, h0, h⟩
    refine ⟨d0, h0, h.mono fun d ρ1 ⟨l, hl, hll, q⟩ => ⟨.non, _, by simp [hl, hll], q⟩⟩
end CL
namespace CL
end CL
namespace CL
end CL
namespace CL
end CL
namespace CLX
open PySem PySem.Spec L2 CL
local macro_rules | `(tactic| walk_at "w") => `(tactic| simp only [Kq_nx, Kq_ret, Kq_brk, Kq_cnt, W_sSeq, W_sIf, W_sRet, W_sExp, W_sAsg, W_sPar, W_sPar3, W_sK, W_mC, W_mV, W_m1, W_m2, W_mN, W_mL, W_mCons, W_mNil, W_mIf, W_mAnd, W_mOr, W_mChain, W_mCallP, W_mCall, W_mSl, W_mPtN, W_mPtS, W_mIt, W_mItN, W_mIxS, W_mComp, W_sFor, evA, pN, pT, psC, psN, fillA, backA])
local macro_rules | `(tactic| walk_at "v") => `(tactic| simp only [W_sSeq, W_sIf, W_sRet, W_sExp, W_sAsg, W_sPar, W_sPar3, W_sK, W_mC, W_mV, W_m1, W_m2, W_mN, W_mL, W_mCons, W_mNil, W_mIf, W_mAnd, W_mOr, W_mChain, W_mCallP, W_mCall, W_mSl, W_mPtN, W_mPtS, W_mIt, W_mItN, W_mIxS, W_mComp, W_sFor, evA, pN, pT, psC, psN, fillA, backA])
local macro_rules | `(tactic| walk_at "n") => `(tactic| simp only [Kq_nx, Kq_ret, Kq_brk, Kq_cnt])
def B__law_deck : MS := (sRet (mN bLst (mCons (m1 bRev (mL listOfD (mCons (mSl (mV 0) none (some (mC (.int 63)))) mNil))) (mCons (m2 bAdd (mN bSum (mCons (mComp [1] (pN 1) (mIt (mSl (mV 0) none (some (mC (.int 63))))) mYes (m2 bMod (mV 1) (mC (.int 1000003)))) mNil)) (m2 bMul (mC (.int 7919)) (mN bLen (mCons (mSl (mV 0) none (some (mC (.int 63)))) mNil)))) (mCons (mC (.int 0)) mNil)))))
def F__law_deck : List D → Res D := runP 1 B__law_deck
def B__law_draw : MS := (sSeq (sSto 0 1 (m2 bAdd (mIxS 0 1) (mC (.int 1)))) (sSeq (sAsg (pN 2) (mIxS 0 0)) (sSeq (sIf (m2 bNe (mIx0 0) (mN bLst mNil)) (sSeq (sAsg (pN 2) (mPop0 0)) (sIf (m2 bGe (mV 2) (m2 bPow (mC (.int 10)) (mC (.int 18)))) (sSeq (sExp (mApp0 0 (m2 bDiv (mV 2) (mV 1)))) (sRet (m2 bMod (mV 2) (mV 1)))) (sK .nx))) (sK .nx)) (sSeq (sAsg (pN 3) (m2 bMod (m2 bMul (m2 bAdd (m2 bAdd (m2 bMod (mV 2) (mC (.int 2147483629))) (m2 bMul (mC (.int 65537)) (mIxS 0 1))) (mC (.int 3))) (mC (.int 48271))) (mC (.int 2147483647)))) (sSeq (sAsg (pN 3) (m2 bMod (m2 bAdd (m2 bAdd (m2 bMul (mV 3) (mV 3)) (m2 bMul (mC (.int 69621)) (mIxS 0 1))) (mC (.int 17))) (mC (.int 2147483587)))) (sRet (m2 bMod (m2 bDiv (m2 bMod (m2 bAdd (m2 bMul (mV 3) (mV 3)) (mC (.int 39373))) (mC (.int 2147483563))) (mC (.int 64))) (mV 1))))))))
def F__law_draw : Fn := runF [.ol (.ol .sh .sh) .sh, .sh] 2 B__law_draw
theorem W_sFz {i : Nat} {m : MS} {ρ : Sl} {Q : Fl → Sl → Prop} : W (sFz i m) ρ Q ↔ W m ρ fun f ρ' => Q f (ρ'.set i none) := by
  unfold sFz
  constructor
  · rintro ⟨f, ρ', e, q⟩
    dsimp only at e
    split at e
    · rename_i e1; cases e; exact ⟨_, _, e1, q⟩
    · cases e
    · cases e
  · rintro ⟨f, ρ', e, q⟩
    exact ⟨f, _, by simp only [e], q⟩
def insB (f w L H U s : Int) : Bool := decide (2 * L * U ≤ f * 2 * U + w * s) && decide (f * 2 * U + w * s < 2 * H * U)
structure Geo where
  (g x y u v i j U : Int)
  hg : g.natAbs ≤ 1000
  hx : x.natAbs ≤ 10000000
  hy : y.natAbs ≤ 10000000
  hu : u.natAbs ≤ 10000000
  hv : v.natAbs ≤ 10000000
  hi : i.natAbs ≤ 10000000
  hj : j.natAbs ≤ 10000000
def Geo.rows (G : Geo) : D := .lst [.tup [.int (2 * G.x), .int (2 * (G.u - G.x)), .int G.i], .tup [.int (2 * G.y), .int (2 * (G.v - G.y)), .int G.j]]
def Geo.ins (G : Geo) (s : Int) : Bool := insB (2 * G.x) (2 * (G.u - G.x)) ((2 * G.i - 1) * G.g) ((2 * G.i + 1) * G.g) G.U s && insB (2 * G.y) (2 * (G.v - G.y)) ((2 * G.j - 1) * G.g) ((2 * G.j + 1) * G.g) G.U s
theorem cut_last {α : Type} {l : List α} : cutD l none (some (-1)) = l.dropLast := by
  unfold cutD
  rw [HT.sIx_none]
  rw [List.drop_zero, List.dropLast_eq_take, Nat.sub_zero]
  congr 1
  show (if (-1 : Int) < 0 then ((-1 : Int) + (l.length : Int)).toNat else min (-1 : Int).toNat l.length) = _
  rw [if_pos (by decide)]; omega
theorem cut_tail {α : Type} {l : List α} : cutD l (some 1) none = l.tail := by
  rw [show (some (1 : Int)) = some ((1 : Nat) : Int) from rfl, cut_from]; simp
end CLX
namespace CLX
open PySem PySem.Spec L2 CL
local macro_rules | `(tactic| walk_at "v") => `(tactic| simp only [W_sSeq, W_sIf, W_sRet, W_sExp, W_sAsg, W_sPar, W_sPar3, W_sK, W_mC, W_mV, W_m1, W_m2, W_mN, W_mL, W_mCons, W_mNil, W_mIf, W_mAnd, W_mOr, W_mChain, W_mCallP, W_mCall, W_mSl, W_mPtN, W_mPtS, W_mIt, W_mItN, W_mIxS, W_mComp, W_sFor, evA, pN, pT, psC, psN, fillA, backA])
local macro_rules | `(tactic| walk_at "n") => `(tactic| simp only [Kq_nx, Kq_ret, Kq_brk, Kq_cnt])
theorem eq_str {a b : Str} : bEq (.str a) (.str b) = some (.bl (decide (a = b))) := by
  simp [bEq, D.okB, D.eqv, D.py, PyData.eqv]
end CLX
namespace CL
open PySem L2
set_option autoImplicit false
section
variable {ρ ρ' ρ1 : Sl} {QD : D → Sl → Prop} {QL : List D → Sl → Prop} {QF : Fl → Sl → Prop} {QO : Option Int → Sl → Prop}
def Br (x : D) (A B : Prop) : Prop := (x = .bl true ∧ A) ∨ (x = .bl false ∧ B)
theorem X_if {c : M D} {a b : MS} (h : W c ρ fun x ρ1 => Br x (W a ρ1 QF) (W b ρ1 QF)) : W (sIf c a b) ρ QF := W_sIf.mpr h
theorem go_if {p : Bool} {A B : Prop} (h1 : p = true → A) (h2 : p = false → B) : Br (.bl p) A B := by
  cases p with
  | true => exact .inl ⟨rfl, h1 rfl⟩
  | false => exact .inr ⟨rfl, h2 rfl⟩
theorem go_ifT {p : Bool} {A B : Prop} (h : p = true) (h1 : A) : Br (.bl p) A B := .inl ⟨by rw [h], h1⟩
theorem go_ifF {p : Bool} {A B : Prop} (h : p = false) (h1 : B) : Br (.bl p) A B := .inr ⟨by rw [h], h1⟩
theorem go_ifP {p : Prop} [Decidable p] {A B : Prop} (h1 : p → A) (h2 : ¬ p → B) : Br (.bl (decide p)) A B := go_if (fun h => h1 (of_decide_eq_true h)) fun h => h2 (of_decide_eq_false h)
theorem go_ifN {p : Prop} [Decidable p] {A B : Prop} (h1 : ¬ p → A) (h2 : p → B) : Br (.bl (!decide p)) A B := go_if (fun h => h1 (by simpa using h)) fun h => h2 (by simpa using h)
theorem X_and {a b : M D} (h : W a ρ fun x ρ1 => ∃ p q : Bool, x = .bl p ∧ (p = true → W b ρ1 fun y ρ2 => y = .bl q ∧ ρ2 = ρ1) ∧ QD (.bl (p && q)) ρ1) : W (mAnd a b) ρ QD :=
  W_mAnd.mpr (h.mono fun x ρ1 ⟨p, q, e, h1, h2⟩ => by
    cases p with
    | true => exact .inl ⟨e, (h1 rfl).mono fun y ρ2 ⟨e1, e2⟩ => by rw [e1, e2]; simpa using h2⟩
    | false => exact .inr ⟨e, by simpa using h2⟩)
theorem X_or {a b : M D} (h : W a ρ fun x ρ1 => ∃ p q : Bool, x = .bl p ∧ (p = false → W b ρ1 fun y ρ2 => y = .bl q ∧ ρ2 = ρ1) ∧ QD (.bl (p || q)) ρ1) : W (mOr a b) ρ QD :=
  W_mOr.mpr (h.mono fun x ρ1 ⟨p, q, e, h1, h2⟩ => by
    cases p with
    | false => exact .inr ⟨e, (h1 rfl).mono fun y ρ2 ⟨e1, e2⟩ => by rw [e1, e2]; simpa using h2⟩
    | true => exact .inl ⟨e, by simpa using h2⟩)
theorem X_chain {f g : D → D → Option D} {a b c : M D} (h : W a ρ fun x ρ1 => W b ρ1 fun y ρ2 => ∃ p q : Bool, f x y = some (.bl p) ∧ (p = true → W c ρ2 fun w ρ3 => g y w = some (.bl q) ∧ ρ3 = ρ2) ∧ QD (.bl (p && q)) ρ2) : W (mChain f g a b c) ρ QD :=
  W_mChain.mpr (h.mono fun x ρ1 h => h.mono fun y ρ2 ⟨p, q, e, h1, h2⟩ => ⟨.bl p, e, by
    cases p with
    | true => exact .inl ⟨rfl, (h1 rfl).mono fun y ρ3 ⟨e1, e2⟩ => ⟨_, e1, by rw [e2]; simpa using h2⟩⟩
    | false => exact .inr ⟨rfl, by simpa using h2⟩⟩)
theorem and_go {x : D} {p q : Bool} {A : Bool → Bool → Prop} {P : Bool → Bool → Prop} (e : x = .bl p) (h1 : A p q) (h2 : P p q) : ∃ p q : Bool, x = .bl p ∧ A p q ∧ P p q := ⟨p, q, e, h1, h2⟩
theorem chain_go {x : Option D} {p q : Bool} {A : Bool → Bool → Prop} {P : Bool → Bool → Prop} (e : x = some (.bl p)) (h1 : A p q) (h2 : P p q) : ∃ p q : Bool, x = some (.bl p) ∧ A p q ∧ P p q := ⟨p, q, e, h1, h2⟩
theorem X_compN {vs : List Nat} {p : Pt} {c e : M D} (e0 : ρ = ρ') (h : QL [] ρ') : W (compL vs p c e []) ρ QL := by subst e0; exact W_compNil.mpr h
theorem X_evN : W (evA []) ρ QL ↔ QL [] ρ := W_mNil
theorem X_evI {i : Nat} {r : List Ag} : W (evA (.io i :: r)) ρ QL ↔ ∃ d, ρ[i]? = some (some d) ∧ W (evA r) ρ fun xs ρ2 => QL (d :: xs) ρ2 := by
  show W (mCons (mV i) (evA r)) ρ QL ↔ _
  rw [W_mCons, W_mV]
theorem X_evE {m : M D} {r : List Ag} : W (evA (.e m :: r)) ρ QL ↔ W m ρ fun d ρ1 => W (evA r) ρ1 fun xs ρ2 => QL (d :: xs) ρ2 := by
  show W (mCons m (evA r)) ρ QL ↔ _
  rw [W_mCons]
theorem X_nx {b : MS} (e : ρ = ρ') (h : W b ρ' QF) : Kq b QF .nx ρ := by subst e; exact Kq_nx.mpr h
/-- on to the next turn of a loop -/
def Fq (p : Pt) (b : MS) (xs : List D) (Q : Fl → Sl → Prop) : Fl → Sl → Prop := fun f ρ2 => ((f = .nx ∨ f = .cnt) ∧ W (forL p b xs) ρ2 Q) ∨ (f = .brk ∧ Q .nx ρ2) ∨ ∃ d, f = .ret d ∧ Q (.ret d) ρ2
theorem X_forC {p : Pt} {b : MS} {x : D} {xs : List D} (e0 : ρ = ρ') (e : p x ρ' = some ρ1) (h : W b ρ1 (Fq p b xs QF)) : W (forL p b (x :: xs)) ρ QF := by subst e0; exact W_forCons.mpr ⟨ρ1, e, h⟩
theorem X_fnx {p : Pt} {b : MS} {xs : List D} (e : ρ = ρ') (h : W (forL p b xs) ρ' QF) : Fq p b xs QF .nx ρ := by subst e; exact .inl ⟨.inl rfl, h⟩
theorem X_fret {p : Pt} {b : MS} {xs : List D} {d : D} (h : QF (.ret d) ρ) : Fq p b xs QF (.ret d) ρ := .inr (.inr ⟨d, rfl, h⟩)
theorem X_compC {vs : List Nat} {p : Pt} {c e : M D} {x : D} {xs : List D} (e0 : ρ = ρ') (h1 : p x ρ' = some ρ1) (h : W c ρ1 fun y ρ2 => Br y (W e ρ2 fun d ρ3 => W (compL vs p c e xs) (wipeD ρ3 vs) fun ds ρ4 => QL (d :: ds) ρ4) (W (compL vs p c e xs) (wipeD ρ2 vs) QL)) : W (compL vs p c e (x :: xs)) ρ QL := by subst e0; exact W_compCons.mpr ⟨ρ1, h1, h⟩
end
def Nb (n : Nat) (a : Int) : Prop := a.natAbs < 2 ^ n
/-- the same, kept from omega's sight -/
def Nle (a : Int) (n : Nat) : Prop := a.natAbs ≤ n
theorem Nb.mono {n m : Nat} {a : Int} (h : Nb n a) (k : n ≤ m) : Nb m a := Nat.lt_of_lt_of_le h (Nat.pow_le_pow_right (by decide) k)
theorem Nb.le {n : Nat} {a : Int} (h : a.natAbs ≤ n) : Nb (n.log2 + 1) a := Nat.lt_of_le_of_lt h Nat.lt_log2_self
theorem Nb.nle {n : Nat} {a : Int} (h : Nle a n) : Nb (n.log2 + 1) a := Nat.lt_of_le_of_lt h Nat.lt_log2_self
theorem Nb.add {n m : Nat} {a b : Int} (ha : Nb n a) (hb : Nb m b) : Nb (max n m + 1) (a + b) := by
  have h1 := Nb.mono ha (Nat.le_max_left n m)
  have h2 := Nb.mono hb (Nat.le_max_right n m)
  unfold Nb at *
  rw [Nat.pow_succ]
  omega
theorem Nb.neg {n : Nat} {a : Int} (ha : Nb n a) : Nb n (-a) := by unfold Nb at *; omega
theorem Nb.sub {n m : Nat} {a b : Int} (ha : Nb n a) (hb : Nb m b) : Nb (max n m + 1) (a - b) := by rw [Int.sub_eq_add_neg]; exact Nb.add ha hb.neg
theorem Nb.mul {n m : Nat} {a b : Int} (ha : Nb n a) (hb : Nb m b) : Nb (n + m) (a * b) := by
  unfold Nb at *
  rw [Int.natAbs_mul, Nat.pow_add]
  exact Nat.mul_lt_mul'' ha hb
theorem Nb.max {n m : Nat} {a b : Int} (ha : Nb n a) (hb : Nb m b) : Nb (Max.max n m) (max a b) := by
  have h1 := Nb.mono ha (Nat.le_max_left n m)
  have h2 := Nb.mono hb (Nat.le_max_right n m)
  unfold Nb at *
  omega
theorem Nb.min {n m : Nat} {a b : Int} (ha : Nb n a) (hb : Nb m b) : Nb (Max.max n m) (min a b) := by
  have h1 := Nb.mono ha (Nat.le_max_left n m)
  have h2 := Nb.mono hb (Nat.le_max_right n m)
  unfold Nb at *
  omega
theorem mul_go {n m : Nat} {a b : Int} (ha : Nb n a) (hb : Nb m b) (h : (Nat.ble n 400000 && Nat.ble m 400000) = true) : bMul (.int a) (.int b) = some (.int (a * b)) := by
  simp only [Bool.and_eq_true, Nat.ble_eq] at h
  have : a.natAbs < big ∧ b.natAbs < big := ⟨ha.mono h.1, hb.mono h.2⟩
  simp only [bMul, this, and_self, or_true, if_true]
theorem tup_go {l : List D} (h : Nat.ble l.length 16777216 = true) : bTup l = some (.tup l) := by
  simp only [Nat.ble_eq] at h
  simp only [bTup, h, if_true]
theorem lst_go {l : List D} (h : Nat.ble l.length 16777216 = true) : bLst l = some (.lst l) := by
  simp only [Nat.ble_eq] at h
  simp only [bLst, h, if_true]
end CL
namespace CL
open PySem L2
section
variable {a b : Int} {n m : Nat} {P : D → Prop} {l : List D} {x y u v : Int} {s t : Str}
theorem mul_st (ha : Nb n a) (hb : Nb m b) (h : (Nat.ble n 400000 && Nat.ble m 400000) = true) (k : P (.int (a * b))) : ∃ d, bMul (.int a) (.int b) = some d ∧ P d := ⟨_, mul_go ha hb h, k⟩
theorem tup_st (h : Nat.ble l.length 16777216 = true) (k : P (.tup l)) : ∃ d, bTup l = some d ∧ P d := ⟨_, tup_go h, k⟩
theorem lst_st (h : Nat.ble l.length 16777216 = true) (k : P (.lst l)) : ∃ d, bLst l = some d ∧ P d := ⟨_, lst_go h, k⟩
theorem eqi_st (k : P (.bl (decide (a = b)))) : ∃ d, bEq (.int a) (.int b) = some d ∧ P d := ⟨_, eq_int2, k⟩
theorem nei_st (k : P (.bl (!decide (a = b)))) : ∃ d, bNe (.int a) (.int b) = some d ∧ P d := ⟨_, ne_int2, k⟩
theorem eqp_st' (k : P (.bl (decide (x = u ∧ y = v)))) : ∃ d, bEq (pt x y) (pt u v) = some d ∧ P d := ⟨_, eq_pt, k⟩
theorem eqs_st (k : P (.bl (decide (s = t)))) : ∃ d, bEq (.str s) (.str t) = some d ∧ P d := ⟨_, CLX.eq_str, k⟩
end
theorem mul_s1 {a b : Int} {n : Nat} {P : D → Prop} (ha : Nb n a) (h : Nat.ble n 64 = true) (k : P (.int (a * b))) : ∃ d, bMul (.int a) (.int b) = some d ∧ P d := ⟨_, by
  simp only [Nat.ble_eq] at h
  have : a.natAbs < 2 ^ 64 := ha.mono h
  simp only [bMul, this, true_or, if_true], k⟩
theorem fill_st {as : List Ag} {ds : List D} {ρ : Sl} {P : List D → Prop} (h : ∃ f, fillA as ds ρ = some f ∧ P f) : ∃ f, fillA as ds ρ = some f ∧ P f := h
section
variable {a b c d e f g h w : Int} {P : D → Prop} {x y z t : D}
theorem ix2i (h0 : 0 ≤ w) (h1 : w < 2) (k : ∀ z, (z = a ∨ z = b) → Nle z (a.natAbs + b.natAbs) → P (.int z)) : ∃ d, bIx (.lst [.int a, .int b]) (.int w) = some d ∧ P d := by
  rcases (show w = 0 ∨ w = 1 by omega) with rfl | rfl
  · exact ⟨_, rfl, k a (by simp) (by unfold Nle; omega)⟩
  · exact ⟨_, rfl, k b (by simp) (by unfold Nle; omega)⟩
theorem ix3i (h0 : 0 ≤ w) (h1 : w < 3) (k : ∀ z, (z = a ∨ z = b ∨ z = c) → Nle z (a.natAbs + b.natAbs + c.natAbs) → P (.int z)) : ∃ d, bIx (.lst [.int a, .int b, .int c]) (.int w) = some d ∧ P d := by
  rcases (show w = 0 ∨ w = 1 ∨ w = 2 by omega) with rfl | rfl | rfl
  · exact ⟨_, rfl, k a (by simp) (by unfold Nle; omega)⟩
  · exact ⟨_, rfl, k b (by simp) (by unfold Nle; omega)⟩
  · exact ⟨_, rfl, k c (by simp) (by unfold Nle; omega)⟩
theorem ix2bi {p : Bool} (k : ∀ z, z = (if p = true then b else a) → Nle z (a.natAbs + b.natAbs) → P (.int z)) : ∃ d, bIx (.lst [.int a, .int b]) (.int (if p = true then 1 else 0)) = some d ∧ P d := by
  cases p with
  | true => exact ⟨_, rfl, k _ rfl (by simp [Nle])⟩
  | false => exact ⟨_, rfl, k _ rfl (by simp [Nle])⟩
end
theorem is_for {p : Pt} {b : MS} {xs : List D} {ρ : Sl} {Q : Fl → Sl → Prop} (h : W (forL p b xs) ρ Q) : W (forL p b xs) ρ Q := h
theorem is_comp {vs : List Nat} {p : Pt} {c e : M D} {xs : List D} {ρ : Sl} {Q : List D → Sl → Prop} (h : W (compL vs p c e xs) ρ Q) : W (compL vs p c e xs) ρ Q := h
theorem is_chain {x : Option D} {A : Bool → Bool → Prop} {P : Bool → Bool → Prop} (h : ∃ p q : Bool, x = some (.bl p) ∧ A p q ∧ P p q) : ∃ p q : Bool, x = some (.bl p) ∧ A p q ∧ P p q := h
theorem call_st {F : List D → Res D} {ds : List D} {d : D} {P : D → Prop} (e : F ds = .ok d) (k : P d) : ∃ d, F ds = .ok d ∧ P d := ⟨d, e, k⟩
theorem is_W {α : Type} {m : M α} {ρ : Sl} {Q : α → Sl → Prop} (h : W m ρ Q) : W m ρ Q := h
theorem is_ex {α : Type} {P : α → Prop} (h : ∃ x, P x) : ∃ x, P x := h
theorem is_ev {o : Option D} {P : D → Prop} (h : ∃ d, o = some d ∧ P d) : ∃ d, o = some d ∧ P d := h
theorem is_evA {α : Type} {o : Option α} {P : α → Prop} (h : ∃ d, o = some d ∧ P d) : ∃ d, o = some d ∧ P d := h
theorem is_evI {o : D} {P : Int → Prop} (h : ∃ d, o = .int d ∧ P d) : ∃ d, o = .int d ∧ P d := h
theorem is_evR {o : Fl} {P : D → Prop} (h : ∃ d, o = .ret d ∧ P d) : ∃ d, o = .ret d ∧ P d := h
theorem is_evS {o : Option (Option D)} {P : D → Prop} (h : ∃ d, o = some (some d) ∧ P d) : ∃ d, o = some (some d) ∧ P d := h
theorem is_evL {o : Option (Option D)} {P : List D → Prop} (h : ∃ l, o = some (some (.lst l)) ∧ P l) : ∃ l, o = some (some (.lst l)) ∧ P l := h
end CL
namespace CLX
end CLX
namespace CL
open PySem PySem.Spec L2 PySem.W
set_option autoImplicit false
def cmpOk (a b : D) : Bool := D.okB 60 a && D.okB 60 b && alike a.py b.py && !a.isNon
def bLeD (a b : D) : Option D := if cmpOk a b = true then some (.bl (!dataLt b.py a.py)) else none
theorem ok_depth {a : D} (h : D.okB 60 a = true) : a.py.depth ≤ 60 := (ok_lay 60 a h).2
theorem py_none {a : D} (h : D.okB 60 a = true) (n : a.isNon = false) : a.py ≠ .none := by
  cases a with
  | non => cases n
  | dct _ _ => simp [D.okB] at h
  | ins _ _ _ => simp [D.okB] at h
  | kdc _ _ => simp [D.okB] at h
  | _ => simp [D.py]
section
variable [Tb] {X : Cx}
theorem o_cmpD {op : CmpOp} {f : D → D → Bool} {g : D → D → Option D} (hg : ∀ a b, g a b = if cmpOk a b = true then some (.bl (f a b)) else none)
    (ho : ∀ {s : Shared} {a b : Value} {da db : PyData} {as bs : List Addr} {x y : D} {Q : Value → Shared → Prop}, x.py = da → y.py = db → Reads s.heap a da as → Reads s.heap b db bs → alike da db = true → da ≠ .none → X.A.units + min da.depth db.depth < cLine → Q (.bool (f x y)) s → wpAny (model X.prog X.w) X.A (compareOp op a b) Q X.xe s)
    (hu : X.A.units + 64 < cLine) : OpR X (compareOp op) (rF2 X.K g) := by
  intro pins s σ H x y v u Q I r1 r2 h
  obtain ⟨Z, a, b, d, p1, p2, e, k⟩ := h
  rw [hg] at e
  split at e
  · rename_i hc
    cases e
    simp only [cmpOk, Bool.and_eq_true, Bool.not_eq_true'] at hc
    obtain ⟨⟨⟨h1, h2⟩, h3⟩, h4⟩ := hc
    obtain ⟨as, ra⟩ := Dp.reads I _ x v (p1.dp h1) r1
    obtain ⟨bs, rb⟩ := Dp.reads I _ y u (p2.dp h2) r2
    have d1 := ok_depth h1
    refine ho rfl rfl ra rb h3 (py_none h1 h4) (by omega) ⟨.bl _, H, I, rfl, fin0 (by simp only [RSh]) k⟩
  · cases e
theorem o_leD (hu : X.A.units + 64 < cLine) : OpR X (compareOp .LtE) (rF2 X.K bLeD) := o_cmpD (f := fun a b => !dataLt b.py a.py) (fun _ _ => rfl) (fun e1 e2 ra rb h hn hu q => by subst e1 e2; exact le_data ra rb h hn hu q) hu
end
mutual
theorem py_inj : ∀ (n m : Nat) (a b : D), D.okB n a = true → D.okB m b = true → a.py = b.py → a = b
  | _, _, .non, b, _, h, e => by cases b <;> simp [D.py, D.okB] at e h ⊢
  | _, _, .bl x, b, _, h, e => by cases b <;> simp [D.py, D.okB] at e h ⊢ <;> exact e
  | _, _, .int x, b, _, h, e => by cases b <;> simp [D.py, D.okB] at e h ⊢ <;> exact e
  | _, _, .str x, b, _, h, e => by cases b <;> simp [D.py, D.okB] at e h ⊢ <;> exact e
  | n + 1, m, .tup l, b, ha, h, e => by
    cases b with
    | tup l' =>
      cases m with
      | zero => simp [D.okB] at h
      | succ m =>
        simp only [D.py, PyData.tuple.injEq] at e
        simp only [D.okB] at ha h
        rw [pyL_inj n m l l' ha h e]
    | _ => simp [D.py] at e
  | n + 1, m, .lst l, b, ha, h, e => by
    cases b with
    | lst l' =>
      cases m with
      | zero => simp [D.okB] at h
      | succ m =>
        simp only [D.py, PyData.list.injEq] at e
        simp only [D.okB] at ha h
        rw [pyL_inj n m l l' ha h e]
    | scr _ => simp [D.okB] at h
    | _ => simp [D.py] at e
  | 0, _, .tup l, _, ha, _, _ => by simp [D.okB] at ha
  | 0, _, .lst l, _, ha, _, _ => by simp [D.okB] at ha
  | _, _, .dct _ _, _, ha, _, _ => by simp [D.okB] at ha
  | _, _, .ins _ _ _, _, ha, _, _ => by simp [D.okB] at ha
  | _, _, .kdc _ _, _, ha, _, _ => by simp [D.okB] at ha
  | _, _, .scr _, _, ha, _, _ => by simp [D.okB] at ha
theorem pyL_inj : ∀ (n m : Nat) (a b : List D), D.okL n a = true → D.okL m b = true → D.pyL a = D.pyL b → a = b
  | _, _, [], [], _, _, _ => rfl
  | _, _, [], _ :: _, _, _, e => by simp [D.pyL] at e
  | _, _, _ :: _, [], _, _, e => by simp [D.pyL] at e
  | n, m, a :: l, b :: l', ha, hb, e => by
    simp only [D.pyL, List.cons.injEq] at e
    simp only [D.okL, Bool.and_eq_true] at ha hb
    rw [py_inj n m a b ha.1 hb.1 e.1, pyL_inj n m l l' ha.2 hb.2 e.2]
end
def dataOk (l : List D) : Bool := D.okL 58 l && (l.all fun a => l.all fun b => alike a.py b.py) && l.all fun a => !a.isNon
def minDD (x : D) (xs : List D) : D := xs.foldl (fun a y => if dataLt y.py a.py then y else a) x
def maxDD (x : D) (xs : List D) : D := xs.foldl (fun a y => if dataLt a.py y.py then y else a) x
theorem pyL_map : ∀ l : List D, D.pyL l = l.map D.py
  | [] => by simp [D.pyL]
  | d :: l => by simp [D.pyL, pyL_map l]
theorem minDD_py : ∀ (xs : List D) (x : D), (minDD x xs).py = minD x.py (D.pyL xs)
  | [], x => by simp [minDD, minD, D.pyL]
  | y :: xs, x => by
    have := minDD_py xs (if dataLt y.py x.py then y else x)
    simp only [minDD, minD, D.pyL, List.foldl_cons] at this ⊢
    rw [this]
    congr 1
    split <;> rfl
theorem maxDD_py : ∀ (xs : List D) (x : D), (maxDD x xs).py = maxD x.py (D.pyL xs)
  | [], x => by simp [maxDD, maxD, D.pyL]
  | y :: xs, x => by
    have := maxDD_py xs (if dataLt x.py y.py then y else x)
    simp only [maxDD, maxD, D.pyL, List.foldl_cons] at this ⊢
    rw [this]
    congr 1
    split <;> rfl
theorem minDD_mem : ∀ (xs : List D) (x : D), minDD x xs ∈ x :: xs
  | [], x => by simp [minDD]
  | y :: xs, x => by
    have := minDD_mem xs (if dataLt y.py x.py then y else x)
    simp only [minDD, List.foldl_cons] at this ⊢
    rcases List.mem_cons.mp this with e | h
    · rw [e]; split <;> simp
    · exact List.mem_cons_of_mem _ (List.mem_cons_of_mem _ h)
theorem maxDD_mem : ∀ (xs : List D) (x : D), maxDD x xs ∈ x :: xs
  | [], x => by simp [maxDD]
  | y :: xs, x => by
    have := maxDD_mem xs (if dataLt x.py y.py then y else x)
    simp only [maxDD, List.foldl_cons] at this ⊢
    rcases List.mem_cons.mp this with e | h
    · rw [e]; split <;> simp
    · exact List.mem_cons_of_mem _ (List.mem_cons_of_mem _ h)
theorem okL_mem {n : Nat} : ∀ {l : List D}, D.okL n l = true → ∀ x ∈ l, D.okB n x = true
  | [], _, _, hx => by cases hx
  | d :: l, h, x, hx => by
    simp only [D.okL, Bool.and_eq_true] at h
    rcases List.mem_cons.mp hx with rfl | hx
    · exact h.1
    · exact okL_mem h.2 x hx
theorem okB_up : ∀ {n m : Nat} {d : D}, n ≤ m → D.okB n d = true → D.okB m d = true := by
  intro n
  induction n with
  | zero => intro m d _ h; cases d <;> simp_all [D.okB]
  | succ n ih =>
    intro m d hm h
    cases m with
    | zero => omega
    | succ m =>
      have L : ∀ l : List D, D.okL n l = true → D.okL m l = true := by
        intro l
        induction l with
        | nil => intro _; simp [D.okL]
        | cons x l il =>
          intro h
          simp only [D.okL, Bool.and_eq_true] at h ⊢
          exact ⟨ih (by omega) h.1, il h.2⟩
      cases d <;> simp_all [D.okB]
theorem dataOk_alike {l : List D} (h : dataOk l = true) : AlikeAll (D.pyL l) := by
  simp only [dataOk, Bool.and_eq_true, List.all_eq_true, Bool.not_eq_true'] at h
  obtain ⟨⟨h1, h2⟩, h3⟩ := h
  rw [pyL_map]
  refine ⟨fun x hx y hy => ?_, fun x hx => ?_⟩
  · obtain ⟨a, ha, rfl⟩ := List.mem_map.mp hx
    obtain ⟨b, hb, rfl⟩ := List.mem_map.mp hy
    exact h2 a ha b hb
  · obtain ⟨a, ha, rfl⟩ := List.mem_map.mp hx
    exact py_none (okB_up (by decide) (okL_mem h1 a ha)) (h3 a ha)
theorem depthAll_le : ∀ {n : Nat} {l : List D}, D.okL n l = true → PyData.depthAll (D.pyL l) ≤ n
  | n, l, h => by
    have : D.okB (n + 1) (.tup l) = true := by simpa only [D.okB] using h
    have := (ok_lay (n + 1) (.tup l) this).2
    simp only [D.py, PyData.depth] at this
    omega
section
variable [Tb] {X : Cx} {pins : List (Addr × Obj)} {σ : St} {H : Hp} {s : Shared}
end
theorem call_min_twoH {prog : Program} {w : World} {A : Around} {E : Value → Shared → Prop} {s : Shared} {a b : Value} {Q : Value → Shared → Prop}
    (h : wpAny (model prog w) A.in1 (pyIter (.ref s.heap.objs.size)) (fun it s₂ => ∃ I fp wr G n P St H bt, it = .ref I ∧ WalksS prog w A.in1 I fp wr G n P St ∧ St 0 s₂ ∧ (∀ b ∈ fp, b < s₂.heap.objs.size) ∧ 0 < n ∧
      (∀ b o, H.get? b = some o → b ∉ wr) ∧ (∀ b o, H.get? b = some o → s₂.heap.get? b = some o) ∧ CmpIn prog w A.in1 .Lt H P bt ∧ ∀ v s', P (argBest bt (n - 1)) v → Moved wr G s₂ s' → Q v s') E
      { s with heap := s.heap.push { cls := .type "tuple", data := .seq #[a, b] } }) :
    wpAny (model prog w) A (call (.builtin "min") [a, b]) Q E s := by
  have hname : (toString "min" ++ toString ".loop" : String) = "min.loop" := by decide
  refine call_function_tree F.kind_min F.plain_min F.entry_min (F.args_min2 _ _) ?_
  show wpAny _ A.in1 (Builtin.Builtins.bindParams "min" ["key", "default"] 0 ⟨[], []⟩ >>= _) _ _ s
  refine wpAny_bind (wpAny_of_eq (show Builtin.Builtins.bindParams "min" ["key", "default"] 0 ⟨[], []⟩ = pure [none, none] from rfl) ?_)
  show wpAny _ A.in1 (newTuple [a, b] >>= _) _ _ s
  refine wpAny_bind (wpAny_newObj_type ?_)
  refine wpAny_bind (wpAny_mono h (fun it s₂ h₂ => ?_) fun _ _ e => e)
  obtain ⟨I, fp, wr, G, n, P, St, H, bt, rfl, W, hst, hfp, hn, hw, hkeep, hcmp, hQ⟩ := h₂
  refine wpAny_bind (wpAny_newObj_type ?_)
  have hSf : s₂.heap.objs.size ∉ fp := fun hm => Nat.lt_irrefl _ (hfp _ hm)
  rw [hname]
  refine wpAny_pure ⟨plainId_quiet F.plain_min_loop _, codeAny_min_loop_firstH W H hw bt hcmp s₂.heap.objs.size hSf (fresh_in hkeep) _ hn (fun b o e => Heap.get?_push_of_some _ (hkeep b o e)) (W.frame 0 s₂ _ s₂.toks hst (Nat.le_refl _) fun b _ o e => Heap.get?_push_of_some _ e) (Heap.get?_push_size _ rfl) fun v s' hP hm => ?_⟩
  exact hQ v s' hP (Moved.drop_new (tk := s₂.toks) hm (Nat.le_refl _))
/-- min of two data -/
theorem min_two_data {prog : Program} {w : World} {A : Around} {E : Value → Shared → Prop} {s : Shared} {a b : Value} {x y : PyData} {as : List Addr} {Q : Value → Shared → Prop} (hh : A.handled = none) (hr : ReadsAll s.heap [a, b] [x, y] as) (ha : AlikeAll [x, y]) (hu : A.units + 1 + PyData.depthAll [x, y] < cLine)
    (h : ∀ (i : Nat) v h' tk bs, [a, b].toArray[i]? = some v → Reads h' v (minD x [y]) bs → (∀ b o, s.heap.get? b = some o → h'.get? b = some o) → Q v { s with heap := h', toks := tk }) :
    wpAny (model prog w) A (call (.builtin "min") [a, b]) Q E s := by
  have hT : (s.heap.push { cls := .type "tuple", data := .seq #[a, b] }).IsTuple s.heap.objs.size #[a, b] := ⟨_, Heap.get?_push_size _ rfl, rfl, 0, rfl⟩
  have k1 : ∀ b' o, s.heap.get? b' = some o → (s.heap.push { cls := .type "tuple", data := .seq #[a, b] }).get? b' = some o := fun b' o e => Heap.get?_push_of_some _ e
  have hr' : ReadsAll (s.heap.push { cls := .type "tuple", data := .seq #[a, b] }) [a, b] [x, y] as := PyProof.Rows.ReadsAll.keeps k1 hr
  refine call_min_twoH (iter_tupleW (s := { s with heap := s.heap.push { cls := .type "tuple", data := .seq #[a, b] } }) (A := A.in1) hh hT fun s₂ e W st hfp hw hk => ?_)
  refine ⟨_, _, _, _, _, _, _, s.heap.push { cls := .type "tuple", data := .seq #[a, b] }, _, rfl, W, st, hfp, by simp, hw, hk, cmpIn_lt (s := { s with heap := s.heap.push { cls := .type "tuple", data := .seq #[a, b] } }) (A := A.in1) hr' ha (by show A.units + 1 + _ < _; exact hu), fun v s' hP m => ?_⟩
  obtain ⟨h', tk, rfl, hk'⟩ := moved_old e rfl m
  obtain ⟨bs, r, _, _, _⟩ := readsAll_atA hr' _ v hP
  have e2 := (argBest_fold dataLt PyData.none x [y] 1 (Nat.le_refl _)).2
  rw [show List.take 1 [y] = [y] from rfl] at e2
  exact h _ v h' tk bs hP (reads_keeps hk' (by unfold minD; rw [← e2]; exact r)) fun b' o e => hk' b' o (k1 b' o e)
theorem call_max_twoH {prog : Program} {w : World} {A : Around} {E : Value → Shared → Prop} {s : Shared} {a b : Value} {Q : Value → Shared → Prop}
    (h : wpAny (model prog w) A.in1 (pyIter (.ref s.heap.objs.size)) (fun it s₂ => ∃ I fp wr G n P St H bt, it = .ref I ∧ WalksS prog w A.in1 I fp wr G n P St ∧ St 0 s₂ ∧ (∀ b ∈ fp, b < s₂.heap.objs.size) ∧ 0 < n ∧
      (∀ b o, H.get? b = some o → b ∉ wr) ∧ (∀ b o, H.get? b = some o → s₂.heap.get? b = some o) ∧ CmpIn prog w A.in1 .Gt H P bt ∧ ∀ v s', P (argBest bt (n - 1)) v → Moved wr G s₂ s' → Q v s') E
      { s with heap := s.heap.push { cls := .type "tuple", data := .seq #[a, b] } }) :
    wpAny (model prog w) A (call (.builtin "max") [a, b]) Q E s := by
  have hname : (toString "max" ++ toString ".loop" : String) = "max.loop" := by decide
  refine call_function_tree F.kind_max F.plain_max F.entry_max (F.args_max2 _ _) ?_
  show wpAny _ A.in1 (Builtin.Builtins.bindParams "max" ["key", "default"] 0 ⟨[], []⟩ >>= _) _ _ s
  refine wpAny_bind (wpAny_of_eq (show Builtin.Builtins.bindParams "max" ["key", "default"] 0 ⟨[], []⟩ = pure [none, none] from rfl) ?_)
  show wpAny _ A.in1 (newTuple [a, b] >>= _) _ _ s
  refine wpAny_bind (wpAny_newObj_type ?_)
  refine wpAny_bind (wpAny_mono h (fun it s₂ h₂ => ?_) fun _ _ e => e)
  obtain ⟨I, fp, wr, G, n, P, St, H, bt, rfl, W, hst, hfp, hn, hw, hkeep, hcmp, hQ⟩ := h₂
  refine wpAny_bind (wpAny_newObj_type ?_)
  have hSf : s₂.heap.objs.size ∉ fp := fun hm => Nat.lt_irrefl _ (hfp _ hm)
  rw [hname]
  refine wpAny_pure ⟨plainId_quiet F.plain_max_loop _, codeAny_max_loop_firstH W H hw bt hcmp s₂.heap.objs.size hSf (fresh_in hkeep) _ hn (fun b o e => Heap.get?_push_of_some _ (hkeep b o e)) (W.frame 0 s₂ _ s₂.toks hst (Nat.le_refl _) fun b _ o e => Heap.get?_push_of_some _ e) (Heap.get?_push_size _ rfl) fun v s' hP hm => ?_⟩
  exact hQ v s' hP (Moved.drop_new (tk := s₂.toks) hm (Nat.le_refl _))
/-- max of two data -/
theorem max_two_data {prog : Program} {w : World} {A : Around} {E : Value → Shared → Prop} {s : Shared} {a b : Value} {x y : PyData} {as : List Addr} {Q : Value → Shared → Prop} (hh : A.handled = none) (hr : ReadsAll s.heap [a, b] [x, y] as) (ha : AlikeAll [x, y]) (hu : A.units + 1 + PyData.depthAll [x, y] < cLine)
    (h : ∀ (i : Nat) v h' tk bs, [a, b].toArray[i]? = some v → Reads h' v (maxD x [y]) bs → (∀ b o, s.heap.get? b = some o → h'.get? b = some o) → Q v { s with heap := h', toks := tk }) :
    wpAny (model prog w) A (call (.builtin "max") [a, b]) Q E s := by
  have hT : (s.heap.push { cls := .type "tuple", data := .seq #[a, b] }).IsTuple s.heap.objs.size #[a, b] := ⟨_, Heap.get?_push_size _ rfl, rfl, 0, rfl⟩
  have k1 : ∀ b' o, s.heap.get? b' = some o → (s.heap.push { cls := .type "tuple", data := .seq #[a, b] }).get? b' = some o := fun b' o e => Heap.get?_push_of_some _ e
  have hr' : ReadsAll (s.heap.push { cls := .type "tuple", data := .seq #[a, b] }) [a, b] [x, y] as := PyProof.Rows.ReadsAll.keeps k1 hr
  refine call_max_twoH (iter_tupleW (s := { s with heap := s.heap.push { cls := .type "tuple", data := .seq #[a, b] } }) (A := A.in1) hh hT fun s₂ e W st hfp hw hk => ?_)
  refine ⟨_, _, _, _, _, _, _, s.heap.push { cls := .type "tuple", data := .seq #[a, b] }, _, rfl, W, st, hfp, by simp, hw, hk, cmpIn_gt (s := { s with heap := s.heap.push { cls := .type "tuple", data := .seq #[a, b] } }) (A := A.in1) hr' ha (by show A.units + 1 + _ < _; exact hu), fun v s' hP m => ?_⟩
  obtain ⟨h', tk, rfl, hk'⟩ := moved_old e rfl m
  obtain ⟨bs, r, _, _, _⟩ := readsAll_atA hr' _ v hP
  have e2 := (argBest_fold (fun a b => dataLt b a) PyData.none x [y] 1 (Nat.le_refl _)).2
  rw [show List.take 1 [y] = [y] from rfl] at e2
  exact h _ v h' tk bs hP (reads_keeps hk' (by unfold maxD; rw [← e2]; exact r)) fun b' o e => hk' b' o (k1 b' o e)
def isLst : D → Bool
  | .lst _ => true
  | _ => false
def bMin2D : List D → Option D
  | [x, y] => if (dataOk [x, y] && !isLst x && !isLst y) = true then some (minDD x [y]) else none
  | _ => none
def bMax2D : List D → Option D
  | [x, y] => if (dataOk [x, y] && !isLst x && !isLst y) = true then some (maxDD x [y]) else none
  | _ => none
section
variable [Tb] {X : Cx}
theorem Pk0.noL [Tb] {K : PySem.W.Frag} {Z : Addr → Prop} {H : Hp} {a : D} {x : V} (h : Pk0 K Z H a x) (n : isLst a = false) : RSh K Z H a x := by
  rcases h with h | ⟨l, _, _, rfl, _⟩
  · exact h
  · cases n
theorem two_item {pins : List (Addr × Obj)} {σ : St} {H : Hp} {s : Shared} {Z : Addr → Prop} {x y d : D} {v1 v2 : V} {u1 u2 v : Value} {h' : Heap} {bs : List Addr} (I : Inv X pins σ H s) (ho : D.okL 58 [x, y] = true) (p1 : RSh X.K Z H x v1) (p2 : RSh X.K Z H y v2) (r1 : RelV v1 u1) (r2 : RelV v2 u2) (hd : d ∈ [x, y]) {i : Nat} (hi : [u1, u2].toArray[i]? = some v) (hr : Reads h' v d.py bs) (hk : ∀ b o, s.heap.get? b = some o → h'.get? b = some o) :
    ∃ z, RSh X.K Z H d z ∧ RelV z v := by
  have key : ∀ e z, RSh X.K Z H e z → RelV z v → e ∈ [x, y] → e = d := fun e z pe re he => by
    obtain ⟨as, rr⟩ := Dp.reads I _ z v (RSh.dp 58 e z (okL_mem ho e he) pe) re
    have := (Reads.unique (reads_keeps hk rr) d.py bs hr).1
    exact py_inj 58 58 e d (okL_mem ho e he) (okL_mem ho d hd) this
  match i, hi with
  | 0, hi =>
    have e : u1 = v := by simpa using hi
    subst e
    rw [← key x v1 p1 r1 (by simp)]
    exact ⟨v1, p1, r1⟩
  | 1, hi =>
    have e : u2 = v := by simpa using hi
    subst e
    rw [← key y v2 p2 r2 (by simp)]
    exact ⟨v2, p2, r2⟩
  | n + 2, hi => simp at hi
theorem c_min2D (hr : X.calm = true) (hu : X.A.units + 65 < cLine) : CallR X (.builtin "min") (rFn X.K bMin2D) := by
  intro pins s σ H xs us Q I r h
  obtain ⟨Z, ds, d, pl, e, k⟩ := h
  unfold bMin2D at e
  split at e
  · rename_i x y
    split at e
    · rename_i ho
      cases e
      simp only [Bool.and_eq_true, Bool.not_eq_true'] at ho
      obtain ⟨⟨ho, n1⟩, n2⟩ := ho
      obtain ⟨v1, v2, rfl, q1, q2⟩ := pl.two
      have p1 := q1.noL n1
      have p2 := q2.noL n2
      obtain ⟨u1, u2, rfl, r1, r2⟩ := vals2 r
      have ho1 : D.okL 58 [x, y] = true := by simp only [dataOk, Bool.and_eq_true] at ho; exact ho.1.1
      have dp : DpAll X.K H [v1, v2] (D.pyL [x, y]) := RShL.dp (Z := Z) 58 _ _ ho1 (by simp only [RShL]; exact ⟨v1, _, rfl, p1, v2, _, rfl, p2, rfl⟩)
      obtain ⟨as, ra⟩ := Dp.readsAll I _ _ [u1, u2] dp r
      refine min_two_data (I.ok.hd hr) ra (dataOk_alike ho) (by have := depthAll_le ho1; simp only [D.pyL] at this; omega) fun i v h' tk bs hi rd hk => ?_
      rw [show minD x.py [y.py] = minD x.py (D.pyL [y]) by simp [D.pyL], ← minDD_py] at rd
      obtain ⟨z, h1, h2⟩ := two_item I ho1 p1 p2 r1 r2 (minDD_mem [y] x) hi rd hk
      exact ⟨z, H, I.kept hk, h2, fin0 h1 k⟩
    · cases e
  · cases e
theorem c_max2D (hr : X.calm = true) (hu : X.A.units + 65 < cLine) : CallR X (.builtin "max") (rFn X.K bMax2D) := by
  intro pins s σ H xs us Q I r h
  obtain ⟨Z, ds, d, pl, e, k⟩ := h
  unfold bMax2D at e
  split at e
  · rename_i x y
    split at e
    · rename_i ho
      cases e
      simp only [Bool.and_eq_true, Bool.not_eq_true'] at ho
      obtain ⟨⟨ho, n1⟩, n2⟩ := ho
      obtain ⟨v1, v2, rfl, q1, q2⟩ := pl.two
      have p1 := q1.noL n1
      have p2 := q2.noL n2
      obtain ⟨u1, u2, rfl, r1, r2⟩ := vals2 r
      have ho1 : D.okL 58 [x, y] = true := by simp only [dataOk, Bool.and_eq_true] at ho; exact ho.1.1
      have dp : DpAll X.K H [v1, v2] (D.pyL [x, y]) := RShL.dp (Z := Z) 58 _ _ ho1 (by simp only [RShL]; exact ⟨v1, _, rfl, p1, v2, _, rfl, p2, rfl⟩)
      obtain ⟨as, ra⟩ := Dp.readsAll I _ _ [u1, u2] dp r
      refine max_two_data (I.ok.hd hr) ra (dataOk_alike ho) (by have := depthAll_le ho1; simp only [D.pyL] at this; omega) fun i v h' tk bs hi rd hk => ?_
      rw [show maxD x.py [y.py] = maxD x.py (D.pyL [y]) by simp [D.pyL], ← maxDD_py] at rd
      obtain ⟨z, h1, h2⟩ := two_item I ho1 p1 p2 r1 r2 (maxDD_mem [y] x) hi rd hk
      exact ⟨z, H, I.kept hk, h2, fin0 h1 k⟩
    · cases e
  · cases e
end
def sortB (l : List D) : Bool := (l.all fun d => match d with | .tup (_ :: _) => true | _ => false) || l.all fun d => match d with | .tup _ => false | _ => true
def leD (a b : D) : Bool := dataLe false D.py a b
def sortDD : List D → Option (List D)
  | [.lst l] => if (dataOk l && sortB l) = true then some (l.mergeSort leD) else none
  | _ => none
theorem sortB_is {l : List D} (ho : D.okL 58 l = true) (hn : ∀ d ∈ l, d.isNon = false) (h : sortB l = true) : Sortable (l.map D.py) := by
  simp only [sortB, Bool.or_eq_true, List.all_eq_true] at h
  rcases h with h | h
  · refine .inl fun d hd => ?_
    obtain ⟨e, he, rfl⟩ := List.mem_map.mp hd
    have := h e he
    cases e with
    | tup l =>
      cases l with
      | nil => cases this
      | cons x r => exact ⟨x.py, D.pyL r, by simp [D.py, D.pyL]⟩
    | _ => cases this
  · refine .inr fun d hd => ?_
    obtain ⟨e, he, rfl⟩ := List.mem_map.mp hd
    refine ⟨py_none (okB_up (by decide) (okL_mem ho e he)) (hn e he), fun xs hx => ?_⟩
    have := h e he
    cases e with
    | tup l => cases this
    | dct _ _ => have := okL_mem ho _ he; simp [D.okB] at this
    | kdc _ _ => have := okL_mem ho _ he; simp [D.okB] at this
    | ins _ _ _ => have := okL_mem ho _ he; simp [D.okB] at this
    | _ => simp [D.py] at hx
section
variable [Tb] {X : Cx} {pins : List (Addr × Obj)} {σ : St} {H : Hp} {s : Shared} {Z : Addr → Prop}
theorem each_of : ∀ {l : List D} {ys : List V} {its : List Value}, RShL X.K Z H l ys → Vals ys its → EachIs (fun v d => ∃ y, RSh X.K Z H d y ∧ RelV y v) its l
  | [], ys, its, h, r => by
    simp only [RShL] at h; subst h
    cases r
    exact .nil
  | d :: l, ys, its, h, r => by
    simp only [RShL] at h
    obtain ⟨y, ys', rfl, h1, h2⟩ := h
    cases r with
    | cons r1 r2 => exact .cons ⟨y, h1, r1⟩ (each_of h2 r2)
theorem of_each : ∀ {l : List D} {its : List Value}, EachIs (fun v d => ∃ y, RSh X.K Z H d y ∧ RelV y v) its l → ∃ ys, RShL X.K Z H l ys ∧ Vals ys its
  | [], _, .nil => ⟨[], by simp only [RShL], .nil⟩
  | d :: l, _, .cons ⟨y, h1, h2⟩ t => by
    obtain ⟨ys, a, b⟩ := of_each t
    exact ⟨y :: ys, by simp only [RShL]; exact ⟨y, ys, rfl, h1, a⟩, .cons h2 b⟩
theorem each_reads (I : Inv X pins σ H s) : ∀ {l : List D} {its : List Value}, D.okL 58 l = true → EachIs (fun v d => ∃ y, RSh X.K Z H d y ∧ RelV y v) its l → EachIs (fun v d => ∃ as, Reads s.heap v (D.py d) as) its l
  | [], _, _, .nil => .nil
  | d :: l, _, ho, .cons ⟨y, h1, h2⟩ t => by
    simp only [D.okL, Bool.and_eq_true] at ho
    exact .cons (Dp.reads I _ y _ (RSh.dp 58 d y ho.1 h1) h2) (each_reads I ho.2 t)
theorem c_sortedD (hr : X.calm = true) (hu : X.A.units + 65 < cLine) : CallR X (.builtin "sorted") (rLn X.K sortDD) := by
  intro pins s σ H xs us Q I r h
  obtain ⟨Z, ds, l, pl, e, k⟩ := h
  unfold sortDD at e
  split at e
  · rename_i l0
    split at e
    · rename_i ho
      cases e
      simp only [Bool.and_eq_true] at ho
      obtain ⟨ho, hs⟩ := ho
      have ho1 : D.okL 58 l0 = true := by simp only [dataOk, Bool.and_eq_true] at ho; exact ho.1.1
      have hn : ∀ d ∈ l0, d.isNon = false := by
        simp only [dataOk, Bool.and_eq_true, List.all_eq_true, Bool.not_eq_true'] at ho
        exact ho.2
      have hal : AllAlike (l0.map D.py) := by
        have := (dataOk_alike ho).1
        rw [pyL_map] at this
        exact this
      obtain ⟨v, rfl, p⟩ := pl.one
      obtain ⟨a, ys, rfl, s1, l1⟩ := p.lst
      rw [Vals.ref1 r]
      obtain ⟨its, rv, hT, hz⟩ := I.list (SqL.of s1)
      have ea := each_of l1 rv
      have hlen : l0.length ≤ sizeLine := by rw [l1.len]; exact hz
      refine sorted_data hT.isList ea (each_reads I ho1 ea) hal (sortB_is ho1 hn hs) hlen (fun b hb => ?_) fun out hol eo => ?_
      · have := (ok_lay 58 b (okL_mem ho1 b hb)).2
        omega
      · obtain ⟨ys', r1, r2⟩ := of_each eo
        obtain ⟨ep, he'⟩ := PyProof.Rows.sortedAll_at s.heap its out.toArray
        have hl' : ys'.length ≤ sizeLine := by
          have h1 := r2.length
          rw [h1, hol]; exact hlen
        refine ⟨.ref _, upd H (s.heap.objs.size + 1) (.lst ys'), I.laid (t' := s.toks) (fun _ _ => PyProof.Rows.sortedAll_old) (Nat.le_succ _) ⟨hl', out, ep, r2, he'⟩, rfl, k _ ys' (I.hok.fresh (Nat.le_succ _)) r1⟩
    · cases e
  · cases e
end
end CL
namespace CL
open PySem PySem.Spec L2 PySem.W PyProof.Rows
set_option autoImplicit false
def tIs (ns : List Int) : D := .tup (ns.map .int)
def tupI : D → Option (List Int)
  | .tup l => intsOf l
  | _ => none
def allI : List D → Option (List (List Int))
  | [] => some []
  | d :: l => (tupI d).bind fun a => (allI l).map (a :: ·)
def ltI (a b : List Int) : Bool := dataLt (.tuple (a.map .int)) (.tuple (b.map .int))
def leI (a b : List Int) : Bool := !ltI b a
def sortSet (L : List (List Int)) : List (List Int) := L.eraseDups.mergeSort leI
theorem ltI_is (a b : List Int) : ltI a b = decide (a < b) := by
  have := dataLt_ints a b
  unfold ltI
  rw [dataLt_tuple]
  exact this
theorem leI_total : TotalLe leI where
  total := fun a b => by
    simp only [leI, ltI_is]
    rcases Decidable.em (b < a) with h | h
    · right; simp; exact List.le_of_lt h
    · left; simpa using h
  trans := fun a b c h1 h2 => by
    simp only [leI, ltI_is, Bool.not_eq_true', decide_eq_false_iff_not] at *
    have h1' : a ≤ b := List.not_lt.mp h1
    have h2' : b ≤ c := List.not_lt.mp h2
    exact List.not_lt.mpr (List.le_trans h1' h2')
theorem leI_anti {a b : List Int} (h1 : leI a b = true) (h2 : leI b a = true) : a = b := by
  simp only [leI, ltI_is, Bool.not_eq_true', decide_eq_false_iff_not] at *
  exact List.le_antisymm (List.not_lt.mp h1) (List.not_lt.mp h2)
theorem intsOf_eq : ∀ {l : List D} {ns : List Int}, intsOf l = some ns → l = ns.map .int
  | [], ns, h => by simp only [intsOf] at h; cases h; rfl
  | d :: l, ns, h => by
    cases d with
    | int i =>
      simp only [intsOf] at h
      obtain ⟨m, h1, rfl⟩ := Option.map_eq_some_iff.mp h
      rw [intsOf_eq h1]; rfl
    | _ => simp [intsOf] at h
theorem allI_eq : ∀ {l : List D} {L : List (List Int)}, allI l = some L → l = L.map tIs
  | [], L, h => by simp only [allI] at h; cases h; rfl
  | d :: l, L, h => by
    simp only [allI] at h
    obtain ⟨a, h1, h2⟩ := Option.bind_eq_some_iff.mp h
    obtain ⟨m, h3, rfl⟩ := Option.map_eq_some_iff.mp h2
    cases d with
    | tup t =>
      simp only [tupI] at h1
      rw [allI_eq h3, intsOf_eq h1]; rfl
    | _ => simp [tupI] at h1
theorem eraseDups_nodup : ∀ {α : Type} [BEq α] [LawfulBEq α] (l : List α), l.eraseDups.Nodup := by
  intro α _ _ l
  induction h : l.length using Nat.strongRecOn generalizing l with
  | _ n ih =>
    cases l with
    | nil => simp
    | cons a l =>
      rw [List.eraseDups_cons]
      refine List.nodup_cons.mpr ⟨?_, ih _ ?_ _ rfl⟩
      · rw [List.mem_eraseDups]
        simp
      · have := List.length_filter_le (fun b => !b == a) l
        simp at h
        omega
/-- what is sorted, with no two alike and the same members, is the sorted set -/
theorem sortSet_is {L M : List (List Int)} (h1 : M.Nodup) (h2 : ∀ a, a ∈ M ↔ a ∈ L) (h3 : M.Pairwise fun a b => leI a b = true) : M = sortSet L := by
  have p : M.Perm L.eraseDups := (List.perm_ext_iff_of_nodup h1 (eraseDups_nodup L)).mpr fun a => by rw [h2, List.mem_eraseDups]
  have s : (sortSet L).Pairwise fun a b => leI a b = true := sort_pairwise leI_total _
  exact List.Perm.eq_of_pairwise (fun a b _ _ => leI_anti) h3 s (p.trans (List.mergeSort_perm _ _).symm)
section
variable {P : Program} {w : World} {A : Around} {E : Value → Shared → Prop} {s : Shared}
end
section
variable [Tb] {X : Cx}
theorem refs_of {Z : Addr → Prop} {H : Hp} : ∀ {L : List (List Int)} {ys : List V}, RShL X.K Z H (L.map tIs) ys → ∃ ks : List (Addr × List Int), ys = ks.map (fun p => V.ref p.1) ∧ ks.map (·.2) = L ∧ ∀ p ∈ ks, SqT X.K H p.1 (p.2.map V.int)
  | [], ys, h => by simp only [List.map_nil, RShL] at h; subst h; exact ⟨[], rfl, rfl, fun _ z => by cases z⟩
  | a :: L, ys, h => by
    simp only [List.map_cons, RShL] at h
    obtain ⟨y, ys', rfl, h1, h2⟩ := h
    obtain ⟨ks, e1, e2, e3⟩ := refs_of h2
    simp only [tIs, RSh] at h1
    obtain ⟨b, xs, rfl, hs, hr⟩ := h1
    have : xs = a.map V.int := by
      have := ints_of (l := a.map D.int) (ns := a) (by rw [intsOf_map]) hr
      exact this
    subst this
    refine ⟨(b, a) :: ks, by simp [e1], by simp [e2], fun p hp => ?_⟩
    rcases List.mem_cons.mp hp with rfl | hp
    · exact hs
    · exact e3 p hp
theorem rel_refs {Z : Addr → Prop} {H : Hp} : ∀ {ks : List (Addr × List Int)}, (∀ p ∈ ks, SqT X.K H p.1 (p.2.map V.int)) → RShL X.K Z H ((ks.map (·.2)).map tIs) (ks.map fun p => V.ref p.1)
  | [], _ => by simp only [List.map_nil, RShL]
  | p :: ks, h => by
    simp only [List.map_cons, RShL]
    refine ⟨_, _, rfl, ?_, rel_refs fun q hq => h q (List.mem_cons_of_mem _ hq)⟩
    simp only [tIs, RSh]
    exact ⟨p.1, _, rfl, h p List.mem_cons_self, ints_rel _⟩
end
end CL
namespace CLG
structure Sp where
  n : Int
  m : Int
  d : Int
deriving DecidableEq
def g3 (n m d : Int) : Nat := Int.gcd (Int.gcd n m) d
def low (n m d : Int) : Sp := ⟨n / g3 n m d, m / g3 n m d, d / g3 n m d⟩
def turn (a b c d : Int) : Int := a * d - b * c
structure Li where
  x : Int
  y : Int
  u : Int
  v : Int
deriving DecidableEq
namespace Li
variable (p q : Li)
def ok : Prop := ¬ (p.x = p.u ∧ p.y = p.v)
def k : Int := turn (q.x - p.x) (q.y - p.y) (q.u - q.x) (q.v - q.y)
def l : Int := turn (q.x - p.x) (q.y - p.y) (p.u - p.x) (p.v - p.y)
def m : Int := turn (p.u - p.x) (p.v - p.y) (q.u - q.x) (q.v - q.y)
def far : Int := turn (p.u - p.x) (p.v - p.y) (q.x - p.x) (q.y - p.y)
end Li
def sg (m : Int) : Int := if m < 0 then -1 else 1
structure Pn where
  x : Int
  y : Int
deriving DecidableEq
def Pn.lt (a b : Pn) : Bool := decide (a.x < b.x) || (decide (a.x = b.x) && decide (a.y < b.y))
theorem Pn.lt_iff {a b : Pn} : a.lt b = true ↔ a.x < b.x ∨ (a.x = b.x ∧ a.y < b.y) := by simp [Pn.lt]
theorem Pn.nlt_iff {a b : Pn} : a.lt b = false ↔ b.x < a.x ∨ (a.x = b.x ∧ b.y ≤ a.y) := by
  rw [← Bool.not_eq_true, Pn.lt_iff]; omega
theorem Pn.eq_of {a b : Pn} (h1 : a.lt b = false) (h2 : b.lt a = false) : a = b := by
  rw [Pn.nlt_iff] at h1 h2
  cases a; cases b; simp at *; omega
def pmin (a b : Pn) : Pn := if b.lt a then b else a
def pmax (a b : Pn) : Pn := if a.lt b then b else a
theorem pmin_comm (a b : Pn) : pmin a b = pmin b a := by
  unfold pmin
  cases h1 : b.lt a <;> cases h2 : a.lt b <;> simp
  · exact Pn.eq_of h2 h1
  · rw [Pn.lt_iff] at h1 h2; omega
theorem pmax_comm (a b : Pn) : pmax a b = pmax b a := by
  unfold pmax
  cases h1 : b.lt a <;> cases h2 : a.lt b <;> simp
  · exact Pn.eq_of h2 h1
  · rw [Pn.lt_iff] at h1 h2; omega
namespace Li
variable (p q : Li)
def a : Pn := ⟨p.x, p.y⟩
def b : Pn := ⟨p.u, p.v⟩
def lo : Pn := pmin p.a p.b
def hi : Pn := pmax p.a p.b
def along : List Sp :=
  if (pmin p.hi q.hi).lt (pmax p.lo q.lo) then []
  else if pmax p.lo q.lo = pmin p.hi q.hi then [⟨(pmax p.lo q.lo).x, (pmax p.lo q.lo).y, 1⟩]
  else [⟨(pmax p.lo q.lo).x, (pmax p.lo q.lo).y, 1⟩, ⟨(pmin p.hi q.hi).x, (pmin p.hi q.hi).y, 1⟩]
def meetB : Bool := decide (0 ≤ sg (p.m q) * p.k q ∧ sg (p.m q) * p.k q ≤ sg (p.m q) * p.m q) && decide (0 ≤ sg (p.m q) * p.l q ∧ sg (p.m q) * p.l q ≤ sg (p.m q) * p.m q)
def spot : Sp := low (p.x * (sg (p.m q) * p.m q) + sg (p.m q) * p.k q * (p.u - p.x)) (p.y * (sg (p.m q) * p.m q) + sg (p.m q) * p.k q * (p.v - p.y)) (sg (p.m q) * p.m q)
/-- what two lines have in common -/
def common : List Sp := if p.m q = 0 then (if p.far q = 0 then p.along q else []) else if p.meetB q then [p.spot q] else []
end Li
end CLG
namespace CL
theorem tup_pt {a b : Int} {P : D → Prop} (k : P (pt a b)) : ∃ d, bTup [.int a, .int b] = some d ∧ P d := ⟨_, rfl, k⟩
end CL
namespace CLX
open PySem PySem.Spec L2 CL CLG
open PySem.W (dataLt dataLt_ii alike alikeAll)
def spD (s : CLG.Sp) : D := .tup [.int s.n, .int s.m, .int s.d]
def lnD (p : Li) : D := ln p.x p.y p.u p.v
/-- numbers not too great -/
structure Sml (p : Li) : Prop where
  x : p.x.natAbs ≤ 10000000
  y : p.y.natAbs ≤ 10000000
  u : p.u.natAbs ≤ 10000000
  v : p.v.natAbs ≤ 10000000
local macro_rules | `(tactic| walk_at "o") => `(tactic| ((try simp only [backA, List.set_cons_zero, List.set_cons_succ, wipeD, List.map_cons, List.map_nil, List.cons_append, List.nil_append, List.replicate_succ, List.replicate_zero]); first | done | rfl))
local macro_rules | `(tactic| walk_at "b") => `(tactic| first
  | with_reducible exact Nb.lit
  | ((with_reducible apply Nb.mul) <;> walk_at "b")
  | ((with_reducible apply Nb.add) <;> walk_at "b")
  | ((with_reducible apply Nb.sub) <;> walk_at "b")
  | ((with_reducible apply Nb.neg) <;> walk_at "b")
  | ((with_reducible apply Nb.fdiv) <;> walk_at "b")
  | ((with_reducible apply Nb.fmod); (· walk_at "z"); (· walk_at "b"))
  | ((with_reducible apply Nb.max) <;> walk_at "b")
  | ((with_reducible apply Nb.min) <;> walk_at "b")
  | ((with_reducible apply Nb.ite) <;> walk_at "b")
  | with_reducible assumption
  | with_reducible exact Nb.le (by assumption)
  | with_reducible exact Nb.nle (by assumption)
  | with_reducible exact Nb.lt (by assumption)
  | ((with_reducible apply Nb.rng (by assumption) (by assumption)) <;> walk_at "b")
  | ((with_reducible apply Nb.rngE (by assumption) (by assumption)) <;> walk_at "b")
  | with_reducible exact Nb.self _)
local macro_rules | `(tactic| walk_at "z") => `(tactic| first | decide | assumption | omega | exact fmod_nn (by omega) | exact fmod_lt (by omega))
local macro_rules | `(tactic| walk_at "e") => `(tactic| first
  | ((with_reducible refine is_ev ?_); first
    | ((with_reducible apply mul_st); (· walk_at "b"); (· walk_at "b"); (· rfl))
    | ((with_reducible apply mul_s1); (· walk_at "b"); (· rfl))
    | ((with_reducible apply mul_s2); (· walk_at "b"); (· rfl))
    | ((with_reducible apply div_st); (· walk_at "z"); (· walk_at "b"); (· rfl))
    | ((with_reducible apply mod_st); (· walk_at "z"))
    | with_reducible apply tup_pt
    | with_reducible apply tup_ln
    | ((with_reducible apply tup_st); (· rfl))
    | ((with_reducible apply lst_st); (· rfl))
    | with_reducible apply eqi_st
    | with_reducible apply nei_st
    | with_reducible apply eqp_st
    | with_reducible apply nep_st
    | with_reducible apply eqp_st'
    | with_reducible apply nep_st'
    | with_reducible apply eqb_st
    | with_reducible apply neb_st
    | with_reducible apply isb_st
    | with_reducible apply eqs_st
    | with_reducible apply nes_st
    | with_reducible refine ix2bi (fun _ _ _ => ?_)
    | ((with_reducible refine ix4i ?_ ?_ (fun _ _ _ => ?_)); (· walk_at "z"); (· walk_at "z"))
    | ((with_reducible refine ix2i ?_ ?_ (fun _ _ _ => ?_)); (· walk_at "z"); (· walk_at "z"))
    | ((with_reducible refine ix3i ?_ ?_ (fun _ _ _ => ?_)); (· walk_at "z"); (· walk_at "z"))
    | refine ⟨_, rfl, ?_⟩)
  | ((with_reducible refine fill_st ?_); refine ⟨_, rfl, ?_⟩; (try dsimp only))
  | ((with_reducible apply and_go rfl); (· (intro _; (repeat walk_at "s"); with_reducible exact ⟨rfl, rfl⟩)))
  | ((with_reducible refine is_chain ?_); (apply chain_go rfl); (· (intro _; (repeat walk_at "s"); exact ⟨rfl, rfl⟩)))
  | ((with_reducible refine draw_step (by assumption) ?_ ?_ (fun _ _ _ _ _ => ?_)); (· walk_at "z"); (· walk_at "z"))
  | ((with_reducible refine CLY.draw_step (by assumption) ?_ ?_ (fun _ _ _ _ _ => ?_)); (· walk_at "z"); (· walk_at "z"))
  | ((with_reducible refine is_evA ?_); refine ⟨_, rfl, ?_⟩)
  | ((with_reducible refine is_evL ?_); refine ⟨_, rfl, ?_⟩)
  | ((with_reducible refine is_evI ?_); refine ⟨_, rfl, ?_⟩)
  | ((with_reducible refine is_evR ?_); refine ⟨_, rfl, ?_⟩))
local macro_rules | `(tactic| walk_at "f") => `(tactic| first
  | with_reducible refine W_mV.mpr ?_
  | with_reducible refine W_mCons.mpr ?_
  | with_reducible refine W_m2.mpr ?_
  | with_reducible refine W_mC.mpr ?_
  | with_reducible refine W_mNil.mpr ?_
  | with_reducible refine W_mN.mpr ?_
  | with_reducible refine W_sSeq.mpr ?_
  | with_reducible refine W_sAsg.mpr ?_
  | with_reducible refine W_m1.mpr ?_
  | with_reducible refine W_mCallP.mpr ?_
  | with_reducible refine W_mCall.mpr ?_
  | with_reducible refine X_evI.mpr ?_
  | with_reducible refine X_evE.mpr ?_
  | with_reducible refine X_evN.mpr ?_
  | with_reducible refine X_if ?_
  | with_reducible refine W_sRet.mpr ?_
  | with_reducible refine W_sK.mpr ?_
  | with_reducible refine X_and ?_
  | with_reducible refine X_or ?_
  | with_reducible refine W_sPar.mpr ?_
  | with_reducible refine W_mSl.mpr ?_
  | with_reducible refine W_mPtN.mpr ?_
  | with_reducible refine W_mPtS.mpr ?_
  | with_reducible refine W_mIt.mpr ?_
  | with_reducible refine W_mItN.mpr ?_
  | with_reducible refine W_mComp.mpr ?_
  | ((with_reducible refine is_comp ?_); first | (apply X_compN; (· walk_at "o")) | ((with_reducible apply X_compY); (· walk_at "o"); (· rfl)))
  | with_reducible refine W_sFor.mpr ?_
  | ((with_reducible refine is_for ?_); refine W_forNil.mpr ?_)
  | with_reducible refine X_chain ?_
  | with_reducible refine W_sExp.mpr ?_
  | with_reducible refine W_mL.mpr ?_
  | with_reducible refine X_mif ?_
  | with_reducible refine W_mIxS.mpr ?_
  | with_reducible refine W_mYes.mpr ?_
  | with_reducible refine W_sPar3.mpr ?_
  | with_reducible refine W_mApp.mpr ?_
  | with_reducible refine W_mBor.mpr ?_
  | with_reducible refine CLX.W_sFz.mpr ?_)
local macro_rules | `(tactic| walk_at "s") => `(tactic| first
  | ((with_reducible refine is_W ?_); walk_at "f")
  | ((with_reducible refine is_ex ?_); first
    | ((with_reducible refine is_evS ?_); refine ⟨_, rfl, ?_⟩)
    | ((with_reducible apply call_st); (· with_reducible assumption))
    | walk_at "e")
  | ((with_reducible apply X_nx); (· walk_at "o"))
  | with_reducible refine Kq_ret.mpr ?_
  | with_reducible refine Kq_brk.mpr ?_
  | with_reducible refine Kq_cnt.mpr ?_
  | ((with_reducible apply X_fnx); (· walk_at "o"))
  | ((with_reducible apply X_fcnt); (· walk_at "o"))
  | with_reducible refine X_fbrk ?_
  | with_reducible refine X_fret ?_
  | ((with_reducible refine is_ltA ?_); refine ⟨?_, ?_⟩; (· first | decide | omega | (simp; omega) | (simp; done)))
  | with_reducible refine parW_mk.mpr ?_
  | with_reducible refine par3W_mk.mpr ?_)
local macro_rules | `(tactic| walk_at "r") => `(tactic| repeat walk_at "s")
local macro_rules | `(tactic| walk_at "u") => `(tactic| first | ((apply X_forC); (· walk_at "o"); (· rfl)) | ((apply X_compY); (· walk_at "o"); (· rfl)) | ((apply X_compC); (· walk_at "o"); (· rfl)))
theorem sub8 {a b : Int} (ha : a.natAbs ≤ 10000000) (hb : b.natAbs ≤ 10000000) : (a - b).natAbs ≤ 100000000 := by omega
theorem turn_bd {a b c d : Int} (ha : a.natAbs ≤ 100000000) (hb : b.natAbs ≤ 100000000) (hc : c.natAbs ≤ 100000000) (hd : d.natAbs ≤ 100000000) : (turn a b c d).natAbs ≤ 20000000000000000 := by
  have h1 : (a * d).natAbs ≤ 100000000 * 100000000 := by rw [Int.natAbs_mul]; exact Nat.mul_le_mul ha hd
  have h2 : (b * c).natAbs ≤ 100000000 * 100000000 := by rw [Int.natAbs_mul]; exact Nat.mul_le_mul hb hc
  unfold turn
  omega
theorem m_bd {p q : Li} (hp : Sml p) (hq : Sml q) : (sg (p.m q) * p.m q).natAbs ≤ 20000000000000000 ∧ (sg (p.m q) * p.k q).natAbs ≤ 20000000000000000 ∧ (sg (p.m q) * p.l q).natAbs ≤ 20000000000000000 := by
  have s : ∀ a z : Int, (sg a * z).natAbs = z.natAbs := fun a z => by unfold sg; split <;> simp
  rw [s, s, s]
  exact ⟨turn_bd (sub8 hp.u hp.x) (sub8 hp.v hp.y) (sub8 hq.u hq.x) (sub8 hq.v hq.y), turn_bd (sub8 hq.x hp.x) (sub8 hq.y hp.y) (sub8 hq.u hq.x) (sub8 hq.v hq.y), turn_bd (sub8 hq.x hp.x) (sub8 hq.y hp.y) (sub8 hp.u hp.x) (sub8 hp.v hp.y)⟩
theorem lt_pt {a b : Pn} : dataLt (pt a.x a.y).py (pt b.x b.y).py = a.lt b := by
  simp only [pt, D.py, D.pyL, dataLt_ii, Pn.lt]
  by_cases h1 : a.x < b.x <;> by_cases h2 : a.x = b.x <;> by_cases h3 : a.y < b.y <;> simp [h1, h2, h3]
def pnD (a : Pn) : D := pt a.x a.y
theorem dok2 {a b : Pn} : dataOk [pnD a, pnD b] = true := by
  simp [dataOk, pnD, pt, D.okL, D.okB, D.py, D.pyL, alike, alikeAll, D.isNon]
theorem min2_is {a b : Pn} : minDD (pnD a) [pnD b] = pnD (pmin a b) := by
  simp only [minDD, List.foldl_cons, List.foldl_nil, pnD, lt_pt]
  unfold pmin
  split <;> rfl
theorem max2_is {a b : Pn} : maxDD (pnD a) [pnD b] = pnD (pmax a b) := by
  simp only [maxDD, List.foldl_cons, List.foldl_nil, pnD, lt_pt]
  unfold pmax
  split <;> rfl
theorem min_two {a b : Pn} {P : D → Prop} (k : P (pnD (pmin a b))) : ∃ d, bMin2D [pnD a, pnD b] = some d ∧ P d := ⟨_, by
  show (if (dataOk [pnD a, pnD b] && !isLst (pnD a) && !isLst (pnD b)) = true then some (minDD (pnD a) [pnD b]) else none) = _
  rw [if_pos (by rw [dok2]; rfl), min2_is], k⟩
theorem max_two {a b : Pn} {P : D → Prop} (k : P (pnD (pmax a b))) : ∃ d, bMax2D [pnD a, pnD b] = some d ∧ P d := ⟨_, by
  show (if (dataOk [pnD a, pnD b] && !isLst (pnD a) && !isLst (pnD b)) = true then some (maxDD (pnD a) [pnD b]) else none) = _
  rw [if_pos (by rw [dok2]; rfl), max2_is], k⟩
theorem cok {a b : Pn} : cmpOk (pnD a) (pnD b) = true := by simp [cmpOk, pnD, pt, D.okB, D.okL, D.py, D.pyL, alike, alikeAll, D.isNon]
theorem le_st {a b : Pn} {P : D → Prop} (k : P (.bl (!b.lt a))) : ∃ d, bLeD (pnD a) (pnD b) = some d ∧ P d := ⟨_, by
  unfold bLeD; rw [if_pos cok]; unfold pnD; rw [lt_pt], k⟩
theorem eqn_st {a b : Pn} {P : D → Prop} (k : P (.bl (decide (a = b)))) : ∃ d, bEq (pnD a) (pnD b) = some d ∧ P d := ⟨_, by
  unfold pnD
  rw [eq_pt]
  congr 2
  exact decide_eq_decide.mpr (by cases a; cases b; simp), k⟩
theorem add1_st {a : Pn} {P : D → Prop} (k : P (spD ⟨a.x, a.y, 1⟩)) : ∃ d, bAdd (pnD a) (.tup [.int 1]) = some d ∧ P d := ⟨_, rfl, k⟩
end CLX
namespace CLX
open PySem PySem.Spec L2 CL CLG
open PySem.W (dataLt dataLt_ii alike alikeAll)
local macro_rules | `(tactic| walk_at "o") => `(tactic| ((try simp only [backA, List.set_cons_zero, List.set_cons_succ, wipeD, List.map_cons, List.map_nil, List.cons_append, List.nil_append, List.replicate_succ, List.replicate_zero]); first | done | rfl))
local macro_rules | `(tactic| walk_at "b") => `(tactic| first
  | with_reducible exact Nb.lit
  | ((with_reducible apply Nb.mul) <;> walk_at "b")
  | ((with_reducible apply Nb.add) <;> walk_at "b")
  | ((with_reducible apply Nb.sub) <;> walk_at "b")
  | ((with_reducible apply Nb.neg) <;> walk_at "b")
  | ((with_reducible apply Nb.fdiv) <;> walk_at "b")
  | ((with_reducible apply Nb.fmod); (· walk_at "z"); (· walk_at "b"))
  | ((with_reducible apply Nb.max) <;> walk_at "b")
  | ((with_reducible apply Nb.min) <;> walk_at "b")
  | ((with_reducible apply Nb.ite) <;> walk_at "b")
  | with_reducible assumption
  | with_reducible exact Nb.le (by assumption)
  | with_reducible exact Nb.nle (by assumption)
  | with_reducible exact Nb.lt (by assumption)
  | ((with_reducible apply Nb.rng (by assumption) (by assumption)) <;> walk_at "b")
  | ((with_reducible apply Nb.rngE (by assumption) (by assumption)) <;> walk_at "b")
  | with_reducible exact Nb.self _)
local macro_rules | `(tactic| walk_at "z") => `(tactic| first | decide | assumption | omega | exact fmod_nn (by omega) | exact fmod_lt (by omega))
local macro_rules | `(tactic| walk_at "e") => `(tactic| first
  | ((with_reducible refine is_ev ?_); first
    | ((with_reducible apply mul_st); (· walk_at "b"); (· walk_at "b"); (· rfl))
    | ((with_reducible apply mul_s1); (· walk_at "b"); (· rfl))
    | ((with_reducible apply mul_s2); (· walk_at "b"); (· rfl))
    | ((with_reducible apply div_st); (· walk_at "z"); (· walk_at "b"); (· rfl))
    | ((with_reducible apply mod_st); (· walk_at "z"))
    | with_reducible apply tup_pt
    | with_reducible apply tup_ln
    | ((with_reducible apply tup_st); (· rfl))
    | ((with_reducible apply lst_st); (· rfl))
    | with_reducible apply eqi_st
    | with_reducible apply nei_st
    | with_reducible apply eqp_st
    | with_reducible apply nep_st
    | with_reducible apply eqp_st'
    | with_reducible apply nep_st'
    | with_reducible apply eqb_st
    | with_reducible apply neb_st
    | with_reducible apply isb_st
    | with_reducible apply eqs_st
    | with_reducible apply nes_st
    | with_reducible refine ix2bi (fun _ _ _ => ?_)
    | ((with_reducible refine ix4i ?_ ?_ (fun _ _ _ => ?_)); (· walk_at "z"); (· walk_at "z"))
    | ((with_reducible refine ix2i ?_ ?_ (fun _ _ _ => ?_)); (· walk_at "z"); (· walk_at "z"))
    | ((with_reducible refine ix3i ?_ ?_ (fun _ _ _ => ?_)); (· walk_at "z"); (· walk_at "z"))
    | refine ⟨_, rfl, ?_⟩)
  | ((with_reducible refine fill_st ?_); refine ⟨_, rfl, ?_⟩; (try dsimp only))
  | ((with_reducible apply and_go rfl); (· (intro _; (repeat walk_at "s"); with_reducible exact ⟨rfl, rfl⟩)))
  | ((with_reducible refine is_chain ?_); (apply chain_go rfl); (· (intro _; (repeat walk_at "s"); exact ⟨rfl, rfl⟩)))
  | ((with_reducible refine draw_step (by assumption) ?_ ?_ (fun _ _ _ _ _ => ?_)); (· walk_at "z"); (· walk_at "z"))
  | ((with_reducible refine CLY.draw_step (by assumption) ?_ ?_ (fun _ _ _ _ _ => ?_)); (· walk_at "z"); (· walk_at "z"))
  | ((with_reducible refine is_evA ?_); refine ⟨_, rfl, ?_⟩)
  | ((with_reducible refine is_evL ?_); refine ⟨_, rfl, ?_⟩)
  | ((with_reducible refine is_evI ?_); refine ⟨_, rfl, ?_⟩)
  | ((with_reducible refine is_evR ?_); refine ⟨_, rfl, ?_⟩))
local macro_rules | `(tactic| walk_at "f") => `(tactic| first
  | with_reducible refine W_mV.mpr ?_
  | with_reducible refine W_mCons.mpr ?_
  | with_reducible refine W_m2.mpr ?_
  | with_reducible refine W_mC.mpr ?_
  | with_reducible refine W_mNil.mpr ?_
  | with_reducible refine W_mN.mpr ?_
  | with_reducible refine W_sSeq.mpr ?_
  | with_reducible refine W_sAsg.mpr ?_
  | with_reducible refine W_m1.mpr ?_
  | with_reducible refine W_mCallP.mpr ?_
  | with_reducible refine W_mCall.mpr ?_
  | with_reducible refine X_evI.mpr ?_
  | with_reducible refine X_evE.mpr ?_
  | with_reducible refine X_evN.mpr ?_
  | with_reducible refine X_if ?_
  | with_reducible refine W_sRet.mpr ?_
  | with_reducible refine W_sK.mpr ?_
  | with_reducible refine X_and ?_
  | with_reducible refine X_or ?_
  | with_reducible refine W_sPar.mpr ?_
  | with_reducible refine W_mSl.mpr ?_
  | with_reducible refine W_mPtN.mpr ?_
  | with_reducible refine W_mPtS.mpr ?_
  | with_reducible refine W_mIt.mpr ?_
  | with_reducible refine W_mItN.mpr ?_
  | with_reducible refine W_mComp.mpr ?_
  | ((with_reducible refine is_comp ?_); first | (apply X_compN; (· walk_at "o")) | ((with_reducible apply X_compY); (· walk_at "o"); (· rfl)))
  | with_reducible refine W_sFor.mpr ?_
  | ((with_reducible refine is_for ?_); refine W_forNil.mpr ?_)
  | with_reducible refine X_chain ?_
  | with_reducible refine W_sExp.mpr ?_
  | with_reducible refine W_mL.mpr ?_
  | with_reducible refine X_mif ?_
  | with_reducible refine W_mIxS.mpr ?_
  | with_reducible refine W_mYes.mpr ?_
  | with_reducible refine W_sPar3.mpr ?_
  | with_reducible refine W_mApp.mpr ?_
  | with_reducible refine W_mBor.mpr ?_
  | with_reducible refine CLX.W_sFz.mpr ?_)
local macro_rules | `(tactic| walk_at "s") => `(tactic| first
  | ((with_reducible refine is_W ?_); walk_at "f")
  | ((with_reducible refine is_ex ?_); first
    | ((with_reducible refine is_evS ?_); refine ⟨_, rfl, ?_⟩)
    | ((with_reducible apply call_st); (· with_reducible assumption))
    | with_reducible refine min_ln ?_
    | with_reducible refine max_ln ?_
    | with_reducible refine min_two ?_
    | with_reducible refine max_two ?_
    | with_reducible refine gt_st ?_
    | with_reducible refine le_st ?_
    | with_reducible refine eqn_st ?_
    | with_reducible refine add1_st ?_
    | walk_at "e")
  | ((with_reducible apply X_nx); (· walk_at "o"))
  | with_reducible refine Kq_ret.mpr ?_
  | with_reducible refine Kq_brk.mpr ?_
  | with_reducible refine Kq_cnt.mpr ?_
  | ((with_reducible apply X_fnx); (· walk_at "o"))
  | ((with_reducible apply X_fcnt); (· walk_at "o"))
  | with_reducible refine X_fbrk ?_
  | with_reducible refine X_fret ?_
  | ((with_reducible refine is_ltA ?_); refine ⟨?_, ?_⟩; (· first | decide | omega | (simp; omega) | (simp; done)))
  | with_reducible refine parW_mk.mpr ?_
  | with_reducible refine par3W_mk.mpr ?_)
local macro_rules | `(tactic| walk_at "r") => `(tactic| repeat walk_at "s")
local macro_rules | `(tactic| walk_at "u") => `(tactic| first | ((apply X_forC); (· walk_at "o"); (· rfl)) | ((apply X_compY); (· walk_at "o"); (· rfl)) | ((apply X_compC); (· walk_at "o"); (· rfl)))
end CLX
namespace CL
open PySem L2
theorem X_compFM {α : Type} {g : α → D} {f : α → Bool} {h : α → D} {vs : List Nat} {p : Pt} {c e : M D} {ρ : Sl} : ∀ {xs : List α} {QL : List D → Sl → Prop}, (∀ x ∈ xs, ∃ ρ1, p (g x) ρ = some ρ1 ∧ W c ρ1 (fun y ρ2 => y = .bl (f x) ∧ ρ2 = ρ1) ∧ wipeD ρ1 vs = ρ ∧ (f x = true → W e ρ1 fun d ρ3 => d = h x ∧ wipeD ρ3 vs = ρ)) → QL ((xs.filter f).map h) ρ → W (compL vs p c e (xs.map g)) ρ QL
  | [], QL, _, q => W_compNil.mpr q
  | x :: xs, QL, H, q => by
    obtain ⟨ρ1, e1, hc, hw, he⟩ := H x (by simp)
    refine W_compCons.mpr ⟨ρ1, e1, hc.mono fun y ρ2 ⟨ey, er⟩ => ?_⟩
    subst ey er
    cases hf : f x with
    | true =>
      refine .inl ⟨rfl, (he hf).mono fun d ρ3 ⟨ed, ew⟩ => ?_⟩
      subst ed
      rw [ew]
      exact X_compFM (fun y hy => H y (by simp [hy])) (by simpa [List.filter_cons, hf] using q)
    | false =>
      refine .inr ⟨rfl, ?_⟩
      rw [hw]
      exact X_compFM (fun y hy => H y (by simp [hy])) (by simpa [List.filter_cons, hf] using q)
theorem X_compM {α : Type} {g : α → D} {h : α → D} {vs : List Nat} {p : Pt} {e : M D} {ρ : Sl} : ∀ {xs : List α} {QL : List D → Sl → Prop}, (∀ x ∈ xs, ∃ ρ1, p (g x) ρ = some ρ1 ∧ W e ρ1 fun d ρ3 => d = h x ∧ wipeD ρ3 vs = ρ) → QL (xs.map h) ρ → W (compL vs p mYes e (xs.map g)) ρ QL
  | [], QL, _, q => W_compNil.mpr q
  | x :: xs, QL, H, q => by
    obtain ⟨ρ1, e1, he⟩ := H x (by simp)
    refine W_compCons.mpr ⟨ρ1, e1, W_mYes.mpr (.inl ⟨rfl, he.mono fun d ρ3 ⟨ed, ew⟩ => ?_⟩)⟩
    subst ed
    rw [ew]
    exact X_compM (fun y hy => H y (by simp [hy])) q
end CL
namespace CLG
open Li
def Pn.le (a b : Pn) : Bool := !b.lt a
theorem Pn.le_iff {a b : Pn} : a.le b = true ↔ a.x < b.x ∨ (a.x = b.x ∧ a.y ≤ b.y) := by
  simp only [Pn.le, Bool.not_eq_true', Pn.nlt_iff]
  omega
theorem Pn.le_trans {a b c : Pn} (h1 : a.le b = true) (h2 : b.le c = true) : a.le c = true := by
  rw [Pn.le_iff] at *; omega
theorem Pn.le_total (a b : Pn) : a.le b = true ∨ b.le a = true := by
  rw [Pn.le_iff, Pn.le_iff]; omega
/-- the first and the last of what is sorted -/
def ends {α : Type} (S : List α) : List α := S.take 1 ++ (S.drop 1).drop ((S.drop 1).length - 1)
end CLG
namespace CLX
open PySem PySem.Spec L2 CL CLG
open PySem.W (dataLt dataLt_ii alike alikeAll)
local macro_rules | `(tactic| walk_at "o") => `(tactic| ((try simp only [backA, List.set_cons_zero, List.set_cons_succ, wipeD, List.map_cons, List.map_nil, List.cons_append, List.nil_append, List.replicate_succ, List.replicate_zero]); first | done | rfl))
local macro_rules | `(tactic| walk_at "b") => `(tactic| first
  | with_reducible exact Nb.lit
  | ((with_reducible apply Nb.mul) <;> walk_at "b")
  | ((with_reducible apply Nb.add) <;> walk_at "b")
  | ((with_reducible apply Nb.sub) <;> walk_at "b")
  | ((with_reducible apply Nb.neg) <;> walk_at "b")
  | ((with_reducible apply Nb.fdiv) <;> walk_at "b")
  | ((with_reducible apply Nb.fmod); (· walk_at "z"); (· walk_at "b"))
  | ((with_reducible apply Nb.max) <;> walk_at "b")
  | ((with_reducible apply Nb.min) <;> walk_at "b")
  | ((with_reducible apply Nb.ite) <;> walk_at "b")
  | with_reducible assumption
  | with_reducible exact Nb.le (by assumption)
  | with_reducible exact Nb.nle (by assumption)
  | with_reducible exact Nb.lt (by assumption)
  | ((with_reducible apply Nb.rng (by assumption) (by assumption)) <;> walk_at "b")
  | ((with_reducible apply Nb.rngE (by assumption) (by assumption)) <;> walk_at "b")
  | with_reducible exact Nb.self _)
local macro_rules | `(tactic| walk_at "z") => `(tactic| first | decide | assumption | omega | exact fmod_nn (by omega) | exact fmod_lt (by omega))
local macro_rules | `(tactic| walk_at "e") => `(tactic| first
  | ((with_reducible refine is_ev ?_); first
    | ((with_reducible apply mul_st); (· walk_at "b"); (· walk_at "b"); (· rfl))
    | ((with_reducible apply mul_s1); (· walk_at "b"); (· rfl))
    | ((with_reducible apply mul_s2); (· walk_at "b"); (· rfl))
    | ((with_reducible apply div_st); (· walk_at "z"); (· walk_at "b"); (· rfl))
    | ((with_reducible apply mod_st); (· walk_at "z"))
    | with_reducible apply tup_pt
    | with_reducible apply tup_ln
    | ((with_reducible apply tup_st); (· rfl))
    | ((with_reducible apply lst_st); (· rfl))
    | with_reducible apply eqi_st
    | with_reducible apply nei_st
    | with_reducible apply eqp_st
    | with_reducible apply nep_st
    | with_reducible apply eqp_st'
    | with_reducible apply nep_st'
    | with_reducible apply eqb_st
    | with_reducible apply neb_st
    | with_reducible apply isb_st
    | with_reducible apply eqs_st
    | with_reducible apply nes_st
    | with_reducible refine ix2bi (fun _ _ _ => ?_)
    | ((with_reducible refine ix4i ?_ ?_ (fun _ _ _ => ?_)); (· walk_at "z"); (· walk_at "z"))
    | ((with_reducible refine ix2i ?_ ?_ (fun _ _ _ => ?_)); (· walk_at "z"); (· walk_at "z"))
    | ((with_reducible refine ix3i ?_ ?_ (fun _ _ _ => ?_)); (· walk_at "z"); (· walk_at "z"))
    | refine ⟨_, rfl, ?_⟩)
  | ((with_reducible refine fill_st ?_); refine ⟨_, rfl, ?_⟩; (try dsimp only))
  | ((with_reducible apply and_go rfl); (· (intro _; (repeat walk_at "s"); with_reducible exact ⟨rfl, rfl⟩)))
  | ((with_reducible refine is_chain ?_); (apply chain_go rfl); (· (intro _; (repeat walk_at "s"); exact ⟨rfl, rfl⟩)))
  | ((with_reducible refine draw_step (by assumption) ?_ ?_ (fun _ _ _ _ _ => ?_)); (· walk_at "z"); (· walk_at "z"))
  | ((with_reducible refine CLY.draw_step (by assumption) ?_ ?_ (fun _ _ _ _ _ => ?_)); (· walk_at "z"); (· walk_at "z"))
  | ((with_reducible refine is_evA ?_); refine ⟨_, rfl, ?_⟩)
  | ((with_reducible refine is_evL ?_); refine ⟨_, rfl, ?_⟩)
  | ((with_reducible refine is_evI ?_); refine ⟨_, rfl, ?_⟩)
  | ((with_reducible refine is_evR ?_); refine ⟨_, rfl, ?_⟩))
local macro_rules | `(tactic| walk_at "f") => `(tactic| first
  | with_reducible refine W_mV.mpr ?_
  | with_reducible refine W_mCons.mpr ?_
  | with_reducible refine W_m2.mpr ?_
  | with_reducible refine W_mC.mpr ?_
  | with_reducible refine W_mNil.mpr ?_
  | with_reducible refine W_mN.mpr ?_
  | with_reducible refine W_sSeq.mpr ?_
  | with_reducible refine W_sAsg.mpr ?_
  | with_reducible refine W_m1.mpr ?_
  | with_reducible refine W_mCallP.mpr ?_
  | with_reducible refine W_mCall.mpr ?_
  | with_reducible refine X_evI.mpr ?_
  | with_reducible refine X_evE.mpr ?_
  | with_reducible refine X_evN.mpr ?_
  | with_reducible refine X_if ?_
  | with_reducible refine W_sRet.mpr ?_
  | with_reducible refine W_sK.mpr ?_
  | with_reducible refine X_and ?_
  | with_reducible refine X_or ?_
  | with_reducible refine W_sPar.mpr ?_
  | with_reducible refine W_mSl.mpr ?_
  | with_reducible refine W_mPtN.mpr ?_
  | with_reducible refine W_mPtS.mpr ?_
  | with_reducible refine W_mIt.mpr ?_
  | with_reducible refine W_mItN.mpr ?_
  | with_reducible refine W_mComp.mpr ?_
  | ((with_reducible refine is_comp ?_); first | (apply X_compN; (· walk_at "o")) | ((with_reducible apply X_compY); (· walk_at "o"); (· rfl)))
  | with_reducible refine W_sFor.mpr ?_
  | ((with_reducible refine is_for ?_); refine W_forNil.mpr ?_)
  | with_reducible refine X_chain ?_
  | with_reducible refine W_sExp.mpr ?_
  | with_reducible refine W_mL.mpr ?_
  | with_reducible refine X_mif ?_
  | with_reducible refine W_mIxS.mpr ?_
  | with_reducible refine W_mYes.mpr ?_
  | with_reducible refine W_sPar3.mpr ?_
  | with_reducible refine W_mApp.mpr ?_
  | with_reducible refine W_mBor.mpr ?_
  | with_reducible refine CLX.W_sFz.mpr ?_)
local macro_rules | `(tactic| walk_at "s") => `(tactic| first
  | ((with_reducible refine is_W ?_); walk_at "f")
  | ((with_reducible refine is_ex ?_); first
    | ((with_reducible refine is_evS ?_); refine ⟨_, rfl, ?_⟩)
    | ((with_reducible apply call_st); (· with_reducible assumption))
    | with_reducible refine min_ln ?_
    | with_reducible refine max_ln ?_
    | with_reducible refine min_two ?_
    | with_reducible refine max_two ?_
    | with_reducible refine gt_st ?_
    | with_reducible refine le_st ?_
    | with_reducible refine eqn_st ?_
    | with_reducible refine add1_st ?_
    | walk_at "e")
  | ((with_reducible apply X_nx); (· walk_at "o"))
  | with_reducible refine Kq_ret.mpr ?_
  | with_reducible refine Kq_brk.mpr ?_
  | with_reducible refine Kq_cnt.mpr ?_
  | ((with_reducible apply X_fnx); (· walk_at "o"))
  | ((with_reducible apply X_fcnt); (· walk_at "o"))
  | with_reducible refine X_fbrk ?_
  | with_reducible refine X_fret ?_
  | ((with_reducible refine is_ltA ?_); refine ⟨?_, ?_⟩; (· first | decide | omega | (simp; omega) | (simp; done)))
  | with_reducible refine parW_mk.mpr ?_
  | with_reducible refine par3W_mk.mpr ?_)
local macro_rules | `(tactic| walk_at "r") => `(tactic| repeat walk_at "s")
local macro_rules | `(tactic| walk_at "u") => `(tactic| first | ((apply X_forC); (· walk_at "o"); (· rfl)) | ((apply X_compY); (· walk_at "o"); (· rfl)) | ((apply X_compC); (· walk_at "o"); (· rfl)))
def pnI (a : Pn) : List Int := [a.x, a.y]
theorem pnI_inj {a b : Pn} (h : pnI a = pnI b) : a = b := by cases a; cases b; simpa [pnI] using h
theorem allI_pn : ∀ l : List Pn, allI (l.map pnD) = some (l.map pnI)
  | [] => rfl
  | a :: l => by simp [allI, allI_pn l, pnD, pt, tupI, intsOf, pnI]
end CLX
namespace CLY
open PySem PySem.Spec L2 CL CLG
def B__law_deck : MS := (sSeq (sAsg (pN 1) (mL listOfD (mCons (mSl (mV 0) none (some (mC (.int 63)))) mNil))) (sRet (mN bLst (mCons (m1 bRev (mV 1)) (mCons (m2 bAdd (mN bSum (mCons (mComp [2] (pN 2) (mIt (mV 1)) mYes (m2 bMod (mV 2) (mC (.int 1000003)))) mNil)) (m2 bMul (mC (.int 7919)) (mN bLen (mCons (mV 1) mNil)))) (mCons (mC (.int 0)) mNil))))))
def F__law_deck : List D → Res D := runP 2 B__law_deck
def B__law_draw : MS := (sSeq (sSto 0 1 (m2 bAdd (mIxS 0 1) (mC (.int 1)))) (sSeq (sAsg (pN 2) (mIxS 0 0)) (sSeq (sIf (m2 bNe (mIx0 0) (mN bLst mNil)) (sSeq (sAsg (pN 2) (mPop0 0)) (sIf (m2 bGe (mV 2) (m2 bPow (mC (.int 10)) (mC (.int 18)))) (sSeq (sExp (mApp0 0 (m2 bDiv (mV 2) (mV 1)))) (sRet (m2 bMod (mV 2) (mV 1)))) (sK .nx))) (sK .nx)) (sSeq (sAsg (pN 3) (m2 bMod (m2 bMul (m2 bAdd (m2 bAdd (m2 bMod (mV 2) (mC (.int 2147483629))) (m2 bMul (mC (.int 65537)) (mIxS 0 1))) (mC (.int 5))) (mC (.int 48271))) (mC (.int 2147483647)))) (sSeq (sAsg (pN 3) (m2 bMod (m2 bAdd (m2 bAdd (m2 bMul (mV 3) (mV 3)) (m2 bMul (mC (.int 69621)) (mIxS 0 1))) (mC (.int 11))) (mC (.int 2147483587)))) (sRet (m2 bMod (m2 bDiv (m2 bMod (m2 bAdd (m2 bMul (mV 3) (mV 3)) (m2 bMul (mC (.int 16807)) (mV 3))) (mC (.int 2147483563))) (mC (.int 64))) (mV 1))))))))
def F__law_draw : Fn := runF [.ol (.ol .sh .sh) .sh, .sh] 2 B__law_draw
theorem _root_.CL.is_ltA {a b : Nat} {P : Prop} (h : a < b ∧ P) : a < b ∧ P := h
local macro_rules | `(tactic| walk_at "o") => `(tactic| ((try simp only [backA, List.set_cons_zero, List.set_cons_succ, wipeD, List.map_cons, List.map_nil, List.cons_append, List.nil_append, List.replicate_succ, List.replicate_zero]); first | done | rfl))
local macro_rules | `(tactic| walk_at "b") => `(tactic| first
  | with_reducible exact Nb.lit
  | ((with_reducible apply Nb.mul) <;> walk_at "b")
  | ((with_reducible apply Nb.add) <;> walk_at "b")
  | ((with_reducible apply Nb.sub) <;> walk_at "b")
  | ((with_reducible apply Nb.neg) <;> walk_at "b")
  | ((with_reducible apply Nb.fdiv) <;> walk_at "b")
  | ((with_reducible apply Nb.fmod); (· walk_at "z"); (· walk_at "b"))
  | ((with_reducible apply Nb.max) <;> walk_at "b")
  | ((with_reducible apply Nb.min) <;> walk_at "b")
  | ((with_reducible apply Nb.ite) <;> walk_at "b")
  | with_reducible assumption
  | with_reducible exact Nb.le (by assumption)
  | with_reducible exact Nb.nle (by assumption)
  | with_reducible exact Nb.lt (by assumption)
  | ((with_reducible apply Nb.rng (by assumption) (by assumption)) <;> walk_at "b")
  | ((with_reducible apply Nb.rngE (by assumption) (by assumption)) <;> walk_at "b")
  | with_reducible exact Nb.self _)
local macro_rules | `(tactic| walk_at "z") => `(tactic| first | decide | assumption | omega | exact fmod_nn (by omega) | exact fmod_lt (by omega))
local macro_rules | `(tactic| walk_at "e") => `(tactic| first
  | ((with_reducible refine is_ev ?_); first
    | ((with_reducible apply mul_st); (· walk_at "b"); (· walk_at "b"); (· rfl))
    | ((with_reducible apply mul_s1); (· walk_at "b"); (· rfl))
    | ((with_reducible apply mul_s2); (· walk_at "b"); (· rfl))
    | ((with_reducible apply div_st); (· walk_at "z"); (· walk_at "b"); (· rfl))
    | ((with_reducible apply mod_st); (· walk_at "z"))
    | with_reducible apply tup_pt
    | with_reducible apply tup_ln
    | ((with_reducible apply tup_st); (· rfl))
    | ((with_reducible apply lst_st); (· rfl))
    | with_reducible apply eqi_st
    | with_reducible apply nei_st
    | with_reducible apply eqp_st
    | with_reducible apply nep_st
    | with_reducible apply eqp_st'
    | with_reducible apply nep_st'
    | with_reducible apply eqb_st
    | with_reducible apply neb_st
    | with_reducible apply isb_st
    | with_reducible apply eqs_st
    | with_reducible apply nes_st
    | with_reducible refine ix2bi (fun _ _ _ => ?_)
    | ((with_reducible refine ix4i ?_ ?_ (fun _ _ _ => ?_)); (· walk_at "z"); (· walk_at "z"))
    | ((with_reducible refine ix2i ?_ ?_ (fun _ _ _ => ?_)); (· walk_at "z"); (· walk_at "z"))
    | ((with_reducible refine ix3i ?_ ?_ (fun _ _ _ => ?_)); (· walk_at "z"); (· walk_at "z"))
    | refine ⟨_, rfl, ?_⟩)
  | ((with_reducible refine fill_st ?_); refine ⟨_, rfl, ?_⟩; (try dsimp only))
  | ((with_reducible apply and_go rfl); (· (intro _; (repeat walk_at "s"); with_reducible exact ⟨rfl, rfl⟩)))
  | ((with_reducible refine is_chain ?_); (apply chain_go rfl); (· (intro _; (repeat walk_at "s"); exact ⟨rfl, rfl⟩)))
  | ((with_reducible refine draw_step (by assumption) ?_ ?_ (fun _ _ _ _ _ => ?_)); (· walk_at "z"); (· walk_at "z"))
  | ((with_reducible refine CLY.draw_step (by assumption) ?_ ?_ (fun _ _ _ _ _ => ?_)); (· walk_at "z"); (· walk_at "z"))
  | ((with_reducible refine is_evA ?_); refine ⟨_, rfl, ?_⟩)
  | ((with_reducible refine is_evL ?_); refine ⟨_, rfl, ?_⟩)
  | ((with_reducible refine is_evI ?_); refine ⟨_, rfl, ?_⟩)
  | ((with_reducible refine is_evR ?_); refine ⟨_, rfl, ?_⟩))
local macro_rules | `(tactic| walk_at "f") => `(tactic| first
  | with_reducible refine W_mV.mpr ?_
  | with_reducible refine W_mCons.mpr ?_
  | with_reducible refine W_m2.mpr ?_
  | with_reducible refine W_mC.mpr ?_
  | with_reducible refine W_mNil.mpr ?_
  | with_reducible refine W_mN.mpr ?_
  | with_reducible refine W_sSeq.mpr ?_
  | with_reducible refine W_sAsg.mpr ?_
  | with_reducible refine W_m1.mpr ?_
  | with_reducible refine W_mCallP.mpr ?_
  | with_reducible refine W_mCall.mpr ?_
  | with_reducible refine X_evI.mpr ?_
  | with_reducible refine X_evE.mpr ?_
  | with_reducible refine X_evN.mpr ?_
  | with_reducible refine X_if ?_
  | with_reducible refine W_sRet.mpr ?_
  | with_reducible refine W_sK.mpr ?_
  | with_reducible refine X_and ?_
  | with_reducible refine X_or ?_
  | with_reducible refine W_sPar.mpr ?_
  | with_reducible refine W_mSl.mpr ?_
  | with_reducible refine W_mPtN.mpr ?_
  | with_reducible refine W_mPtS.mpr ?_
  | with_reducible refine W_mIt.mpr ?_
  | with_reducible refine W_mItN.mpr ?_
  | with_reducible refine W_mComp.mpr ?_
  | ((with_reducible refine is_comp ?_); first | (apply X_compN; (· walk_at "o")) | ((with_reducible apply X_compY); (· walk_at "o"); (· rfl)))
  | with_reducible refine W_sFor.mpr ?_
  | ((with_reducible refine is_for ?_); refine W_forNil.mpr ?_)
  | with_reducible refine X_chain ?_
  | with_reducible refine W_sExp.mpr ?_
  | with_reducible refine W_mL.mpr ?_
  | with_reducible refine X_mif ?_
  | with_reducible refine W_mIxS.mpr ?_
  | with_reducible refine W_mYes.mpr ?_
  | with_reducible refine W_sPar3.mpr ?_
  | with_reducible refine W_mApp.mpr ?_
  | with_reducible refine W_mBor.mpr ?_
  | with_reducible refine CLX.W_sFz.mpr ?_)
local macro_rules | `(tactic| walk_at "s") => `(tactic| first
  | ((with_reducible refine is_W ?_); walk_at "f")
  | ((with_reducible refine is_ex ?_); first
    | ((with_reducible refine is_evS ?_); refine ⟨_, rfl, ?_⟩)
    | ((with_reducible apply call_st); (· with_reducible assumption))
    | walk_at "e")
  | ((with_reducible apply X_nx); (· walk_at "o"))
  | with_reducible refine Kq_ret.mpr ?_
  | with_reducible refine Kq_brk.mpr ?_
  | with_reducible refine Kq_cnt.mpr ?_
  | ((with_reducible apply X_fnx); (· walk_at "o"))
  | ((with_reducible apply X_fcnt); (· walk_at "o"))
  | with_reducible refine X_fbrk ?_
  | with_reducible refine X_fret ?_
  | ((with_reducible refine is_ltA ?_); refine ⟨?_, ?_⟩; (· first | decide | omega | (simp; omega) | (simp; done)))
  | with_reducible refine parW_mk.mpr ?_
  | with_reducible refine par3W_mk.mpr ?_)
local macro_rules | `(tactic| walk_at "r") => `(tactic| repeat walk_at "s")
local macro_rules | `(tactic| walk_at "u") => `(tactic| first | ((apply X_forC); (· walk_at "o"); (· rfl)) | ((apply X_compY); (· walk_at "o"); (· rfl)) | ((apply X_compC); (· walk_at "o"); (· rfl)))
end CLY
namespace CL
open PySem PySem.Spec L2 PyProof.Rows
def bInT (a b : D) : Option D := match b with
  | .tup l => if D.okB 60 a && D.okB 60 (.tup l) then some (.bl (l.any fun z => D.eqv z a)) else none
  | _ => none
section
variable [Tb] {X : Cx}
theorem op_inTup (hu : X.A.units + 65 < cLine) : OpR X (compareOp .In) (fun x y H Q => ∃ d ds, Dp X.K H x d ∧ Dp X.K H y (.tuple ds) ∧ SeqAt.shaped d = true ∧ SeqAt.shaped (.tuple ds) = true ∧ Q (.bl (ds.any fun z => PyData.eqv z d)) H) := by
  intro pins s σ H x y v u Q I rx ry h
  obtain ⟨d, ds, hd, he, sd, se, q⟩ := h
  obtain ⟨as, r1⟩ := Dp.reads I d x v hd rx
  obtain ⟨bs, r2⟩ := Dp.reads I (.tuple ds) y u he ry
  exact SeqAt.in_tuple_reads r2 r1 (SeqAt.canLay_of_shaped se) (SeqAt.canLay_of_shaped sd) (room_in_shaped sd hu) ⟨.bl _, H, I, rfl, q⟩
theorem o_inT (hu : X.A.units + 65 < cLine) : OpR X (compareOp .In) (rF2 X.K bInT) := by
  intro pins s σ H x y v u Q I r1 r2 h
  obtain ⟨Z, a, b, d, p1, p2, e, k⟩ := h
  unfold bInT at e
  split at e
  · split at e
    · rename_i ho
      simp only [Bool.and_eq_true] at ho
      cases e
      refine op_inTup hu pins s σ H _ _ v u Q I r1 r2 ⟨_, _, p1.dp ho.1, p2.dp ho.2, ok_shaped ho.1, ok_shaped ho.2, fin0 (by simp only [RSh, D.eqv]; rw [pyL_any]) k⟩
    · cases e
  · cases e
end
end CL
namespace CL
end CL
namespace CL
open PySem PySem.Spec L2
set_option autoImplicit false
mutual
def D.pyE : D → PyData
  | .non => .none
  | .bl b => .bool b
  | .int i => .int i
  | .str x => .str x
  | .tup l => .tuple (D.pyEL l)
  | .lst l => .list (D.pyEL l)
  | .scr l => .list (l.map .int)
  | .dct ks vs => .dict ((D.pyEL ks).zip (D.pyEL vs))
  | .kdc _ _ => .none
  | .ins _ _ _ => .none
def D.pyEL : List D → List PyData
  | [] => []
  | d :: ds => D.pyE d :: D.pyEL ds
end
/-- ints that are shown -/
def bigE : Nat := 2 ^ 400
mutual
/-- data with dicts, at most so deep -/
def D.okE : Nat → D → Bool
  | _, .non => true
  | _, .bl _ => true
  | _, .int i => decide (i.natAbs < bigE)
  | _, .str _ => true
  | n + 1, .tup l => D.okEL n l
  | n + 1, .lst l => D.okEL n l
  | n + 1, .dct ks vs => D.okEL n ks && D.okEL n vs && decide (ks.length = vs.length)
  | _, _ => false
def D.okEL : Nat → List D → Bool
  | _, [] => true
  | n, d :: ds => D.okE n d && D.okEL n ds
end
mutual
/-- how much there is of it -/
def D.wtE : D → Nat
  | .str x => 1 + (reprText x).length
  | .tup l => 1 + D.wtEL l
  | .lst l => 1 + D.wtEL l
  | .dct ks vs => 1 + D.wtEL ks + D.wtEL vs
  | _ => 1
def D.wtEL : List D → Nat
  | [] => 0
  | d :: ds => D.wtE d + D.wtEL ds
end
theorem pyEL_len : ∀ l : List D, (D.pyEL l).length = l.length
  | [] => rfl
  | d :: ds => by simp [D.pyEL, pyEL_len ds]
/-- the text of repr -/
def D.shownE (d : D) : Str := d.pyE.shown
theorem piled_kv : ∀ (A B : List PyData), piled (PyData.shownKv (A.zip B)) ≤ piled (PyData.shownAll A) + piled (PyData.shownAll B)
  | [], B => by simp [PyData.shownKv, piled]
  | a :: A, [] => by simp [PyData.shownKv, piled]
  | a :: A, b :: B => by
    have h := piled_kv A B
    simp only [List.zip_cons_cons, PyData.shownKv, PyData.shownAll, piled_cons]
    have e : (PyData.shown a ++ ": " ++ PyData.shown b).length = (PyData.shown a).length + 2 + (PyData.shown b).length := by
      rw [slen, slen]
      have : ((": " : String) : Str).length = 2 := rfl
      omega
    rw [e]
    omega
theorem showable_zip : ∀ (A B : List PyData), PyData.showableAll A = true → PyData.showableAll B = true → PyData.showableKv (A.zip B) = true
  | [], B, _, _ => by simp [PyData.showableKv]
  | a :: A, [], _, _ => by simp [PyData.showableKv]
  | a :: A, b :: B, h1, h2 => by
    simp only [PyData.showableAll, Bool.and_eq_true] at h1 h2
    simp only [List.zip_cons_cons, PyData.showableKv, h1.1, h2.1, showable_zip A B h1.2 h2.2, Bool.and_self]
theorem depth_zip : ∀ (A B : List PyData), PyData.depthKv (A.zip B) ≤ max (PyData.depthAll A) (PyData.depthAll B)
  | [], B => by simp [PyData.depthKv]
  | a :: A, [] => by simp [PyData.depthKv]
  | a :: A, b :: B => by
    have h := depth_zip A B
    simp only [List.zip_cons_cons, PyData.depthKv, PyData.depthAll]
    omega
theorem tupleText_le (ts : List Str) : (tupleText ts).length ≤ piled ts + 3 := by
  have e1 : ((if ts.length == 1 then ",)" else ")" : String) : Str).length ≤ 2 := by
    split
    · exact Nat.le_of_eq rfl
    · exact Nat.le_succ_of_le (Nat.le_of_eq rfl)
  have e3 : (("(" : String) : Str).length = 1 := rfl
  unfold tupleText
  rw [slen, slen]
  by_cases hl : ts = []
  · subst hl
    have : (Str.join ", " []).length = 0 := rfl
    omega
  · have e2 := join_length_add _ hl
    omega
theorem listText_le (ts : List Str) : (listText ts).length ≤ piled ts + 3 := by
  have h := textFrom_le ts 0 "["
  have e1 : (("[" : String) : Str).length = 1 := rfl
  have e2 : (("]" : String) : Str).length = 1 := rfl
  have e : (listText ts).length = (textFrom 0 "[" ts).length + 1 := by
    show (textFrom 0 "[" ts ++ "]").length = _
    rw [slen, e2]
  omega
theorem dictText_le (ts : List Str) : (dictText ts).length ≤ piled ts + 3 := by
  have e1 : (("{" : String) : Str).length = 1 := rfl
  have e2 : (("}" : String) : Str).length = 1 := rfl
  unfold dictText
  rw [slen, slen]
  by_cases hl : ts = []
  · subst hl
    have : (Str.join ", " []).length = 0 := rfl
    omega
  · have e2 := join_length_add _ hl
    omega
theorem bigE_R {n : Nat} (h : n < bigE) : n < bigR := Nat.lt_of_lt_of_le h (Nat.pow_le_pow_right (by decide) (by decide))
theorem bigE_text {i : Int} (h : i.natAbs < bigE) : (PySem.Str.ofString (toString i)).length ≤ 151 := by
  rw [PySem.ofString_length]
  exact int_text_length_le10 (k := 150) (by decide) (Nat.lt_trans h (by decide +kernel))
mutual
theorem shownE_le : ∀ (n : Nat) (d : D), D.okE n d = true → d.pyE.showable = true ∧ d.pyE.depth ≤ n ∧ d.pyE.shown.length + 2 ≤ 160 * D.wtE d
  | _, .non, _ => by simp only [D.pyE, PyData.showable, PyData.shown, D.wtE, PyData.depth]; exact ⟨trivial, Nat.zero_le _, by decide⟩
  | _, .bl b, _ => by simp only [D.pyE, PyData.showable, PyData.shown, D.wtE, PyData.depth]; exact ⟨trivial, Nat.zero_le _, by cases b <;> decide⟩
  | _, .int i, h => by
    simp only [D.okE, decide_eq_true_eq] at h
    have e := bigE_text h
    have h := bigR_log (bigE_R h)
    simp only [D.pyE, PyData.showable, PyData.shown, D.wtE, PyData.depth]
    exact ⟨decide_eq_true h, Nat.zero_le _, by omega⟩
  | _, .str x, _ => by simp only [D.pyE, PyData.showable, PyData.shown, D.wtE, PyData.depth]; exact ⟨trivial, Nat.zero_le _, by omega⟩
  | n + 1, .tup l, o => by
    simp only [D.okE] at o
    obtain ⟨a, b, c⟩ := shownEL_le n l o
    simp only [D.pyE, PyData.showable, PyData.shown, D.wtE, PyData.depth]
    have := tupleText_le (PyData.shownAll (D.pyEL l))
    exact ⟨a, by omega, by omega⟩
  | n + 1, .lst l, o => by
    simp only [D.okE] at o
    obtain ⟨a, b, c⟩ := shownEL_le n l o
    simp only [D.pyE, PyData.showable, PyData.shown, D.wtE, PyData.depth]
    have := listText_le (PyData.shownAll (D.pyEL l))
    exact ⟨a, by omega, by omega⟩
  | n + 1, .dct ks vs, o => by
    simp only [D.okE, Bool.and_eq_true] at o
    obtain ⟨a, b, c⟩ := shownEL_le n ks o.1.1
    obtain ⟨a', b', c'⟩ := shownEL_le n vs o.1.2
    simp only [D.pyE, PyData.showable, PyData.shown, D.wtE, PyData.depth]
    have h1 := dictText_le (PyData.shownKv ((D.pyEL ks).zip (D.pyEL vs)))
    have h2 := piled_kv (D.pyEL ks) (D.pyEL vs)
    have h3 := depth_zip (D.pyEL ks) (D.pyEL vs)
    exact ⟨showable_zip _ _ a a', by omega, by omega⟩
  | 0, .tup l, o => by simp [D.okE] at o
  | 0, .lst l, o => by simp [D.okE] at o
  | 0, .dct _ _, o => by simp [D.okE] at o
  | _, .kdc _ _, o => by simp [D.okE] at o
  | _, .ins _ _ _, o => by simp [D.okE] at o
  | _, .scr _, o => by simp [D.okE] at o
theorem shownEL_le : ∀ (n : Nat) (l : List D), D.okEL n l = true → PyData.showableAll (D.pyEL l) = true ∧ PyData.depthAll (D.pyEL l) ≤ n ∧ piled (PyData.shownAll (D.pyEL l)) ≤ 160 * D.wtEL l
  | _, [], _ => by simp only [D.pyEL, PyData.showableAll, PyData.shownAll, D.wtEL, PyData.depthAll]; exact ⟨trivial, Nat.zero_le _, by simp [piled]⟩
  | n, d :: ds, o => by
    simp only [D.okEL, Bool.and_eq_true] at o
    obtain ⟨a, b, c⟩ := shownE_le n d o.1
    obtain ⟨a', b', c'⟩ := shownEL_le n ds o.2
    simp only [D.pyEL, PyData.showableAll, PyData.shownAll, D.wtEL, PyData.depthAll, a, a', Bool.and_self, piled_cons]
    exact ⟨trivial, by omega, by omega⟩
end
mutual
/-- data on the heap, each dict in it apart from the table of modules -/
inductive RdE (h : Heap) : Value → PyData → Prop
  | none : RdE h .none .none
  | bool (b) : RdE h (.bool b) (.bool b)
  | int (i t) : RdE h (.int i t) (.int i)
  | str (x t) : RdE h (.str x t) (.str x)
  | list {a o vs n xs} : h.get? a = some o → o.cls = .type "list" → o.data = .seq vs n → RdEL h vs.toList xs → RdE h (.ref a) (.list xs)
  | tuple {a o vs n xs} : h.get? a = some o → o.cls = .type "tuple" → o.data = .seq vs n → RdEL h vs.toList xs → RdE h (.ref a) (.tuple xs)
  | dict {a o es n kvs} : h.get? a = some o → o.cls = .type "dict" → o.data = .dict es n → (a == sysModules) = false → RdEL h (es.toList.map (·.key)) (kvs.map (·.1)) → RdEL h (es.toList.map (·.val)) (kvs.map (·.2)) → RdE h (.ref a) (.dict kvs)
inductive RdEL (h : Heap) : List Value → List PyData → Prop
  | nil : RdEL h [] []
  | cons {v vs d ds} : RdE h v d → RdEL h vs ds → RdEL h (v :: vs) (d :: ds)
end
mutual
theorem RdE.rd {h : Heap} : ∀ {v : Value} {d : PyData}, RdE h v d → ∃ as, Reads h v d as
  | _, _, .none => ⟨_, .none⟩
  | _, _, .bool b => ⟨_, .bool b⟩
  | _, _, .int i t => ⟨_, .int i t⟩
  | _, _, .str x t => ⟨_, .str x t⟩
  | _, _, .list h1 h2 h3 h4 => let ⟨_, r⟩ := RdEL.rd h4; ⟨_, .list h1 h2 h3 r⟩
  | _, _, .tuple h1 h2 h3 h4 => let ⟨_, r⟩ := RdEL.rd h4; ⟨_, .tuple h1 h2 h3 r⟩
  | _, _, .dict h1 h2 h3 _ h4 h5 => let ⟨_, r⟩ := RdEL.rd h4; let ⟨_, r'⟩ := RdEL.rd h5; ⟨_, .dict h1 h2 h3 r r'⟩
theorem RdEL.rd {h : Heap} : ∀ {v : List Value} {d : List PyData}, RdEL h v d → ∃ as, ReadsAll h v d as
  | _, _, .nil => ⟨_, .nil⟩
  | _, _, .cons a b => let ⟨_, r⟩ := RdE.rd a; let ⟨_, r'⟩ := RdEL.rd b; ⟨_, .cons r r'⟩
end
section
variable {prog : Program} {w : World} {h : Heap}
mutual
theorem RdE.k : ∀ {v : Value} {d : PyData}, RdE h v d → d.showable = true → d.shown.length ≤ sizeLine → ∃ bs, ReadAtMost h d.depth bs ∧ ReprK prog w bs h d.depth v d.shown
  | _, _, .none, _, _ => ⟨[], nofun, by simp only [PyData.shown]; exact .of_is ReprIs.none _ _ _⟩
  | _, _, .bool b, _, _ => ⟨[], nofun, by simp only [PyData.shown]; exact .of_is (ReprIs.bool b) _ _ _⟩
  | _, _, .int i t, hs, _ => ⟨[], nofun, by simp only [PyData.shown]; exact .of_is (ReprIs.int t (by simpa [PyData.showable] using hs)) _ _ _⟩
  | _, _, .str x t, _, z => ⟨[], nofun, by simp only [PyData.shown]; exact .of_is (ReprIs.str x t (by simpa only [PyData.shown] using z)) _ _ _⟩
  | _, _, .list (a := a) (vs := vs) (xs := xs) h1 h2 h3 h4, hs, z => by
    simp only [PyData.shown] at z
    obtain ⟨_, rx⟩ := RdEL.rd h4
    obtain ⟨bs, hb, hk⟩ := RdEL.k h4 (by simpa [PyData.showable] using hs) (fun t ht => Nat.le_trans (listText_mem_le ht) z)
    have rr : Reads h (.ref a) (.list xs) _ := .list h1 h2 h3 rx
    have na : a ∉ bs := not_mem_of_deeper rr (by simp only [PyData.depth]; omega) hb
    refine ⟨a :: bs, .cons rr (by simp only [PyData.depth]; omega) hb, ?_⟩
    simp only [PyData.depth, PyData.shown]
    obtain ⟨l⟩ := vs
    cases l with
    | nil =>
      have h5 : RdEL h [] xs := h4
      cases h5
      simp only [PyData.shownAll, listText_nil]
      exact .listEmpty h1 h2 h3
    | cons x l => exact .list h1 h2 h3 na (by simpa using hk.length_eq) (fun i y e => hk.item i y (by simpa using e))
  | _, _, .tuple (a := a) (xs := xs) h1 h2 h3 h4, hs, z => by
    simp only [PyData.shown] at z
    obtain ⟨_, rx⟩ := RdEL.rd h4
    obtain ⟨bs, hb, hk⟩ := RdEL.k h4 (by simpa [PyData.showable] using hs) (fun t ht => Nat.le_trans (tupleText_mem_le ht) z)
    have rr : Reads h (.ref a) (.tuple xs) _ := .tuple h1 h2 h3 rx
    have na : a ∉ bs := not_mem_of_deeper rr (by simp only [PyData.depth]; omega) hb
    refine ⟨a :: bs, .cons rr (by simp only [PyData.depth]; omega) hb, ?_⟩
    simp only [PyData.depth, PyData.shown]
    exact .tuple h1 h2 h3 na hk
  | _, _, .dict (a := a) (es := es) (kvs := kvs) h1 h2 h3 hy h4 h5, hs, z => by
    simp only [PyData.shown] at z
    obtain ⟨_, rx⟩ := RdEL.rd h4
    obtain ⟨_, ry⟩ := RdEL.rd h5
    obtain ⟨s1, s2⟩ := PyData.showableKv_split kvs (by simpa [PyData.showable] using hs)
    obtain ⟨b1, p1, k1⟩ := RdEL.k h4 s1 (fun t ht => let ⟨p, hp, hl⟩ := PyData.shownKv_key_le kvs t ht; Nat.le_trans hl (Nat.le_trans (dictText_mem_le hp) z))
    obtain ⟨b2, p2, k2⟩ := RdEL.k h5 s2 (fun t ht => let ⟨p, hp, hl⟩ := PyData.shownKv_val_le kvs t ht; Nat.le_trans hl (Nat.le_trans (dictText_mem_le hp) z))
    have rr : Reads h (.ref a) (.dict kvs) _ := .dict h1 h2 h3 rx ry
    have hb : ReadAtMost h (PyData.depthKv kvs) (b1 ++ b2) := (p1.mono (PyData.depthAll_keys_le kvs)).append (p2.mono (PyData.depthAll_vals_le kvs))
    have na : a ∉ b1 ++ b2 := not_mem_of_deeper rr (by simp only [PyData.depth]; omega) hb
    refine ⟨a :: (b1 ++ b2), .cons rr (by simp only [PyData.depth]; omega) hb, ?_⟩
    simp only [PyData.depth, PyData.shown, PyData.shownKv_eq]
    exact .dict h1 h2 h3 hy na (.of_two es.toList _ _ (k1.more_le (fun b m => List.mem_append_left _ m) (PyData.depthAll_keys_le kvs)) (k2.more_le (fun b m => List.mem_append_right _ m) (PyData.depthAll_vals_le kvs)))
theorem RdEL.k : ∀ {vs : List Value} {ds : List PyData}, RdEL h vs ds → PyData.showableAll ds = true → (∀ t ∈ PyData.shownAll ds, t.length ≤ sizeLine) → ∃ bs, ReadAtMost h (PyData.depthAll ds) bs ∧ ReprAllK prog w bs h (PyData.depthAll ds) vs (PyData.shownAll ds)
  | _, _, .nil, _, _ => ⟨[], nofun, by simp only [PyData.shownAll]; exact .nil⟩
  | _, _, .cons (d := d) (ds := ds) r rs, hs, z => by
    simp only [PyData.showableAll, Bool.and_eq_true] at hs
    simp only [PyData.shownAll, List.forall_mem_cons] at z
    obtain ⟨b1, p1, k1⟩ := RdE.k r hs.1 z.1
    obtain ⟨b2, p2, k2⟩ := RdEL.k rs hs.2 z.2
    simp only [PyData.depthAll, PyData.shownAll]
    refine ⟨b1 ++ b2, (p1.mono (Nat.le_max_left _ _)).append (p2.mono (Nat.le_max_right _ _)), ?_⟩
    exact .cons ((k1.more fun b m => List.mem_append_left _ m).level_le (Nat.le_max_left _ _)) (k2.more_le (fun b m => List.mem_append_right _ m) (Nat.le_max_right _ _))
end
theorem RdE.shows {a : Addr} {d : PyData} (r : RdE h (.ref a) d) (hs : d.showable = true) (z : d.shown.length ≤ sizeLine) : ∃ T idr, ShowsBy prog w h a d T idr := by
  cases r with
  | list h1 h2 h3 h4 =>
    rename_i o vs n xs
    simp only [PyData.shown] at z
    obtain ⟨_, rx⟩ := RdEL.rd h4
    obtain ⟨bs, hb, hk⟩ := RdEL.k (prog := prog) (w := w) h4 (by simpa [PyData.showable] using hs) (fun t ht => Nat.le_trans (listText_mem_le ht) z)
    have na : a ∉ bs := not_mem_of_deeper (.list h1 h2 h3 rx) (by simp only [PyData.depth]; omega) hb
    refine ⟨"list", "list.__repr__", F.slot_list_repr.toG, F.slot_list_str, F.slot_list_format, fun s k0 => ⟨o, k0 _ _ h1, h2⟩, fun A E s Q hg hu k0 hQ => ?_⟩
    simp only [PyData.depth] at hu
    simp only [PyData.shown] at hQ
    obtain ⟨l⟩ := vs
    cases l with
    | nil =>
      have h5 : RdEL h [] xs := h4
      cases h5
      simp only [PyData.shownAll, listText_nil] at hQ
      exact call_list_repr_empty ⟨o, k0 _ _ h1, h2⟩ (k0 _ _ h1) h3 (hQ s.heap _ _ fun _ _ e => e)
    | cons x l => exact call_list_reprK h1 h2 h3 na (by simpa using hk.length_eq) (fun i y e => hk.item i y (by simpa using e)) hg (fun b _ => .nil b) hu k0 hQ z
  | tuple h1 h2 h3 h4 =>
    rename_i o vs n xs
    simp only [PyData.shown] at z
    obtain ⟨_, rx⟩ := RdEL.rd h4
    obtain ⟨bs, hb, hk⟩ := RdEL.k (prog := prog) (w := w) h4 (by simpa [PyData.showable] using hs) (fun t ht => Nat.le_trans (tupleText_mem_le ht) z)
    have na : a ∉ bs := not_mem_of_deeper (.tuple h1 h2 h3 rx) (by simp only [PyData.depth]; omega) hb
    refine ⟨"tuple", "tuple.__repr__", F.slot_tuple_repr, F.slot_tuple_str, F.slot_tuple_format, fun s k0 => ⟨o, k0 _ _ h1, h2⟩, fun A E s Q hg hu k0 hQ => ?_⟩
    simp only [PyData.depth] at hu
    simp only [PyData.shown] at hQ
    exact call_tuple_reprK h1 h2 h3 na hk hg (fun b _ => .nil b) hu k0 hQ z
  | dict h1 h2 h3 hy h4 h5 =>
    rename_i o es n kvs
    simp only [PyData.shown] at z
    obtain ⟨_, rx⟩ := RdEL.rd h4
    obtain ⟨_, ry⟩ := RdEL.rd h5
    obtain ⟨s1, s2⟩ := PyData.showableKv_split kvs (by simpa [PyData.showable] using hs)
    obtain ⟨b1, p1, k1⟩ := RdEL.k (prog := prog) (w := w) h4 s1 (fun t ht => let ⟨p, hp, hl⟩ := PyData.shownKv_key_le kvs t ht; Nat.le_trans hl (Nat.le_trans (dictText_mem_le hp) z))
    obtain ⟨b2, p2, k2⟩ := RdEL.k (prog := prog) (w := w) h5 s2 (fun t ht => let ⟨p, hp, hl⟩ := PyData.shownKv_val_le kvs t ht; Nat.le_trans hl (Nat.le_trans (dictText_mem_le hp) z))
    have hb : ReadAtMost h (PyData.depthKv kvs) (b1 ++ b2) := (p1.mono (PyData.depthAll_keys_le kvs)).append (p2.mono (PyData.depthAll_vals_le kvs))
    have na : a ∉ b1 ++ b2 := not_mem_of_deeper (.dict h1 h2 h3 rx ry) (by simp only [PyData.depth]; omega) hb
    refine ⟨"dict", "dict.__repr__", F.slot_dict_repr, F.slot_dict_str, F.slot_dict_format, fun s k0 => ⟨o, k0 _ _ h1, h2⟩, fun A E s Q hg hu k0 hQ => ?_⟩
    simp only [PyData.depth] at hu
    simp only [PyData.shown, PyData.shownKv_eq] at hQ
    exact call_dict_reprK h1 h2 h3 hy na (.of_two es.toList _ _ (k1.more_le (fun b m => List.mem_append_left _ m) (PyData.depthAll_keys_le kvs)) (k2.more_le (fun b m => List.mem_append_right _ m) (PyData.depthAll_vals_le kvs))) hg (fun b _ => .nil b) hu k0 hQ (by rw [← PyData.shownKv_eq]; exact z)
theorem RdE.repr {A : Around} {E : Value → Shared → Prop} {s : Shared} {Q : Value → Shared → Prop} {a : Addr} {d : PyData} (r : RdE s.heap (.ref a) d) (hs : d.showable = true) (z : d.shown.length ≤ sizeLine) (hg : A.guards = some []) (hu : A.units + (d.depth + 1) < cLine)
    (hQ : ∀ h' u tk, (∀ b o, s.heap.get? b = some o → h'.get? b = some o) → Q (.str d.shown u) { s with heap := h', toks := tk }) : wpAny (model prog w) A (call (.builtin "repr") [.ref a]) Q E s := by
  obtain ⟨T, idr, S⟩ := RdE.shows (prog := prog) (w := w) r hs z
  exact call_repr_slot (by omega) (S.typeIs s fun _ _ e => e) S.slotRepr (S.call A.in1 E s _ hg (by show A.units + 1 + d.depth < cLine; omega) (fun _ _ e => e) fun h' u tk hk => ⟨_, _, rfl, hQ h' u tk hk⟩)
end
theorem dk_vals [Tb] {P : Program} {w : World} : ∀ {kvs : List (Key × V)} {vs : List (Key × Value)} {es : List DictEntry}, KV kvs vs → Pairs (mixKind P w) es vs → Vals (kvs.map fun p => kV p.1) (es.map (·.key)) ∧ Vals (kvs.map (·.2)) (es.map (·.val))
  | _, _, _, .nil, .nil => ⟨.nil, .nil⟩
  | _, _, _, .cons ⟨h1, h2⟩ t, .cons (e := e) k v r => by
    obtain ⟨a, b⟩ := dk_vals t r
    refine ⟨.cons ?_ a, .cons (by show RelV _ e.val; rw [v]; exact h2) b⟩
    show RelV (kV _) e.key
    rw [h1]
    rcases keyIs_shape k with ⟨i, t, e1, e2⟩ | ⟨x, t, e1, e2⟩
    · rw [e1, e2]; exact ⟨t, rfl⟩
    · rw [e1, e2]; exact ⟨t, rfl⟩
section
variable [Tb] {X : Cx} {pins : List (Addr × Obj)} {σ : St} {H : Hp} {s : Shared} {Z : Addr → Prop}
mutual
theorem RSh.rdE (I : Inv X pins σ H s) : ∀ (n : Nat) (d : D) (v : V) (u : Value), D.okE n d = true → RSh X.K Z H d v → RelV v u → RdE s.heap u d.pyE
  | _, .non, v, u, _, h, r => by
    simp only [RSh] at h; subst h; cases r; simp only [D.pyE]; exact .none
  | _, .bl b, v, u, _, h, r => by
    simp only [RSh] at h; subst h; cases r; simp only [D.pyE]; exact .bool b
  | _, .int i, v, u, _, h, r => by
    simp only [RSh] at h; subst h; obtain ⟨t, rfl⟩ := r; simp only [D.pyE]; exact .int i t
  | _, .str x, v, u, _, h, r => by
    simp only [RSh] at h; subst h; obtain ⟨t, rfl⟩ := r; simp only [D.pyE]; exact .str x t
  | n + 1, .tup l, v, u, o, h, r => by
    simp only [D.okE] at o
    simp only [RSh] at h
    obtain ⟨a, xs, rfl, hs, hl⟩ := h
    cases r
    simp only [D.pyE]
    obtain ⟨its, rv, ⟨ob, ho, hc, n, hd⟩, _⟩ := I.tuple hs
    exact .tuple ho hc hd (RShL.rdE I _ l xs its o hl rv)
  | n + 1, .lst l, v, u, o, h, r => by
    simp only [D.okE] at o
    simp only [RSh] at h
    obtain ⟨a, xs, rfl, z, hs, hl⟩ := h
    cases r
    simp only [D.pyE]
    obtain ⟨its, rv, ⟨ob, n, ho, hc, _, hd⟩, _⟩ := I.list (SqL.of hs)
    exact .list ho hc hd (RShL.rdE I _ l xs its o hl rv)
  | n + 1, .dct ks vs, v, u, o, h, r => by
    simp only [D.okE, Bool.and_eq_true, decide_eq_true_eq] at o
    simp only [RSh] at h
    obtain ⟨a, kvs, rfl, z, hs, hk, hv⟩ := h
    cases r
    simp only [D.pyE]
    obtain ⟨_, hsys, vs', kv, ob, es, ep, e1, ex, e2, _, pr, _⟩ := (show ObjOk X.prog X.w H s.heap a (.dK kvs) from I.hok a _ hs)
    obtain ⟨v1, v2⟩ := dk_vals kv pr
    have h1 := RShL.rdE I _ ks _ _ o.1.1 hk v1
    have h2 := RShL.rdE I _ vs _ _ o.1.2 hv v2
    have el : (D.pyEL ks).length = (D.pyEL vs).length := by rw [pyEL_len, pyEL_len]; exact o.2
    exact .dict (kvs := (D.pyEL ks).zip (D.pyEL vs)) e1 ex.1 e2 hsys (by rw [List.map_fst_zip (by omega)]; exact h1) (by rw [List.map_snd_zip (by omega)]; exact h2)
  | 0, .tup l, _, _, o, _, _ => by simp [D.okE] at o
  | 0, .lst l, _, _, o, _, _ => by simp [D.okE] at o
  | 0, .dct _ _, _, _, o, _, _ => by simp [D.okE] at o
  | _, .kdc _ _, _, _, o, _, _ => by simp [D.okE] at o
  | _, .ins _ _ _, _, _, o, _, _ => by simp [D.okE] at o
  | _, .scr _, _, _, o, _, _ => by simp [D.okE] at o
theorem RShL.rdE (I : Inv X pins σ H s) : ∀ (n : Nat) (l : List D) (vs : List V) (us : List Value), D.okEL n l = true → RShL X.K Z H l vs → Vals vs us → RdEL s.heap us (D.pyEL l)
  | _, [], vs, us, _, h, r => by
    simp only [RShL] at h; subst h; cases r; simp only [D.pyEL]; exact .nil
  | n, d :: ds, vs, us, o, h, r => by
    simp only [D.okEL, Bool.and_eq_true] at o
    simp only [RShL] at h
    obtain ⟨w, ws, rfl, h1, h2⟩ := h
    cases r with
    | cons r1 r2 =>
      simp only [D.pyEL]
      exact .cons (RSh.rdE I n d w _ o.1 h1 r1) (RShL.rdE I n ds ws _ o.2 h2 r2)
end
end
theorem Pk0.rdE [Tb] {X : Cx} {pins : List (Addr × Obj)} {σ : St} {H : Hp} {s : Shared} {Z : Addr → Prop} (I : Inv X pins σ H s) {n : Nat} {d : D} {v : V} {u : Value} (o : D.okE n d = true) (h : Pk0 X.K Z H d v) (r : RelV v u) : RdE s.heap u d.pyE := by
  rcases h with h | ⟨l, a, xs, rfl, rfl, hs, hl⟩
  · exact RSh.rdE I n d v u o h r
  · cases n with
    | zero => simp [D.okE] at o
    | succ n =>
      simp only [D.okE] at o
      cases r
      simp only [D.pyE]
      obtain ⟨its, rv, ⟨ob, n, ho, hc, _, hd⟩, _⟩ := I.list (SqL.of hs)
      exact .list ho hc hd (RShL.rdE I _ l xs its o hl rv)
section
variable [Tb] {X : Cx}
end
end CL
namespace CL
open PySem PySem.Spec L2
set_option autoImplicit false
local macro_rules | `(tactic| walk_at "o") => `(tactic| ((try simp only [backA, List.set_cons_zero, List.set_cons_succ, wipeD, List.map_cons, List.map_nil, List.cons_append, List.nil_append, List.replicate_succ, List.replicate_zero]); first | done | rfl))
local macro_rules | `(tactic| walk_at "b") => `(tactic| first
  | with_reducible exact Nb.lit
  | ((with_reducible apply Nb.mul) <;> walk_at "b")
  | ((with_reducible apply Nb.add) <;> walk_at "b")
  | ((with_reducible apply Nb.sub) <;> walk_at "b")
  | ((with_reducible apply Nb.neg) <;> walk_at "b")
  | ((with_reducible apply Nb.fdiv) <;> walk_at "b")
  | ((with_reducible apply Nb.fmod); (· walk_at "z"); (· walk_at "b"))
  | ((with_reducible apply Nb.max) <;> walk_at "b")
  | ((with_reducible apply Nb.min) <;> walk_at "b")
  | ((with_reducible apply Nb.ite) <;> walk_at "b")
  | with_reducible assumption
  | with_reducible exact Nb.le (by assumption)
  | with_reducible exact Nb.nle (by assumption)
  | with_reducible exact Nb.lt (by assumption)
  | ((with_reducible apply Nb.rng (by assumption) (by assumption)) <;> walk_at "b")
  | ((with_reducible apply Nb.rngE (by assumption) (by assumption)) <;> walk_at "b")
  | with_reducible exact Nb.self _)
local macro_rules | `(tactic| walk_at "z") => `(tactic| first | decide | assumption | omega | exact fmod_nn (by omega) | exact fmod_lt (by omega))
local macro_rules | `(tactic| walk_at "e") => `(tactic| first
  | ((with_reducible refine is_ev ?_); first
    | ((with_reducible apply mul_st); (· walk_at "b"); (· walk_at "b"); (· rfl))
    | ((with_reducible apply mul_s1); (· walk_at "b"); (· rfl))
    | ((with_reducible apply mul_s2); (· walk_at "b"); (· rfl))
    | ((with_reducible apply div_st); (· walk_at "z"); (· walk_at "b"); (· rfl))
    | ((with_reducible apply mod_st); (· walk_at "z"))
    | with_reducible apply tup_pt
    | with_reducible apply tup_ln
    | ((with_reducible apply tup_st); (· rfl))
    | ((with_reducible apply lst_st); (· rfl))
    | with_reducible apply eqi_st
    | with_reducible apply nei_st
    | with_reducible apply eqp_st
    | with_reducible apply nep_st
    | with_reducible apply eqp_st'
    | with_reducible apply nep_st'
    | with_reducible apply eqb_st
    | with_reducible apply neb_st
    | with_reducible apply isb_st
    | with_reducible apply eqs_st
    | with_reducible apply nes_st
    | with_reducible refine ix2bi (fun _ _ _ => ?_)
    | ((with_reducible refine ix4i ?_ ?_ (fun _ _ _ => ?_)); (· walk_at "z"); (· walk_at "z"))
    | ((with_reducible refine ix2i ?_ ?_ (fun _ _ _ => ?_)); (· walk_at "z"); (· walk_at "z"))
    | ((with_reducible refine ix3i ?_ ?_ (fun _ _ _ => ?_)); (· walk_at "z"); (· walk_at "z"))
    | refine ⟨_, rfl, ?_⟩)
  | ((with_reducible refine fill_st ?_); refine ⟨_, rfl, ?_⟩; (try dsimp only))
  | ((with_reducible apply and_go rfl); (· (intro _; (repeat walk_at "s"); with_reducible exact ⟨rfl, rfl⟩)))
  | ((with_reducible refine is_chain ?_); (apply chain_go rfl); (· (intro _; (repeat walk_at "s"); exact ⟨rfl, rfl⟩)))
  | ((with_reducible refine draw_step (by assumption) ?_ ?_ (fun _ _ _ _ _ => ?_)); (· walk_at "z"); (· walk_at "z"))
  | ((with_reducible refine CLY.draw_step (by assumption) ?_ ?_ (fun _ _ _ _ _ => ?_)); (· walk_at "z"); (· walk_at "z"))
  | ((with_reducible refine is_evA ?_); refine ⟨_, rfl, ?_⟩)
  | ((with_reducible refine is_evL ?_); refine ⟨_, rfl, ?_⟩)
  | ((with_reducible refine is_evI ?_); refine ⟨_, rfl, ?_⟩)
  | ((with_reducible refine is_evR ?_); refine ⟨_, rfl, ?_⟩))
local macro_rules | `(tactic| walk_at "f") => `(tactic| first
  | with_reducible refine W_mV.mpr ?_
  | with_reducible refine W_mCons.mpr ?_
  | with_reducible refine W_m2.mpr ?_
  | with_reducible refine W_mC.mpr ?_
  | with_reducible refine W_mNil.mpr ?_
  | with_reducible refine W_mN.mpr ?_
  | with_reducible refine W_sSeq.mpr ?_
  | with_reducible refine W_sAsg.mpr ?_
  | with_reducible refine W_m1.mpr ?_
  | with_reducible refine W_mCallP.mpr ?_
  | with_reducible refine W_mCall.mpr ?_
  | with_reducible refine X_evI.mpr ?_
  | with_reducible refine X_evE.mpr ?_
  | with_reducible refine X_evN.mpr ?_
  | with_reducible refine X_if ?_
  | with_reducible refine W_sRet.mpr ?_
  | with_reducible refine W_sK.mpr ?_
  | with_reducible refine X_and ?_
  | with_reducible refine X_or ?_
  | with_reducible refine W_sPar.mpr ?_
  | with_reducible refine W_mSl.mpr ?_
  | with_reducible refine W_mPtN.mpr ?_
  | with_reducible refine W_mPtS.mpr ?_
  | with_reducible refine W_mIt.mpr ?_
  | with_reducible refine W_mItN.mpr ?_
  | with_reducible refine W_mComp.mpr ?_
  | ((with_reducible refine is_comp ?_); first | (apply X_compN; (· walk_at "o")) | ((with_reducible apply X_compY); (· walk_at "o"); (· rfl)))
  | with_reducible refine W_sFor.mpr ?_
  | ((with_reducible refine is_for ?_); refine W_forNil.mpr ?_)
  | with_reducible refine X_chain ?_
  | with_reducible refine W_sExp.mpr ?_
  | with_reducible refine W_mL.mpr ?_
  | with_reducible refine X_mif ?_
  | with_reducible refine W_mIxS.mpr ?_
  | with_reducible refine W_mYes.mpr ?_
  | with_reducible refine W_sPar3.mpr ?_
  | with_reducible refine W_mApp.mpr ?_
  | with_reducible refine W_mBor.mpr ?_
  | with_reducible refine CLX.W_sFz.mpr ?_)
local macro_rules | `(tactic| walk_at "s") => `(tactic| first
  | ((with_reducible refine is_W ?_); walk_at "f")
  | ((with_reducible refine is_ex ?_); first
    | ((with_reducible refine is_evS ?_); refine ⟨_, rfl, ?_⟩)
    | ((with_reducible apply call_st); (· with_reducible assumption))
    | walk_at "e")
  | ((with_reducible apply X_nx); (· walk_at "o"))
  | with_reducible refine Kq_ret.mpr ?_
  | with_reducible refine Kq_brk.mpr ?_
  | with_reducible refine Kq_cnt.mpr ?_
  | ((with_reducible apply X_fnx); (· walk_at "o"))
  | ((with_reducible apply X_fcnt); (· walk_at "o"))
  | with_reducible refine X_fbrk ?_
  | with_reducible refine X_fret ?_
  | ((with_reducible refine is_ltA ?_); refine ⟨?_, ?_⟩; (· first | decide | omega | (simp; omega) | (simp; done)))
  | with_reducible refine parW_mk.mpr ?_
  | with_reducible refine par3W_mk.mpr ?_)
local macro_rules | `(tactic| walk_at "r") => `(tactic| repeat walk_at "s")
local macro_rules | `(tactic| walk_at "u") => `(tactic| first | ((apply X_forC); (· walk_at "o"); (· rfl)) | ((apply X_compY); (· walk_at "o"); (· rfl)) | ((apply X_compC); (· walk_at "o"); (· rfl)))
local macro_rules | `(tactic| walk_at "g") => `(tactic| repeat first | walk_at "s" | (with_reducible refine go_ifF (rfl : _ = false) ?_) | (with_reducible refine go_ifT (rfl : _ = true) ?_) | (refine go_ifF (rfl : _ = false) ?_) | (refine go_ifT (rfl : _ = true) ?_) | walk_at "u")
mutual
/-- data: ints below 2 ^ b, at most so deep, texts not long -/
def D.gd (b : Nat) : Nat → D → Bool
  | _, .non => true
  | _, .bl _ => true
  | _, .int i => decide (i.natAbs < 2 ^ b)
  | _, .str x => x.cps.all (· < 128) && decide (x.length ≤ 200 + b)
  | n + 1, .tup l => D.gdL b n l
  | n + 1, .lst l => D.gdL b n l
  | n + 1, .dct ks vs => D.gdL b n ks && D.gdL b n vs && decide (ks.length = vs.length)
  | _, _ => false
def D.gdL (b : Nat) : Nat → List D → Bool
  | _, [] => true
  | n, d :: ds => D.gd b n d && D.gdL b n ds
end
theorem gdL_iff {b n : Nat} : ∀ {l : List D}, D.gdL b n l = true ↔ ∀ x ∈ l, D.gd b n x = true
  | [] => by simp [D.gdL]
  | d :: l => by simp [D.gdL, gdL_iff (l := l)]
mutual
theorem gd_mono {b c : Nat} (hb : b ≤ c) : ∀ {n m : Nat} (d : D), n ≤ m → D.gd b n d = true → D.gd c m d = true
  | _, _, .non, _, _ => by simp [D.gd]
  | _, _, .bl _, _, _ => by simp [D.gd]
  | _, _, .int i, _, h => by
    simp only [D.gd, decide_eq_true_eq] at h ⊢
    exact Nat.lt_of_lt_of_le h (Nat.pow_le_pow_right (by decide) hb)
  | _, _, .str x, _, h => by
    simp only [D.gd, Bool.and_eq_true, decide_eq_true_eq] at h ⊢
    exact ⟨h.1, by omega⟩
  | n + 1, m + 1, .tup l, hn, h => by simp only [D.gd] at h ⊢; exact gdL_mono hb l (by omega) h
  | n + 1, m + 1, .lst l, hn, h => by simp only [D.gd] at h ⊢; exact gdL_mono hb l (by omega) h
  | n + 1, m + 1, .dct ks vs, hn, h => by
    simp only [D.gd, Bool.and_eq_true] at h ⊢
    exact ⟨⟨gdL_mono hb ks (by omega) h.1.1, gdL_mono hb vs (by omega) h.1.2⟩, h.2⟩
  | 0, _, .tup l, _, h => by simp [D.gd] at h
  | 0, _, .lst l, _, h => by simp [D.gd] at h
  | 0, _, .dct _ _, _, h => by simp [D.gd] at h
  | n + 1, 0, _, hn, _ => by omega
  | _, _, .kdc _ _, _, h => by simp [D.gd] at h
  | _, _, .ins _ _ _, _, h => by simp [D.gd] at h
  | _, _, .scr _, _, h => by simp [D.gd] at h
theorem gdL_mono {b c : Nat} (hb : b ≤ c) : ∀ {n m : Nat} (l : List D), n ≤ m → D.gdL b n l = true → D.gdL c m l = true
  | _, _, [], _, _ => by simp [D.gdL]
  | n, m, d :: ds, hn, h => by
    simp only [D.gdL, Bool.and_eq_true] at h ⊢
    exact ⟨gd_mono hb d hn h.1, gdL_mono hb ds hn h.2⟩
end
mutual
theorem gd_okE {b : Nat} (hb : b ≤ 400) : ∀ (n : Nat) (d : D), D.gd b n d = true → D.okE n d = true
  | _, .non, _ => by simp [D.okE]
  | _, .bl _, _ => by simp [D.okE]
  | _, .int i, h => by
    simp only [D.gd, decide_eq_true_eq] at h
    simp only [D.okE, decide_eq_true_eq]
    exact Nat.lt_of_lt_of_le h (Nat.pow_le_pow_right (by decide) hb)
  | _, .str x, h => by simp [D.okE]
  | n + 1, .tup l, h => by simp only [D.gd] at h; simp only [D.okE]; exact gdL_okE hb n l h
  | n + 1, .lst l, h => by simp only [D.gd] at h; simp only [D.okE]; exact gdL_okE hb n l h
  | n + 1, .dct ks vs, h => by
    simp only [D.gd, Bool.and_eq_true] at h
    simp only [D.okE, Bool.and_eq_true]
    exact ⟨⟨gdL_okE hb n ks h.1.1, gdL_okE hb n vs h.1.2⟩, h.2⟩
  | 0, .tup l, h => by simp [D.gd] at h
  | 0, .lst l, h => by simp [D.gd] at h
  | 0, .dct _ _, h => by simp [D.gd] at h
  | _, .kdc _ _, h => by simp [D.gd] at h
  | _, .ins _ _ _, h => by simp [D.gd] at h
  | _, .scr _, h => by simp [D.gd] at h
theorem gdL_okE {b : Nat} (hb : b ≤ 400) : ∀ (n : Nat) (l : List D), D.gdL b n l = true → D.okEL n l = true
  | _, [], _ => by simp [D.okEL]
  | n, d :: ds, h => by
    simp only [D.gdL, Bool.and_eq_true] at h
    simp only [D.okEL, Bool.and_eq_true]
    exact ⟨gd_okE hb n d h.1, gdL_okE hb n ds h.2⟩
end
end CL
namespace CL
end CL
namespace CL
open PySem PySem.Spec L2
set_option autoImplicit false
mutual
theorem nk_hash {w : World} : ∀ (d : D) (k : NestedKey), D.nk d = some k → k.hash w = hashK k
  | .int i, k, h => by simp only [D.nk] at h; cases h; simp only [NestedKey.hash, hashK]
  | .tup l, k, h => by
    simp only [D.nk] at h
    obtain ⟨ks, hk, rfl⟩ := Option.map_eq_some_iff.mp h
    simp only [NestedKey.hash, hashK]
    rw [nk_hashes l ks hk]
  | .non, k, h => by simp [D.nk] at h
  | .bl _, k, h => by simp [D.nk] at h
  | .str _, k, h => by simp [D.nk] at h
  | .lst _, k, h => by simp [D.nk] at h
  | .scr _, k, h => by simp [D.nk] at h
  | .dct _ _, k, h => by simp [D.nk] at h
  | .kdc _ _, k, h => by simp [D.nk] at h
  | .ins _ _ _, k, h => by simp [D.nk] at h
theorem nk_hashes {w : World} : ∀ (l : List D) (ks : List NestedKey), D.nkL l = some ks → NestedKey.hashes w ks = hashKs ks
  | [], ks, h => by simp only [D.nkL] at h; cases h; simp only [NestedKey.hashes, hashKs]
  | d :: ds, ks, h => by
    simp only [D.nkL] at h
    split at h
    · rename_i k ks' h1 h2
      cases h
      simp only [NestedKey.hashes, hashKs]
      rw [nk_hash d k h1, nk_hashes ds ks' h2]
    · cases h
end
theorem nkL_get : ∀ {l : List D} {ks : List NestedKey} {i : Nat} {k : NestedKey}, D.nkL l = some ks → ks[i]? = some k → ∃ d, l[i]? = some d ∧ D.nk d = some k
  | [], ks, i, k, h, e => by simp only [D.nkL] at h; cases h; simp at e
  | d :: ds, ks, i, k, h, e => by
    simp only [D.nkL] at h
    split at h
    · rename_i k' ks' h1 h2
      cases h
      cases i with
      | zero => simp at e; subst e; exact ⟨d, by simp, h1⟩
      | succ i =>
        obtain ⟨d', a, b⟩ := nkL_get h2 (i := i) (k := k) (by simpa using e)
        exact ⟨d', by simpa using a, b⟩
    · cases h
theorem nkL_app {l : List D} {d : D} {ks : List NestedKey} {k : NestedKey} (h : D.nkL l = some ks) (e : D.nk d = some k) : D.nkL (l ++ [d]) = some (ks ++ [k]) := by
  induction l generalizing ks with
  | nil => simp only [D.nkL] at h; cases h; simp [D.nkL, e]
  | cons a l ih =>
    simp only [D.nkL] at h
    split at h
    · rename_i k' ks' h1 h2
      cases h
      simp only [List.cons_append, D.nkL, h1, ih h2]
    · cases h
section
variable [Tb] {X : Cx} {pins : List (Addr × Obj)} {σ : St} {H : Hp} {s : Shared} {Z : Addr → Prop}
mutual
theorem RSh.nkIs (I : Inv X pins σ H s) : ∀ (d : D) (v : V) (u : Value) (k : NestedKey), RSh X.K Z H d v → D.nk d = some k → RelV v u → NestedIs s.heap k u
  | .int i, v, u, k, h, e, r => by
    simp only [RSh] at h; subst h
    obtain ⟨t, rfl⟩ := r
    simp only [D.nk] at e; cases e
    exact .int i t
  | .tup l, v, u, k, h, e, r => by
    simp only [RSh] at h
    obtain ⟨a, xs, rfl, hs, hl⟩ := h
    cases r
    simp only [D.nk] at e
    obtain ⟨ks, hk, rfl⟩ := Option.map_eq_some_iff.mp e
    obtain ⟨its, rv, ⟨ob, ho, hc, n, hd⟩, _⟩ := I.tuple hs
    exact .tup ho hc hd (RShL.nkIs I l xs its ks hl hk rv)
  | .non, _, _, k, _, h, _ => by simp [D.nk] at h
  | .bl _, _, _, k, _, h, _ => by simp [D.nk] at h
  | .str _, _, _, k, _, h, _ => by simp [D.nk] at h
  | .lst _, _, _, k, _, h, _ => by simp [D.nk] at h
  | .scr _, _, _, k, _, h, _ => by simp [D.nk] at h
  | .dct _ _, _, _, k, _, h, _ => by simp [D.nk] at h
  | .kdc _ _, _, _, k, _, h, _ => by simp [D.nk] at h
  | .ins _ _ _, _, _, k, _, h, _ => by simp [D.nk] at h
theorem RShL.nkIs (I : Inv X pins σ H s) : ∀ (l : List D) (vs : List V) (us : List Value) (ks : List NestedKey), RShL X.K Z H l vs → D.nkL l = some ks → Vals vs us → NestedAll s.heap ks us
  | [], vs, us, ks, h, e, r => by
    simp only [RShL] at h; subst h
    cases r
    simp only [D.nkL] at e; cases e
    exact .nil
  | d :: ds, vs, us, ks, h, e, r => by
    simp only [RShL] at h
    obtain ⟨w, ws, rfl, h1, h2⟩ := h
    cases r with
    | cons r1 r2 =>
      simp only [D.nkL] at e
      split at e
      · rename_i k ks' e1 e2
        cases e
        exact .cons (RSh.nkIs I d w _ k h1 e1 r1) (RShL.nkIs I ds ws _ ks' h2 e2 r2)
      · cases e
end
end
/-- the entries with their values -/
def zu : List (NestedKey × Addr × V) → List Value → List (NestedKey × Addr × Value)
  | x :: xs, u :: us => (x.1, x.2.1, u) :: zu xs us
  | _, _ => []
theorem zu_keys : ∀ {xs : List (NestedKey × Addr × V)} {us : List Value}, Vals (xs.map (·.2.2)) us → (zu xs us).map (·.1) = xs.map (·.1) ∧ (zu xs us).length = xs.length
  | [], _, .nil => ⟨rfl, rfl⟩
  | x :: xs, _, .cons h t => by
    obtain ⟨a, b⟩ := zu_keys t
    exact ⟨by simp [zu, a], by simp [zu, b]⟩
theorem zu_mem : ∀ {xs : List (NestedKey × Addr × V)} {us : List Value}, Vals (xs.map (·.2.2)) us → ∀ y ∈ zu xs us, ∃ x ∈ xs, y.1 = x.1 ∧ y.2.1 = x.2.1 ∧ RelV x.2.2 y.2.2
  | [], _, .nil, y, hy => by simp [zu] at hy
  | x :: xs, _, .cons h t, y, hy => by
    simp only [zu, List.mem_cons] at hy
    rcases hy with rfl | hy
    · exact ⟨x, by simp, rfl, rfl, h⟩
    · obtain ⟨z, hz, r⟩ := zu_mem t y hy
      exact ⟨z, by simp [hz], r⟩
theorem ents_zu [Tb] {P : Program} {w : World} : ∀ {xs : List (NestedKey × Addr × V)} {us : List Value}, (∀ x ∈ xs, x.1.hash w = hashK x.1) → ents xs us = (zu xs us).map (entryOfKey (nestedKind P w))
  | [], us, _ => by simp [ents, zu]
  | x :: xs, [], _ => by simp [ents, zu]
  | x :: xs, u :: us, h => by
    simp only [ents, zu, List.map_cons]
    rw [ents_zu (P := P) fun y hy => h y (by simp [hy])]
    congr 1
    show _ = (⟨x.1.hash w, _, _⟩ : DictEntry)
    rw [h x (by simp)]
theorem kd_stay {a : Addr} {xs : List (NestedKey × Addr × V)} {P : Program} {w : World} {H : Hp} {h : Heap} (z : xs.length ≤ sizeLine) (hs : (a == sysModules) = false) (nd : (xs.map (·.1)).Nodup) (ko : (xs.all fun x => kOk x.1) = true)
    {us : List Value} (va : Vals (xs.map (·.2.2)) us) {o : Obj} {es : Array DictEntry} {ep : Nat} (e1 : h.get? a = some o) (e2 : o.ExactDict) (e3 : o.data = .dict es ep) (e4 : es.toList = ents xs us) : ObjOk P w H h a (KdO a xs) :=
  ⟨⟨z, hs, nd, ko, us, va, o, es, ep, e1, e2, e3, e4⟩, ⟨o, e1⟩, fun h1 h2 ⟨z, hs, nd, ko, us, va, o, es, ep, e1, e2, e3, e4⟩ k => ⟨z, hs, nd, ko, us, va, o, es, ep, k o e1, e2, e3, e4⟩⟩
section
variable [Tb] {X : Cx} {pins : List (Addr × Obj)} {σ : St} {H : Hp} {s : Shared} {Z : Addr → Prop} {a : Addr} {xs : List (NestedKey × Addr × V)} {ks : List D}
theorem kd_at (I : Inv X pins σ H s) (e : H a = some (KdO a xs)) (hk : D.nkL ks = some (xs.map (·.1))) (hr : RShL X.K Z H ks (xs.map fun x => .ref x.2.1)) :
    xs.length ≤ sizeLine ∧ (a == sysModules) = false ∧ (xs.all fun x => kOk x.1) = true ∧ ∃ us, Vals (xs.map (·.2.2)) us ∧ s.heap.DictOfH (nestedKind X.prog X.w) a (zu xs us) ∧ (zu xs us).length ≤ sizeLine := by
  obtain ⟨⟨z, hs, nd, ko, us, va, o, es, ep, e1, e2, e3, e4⟩, _, _⟩ := (show ObjOk X.prog X.w H s.heap a (KdO a xs) from I.hok a _ e)
  have hh : ∀ x ∈ xs, x.1.hash X.w = hashK x.1 := fun x hx => by
    obtain ⟨i, hi⟩ := List.getElem?_of_mem hx
    obtain ⟨d, _, hd⟩ := nkL_get hk (i := i) (k := x.1) (by rw [List.getElem?_map, hi]; rfl)
    exact nk_hash d _ hd
  refine ⟨z, hs, ko, us, va, ⟨o, es, ep, e1, e2, e3, by rw [e4]; exact ents_zu hh, fun y hy => ?_, by rw [(zu_keys va).1]; exact nd⟩, by rw [(zu_keys va).2]; exact z⟩
  obtain ⟨x, hx, q1, q2, _⟩ := zu_mem va y hy
  obtain ⟨i, hi⟩ := List.getElem?_of_mem hx
  obtain ⟨d, hd1, hd2⟩ := nkL_get hk (i := i) (k := x.1) (by rw [List.getElem?_map, hi]; rfl)
  obtain ⟨v, hv1, hv2⟩ := hr.get hd1
  rw [List.getElem?_map, hi] at hv1
  cases hv1
  rw [q1, q2]
  refine ⟨RSh.nkIs I d _ _ _ hv2 hd2 rfl, ?_⟩
  have := List.all_eq_true.mp ko x hx
  unfold kOk at this
  split at this
  · rename_i l e; rw [e]; simpa using this
  · cases this
end
def kset : List NestedKey → List D → NestedKey → D → List D
  | a :: ks, v :: vs, k, d => (if a = k then d else v) :: kset ks vs k d
  | _, vs, _, _ => vs
theorem atKey_some : ∀ {xs : List (NestedKey × Addr × V)} {us : List Value} {k : NestedKey}, Vals (xs.map (·.2.2)) us → (atKey (zu xs us) k).isSome = decide (k ∈ xs.map (·.1))
  | [], _, k, .nil => by simp [zu, atKey]
  | x :: xs, _, k, .cons h t => by
    have ih := atKey_some (k := k) t
    by_cases e : x.1 = k
    · simp [zu, atKey, e]
    · have e' : ¬ k = x.1 := fun z => e z.symm
      simp only [zu, atKey, List.find?_cons, e, decide_false, List.map_cons, List.mem_cons, e', false_or] at ih ⊢
      exact ih
/-- one entry put in -/
def putX (xs : List (NestedKey × Addr × V)) (k : NestedKey) (b : Addr) (v : V) : List (NestedKey × Addr × V) := if k ∈ xs.map (·.1) then xs.map (fun x => if x.1 = k then (x.1, x.2.1, v) else x) else xs ++ [(k, b, v)]
theorem zu_put : ∀ {xs : List (NestedKey × Addr × V)} {us : List Value} {k : NestedKey} {v : V} {u : Value}, Vals (xs.map (·.2.2)) us → RelV v u → ∃ us', (zu xs us).map (PySem.putAt k u) = zu (xs.map (fun x => if x.1 = k then (x.1, x.2.1, v) else x)) us' ∧ Vals ((xs.map (fun x => if x.1 = k then (x.1, x.2.1, v) else x)).map (·.2.2)) us'
  | [], _, k, v, u, .nil, r => ⟨[], rfl, .nil⟩
  | x :: xs, _, k, v, u, .cons (b := w) h t, r => by
    obtain ⟨us', a, b⟩ := zu_put (k := k) t r
    by_cases e : x.1 = k
    · exact ⟨u :: us', by simp [zu, PySem.putAt, e, a], by simp only [List.map_cons, e, if_true]; exact .cons r b⟩
    · exact ⟨w :: us', by simp [zu, PySem.putAt, e, a], by simp only [List.map_cons, e, if_false]; exact .cons h b⟩
theorem zu_app : ∀ {xs : List (NestedKey × Addr × V)} {us : List Value} {k : NestedKey} {b : Addr} {v : V} {u : Value}, Vals (xs.map (·.2.2)) us → RelV v u → zu xs us ++ [(k, b, u)] = zu (xs ++ [(k, b, v)]) (us ++ [u]) ∧ Vals ((xs ++ [(k, b, v)]).map (·.2.2)) (us ++ [u])
  | [], _, k, b, v, u, .nil, r => ⟨rfl, .cons r .nil⟩
  | x :: xs, _, k, b, v, u, .cons h t, r => by
    obtain ⟨p, q⟩ := zu_app (k := k) (b := b) t r
    exact ⟨by simp [zu, p], .cons h q⟩
theorem zu_stored {xs : List (NestedKey × Addr × V)} {us : List Value} {k : NestedKey} {b : Addr} {v : V} {u : Value} (va : Vals (xs.map (·.2.2)) us) (r : RelV v u) : ∃ us', storedH (zu xs us) k b u = zu (putX xs k b v) us' ∧ Vals ((putX xs k b v).map (·.2.2)) us' := by
  unfold storedH putX
  rw [atKey_some va]
  by_cases h : k ∈ xs.map (·.1)
  · rw [if_pos h, if_pos (decide_eq_true h)]
    exact zu_put va r
  · rw [if_neg h, if_neg (by simp [h])]
    obtain ⟨p, q⟩ := zu_app (k := k) (b := b) va r
    exact ⟨_, p, q⟩
theorem putX_keys {xs : List (NestedKey × Addr × V)} {k : NestedKey} {b : Addr} {v : V} : (putX xs k b v).map (·.1) = if k ∈ xs.map (·.1) then xs.map (·.1) else xs.map (·.1) ++ [k] := by
  unfold putX
  split
  · rw [List.map_map]
    refine List.map_congr_left fun x _ => ?_
    simp only [Function.comp_apply]
    split <;> rfl
  · simp
/-- the keys and values behind d[k] = v -/
def kput (ks vs : List D) (nks : List NestedKey) (kd : D) (k : NestedKey) (d : D) : D := if k ∈ nks then .kdc ks (kset nks vs k d) else .kdc (ks ++ [kd]) (vs ++ [d])
theorem kset_rel [Tb] {K : PySem.W.Frag} {Z : Addr → Prop} {H : Hp} {k : NestedKey} {d : D} {v : V} (rv : RSh K Z H d v) : ∀ {xs : List (NestedKey × Addr × V)} {vs : List D}, RShL K Z H vs (xs.map (·.2.2)) → RShL K Z H (kset (xs.map (·.1)) vs k d) ((xs.map (fun x => if x.1 = k then (x.1, x.2.1, v) else x)).map (·.2.2))
  | [], vs, r => by
    simp only [List.map_nil] at r ⊢
    have : vs = [] := List.eq_nil_of_length_eq_zero (by simpa using r.len)
    subst this
    simpa only [kset] using r
  | x :: xs, vs, r => by
    cases vs with
    | nil => simp only [List.map_cons, RShL] at r; cases r
    | cons z vs =>
      simp only [List.map_cons, RShL] at r
      obtain ⟨w, ws, e0, r1, r2⟩ := r
      cases e0
      simp only [List.map_cons, kset]
      by_cases e : x.1 = k
      · rw [if_pos e, if_pos e]
        simp only [RShL]
        exact ⟨v, _, rfl, rv, kset_rel rv r2⟩
      · rw [if_neg e, if_neg e]
        simp only [RShL]
        exact ⟨x.2.2, _, rfl, r1, kset_rel rv r2⟩
def keyOf (d : D) : Option NestedKey := d.nk.bind fun k => if kOk k = true then some k else none
theorem keyOf_ok {d : D} {k : NestedKey} (h : keyOf d = some k) : D.nk d = some k ∧ kOk k = true := by
  unfold keyOf at h
  obtain ⟨k', h1, h2⟩ := Option.bind_eq_some_iff.mp h
  split at h2
  · rename_i hk; cases h2; exact ⟨h1, hk⟩
  · cases h2
theorem keyOf_tup {d : D} {k : NestedKey} (h : keyOf d = some k) : ∃ l, d = .tup l := by
  obtain ⟨h1, h2⟩ := keyOf_ok h
  cases d with
  | tup l => exact ⟨l, rfl⟩
  | int i => simp only [D.nk] at h1; cases h1; simp [kOk] at h2
  | _ => simp [D.nk] at h1
theorem kOk_depth {k : NestedKey} (h : kOk k = true) : k.depth ≤ 8 := by
  unfold kOk at h
  split at h
  · simpa using h
  · cases h
theorem Pk0.kdc [Tb] {K : PySem.W.Frag} {Z : Addr → Prop} {H : Hp} {ks vs : List D} {v : V} (h : Pk0 K Z H (.kdc ks vs) v) : ∃ a xs, v = .ref a ∧ H a = some (KdO a xs) ∧ D.nkL ks = some (xs.map (·.1)) ∧ RShL K Z H ks (xs.map fun x => .ref x.2.1) ∧ RShL K Z H vs (xs.map (·.2.2)) := by
  rcases h with h | ⟨_, _, _, e, _⟩
  · simp only [RSh] at h
    obtain ⟨a, xs, e, _, q⟩ := h
    exact ⟨a, xs, e, q⟩
  · cases e
theorem key_at [Tb] {X : Cx} {pins : List (Addr × Obj)} {σ : St} {H : Hp} {s : Shared} {Z : Addr → Prop} {kd : D} {k : NestedKey} {v : V} {u : Value} (I : Inv X pins σ H s) (h : keyOf kd = some k) (p : Pk0 X.K Z H kd v) (r : RelV v u) : ∃ b, v = .ref b ∧ u = .ref b ∧ (nestedKind X.prog X.w).is s.heap k b := by
  obtain ⟨l, rfl⟩ := keyOf_tup h
  obtain ⟨h1, h2⟩ := keyOf_ok h
  rcases p with p | ⟨_, _, _, e, _⟩
  · have p0 := p
    simp only [RSh] at p
    obtain ⟨b, xs, rfl, _⟩ := p
    cases r
    exact ⟨b, rfl, rfl, RSh.nkIs I _ _ _ _ p0 h1 rfl, kOk_depth h2⟩
  · cases e
section
variable [Tb] {X : Cx}
end
end CL
namespace CL
open PySem PySem.Spec L2
set_option autoImplicit false
section
variable [Tb] {X : Cx}
/-- d[k] = v of a dict of one's own -/
def rSetK [Tb] (K : PySem.W.Frag) : V → V → V → Hp → (Hp → Prop) → Prop := fun o i v H Q => ∃ (Z : Addr → Prop) (a : Addr) (xs : List (NestedKey × Addr × V)) (ks : List D) (kd : D) (k : NestedKey) (b : Addr), o = .ref a ∧ H a = some (KdO a xs) ∧ D.nkL ks = some (xs.map (·.1)) ∧ RShL K Z H ks (xs.map fun x => .ref x.2.1) ∧ keyOf kd = some k ∧ i = .ref b ∧ RSh K Z H kd i ∧ xs.length < sizeLine ∧ Q (upd H a (KdO a (putX xs k b v)))
theorem putX_len {xs : List (NestedKey × Addr × V)} {k : NestedKey} {b : Addr} {v : V} : (putX xs k b v).length ≤ xs.length + 1 := by
  unfold putX
  split <;> simp
theorem putX_ok {xs : List (NestedKey × Addr × V)} {k : NestedKey} {b : Addr} {v : V} (h : (xs.all fun x => kOk x.1) = true) (hk : kOk k = true) : ((putX xs k b v).all fun x => kOk x.1) = true := by
  rw [List.all_eq_true] at h ⊢
  intro x hx
  have hm : x.1 ∈ (putX xs k b v).map (·.1) := List.mem_map_of_mem hx
  rw [putX_keys] at hm
  split at hm
  · obtain ⟨y, hy, e⟩ := List.mem_map.mp hm
    rw [← e]; exact h y hy
  · rcases List.mem_append.mp hm with hm | hm
    · obtain ⟨y, hy, e⟩ := List.mem_map.mp hm
      rw [← e]; exact h y hy
    · rw [List.mem_singleton.mp hm]; exact hk
theorem set_kd (hu : X.A.units + 64 < cLine) : PSet X (rSetK X.K) := by
  intro pins s σ H o i v ov iv u Q I ro ri rv h
  obtain ⟨Z, a, xs, ks, kd, k, b, rfl, g1, g2, g3, hk, rfl, rk, hl, q⟩ := h
  cases ro
  obtain ⟨z, hs, ko, us, va, dd, hz⟩ := kd_at I g1 g2 g3
  obtain ⟨b', e1, e2, ki⟩ := key_at I hk (.inl rk) ri
  cases e1
  subst e2
  refine wpAny_setItem_heap (hsz := hz) (show X.A.in1.units + 8 < cLine by show X.A.units + 1 + 8 < cLine; omega) ki dd fun h' dd' hsb => ?_
  obtain ⟨us', eu, va'⟩ := zu_stored (k := k) (b := b) va rv
  rw [eu] at dd'
  obtain ⟨ob, es, ep, hq, h2, h3, h4, hi, h5⟩ := dd'
  refine ⟨_, d_write I (by rw [g1]; exact True.intro) hsb ⟨ob, hq⟩ (kd_stay (by have := putX_len (xs := xs) (k := k) (b := b) (v := v); omega) hs (by rw [← (zu_keys va').1]; exact h5) (putX_ok ko (keyOf_ok hk).2) va' hq h2 h3 ?_), q⟩
  rw [h4]
  refine (ents_zu fun x hx => ?_).symm
  have hm : x.1 ∈ (putX xs k b v).map (·.1) := List.mem_map_of_mem hx
  have old : ∀ y ∈ xs.map (·.1), NestedKey.hash X.w y = hashK y := fun y hy => by
    obtain ⟨i, hi⟩ := List.getElem?_of_mem hy
    obtain ⟨d, _, hd⟩ := nkL_get g2 hi
    exact nk_hash d _ hd
  rw [putX_keys] at hm
  split at hm
  · exact old _ hm
  · rcases List.mem_append.mp hm with hm | hm
    · exact old _ hm
    · rw [List.mem_singleton.mp hm]; exact nk_hash kd _ (keyOf_ok hk).1
end
section
variable [Tb] {K : PySem.W.Frag} {τ : Nat → OT} {Z : Addr → Prop} {own : Addr → Option Nat} {H : Hp} {ρ : Sl} {σ : St} {i : Nat}
theorem RS.updOwnG {a : Addr} {u0 u1 : HO} {v : V} {d : D} (m0 : Mut u0) (m1 : Mut u1) (h : RS K τ Z own H ρ σ) (ho : own a = some i) (ha : H a = some u0) (hv : σ[i]? = some (some v)) (hn : R K Z (upd H a u1) (τ i) d v (fun b => own b = some i)) :
    RS K τ Z own (upd H a u1) (ρ.set i (some d)) σ ∧ Ext false Z own H Z own (upd H a u1) := by
  have hz := h.dz a i ho
  have nl : NL H (upd H a u1) := fun b o e hm _ => by
    rw [upd_ne (fun w => by subst w; rw [ha] at e; cases e; exact hm m0)]; exact e
  have sq : ∀ b o, Z b → H b = some o → NT o → upd H a u1 b = some o := fun b o z s _ => by
    rw [upd_ne (fun e => by subst e; exact hz z)]; exact s
  refine ⟨⟨fun j d' e => ?_, fun b j e => ?_, h.dz, fun b z e => ?_, by simpa using h.len, (upd_tk ha m0).ok h.tb⟩, fun _ z => z, fun _ z => .inl z, fun _ _ z => .inl z, fun b o e hb _ => ?_, fun b e n => ?_, upd_tk ha m0⟩
  · by_cases hij : i = j
    · subst hij
      rw [List.getElem?_set] at e
      split at e
      · split at e
        · cases e; exact ⟨v, hv, hn⟩
        · cases e
      · rename_i n; exact absurd rfl n
    · rw [List.getElem?_set_ne hij] at e
      obtain ⟨w, e1, e2⟩ := h.sl j d' e
      refine ⟨w, e1, R.pres (fun _ z => z) nl sq (fun b zs s hb _ => ?_) e2⟩
      rw [upd_ne (fun e => by subst e; rw [ho] at s; cases s; exact hij rfl)]; exact hb
  · by_cases hb : b = a
    · subst hb; exact ⟨_, upd_same, m1⟩
    · obtain ⟨zs, hx, hm⟩ := h.ls b j e
      exact ⟨zs, by rw [upd_ne hb]; exact hx, hm⟩
  · rw [upd_ne (fun w => by subst w; exact hz z)] at e
    exact h.zt b z e
  · rcases hb with hb | hb
    · rw [upd_ne (fun w => by subst w; rw [ho] at hb; cases hb)]; exact e
    · cases hb
  · by_cases hb : b = a
    · subst hb; rw [upd_same] at n; cases n
    · rw [upd_ne hb] at n; exact e n
theorem putX_refs {xs : List (NestedKey × Addr × V)} {k : NestedKey} {b : Addr} {v : V} : (putX xs k b v).map (fun x => V.ref x.2.1) = if k ∈ xs.map (·.1) then xs.map (fun x => V.ref x.2.1) else xs.map (fun x => V.ref x.2.1) ++ [.ref b] := by
  unfold putX
  split
  · rw [List.map_map]
    refine List.map_congr_left fun x _ => ?_
    simp only [Function.comp_apply]
    split <;> rfl
  · simp
theorem kput_rel {ks vs : List D} {xs : List (NestedKey × Addr × V)} {kd d : D} {k : NestedKey} {b : Addr} {v : V} (hk : D.nk kd = some k) (g2 : D.nkL ks = some (xs.map (·.1))) (g3 : RShL K Z H ks (xs.map fun x => .ref x.2.1)) (g4 : RShL K Z H vs (xs.map (·.2.2))) (rk : RSh K Z H kd (.ref b)) (rv : RSh K Z H d v) :
    ∃ ks' vs', kput ks vs (xs.map (·.1)) kd k d = .kdc ks' vs' ∧ D.nkL ks' = some ((putX xs k b v).map (·.1)) ∧ RShL K Z H ks' ((putX xs k b v).map fun x => .ref x.2.1) ∧ RShL K Z H vs' ((putX xs k b v).map (·.2.2)) := by
  rw [putX_keys, putX_refs]
  unfold kput putX
  by_cases h : k ∈ xs.map (·.1)
  · rw [if_pos h, if_pos h, if_pos h, if_pos h]
    exact ⟨_, _, rfl, g2, g3, kset_rel rv g4⟩
  · rw [if_neg h, if_neg h, if_neg h, if_neg h]
    refine ⟨_, _, rfl, nkL_app g2 hk, g3.append (.one rk), ?_⟩
    rw [List.map_append]
    exact g4.append (.one rv)
theorem RS.ownK {ks vs : List D} (h : RS K τ Z own H ρ σ) (ht : τ i = .od) (hi : ρ[i]? = some (some (.kdc ks vs))) : ∃ a xs, σ[i]? = some (some (.ref a)) ∧ H a = some (KdO a xs) ∧ own a = some i ∧ D.nkL ks = some (xs.map (·.1)) ∧ RShL K Z H ks (xs.map fun x => .ref x.2.1) ∧ RShL K Z H vs (xs.map (·.2.2)) ∧
    ∀ ks' vs' ys, D.nkL ks' = some (ys.map (·.1)) → RShL K Z H ks' (ys.map fun x => .ref x.2.1) → RShL K Z H vs' (ys.map (·.2.2)) → RS K τ Z own (upd H a (KdO a ys)) (ρ.set i (some (.kdc ks' vs'))) σ ∧ Ext false Z own H Z own (upd H a (KdO a ys)) := by
  obtain ⟨v, hv, r⟩ := h.sl i _ hi
  rw [ht] at r
  obtain ⟨ks0, vs0, a, xs, e1, rfl, e3, e4, e5, e6, e7⟩ := r
  cases e1
  refine ⟨a, xs, hv, e3, e4, e5, e6, e7, fun ks' vs' ys n1 n2 n3 => h.updOwnG mutK mutK e4 e3 hv ?_⟩
  rw [ht]
  have hz := h.dz a i e4
  have nl : NL H (upd H a (KdO a ys)) := fun b o e hm _ => by
    rw [upd_ne (fun w => by subst w; rw [e3] at e; cases e; exact hm mutK)]; exact e
  have sq : ∀ b o, Z b → H b = some o → NT o → upd H a (KdO a ys) b = some o := fun b o z s _ => by
    rw [upd_ne (fun e => by subst e; exact hz z)]; exact s
  exact ⟨ks', vs', a, ys, rfl, rfl, upd_same, e4, n1, RShL.pres (fun _ z => z) nl sq _ _ n2, RShL.pres (fun _ z => z) nl sq _ _ n3⟩
end
def sStoK (i : Nat) (mi m : M D) : MS := bind m fun d => bind (mV i) fun _ => bind mi fun kd => fun ρ => match ρ[i]? with
  | some (some (.kdc ks vs)) => (match keyOf kd, D.nkL ks with
    | some k, some nks => if ks.length < 16777216 then .ok (.nx, ρ.set i (some (kput ks vs nks kd k d))) else .bad
    | _, _ => .bad)
  | _ => .bad
section
variable [Tb] {X : Cx} {F : Fr} {q q2 : Bool} {e b : Expr} {ma mi : M D} {pos p1 p0 : Pos} {x : Str}
theorem s_stoK (i : Nat) (hu : X.A.units + 64 < cLine) (he : PE X e (tE X.K F.τ q .sh ma)) (hb : PE X b (tE X.K F.τ q2 .sh mi)) (ht : F.τ i = .od := by rfl) (hN : X.N[i]? = some x := by rfl) (hv : Vis X.env.scope x := by first | exact Or.inl rfl | exact Or.inr (Or.inl rfl) | exact Or.inr (Or.inr rfl)) (hd : (x == ("__debug__" : Str)) = false := by decide)
    (hcd : (x == ("__classdict__" : Str)) = false := by decide)
    (ha : ∀ v, assign (.Subscript (.Name x p1) b p0) X.env v = (do
      let ov ← holding [v] (eval (.Name x p1) X.env)
      let iv ← holding [v, ov] (eval b X.env)
      standAt p0
      holding [v, ov, iv] (setItem ov iv v)
      release [v, ov, iv] []) := by intro _; rfl)
    (hs : swapsWithSole [.Subscript (.Name x p1) b p0] e pos.line X.env = pure false := by rfl) (hw : swappedStores [.Subscript (.Name x p1) b p0] e X.env = pure none := by rfl)
    (h1 : (assignEach [.Subscript (.Name x p1) b p0] X.env).map (·.2) = [assign (.Subscript (.Name x p1) b p0) X.env] := by rfl) :
    PS X (.Assign [.Subscript (.Name x p1) b p0] e pos) (tS X.K F (sStoK i mi ma)) := (ps_asg he (pg_sub (pv i hN hv hd hcd) hb (set_kd hu) ha) hs hw h1).mono fun E σ H ⟨Z, own, ρ, f, ρ', rs, e, o⟩ => by
  obtain ⟨d1, ρ1, e1, f1⟩ := bind_ok e
  obtain ⟨y, ρ1', e0, f3⟩ := bind_ok f1
  obtain ⟨e0, rfl⟩ := mV_ok e0
  obtain ⟨kd, ρ2, e2, f2⟩ := bind_ok f3
  split at f2
  · rename_i ks vs hl
    split at f2
    · rename_i k nks hk hnk
      split at f2
      · rename_i hlen
        cases f2
        refine ⟨Z, own, ρ, d1, _, rs, e1, fun v Z1 own1 H1 S rs1 rm n x1 => ?_⟩
        obtain ⟨u, hv1, hr⟩ := rs1.sl i y e0
        rw [ht] at hr
        obtain ⟨ks0, vs0, a, xs0, k1, rfl, k3, k4, k5⟩ := hr
        refine ⟨.ref a, hv1, Z1, own1, _, kd, ρ2, rs1, e2, fun w Z2 own2 H2 S2 rs2 rm2 n2 x2 => ?_⟩
        have rm2' : RSh X.K Z2 H2 kd w := rm2
        obtain ⟨a', xs, g1, g2, g3, g4, g5, g6, g7⟩ := rs2.ownK ht hl
        rw [hv1] at g1; cases g1
        rw [g4] at hnk; cases hnk
        obtain ⟨tl, rfl⟩ := keyOf_tup hk
        have rm3 := rm2'
        simp only [RSh] at rm3
        obtain ⟨bb, zs, rfl, _⟩ := rm3
        have hlen' : xs.length < sizeLine := by
          have := g5.len
          rw [szL]
          simp at this
          omega
        obtain ⟨ks', vs', q1, q2, q3, q4⟩ := kput_rel (v := v) (d := d1) (keyOf_ok hk).1 g4 g5 g6 rm2' (rs1.sh x2 rm)
        obtain ⟨rs3, x3⟩ := g7 ks' vs' _ q2 q3 q4
        rw [← q1] at rs3
        exact ⟨Z2, a, xs, ks, _, k, bb, rfl, g2, g4, g5, hk, rfl, rm2', hlen', o σ Z2 own2 _ rs3 Fix.refl (((x1.weak.any).transF (x2.weak.any)).transF x3.any)⟩
      · cases f2
    · cases f2
  · cases f2
end
theorem W_sStoK {i : Nat} {mi m : M D} {ρ : Sl} {Q : Fl → Sl → Prop} : W (sStoK i mi m) ρ Q ↔ W m ρ fun d ρ1 => W (mV i) ρ1 fun _ ρ2 => W mi ρ2 fun kd ρ3 => ∃ ks vs k nks, ρ3[i]? = some (some (.kdc ks vs)) ∧ keyOf kd = some k ∧ D.nkL ks = some nks ∧ ks.length < 16777216 ∧ Q .nx (ρ3.set i (some (kput ks vs nks kd k d))) := by
  simp only [sStoK, W_bind]
  constructor <;> refine fun h => h.mono fun d ρ1 q => q.mono fun _ ρ2 q => q.mono fun kd ρ3 q => ?_
  · obtain ⟨f, ρ', e, q⟩ := q
    dsimp only at e
    split at e
    · rename_i ks vs hl
      split at e
      · rename_i k nks h1 h2
        split at e
        · rename_i h3
          cases e
          exact ⟨ks, vs, k, nks, hl, h1, h2, h3, q⟩
        · cases e
      · cases e
    · cases e
  · obtain ⟨ks, vs, k, nks, hl, h1, h2, h3, q⟩ := q
    exact ⟨.nx, _, by simp only [hl, h1, h2, h3, if_true], q⟩
section
variable [Tb] {X : Cx} {τ : Nat → OT} {q : Bool} {a : Expr} {ma : M D} {pos : Pos}
theorem kd_empty [Tb] {P : Program} {w : World} {H : Hp} (h : Heap) (hb : sysModules < h.objs.size) : ObjOk P w H (h.push { cls := .type "dict", data := .dict #[] }) h.objs.size (KdO h.objs.size []) :=
  kd_stay (us := []) (by simp [szL]) (beq_eq_false_iff_ne.mpr (Ne.symm (Nat.ne_of_lt hb))) (by simp) (by simp) .nil (Heap.get?_push_size _ rfl) ⟨rfl, rfl, rfl⟩ rfl rfl
theorem pe_kdnew : PE X (.Dict [] [] pos) (fun _ H Q => ∀ p, H p = none → Q (.ref p) (upd H p (KdO p []))) := ⟨fun pins s σ H Q I h =>
  wpAny_Dict_empty ⟨.ref s.heap.objs.size, _, I.laid (a := s.heap.objs.size) (o := KdO s.heap.objs.size []) (t' := s.toks) (fun _ _ q => Heap.get?_push_of_some _ q) (Nat.le_refl _) (kd_empty s.heap I.big), rfl, h _ (I.hok.fresh (Nat.le_refl _))⟩⟩
theorem e_kd0 : PE X (.Dict [] [] pos) (tE X.K τ true (.ow .od) (mC (.kdc [] []))) := pe_kdnew.mono fun σ H Q ⟨Z, own, ρ, d, ρ', rs, e, k⟩ => by
  unfold mC at e; cases e
  intro p hp
  have g : Grow H (upd H p (KdO p [])) := Grow.new hp
  refine k _ Z own _ (fun a => a = p) (rs.growO g) ⟨[], [], p, [], rfl, rfl, upd_same, rfl, rfl, by simp only [List.map_nil, RShL], by simp only [List.map_nil, RShL]⟩ (fun a e => ?_) (ExtF.growO g)
  subst e
  refine ⟨hp, ?_, fun z => rs.zt a z hp, _, upd_same, mutK⟩
  cases ho : own a with
  | none => rfl
  | some j =>
    obtain ⟨o, h1, _⟩ := rs.ls a j ho
    rw [hp] at h1; cases h1
end
end CL
namespace CL
open PySem PySem.Spec L2 PySem.W PySem.Calls PyProof.Rows
set_option autoImplicit false
def sortDK : List D → Option (List D)
  | [.kdc ks _] => if (dataOk ks && sortB ks) = true then some (ks.mergeSort leD) else none
  | _ => none
theorem sortedHeap_at {h : Heap} {a : Addr} {vs : List Value} {out : Array Value} {n : Nat} (e : h.get? a = some (seqObj "list" vs.toArray n)) : ∃ m, (sortedHeap h a vs out).get? a = some { cls := .type "list", data := .seq out m } := by
  unfold sortedHeap
  have h1 : (h.update a (Obj.mapSeq fun _ => #[])).get? a = some (Obj.mapSeq (fun _ => #[]) (seqObj "list" vs.toArray n)) := Heap.get?_update_self _ e rfl
  have h2 := Heap.get?_push_of_some (seqObj "tuple" vs.toArray 0) h1
  have h3 := Heap.get?_push_of_some (seqObj "list" #[] 0) h2
  exact ⟨_, Heap.get?_update_self _ h3 rfl⟩
theorem sortedHeap_old {h : Heap} {a b : Addr} {vs : List Value} {out : Array Value} {o : Obj} (hb : b ≠ a) (e : h.get? b = some o) : (sortedHeap h a vs out).get? b = some o := by
  unfold sortedHeap
  refine (Heap.SameBut.update ..).2 b hb |>.trans ?_
  refine Heap.get?_push_of_some _ (Heap.get?_push_of_some _ ?_)
  exact ((Heap.SameBut.update ..).2 b hb).trans e
mutual
theorem Reads_live {h : Heap} : ∀ {v : Value} {d : PyData} {as : List Addr}, Reads h v d as → ∀ b ∈ as, ∃ o, h.get? b = some o
  | _, _, _, .none, b, hb => by simp at hb
  | _, _, _, .bool _, b, hb => by simp at hb
  | _, _, _, .int _ _, b, hb => by simp at hb
  | _, _, _, .str _ _, b, hb => by simp at hb
  | _, _, _, .list h1 _ _ r, b, hb => by
    rcases List.mem_cons.mp hb with rfl | hb
    · exact ⟨_, h1⟩
    · exact ReadsAll_live r b hb
  | _, _, _, .tuple _ _ _ r, b, hb => ReadsAll_live r b hb
  | _, _, _, .dict h1 _ _ r r', b, hb => by
    rcases List.mem_append.mp hb with hb | hb
    · rcases List.mem_cons.mp hb with rfl | hb
      · exact ⟨_, h1⟩
      · exact ReadsAll_live r b hb
    · exact ReadsAll_live r' b hb
theorem ReadsAll_live {h : Heap} : ∀ {v : List Value} {d : List PyData} {as : List Addr}, ReadsAll h v d as → ∀ b ∈ as, ∃ o, h.get? b = some o
  | _, _, _, .nil, b, hb => by simp at hb
  | _, _, _, .cons r rs, b, hb => by
    rcases List.mem_append.mp hb with hb | hb
    · exact Reads_live r b hb
    · exact ReadsAll_live rs b hb
end
theorem c_sortedK [Tb] {X : Cx} (hr : X.calm = true) (hu : X.A.units + 65 < cLine) : CallR X (.builtin "sorted") (rLn X.K sortDK) := by
  intro pins s σ H xs us Q I r h
  obtain ⟨Z, ds, l, pl, e, k⟩ := h
  unfold sortDK at e
  split at e
  · rename_i ks vs
    split at e
    · rename_i ho
      cases e
      simp only [Bool.and_eq_true] at ho
      obtain ⟨ho, hsb⟩ := ho
      have ho1 : D.okL 58 ks = true := by simp only [dataOk, Bool.and_eq_true] at ho; exact ho.1.1
      have hn : ∀ d ∈ ks, d.isNon = false := by
        simp only [dataOk, Bool.and_eq_true, List.all_eq_true, Bool.not_eq_true'] at ho
        exact ho.2
      have hal : AllAlike (ks.map D.py) := by
        have := (dataOk_alike ho).1
        rw [pyL_map] at this
        exact this
      obtain ⟨v, rfl, p⟩ := pl.one
      obtain ⟨a, xs, rfl, g1, g2, g3, g4⟩ := p.kdc
      rw [Vals.ref1 r]
      obtain ⟨z, hs, ko, us, va, dd, hz⟩ := kd_at I g1 g2 g3
      obtain ⟨o, es, ep, e1, e2, e3, e4, _, _⟩ := dd
      have hsz : es.size = xs.length := by
        have := congrArg List.length e4
        rw [List.length_map, (zu_keys va).2] at this
        simpa using this
      refine call_function_entry kind_sorted plain_sorted entry_sorted (args_sorted1 _) ?_
      unfold Builtin.«sorted»
      refine wpAny_bind (m := checkCount "sorted" 1 1 _) (wpAny_pure ?_)
      refine wpAny_bind (kdu_collect (A := X.A.in1) (KdlSrc.rawDict (es := es) (ep := ep) hs) (I.ok.hd hr) ⟨o, e1, e2, e3⟩ (by rw [hsz]; exact z) fun h' tk acc hk hacc => ?_)
      have ha : acc.toList = xs.map fun x => Value.ref x.2.1 := by
        refine List.ext_getElem? fun j => ?_
        by_cases hj : j < acc.size
        · have h1 : acc[j]? = some acc[j] := Array.getElem?_eq_getElem hj
          obtain ⟨hi, ev⟩ := hacc.2 j _ h1
          rw [Array.getElem?_toList, h1, ev]
          have h2 : es.toList[j]? = some es[j] := by rw [Array.getElem?_toList]; exact Array.getElem?_eq_getElem hi
          rw [e4, List.getElem?_map] at h2
          obtain ⟨y, hy, ey⟩ := Option.map_eq_some_iff.mp h2
          have zk : ∀ {xs : List (NestedKey × Addr × V)} {us : List Value} {j : Nat} {y : NestedKey × Addr × Value}, (zu xs us)[j]? = some y → ∃ x, xs[j]? = some x ∧ x.2.1 = y.2.1 := by
            intro xs
            induction xs with
            | nil => intro us j y h; simp [zu] at h
            | cons x xs ih =>
              intro us j y h
              cases us with
              | nil => simp [zu] at h
              | cons u us =>
                cases j with
                | zero => simp [zu] at h; subst h; exact ⟨x, by simp, rfl⟩
                | succ j => simp only [zu, List.getElem?_cons_succ] at h ⊢; exact ih h
          obtain ⟨x, hx, hxy⟩ := zk hy
          rw [List.getElem?_map, hx, ← ey]
          show some (Value.ref y.2.1) = some (Value.ref x.2.1)
          rw [hxy]
        · rw [List.getElem?_eq_none (by simpa using hj), List.getElem?_eq_none]
          have := hacc.1
          simp
          omega
      have hlen : acc.toList.length = ks.length := by rw [ha, g3.len]; simp
      have hl1 : ks.length ≤ sizeLine := by rw [g3.len]; simpa using z
      refine wpAny_bind (wpAny_newList ?_ (by rw [hlen]; exact hl1))
      have rv : Vals (xs.map fun x => V.ref x.2.1) (xs.map fun x => Value.ref x.2.1) := by
        have : ∀ l : List (NestedKey × Addr × V), Vals (l.map fun x => V.ref x.2.1) (l.map fun x => Value.ref x.2.1) := fun l => by
          induction l with
          | nil => exact .nil
          | cons x l ih => exact .cons rfl ih
        exact this xs
      have ea : EachIs (fun v d => ∃ y, RSh X.K Z H d y ∧ RelV y v) acc.toList ks := by rw [ha]; exact each_of g3 rv
      have er := each_reads I ho1 ea
      have hnl : ∀ b o', s.heap.get? b = some o' → h'.get? b = some o' := hk
      have I0 : Inv X pins σ H { s with heap := h', toks := tk } := I.kept (t' := tk) hk
      have er1 : EachIs (fun v b => ∃ as, Reads (h'.push { cls := .type "list", data := .seq acc.toList.toArray }) v (D.py b) as ∧ h'.objs.size ∉ as) acc.toList ks := er.mono fun v b ⟨as, q⟩ => by
        refine ⟨as, PyProof.Rows.Reads.keeps (fun b o' q => Heap.get?_push_of_some _ (hk b o' q)) q, fun hm => ?_⟩
        obtain ⟨o', ho'⟩ := Reads_live q _ hm
        exact Nat.lt_irrefl _ (Heap.lt_size (hk _ _ ho'))
      have srt := list_sort_data (prog := X.prog) (w := X.w) (A := X.A.in1) (E := X.xe) (s := { s with heap := h'.push { cls := .type "list", data := .seq acc.toList.toArray }, toks := tk }) (a := h'.objs.size) (n := 0)
        (Q := fun _ s' => EP X pins σ Q (.ref h'.objs.size) s') (Heap.get?_push_size _ rfl) ea er1 hal (sortB_is ho1 hn hsb) hl1 (fun b hb => by
          have := (ok_lay 58 b (okL_mem ho1 b hb)).2
          show X.A.units + 1 + 1 + b.py.depth < cLine
          omega) fun out hol eo => by
            obtain ⟨ys', r1, r2⟩ := of_each eo
            obtain ⟨m, hm⟩ := sortedHeap_at (h := h'.push { cls := .type "list", data := .seq acc.toList.toArray }) (a := h'.objs.size) (vs := acc.toList) (out := out.toArray) (n := 0) (Heap.get?_push_size _ rfl)
            have hl' : ys'.length ≤ sizeLine := by
              have h1 := r2.length
              rw [h1, hol]; exact hl1
            refine ⟨.ref _, upd H h'.objs.size (.lst ys'), I0.laid (t' := tk) (fun b o' q => ?_) (Nat.le_refl _) ⟨hl', out, m, r2, hm⟩, rfl, k _ ys' (I0.hok.fresh (Nat.le_refl _)) r1⟩
            exact sortedHeap_old (Nat.ne_of_lt (Heap.lt_size q)) (Heap.get?_push_of_some _ q)
      refine wpAny_bind (wpAny_holding (wpAny_mono srt (fun _ s' x => ?_) fun _ _ e => e))
      exact wpAny_pure ⟨_, rfl, x⟩
    · cases e
  · cases e
end CL
namespace CLK
open PySem PySem.Spec L2 CL CLG CLX
def B__law_turn : MS := (sRet (m2 bSub (m2 bMul (m2 bIx (mV 0) (mC (.int 0))) (m2 bIx (mV 1) (mC (.int 1)))) (m2 bMul (m2 bIx (mV 0) (mC (.int 1))) (m2 bIx (mV 1) (mC (.int 0))))))
def F__law_turn : List D → Res D := runP 0 B__law_turn
def B__law_less : MS := (sRet (mN bTup (mCons (m2 bSub (m2 bIx (mV 0) (mC (.int 0))) (m2 bIx (mV 1) (mC (.int 0)))) (mCons (m2 bSub (m2 bIx (mV 0) (mC (.int 1))) (m2 bIx (mV 1) (mC (.int 1)))) mNil))))
def F__law_less : List D → Res D := runP 0 B__law_less
def B__law_common : MS := (sSeq (sAsg (pT 2 (psC (pT 2 (psC (pN 2) (psC (pN 3) psN))) (psC (pT 2 (psC (pN 4) (psC (pN 5) psN))) psN))) (mN bTup (mCons (mV 0) (mCons (mV 1) mNil)))) (sSeq (sPar3 6 7 8 (mCons (mCallP F__law_less (mCons (mV 3) (mCons (mV 2) mNil))) (mCons (mCallP F__law_less (mCons (mV 5) (mCons (mV 4) mNil))) (mCons (mCallP F__law_less (mCons (mV 4) (mCons (mV 2) mNil))) mNil)))) (sSeq (sAsg (pN 9) (mCallP F__law_turn (mCons (mV 6) (mCons (mV 7) mNil)))) (sSeq (sIf (m2 bEq (mV 9) (mC (.int 0))) (sSeq (sIf (m2 bNe (mCallP F__law_turn (mCons (mV 8) (mCons (mV 6) mNil))) (mC (.int 0))) (sRet (mN bLst mNil)) (sK .nx)) (sSeq (sAsg (pN 10) (mN bMax2D (mCons (mN bMin2D (mCons (mV 2) (mCons (mV 3) mNil))) (mCons (mN bMin2D (mCons (mV 4) (mCons (mV 5) mNil))) mNil)))) (sSeq (sAsg (pN 11) (mN bMin2D (mCons (mN bMax2D (mCons (mV 2) (mCons (mV 3) mNil))) (mCons (mN bMax2D (mCons (mV 4) (mCons (mV 5) mNil))) mNil)))) (sRet (mComp [14] (pN 14) (mIt (mSl (mN bLst (mCons (mV 10) (mCons (mV 11) mNil))) (some (mN bInt (mCons (m2 bEq (mV 10) (mV 11)) mNil))) none)) (m2 bLeD (mV 10) (mV 11)) (m2 bAdd (mV 14) (mN bTup (mCons (mC (.int 1)) mNil)))))))) (sK .nx)) (sSeq (sAsg (pN 12) (m2 bIx (mN bLst (mCons (m1 bNeg (mC (.int 1))) (mCons (mC (.int 1)) mNil))) (mN bInt (mCons (m2 bGt (mV 9) (mC (.int 0))) mNil)))) (sSeq (sAsg (pN 9) (m2 bMul (mV 9) (mV 12))) (sSeq (sAsg (pN 13) (m2 bMul (mCallP F__law_turn (mCons (mV 8) (mCons (mV 7) mNil))) (mV 12))) (sSeq (sIf (mOr (m1 bNot (mChain bLe bLe (mC (.int 0)) (mV 13) (mV 9))) (m1 bNot (mChain bLe bLe (mC (.int 0)) (m2 bMul (mCallP F__law_turn (mCons (mV 8) (mCons (mV 6) mNil))) (mV 12)) (mV 9)))) (sRet (mN bLst mNil)) (sK .nx)) (sRet (mN bLst (mCons (mN bTup (mCons (m2 bAdd (m2 bMul (m2 bIx (mV 2) (mC (.int 0))) (mV 9)) (m2 bMul (m2 bIx (mV 6) (mC (.int 0))) (mV 13))) (mCons (m2 bAdd (m2 bMul (m2 bIx (mV 2) (mC (.int 1))) (mV 9)) (m2 bMul (m2 bIx (mV 6) (mC (.int 1))) (mV 13))) (mCons (mV 9) mNil)))) mNil)))))))))))
def F__law_common : List D → Res D := runP 13 B__law_common
local macro_rules | `(tactic| walk_at "o") => `(tactic| ((try simp only [backA, List.set_cons_zero, List.set_cons_succ, wipeD, List.map_cons, List.map_nil, List.cons_append, List.nil_append, List.replicate_succ, List.replicate_zero]); first | done | rfl))
local macro_rules | `(tactic| walk_at "b") => `(tactic| first
  | with_reducible exact Nb.lit
  | ((with_reducible apply Nb.mul) <;> walk_at "b")
  | ((with_reducible apply Nb.add) <;> walk_at "b")
  | ((with_reducible apply Nb.sub) <;> walk_at "b")
  | ((with_reducible apply Nb.neg) <;> walk_at "b")
  | ((with_reducible apply Nb.fdiv) <;> walk_at "b")
  | ((with_reducible apply Nb.fmod); (· walk_at "z"); (· walk_at "b"))
  | ((with_reducible apply Nb.max) <;> walk_at "b")
  | ((with_reducible apply Nb.min) <;> walk_at "b")
  | ((with_reducible apply Nb.ite) <;> walk_at "b")
  | with_reducible assumption
  | with_reducible exact Nb.le (by assumption)
  | with_reducible exact Nb.nle (by assumption)
  | with_reducible exact Nb.lt (by assumption)
  | ((with_reducible apply Nb.rng (by assumption) (by assumption)) <;> walk_at "b")
  | ((with_reducible apply Nb.rngE (by assumption) (by assumption)) <;> walk_at "b")
  | with_reducible exact Nb.self _)
local macro_rules | `(tactic| walk_at "z") => `(tactic| first | decide | assumption | omega | exact fmod_nn (by omega) | exact fmod_lt (by omega))
local macro_rules | `(tactic| walk_at "e") => `(tactic| first
  | ((with_reducible refine is_ev ?_); first
    | ((with_reducible apply mul_st); (· walk_at "b"); (· walk_at "b"); (· rfl))
    | ((with_reducible apply mul_s1); (· walk_at "b"); (· rfl))
    | ((with_reducible apply mul_s2); (· walk_at "b"); (· rfl))
    | ((with_reducible apply div_st); (· walk_at "z"); (· walk_at "b"); (· rfl))
    | ((with_reducible apply mod_st); (· walk_at "z"))
    | with_reducible apply tup_pt
    | with_reducible apply tup_ln
    | ((with_reducible apply tup_st); (· rfl))
    | ((with_reducible apply lst_st); (· rfl))
    | with_reducible apply eqi_st
    | with_reducible apply nei_st
    | with_reducible apply eqp_st
    | with_reducible apply nep_st
    | with_reducible apply eqp_st'
    | with_reducible apply nep_st'
    | with_reducible apply eqb_st
    | with_reducible apply neb_st
    | with_reducible apply isb_st
    | with_reducible apply eqs_st
    | with_reducible apply nes_st
    | with_reducible refine ix2bi (fun _ _ _ => ?_)
    | ((with_reducible refine ix4i ?_ ?_ (fun _ _ _ => ?_)); (· walk_at "z"); (· walk_at "z"))
    | ((with_reducible refine ix2i ?_ ?_ (fun _ _ _ => ?_)); (· walk_at "z"); (· walk_at "z"))
    | ((with_reducible refine ix3i ?_ ?_ (fun _ _ _ => ?_)); (· walk_at "z"); (· walk_at "z"))
    | refine ⟨_, rfl, ?_⟩)
  | ((with_reducible refine fill_st ?_); refine ⟨_, rfl, ?_⟩; (try dsimp only))
  | ((with_reducible apply and_go rfl); (· (intro _; (repeat walk_at "s"); with_reducible exact ⟨rfl, rfl⟩)))
  | ((with_reducible refine is_chain ?_); (apply chain_go rfl); (· (intro _; (repeat walk_at "s"); exact ⟨rfl, rfl⟩)))
  | ((with_reducible refine draw_step (by assumption) ?_ ?_ (fun _ _ _ _ _ => ?_)); (· walk_at "z"); (· walk_at "z"))
  | ((with_reducible refine CLY.draw_step (by assumption) ?_ ?_ (fun _ _ _ _ _ => ?_)); (· walk_at "z"); (· walk_at "z"))
  | ((with_reducible refine is_evA ?_); refine ⟨_, rfl, ?_⟩)
  | ((with_reducible refine is_evL ?_); refine ⟨_, rfl, ?_⟩)
  | ((with_reducible refine is_evI ?_); refine ⟨_, rfl, ?_⟩)
  | ((with_reducible refine is_evR ?_); refine ⟨_, rfl, ?_⟩))
local macro_rules | `(tactic| walk_at "f") => `(tactic| first
  | with_reducible refine W_mV.mpr ?_
  | with_reducible refine W_mCons.mpr ?_
  | with_reducible refine W_m2.mpr ?_
  | with_reducible refine W_mC.mpr ?_
  | with_reducible refine W_mNil.mpr ?_
  | with_reducible refine W_mN.mpr ?_
  | with_reducible refine W_sSeq.mpr ?_
  | with_reducible refine W_sAsg.mpr ?_
  | with_reducible refine W_m1.mpr ?_
  | with_reducible refine W_mCallP.mpr ?_
  | with_reducible refine W_mCall.mpr ?_
  | with_reducible refine X_evI.mpr ?_
  | with_reducible refine X_evE.mpr ?_
  | with_reducible refine X_evN.mpr ?_
  | with_reducible refine X_if ?_
  | with_reducible refine W_sRet.mpr ?_
  | with_reducible refine W_sK.mpr ?_
  | with_reducible refine X_and ?_
  | with_reducible refine X_or ?_
  | with_reducible refine W_sPar.mpr ?_
  | with_reducible refine W_mSl.mpr ?_
  | with_reducible refine W_mPtN.mpr ?_
  | with_reducible refine W_mPtS.mpr ?_
  | with_reducible refine W_mIt.mpr ?_
  | with_reducible refine W_mItN.mpr ?_
  | with_reducible refine W_mComp.mpr ?_
  | ((with_reducible refine is_comp ?_); first | (apply X_compN; (· walk_at "o")) | ((with_reducible apply X_compY); (· walk_at "o"); (· rfl)))
  | with_reducible refine W_sFor.mpr ?_
  | ((with_reducible refine is_for ?_); refine W_forNil.mpr ?_)
  | with_reducible refine X_chain ?_
  | with_reducible refine W_sExp.mpr ?_
  | with_reducible refine W_mL.mpr ?_
  | with_reducible refine X_mif ?_
  | with_reducible refine W_mIxS.mpr ?_
  | with_reducible refine W_mYes.mpr ?_
  | with_reducible refine W_sPar3.mpr ?_
  | with_reducible refine W_mApp.mpr ?_
  | with_reducible refine W_mBor.mpr ?_
  | with_reducible refine CLX.W_sFz.mpr ?_)
local macro_rules | `(tactic| walk_at "s") => `(tactic| first
  | ((with_reducible refine is_W ?_); walk_at "f")
  | ((with_reducible refine is_ex ?_); first
    | ((with_reducible refine is_evS ?_); refine ⟨_, rfl, ?_⟩)
    | ((with_reducible apply call_st); (· with_reducible assumption))
    | with_reducible refine ⟨_, by with_reducible assumption, ?_⟩
    | with_reducible refine min_two ?_
    | with_reducible refine max_two ?_
    | with_reducible refine le_st ?_
    | with_reducible refine eqn_st ?_
    | with_reducible refine add1_st ?_
    | walk_at "e")
  | ((with_reducible apply X_nx); (· walk_at "o"))
  | with_reducible refine Kq_ret.mpr ?_
  | with_reducible refine Kq_brk.mpr ?_
  | with_reducible refine Kq_cnt.mpr ?_
  | ((with_reducible apply X_fnx); (· walk_at "o"))
  | ((with_reducible apply X_fcnt); (· walk_at "o"))
  | with_reducible refine X_fbrk ?_
  | with_reducible refine X_fret ?_
  | ((with_reducible refine is_ltA ?_); refine ⟨?_, ?_⟩; (· first | decide | omega | (simp; omega) | (simp; done)))
  | with_reducible refine parW_mk.mpr ?_
  | with_reducible refine par3W_mk.mpr ?_)
local macro_rules | `(tactic| walk_at "r") => `(tactic| repeat walk_at "s")
local macro_rules | `(tactic| walk_at "u") => `(tactic| first | ((apply X_forC); (· walk_at "o"); (· rfl)) | ((apply X_compY); (· walk_at "o"); (· rfl)) | ((apply X_compC); (· walk_at "o"); (· rfl)))
local macro_rules | `(tactic| walk_at "g") => `(tactic| repeat first | walk_at "s" | (with_reducible refine go_ifF (rfl : _ = false) ?_) | (with_reducible refine go_ifT (rfl : _ = true) ?_) | (refine go_ifF (rfl : _ = false) ?_) | (refine go_ifT (rfl : _ = true) ?_) | walk_at "u")
theorem less_is {a b c d : Int} : F__law_less [pt a b, pt c d] = .ok (pt (a - c) (b - d)) := by
  refine runP_of ?_
  unfold B__law_less
  walk_at "r"
  rfl
theorem turn_is' {a b c d : Int} (ha : a.natAbs ≤ 100000000) (hb : b.natAbs ≤ 100000000) (hc : c.natAbs ≤ 100000000) (hd : d.natAbs ≤ 100000000) : F__law_turn [pt a b, pt c d] = .ok (.int (turn a b c d)) := by
  refine runP_of ?_
  unfold B__law_turn
  walk_at "r"
  rfl
/-- what is told, not in lowest terms -/
def raw (p q : Li) : List CLG.Sp := if p.m q = 0 then (if p.far q = 0 then p.along q else []) else if p.meetB q then [⟨p.x * (sg (p.m q) * p.m q) + (p.u - p.x) * (sg (p.m q) * p.k q), p.y * (sg (p.m q) * p.m q) + (p.v - p.y) * (sg (p.m q) * p.k q), sg (p.m q) * p.m q⟩] else []
theorem sign_is {m : Int} (h : m ≠ 0) : (if decide (m > 0) = true then (1 : Int) else -1) = sg m := by
  unfold sg
  by_cases h1 : m > 0
  · rw [if_pos (by simpa using h1), if_neg (by omega)]
  · rw [if_neg (by simpa using h1), if_pos (by omega)]
set_option maxHeartbeats 0 in
theorem lcommon_is {p q : Li} (hp : Sml p) (hq : Sml q) : F__law_common [lnD p, lnD q] = .ok (.lst ((raw p q).map spD)) := by
  have L1 := less_is (a := p.u) (b := p.v) (c := p.x) (d := p.y)
  have L2 := less_is (a := q.u) (b := q.v) (c := q.x) (d := q.y)
  have L3 := less_is (a := q.x) (b := q.y) (c := p.x) (d := p.y)
  have T1 := turn_is' (sub8 hp.u hp.x) (sub8 hp.v hp.y) (sub8 hq.u hq.x) (sub8 hq.v hq.y)
  have T2 := turn_is' (sub8 hq.x hp.x) (sub8 hq.y hp.y) (sub8 hp.u hp.x) (sub8 hp.v hp.y)
  have T3 := turn_is' (sub8 hq.x hp.x) (sub8 hq.y hp.y) (sub8 hq.u hq.x) (sub8 hq.v hq.y)
  obtain ⟨b1, b2, b3⟩ := m_bd hp hq
  have t1 := turn_bd (sub8 hp.u hp.x) (sub8 hp.v hp.y) (sub8 hq.u hq.x) (sub8 hq.v hq.y)
  have t2 := turn_bd (sub8 hq.x hp.x) (sub8 hq.y hp.y) (sub8 hp.u hp.x) (sub8 hp.v hp.y)
  have t3 := turn_bd (sub8 hq.x hp.x) (sub8 hq.y hp.y) (sub8 hq.u hq.x) (sub8 hq.v hq.y)
  change F__law_turn _ = .ok (.int (p.m q)) at T1
  change F__law_turn _ = .ok (.int (p.l q)) at T2
  change F__law_turn _ = .ok (.int (p.k q)) at T3
  change (p.m q).natAbs ≤ _ at t1
  change (p.l q).natAbs ≤ _ at t2
  change (p.k q).natAbs ≤ _ at t3
  have hl : p.l q = -p.far q := by simp only [Li.l, Li.far, turn]; grind
  have a1 := hp.x
  have a2 := hp.y
  have a3 := hp.u
  have a4 := hp.v
  refine runP_of ?_
  unfold B__law_common raw
  walk_at "r"
  refine go_ifP (fun h => ?_) fun h => ?_
  · rw [if_pos h]
    walk_at "r"
    refine go_ifN (fun h2 => ?_) fun h2 => ?_
    · rw [if_neg (by omega)]
      walk_at "r"
      rfl
    · rw [if_pos (by omega)]
      have m1 : bMin2D [pt p.x p.y, pt p.u p.v] = some (pnD p.lo) := (min_two (a := p.a) (b := p.b) (P := fun d => d = pnD p.lo) rfl).elim fun d h => h.2 ▸ h.1
      have m2 : bMin2D [pt q.x q.y, pt q.u q.v] = some (pnD q.lo) := (min_two (a := q.a) (b := q.b) (P := fun d => d = pnD q.lo) rfl).elim fun d h => h.2 ▸ h.1
      have m3 : bMax2D [pt p.x p.y, pt p.u p.v] = some (pnD p.hi) := (max_two (a := p.a) (b := p.b) (P := fun d => d = pnD p.hi) rfl).elim fun d h => h.2 ▸ h.1
      have m4 : bMax2D [pt q.x q.y, pt q.u q.v] = some (pnD q.hi) := (max_two (a := q.a) (b := q.b) (P := fun d => d = pnD q.hi) rfl).elim fun d h => h.2 ▸ h.1
      walk_at "r"
      by_cases he : pmax p.lo q.lo = pmin p.hi q.hi
      · have hlt : (pmin p.hi q.hi).lt (pmax p.lo q.lo) = false := by
          rw [he, Pn.nlt_iff]; omega
        have ea : p.along q = [⟨(pmin p.hi q.hi).x, (pmin p.hi q.hi).y, 1⟩] := by
          unfold Li.along
          rw [hlt]
          simp [he]
        rw [decide_eq_true he, ea]
        show W (compL _ _ _ _ [pnD (pmin p.hi q.hi)]) _ _
        walk_at "u"
        walk_at "r"
        rw [hlt]
        refine go_ifT rfl ?_
        walk_at "r"
        rfl
      · rw [decide_eq_false he]
        show W (compL _ _ _ _ [pnD (pmax p.lo q.lo), pnD (pmin p.hi q.hi)]) _ _
        cases hlt : (pmin p.hi q.hi).lt (pmax p.lo q.lo) with
        | true =>
          have ea : p.along q = [] := by
            unfold Li.along
            rw [hlt]
            simp
          rw [ea]
          walk_at "u"
          walk_at "r"
          rw [hlt]
          refine go_ifF rfl ?_
          walk_at "u"
          walk_at "r"
          rw [hlt]
          refine go_ifF rfl ?_
          walk_at "r"
          rfl
        | false =>
          have ea : p.along q = [⟨(pmax p.lo q.lo).x, (pmax p.lo q.lo).y, 1⟩, ⟨(pmin p.hi q.hi).x, (pmin p.hi q.hi).y, 1⟩] := by
            unfold Li.along
            rw [hlt]
            simp [he]
          rw [ea]
          walk_at "u"
          walk_at "r"
          rw [hlt]
          refine go_ifT rfl ?_
          walk_at "r"
          walk_at "u"
          walk_at "r"
          rw [hlt]
          refine go_ifT rfl ?_
          walk_at "r"
          rfl
  · rw [if_neg h]
    walk_at "r"
    rename_i z hz _
    rw [sign_is h] at hz
    subst hz
    rw [Int.mul_comm (p.k q), Int.mul_comm (p.m q), Int.mul_comm (p.l q)]
    cases hm : p.meetB q with
    | true =>
      refine go_ifF ?_ ?_
      · unfold Li.meetB at hm
        simp only [Bool.decide_and] at hm
        revert hm
        generalize (decide (0 ≤ sg (p.m q) * p.k q) && decide (sg (p.m q) * p.k q ≤ sg (p.m q) * p.m q)) = a
        generalize (decide (0 ≤ sg (p.m q) * p.l q) && decide (sg (p.m q) * p.l q ≤ sg (p.m q) * p.m q)) = b
        cases a <;> cases b <;> simp
      · rw [if_pos rfl]
        walk_at "r"
        rfl
    | false =>
      refine go_ifT ?_ ?_
      · unfold Li.meetB at hm
        simp only [Bool.decide_and] at hm
        revert hm
        generalize (decide (0 ≤ sg (p.m q) * p.k q) && decide (sg (p.m q) * p.k q ≤ sg (p.m q) * p.m q)) = a
        generalize (decide (0 ≤ sg (p.m q) * p.l q) && decide (sg (p.m q) * p.l q ≤ sg (p.m q) * p.m q)) = b
        cases a <;> cases b <;> simp
      · rw [if_neg (by decide)]
        walk_at "r"
        rfl
end CLK
namespace CLK
open PySem PySem.Spec L2 CL CLG CLX PySem.W
local macro_rules | `(tactic| walk_at "o") => `(tactic| ((try simp only [backA, List.set_cons_zero, List.set_cons_succ, wipeD, List.map_cons, List.map_nil, List.cons_append, List.nil_append, List.replicate_succ, List.replicate_zero]); first | done | rfl))
local macro_rules | `(tactic| walk_at "b") => `(tactic| first
  | with_reducible exact Nb.lit
  | ((with_reducible apply Nb.mul) <;> walk_at "b")
  | ((with_reducible apply Nb.add) <;> walk_at "b")
  | ((with_reducible apply Nb.sub) <;> walk_at "b")
  | ((with_reducible apply Nb.neg) <;> walk_at "b")
  | ((with_reducible apply Nb.fdiv) <;> walk_at "b")
  | ((with_reducible apply Nb.fmod); (· walk_at "z"); (· walk_at "b"))
  | ((with_reducible apply Nb.max) <;> walk_at "b")
  | ((with_reducible apply Nb.min) <;> walk_at "b")
  | ((with_reducible apply Nb.ite) <;> walk_at "b")
  | with_reducible assumption
  | with_reducible exact Nb.le (by assumption)
  | with_reducible exact Nb.nle (by assumption)
  | with_reducible exact Nb.lt (by assumption)
  | ((with_reducible apply Nb.rng (by assumption) (by assumption)) <;> walk_at "b")
  | ((with_reducible apply Nb.rngE (by assumption) (by assumption)) <;> walk_at "b")
  | with_reducible exact Nb.self _)
local macro_rules | `(tactic| walk_at "z") => `(tactic| first | decide | assumption | omega | exact fmod_nn (by omega) | exact fmod_lt (by omega))
local macro_rules | `(tactic| walk_at "e") => `(tactic| first
  | ((with_reducible refine is_ev ?_); first
    | ((with_reducible apply mul_st); (· walk_at "b"); (· walk_at "b"); (· rfl))
    | ((with_reducible apply mul_s1); (· walk_at "b"); (· rfl))
    | ((with_reducible apply mul_s2); (· walk_at "b"); (· rfl))
    | ((with_reducible apply div_st); (· walk_at "z"); (· walk_at "b"); (· rfl))
    | ((with_reducible apply mod_st); (· walk_at "z"))
    | with_reducible apply tup_pt
    | with_reducible apply tup_ln
    | ((with_reducible apply tup_st); (· rfl))
    | ((with_reducible apply lst_st); (· rfl))
    | with_reducible apply eqi_st
    | with_reducible apply nei_st
    | with_reducible apply eqp_st
    | with_reducible apply nep_st
    | with_reducible apply eqp_st'
    | with_reducible apply nep_st'
    | with_reducible apply eqb_st
    | with_reducible apply neb_st
    | with_reducible apply isb_st
    | with_reducible apply eqs_st
    | with_reducible apply nes_st
    | with_reducible refine ix2bi (fun _ _ _ => ?_)
    | ((with_reducible refine ix4i ?_ ?_ (fun _ _ _ => ?_)); (· walk_at "z"); (· walk_at "z"))
    | ((with_reducible refine ix2i ?_ ?_ (fun _ _ _ => ?_)); (· walk_at "z"); (· walk_at "z"))
    | ((with_reducible refine ix3i ?_ ?_ (fun _ _ _ => ?_)); (· walk_at "z"); (· walk_at "z"))
    | refine ⟨_, rfl, ?_⟩)
  | ((with_reducible refine fill_st ?_); refine ⟨_, rfl, ?_⟩; (try dsimp only))
  | ((with_reducible apply and_go rfl); (· (intro _; (repeat walk_at "s"); with_reducible exact ⟨rfl, rfl⟩)))
  | ((with_reducible refine is_chain ?_); (apply chain_go rfl); (· (intro _; (repeat walk_at "s"); exact ⟨rfl, rfl⟩)))
  | ((with_reducible refine draw_step (by assumption) ?_ ?_ (fun _ _ _ _ _ => ?_)); (· walk_at "z"); (· walk_at "z"))
  | ((with_reducible refine CLY.draw_step (by assumption) ?_ ?_ (fun _ _ _ _ _ => ?_)); (· walk_at "z"); (· walk_at "z"))
  | ((with_reducible refine is_evA ?_); refine ⟨_, rfl, ?_⟩)
  | ((with_reducible refine is_evL ?_); refine ⟨_, rfl, ?_⟩)
  | ((with_reducible refine is_evI ?_); refine ⟨_, rfl, ?_⟩)
  | ((with_reducible refine is_evR ?_); refine ⟨_, rfl, ?_⟩))
local macro_rules | `(tactic| walk_at "f") => `(tactic| first
  | with_reducible refine W_mV.mpr ?_
  | with_reducible refine W_mCons.mpr ?_
  | with_reducible refine W_m2.mpr ?_
  | with_reducible refine W_mC.mpr ?_
  | with_reducible refine W_mNil.mpr ?_
  | with_reducible refine W_mN.mpr ?_
  | with_reducible refine W_sSeq.mpr ?_
  | with_reducible refine W_sAsg.mpr ?_
  | with_reducible refine W_m1.mpr ?_
  | with_reducible refine W_mCallP.mpr ?_
  | with_reducible refine W_mCall.mpr ?_
  | with_reducible refine X_evI.mpr ?_
  | with_reducible refine X_evE.mpr ?_
  | with_reducible refine X_evN.mpr ?_
  | with_reducible refine X_if ?_
  | with_reducible refine W_sRet.mpr ?_
  | with_reducible refine W_sK.mpr ?_
  | with_reducible refine X_and ?_
  | with_reducible refine X_or ?_
  | with_reducible refine W_sPar.mpr ?_
  | with_reducible refine W_mSl.mpr ?_
  | with_reducible refine W_mPtN.mpr ?_
  | with_reducible refine W_mPtS.mpr ?_
  | with_reducible refine W_mIt.mpr ?_
  | with_reducible refine W_mItN.mpr ?_
  | with_reducible refine W_mComp.mpr ?_
  | ((with_reducible refine is_comp ?_); first | (apply X_compN; (· walk_at "o")) | ((with_reducible apply X_compY); (· walk_at "o"); (· rfl)))
  | with_reducible refine W_sFor.mpr ?_
  | ((with_reducible refine is_for ?_); refine W_forNil.mpr ?_)
  | with_reducible refine X_chain ?_
  | with_reducible refine W_sExp.mpr ?_
  | with_reducible refine W_mL.mpr ?_
  | with_reducible refine X_mif ?_
  | with_reducible refine W_mIxS.mpr ?_
  | with_reducible refine W_mYes.mpr ?_
  | with_reducible refine W_sPar3.mpr ?_
  | with_reducible refine W_mApp.mpr ?_
  | with_reducible refine W_mBor.mpr ?_
  | with_reducible refine CLX.W_sFz.mpr ?_)
local macro_rules | `(tactic| walk_at "s") => `(tactic| first
  | ((with_reducible refine is_W ?_); walk_at "f")
  | ((with_reducible refine is_ex ?_); first
    | ((with_reducible refine is_evS ?_); refine ⟨_, rfl, ?_⟩)
    | ((with_reducible apply call_st); (· with_reducible assumption))
    | walk_at "e")
  | ((with_reducible apply X_nx); (· walk_at "o"))
  | with_reducible refine Kq_ret.mpr ?_
  | with_reducible refine Kq_brk.mpr ?_
  | with_reducible refine Kq_cnt.mpr ?_
  | ((with_reducible apply X_fnx); (· walk_at "o"))
  | ((with_reducible apply X_fcnt); (· walk_at "o"))
  | with_reducible refine X_fbrk ?_
  | with_reducible refine X_fret ?_
  | ((with_reducible refine is_ltA ?_); refine ⟨?_, ?_⟩; (· first | decide | omega | (simp; omega) | (simp; done)))
  | with_reducible refine parW_mk.mpr ?_
  | with_reducible refine par3W_mk.mpr ?_)
local macro_rules | `(tactic| walk_at "r") => `(tactic| repeat walk_at "s")
local macro_rules | `(tactic| walk_at "u") => `(tactic| first | ((apply X_forC); (· walk_at "o"); (· rfl)) | ((apply X_compY); (· walk_at "o"); (· rfl)) | ((apply X_compC); (· walk_at "o"); (· rfl)))
local macro_rules | `(tactic| walk_at "g") => `(tactic| repeat first | walk_at "s" | (with_reducible refine go_ifF (rfl : _ = false) ?_) | (with_reducible refine go_ifT (rfl : _ = true) ?_) | (refine go_ifF (rfl : _ = false) ?_) | (refine go_ifT (rfl : _ = true) ?_) | walk_at "u")
theorem leD_total : TotalLe leD := sortLe_total _ false _
theorem leD_toks {a b : D} (h1 : leD a b = true) (h2 : leD b a = true) : keyToks a.py = keyToks b.py := by
  unfold leD dataLe sortLe at h1 h2
  simp only [cond_false, Bool.not_eq_true'] at h1 h2
  exact (PyProof.Rows.listOrd PyProof.Rows.itemOrd).total _ _ h2 h1
theorem sort_eq {A B : List D} (nA : A.Nodup) (nB : B.Nodup) (h : ∀ x, x ∈ A ↔ x ∈ B) (inj : ∀ a ∈ A, ∀ b ∈ B, keyToks a.py = keyToks b.py → a = b) : A.mergeSort leD = B.mergeSort leD := by
  refine List.Perm.eq_of_pairwise (le := fun a b => leD a b = true) (fun a b ha hb h1 h2 => ?_) (sort_pairwise leD_total A) (sort_pairwise leD_total B) ?_
  · exact inj a ((List.mergeSort_perm A leD).mem_iff.mp ha) b ((List.mergeSort_perm B leD).mem_iff.mp hb) (leD_toks h1 h2)
  · exact (List.mergeSort_perm A leD).trans (((List.perm_ext_iff_of_nodup nA nB).mpr h).trans (List.mergeSort_perm B leD).symm)
def ins (S : List CLG.Sp) (s : CLG.Sp) : List CLG.Sp := if s ∈ S then S else S ++ [s]
end CLK
namespace CL
open PySem PySem.Spec L2 PySem.W PyProof.Rows
set_option autoImplicit false
section
variable {prog : Program} {w : World} {A : Around} {E : Value → Shared → Prop} {s : Shared}
theorem applied_one {sl : Addr} {v1 v2 v3 : Value} {n : Nat} {Q : Int × Int × Nat → Shared → Prop} (hs : s.heap.IsSliceOf sl v1 v2 v3) (p1 : IsPart v1 none) (p2 : IsPart v2 none) (p3 : IsPart v3 (some 1))
    (h : Q (0, 1, n) s) : wpAny (model prog w) A (Builtin.Slice.sliceApplied (.ref sl) (pure (n : Int))) Q E s := by
  obtain ⟨ob, h1, h2, h3⟩ := id hs
  unfold Builtin.Slice.sliceApplied Builtin.Slice.sliceFields
  refine wpAny_bind (wpAny_bind (wpAny_field h1 h3 (x := v1) rfl (wpAny_bind (wpAny_field h1 h3 (x := v2) rfl (wpAny_bind (wpAny_field h1 h3 (x := v3) rfl (wpAny_pure ?_)))))))
  refine wpAny_bind (HT.slicePart_ p3 ?_)
  show wpAny _ _ (if ((1 : Int) == 0) = true then _ else _) _ _ s
  rw [if_neg (by decide)]
  refine wpAny_bind (HT.slicePart_ p1 (wpAny_bind (HT.slicePart_ p2 (wpAny_bind (wpAny_pure ?_)))))
  show wpAny _ _ (match Builtin.Slice.sliceAdjust none none 1 (n : Int) with | (lo, hi) => pure (lo, (1 : Int), Builtin.Slice.slicePlaces lo hi 1)) _ _ s
  have e1 : Builtin.Slice.sliceAdjust none none 1 (n : Int) = (0, (n : Int)) := by simp [Builtin.Slice.sliceAdjust]
  have e2 : Builtin.Slice.slicePlaces 0 (n : Int) 1 = n := by
    simp only [Builtin.Slice.slicePlaces]
    rw [if_pos (by decide)]
    by_cases h0 : (0 : Int) < n
    · rw [if_pos h0, Int.ediv_one]; omega
    · rw [if_neg h0]; omega
  rw [e1]
  show wpAny _ _ (pure ((0 : Int), (1 : Int), Builtin.Slice.slicePlaces 0 (n : Int) 1)) _ _ s
  rw [e2]
  exact wpAny_pure h
theorem item_tuple_one {t sl : Addr} {ys : Array Value} {v1 v2 v3 : Value} {Q : Value → Shared → Prop} (ht : PyProof.Rows.IsTup s.heap t ys) (hs : s.heap.IsSliceOf sl v1 v2 v3) (p1 : IsPart v1 none) (p2 : IsPart v2 none) (p3 : IsPart v3 (some 1))
    (h : Q (.ref t) s) : wpAny (model prog w) A (getItem (.ref t) (.ref sl)) Q E s := by
  obtain ⟨ob, h1, h2, h3⟩ := id hs
  have ts : s.TypeIs (.ref sl) "slice" := ⟨ob, h1, h2⟩
  unfold getItem
  try with_reducible refine wpAny_holding ?_
  first | refine wpAny_bind (wpAny_pure ?_) | skip
  refine wpAny_bind (wpAny_sequenceKey ht.typeIs (by decide) ?_)
  refine wpAny_bind (wpAny_callSpecial?_slot (name := Str.ofString "__getitem__") ht.typeIs PyProof.Rows.slot_tuple_getitem (wpAny_call_entry PyProof.Rows.slot_tuple_getitem ht.typeIs PyProof.Rows.entry_tuple_getitem ?_ (PyProof.Rows.args_tuple_getitem _ _)))
  show wpAny _ _ (Builtin.Tuple.tupleItemsOf (.ref t) >>= _) _ _ s
  refine wpAny_bind (PyProof.Rows.tupleItemsOf_ ht (wpAny_bind (wpAny_typeOf ts ?_)))
  rw [if_pos (by decide)]
  refine wpAny_bind (applied_one hs p1 p2 p3 ?_)
  show wpAny _ _ (if ((0 : Int) == 0 && (1 : Int) == 1 && ys.size == ys.size) = true then _ else _) _ _ s
  rw [if_pos (by simp)]
  refine wpAny_bind ?_
  show wpAny _ _ (typeOf (.ref t) >>= fun T => pure (T == .type "tuple")) _ _ s
  refine wpAny_bind (wpAny_typeOf ht.typeIs (wpAny_pure ?_))
  rw [if_pos (by decide)]
  first
    | exact wpAny_bind (wpAny_rule (wpAny_pure ⟨_, rfl, wpAny_pure h⟩))
    | exact wpAny_bind (wpAny_rule (wpAny_bind (wpAny_pure (wpAny_pure ⟨_, rfl, wpAny_pure h⟩))))
end
section
variable [Tb] {X : Cx}
variable {τ : Nat → OT} {q : Bool} {md : Md} {e st : Expr} {ma ms : M D} {pos p2 : Pos}
end
end CL
namespace CL
open PySem PySem.Spec L2 PySem.W PySem.Calls PyProof.Rows
set_option autoImplicit false
theorem new_tuple_dict {prog : Program} {w : World} {d : Addr} {es : Array DictEntry} {ep : Nat} (lo : (d == sysModules) = false) (hn : es.size ≤ sizeLine) :
    Meets (Builtin.«tuple.__new__» ⟨[.type "tuple", .ref d], []⟩)
      (fun A R s => A.handled = none ∧ s.heap.DictRaw d es ep ∧ ∀ (h' : Heap) (tk : Nat) (acc : Array Value), (∀ b o', s.heap.get? b = some o' → h'.get? b = some o') → ItemsOf (fun i v => ∃ hi : i < es.size, v = es[i].key) acc es.size → R (.ok (.ret (.ref h'.objs.size))) { s with heap := h'.push { cls := .type "tuple", data := .seq acc }, toks := tk }) :=
  .of_wp fun prog w A R s h => by
    obtain ⟨hp, g, dd, tk, os⟩ := s
    obtain ⟨hh, ht, h⟩ := h
    have hsub := sub_tuple_self
    have hinit := init_tuple_lookup
    have hmh := madeHere_tuple
    obtain ⟨o, ho, hc, hd⟩ := id ht
    have hT : Shared.TypeIs ⟨hp, g, dd, tk, os⟩ (.ref d) "dict" := ⟨o, ho, hc.1⟩
    wp_walk using wpAny_loadPart' ho, wpAny_typeOf hT, kdu_collect (A := A.in1) (KdlSrc.rawDict (es := es) (ep := ep) lo) hh ht hn
    intro h' tk2 acc hk hacc
    show wpAny _ _ (Builtin.Tuple.tupleExact acc.toList.toArray >>= fun v => ret v) _ _ _
    unfold Builtin.Tuple.tupleExact
    have e : acc.toList.toArray = acc := by simp
    rw [e]
    refine wpAny_bind (wpAny_newObj_type ?_ (by show acc.size ≤ sizeLine; rw [hacc.1]; exact hn))
    exact wpAny_pure ⟨_, rfl, h h' tk2 acc hk hacc⟩
def bTupleK : List D → Option D
  | [.kdc ks _] => some (.tup ks)
  | _ => none
theorem zu_at : ∀ {xs : List (NestedKey × Addr × V)} {us : List Value} {j : Nat} {y : NestedKey × Addr × Value}, (zu xs us)[j]? = some y → ∃ x, xs[j]? = some x ∧ x.2.1 = y.2.1 := by
  intro xs
  induction xs with
  | nil => intro us j y h; simp [zu] at h
  | cons x xs ih =>
    intro us j y h
    cases us with
    | nil => simp [zu] at h
    | cons u us =>
      cases j with
      | zero => simp [zu] at h; subst h; exact ⟨x, by simp, rfl⟩
      | succ j => simp only [zu, List.getElem?_cons_succ] at h ⊢; exact ih h
theorem c_tupleK [Tb] {X : Cx} (hr : X.calm = true) : CallR X (.type "tuple") (rFn X.K bTupleK) := by
  intro pins s σ H xs us Q I r h
  obtain ⟨Z, ds, d, pl, e, k⟩ := h
  unfold bTupleK at e
  split at e
  · rename_i ks vs
    cases e
    obtain ⟨v, rfl, p⟩ := pl.one
    obtain ⟨a, xs, rfl, g1, g2, g3, g4⟩ := p.kdc
    rw [Vals.ref1 r]
    obtain ⟨z, hs, ko, us, va, dd, hz⟩ := kd_at I g1 g2 g3
    obtain ⟨o, es, ep, e1, e2, e3, e4, _, _⟩ := dd
    have hsz : es.size = xs.length := by
      have := congrArg List.length e4
      rw [List.length_map, (zu_keys va).2] at this
      simpa using this
    refine callType_new F.called_tuple (by decide) (F.typeCall_tuple_1 _) (F.newCall_tuple_1 _) (fun obj => F.args_object_init_2 obj _) F.entry_tuple_new
      (new_tuple_dict (prog := X.prog) (w := X.w) (es := es) (ep := ep) hs (by rw [hsz]; exact z)) ⟨I.ok.hd hr, ⟨o, e1, e2, e3⟩, fun h' tk acc hk hacc => ⟨⟨_, Heap.get?_push_size _ rfl, rfl⟩, ?_⟩⟩
    have ha : acc.toList = xs.map fun x => Value.ref x.2.1 := by
      refine List.ext_getElem? fun j => ?_
      by_cases hj : j < acc.size
      · have h1 : acc[j]? = some acc[j] := Array.getElem?_eq_getElem hj
        obtain ⟨hi, ev⟩ := hacc.2 j _ h1
        rw [Array.getElem?_toList, h1, ev]
        have h2 : es.toList[j]? = some es[j] := by rw [Array.getElem?_toList]; exact Array.getElem?_eq_getElem hi
        rw [e4, List.getElem?_map] at h2
        obtain ⟨y, hy, ey⟩ := Option.map_eq_some_iff.mp h2
        obtain ⟨x, hx, hxy⟩ := zu_at hy
        rw [List.getElem?_map, hx, ← ey]
        show some (Value.ref y.2.1) = some (Value.ref x.2.1)
        rw [hxy]
      · rw [List.getElem?_eq_none (by simpa using hj), List.getElem?_eq_none]
        have := hacc.1
        simp
        omega
    have rv : Vals (xs.map fun x => V.ref x.2.1) (xs.map fun x => Value.ref x.2.1) := by
      have : ∀ l : List (NestedKey × Addr × V), Vals (l.map fun x => V.ref x.2.1) (l.map fun x => Value.ref x.2.1) := fun l => by
        induction l with
        | nil => exact .nil
        | cons x l ih => exact .cons rfl ih
      exact this xs
    have I0 : Inv X pins σ H { s with heap := h', toks := tk } := I.kept (t' := tk) hk
    have hnn : H h'.objs.size = none := I0.hok.fresh (Nat.le_refl _)
    refine ⟨.ref _, upd H h'.objs.size (.tup (xs.map fun x => V.ref x.2.1)), I0.laid (t' := tk) (fun b o' q => Heap.get?_push_of_some _ q) (Nat.le_refl _) ⟨by simpa using z, _, rv, ?_⟩, rfl, finT hnn g3 k⟩
    have : acc = (xs.map fun x => Value.ref x.2.1).toArray := by rw [← ha]
    rw [this]
    exact PyProof.Rows.IsTup.new _ _
  · cases e
end CL
namespace CL
end CL
namespace CLE
open PySem PySem.Spec L2 CL CLG CLX PySem.W PyProof.Rows
/-- plain things as keys -/
structure KEnc {α : Type} (f : α → D) where
  nk : α → NestedKey
  nk_eq : ∀ a, D.nk (f a) = some (nk a)
  key : ∀ a, CL.keyOf (f a) = some (nk a)
  inj : ∀ a b, nk a = nk b → a = b
  toks : ∀ a b, keyToks (f a).py = keyToks (f b).py → a = b
  ok : ∀ a, D.okB 58 (f a) = true
  non : ∀ a, (f a).isNon = false
  alike : ∀ a b, alike (f a).py (f b).py = true
  some : ∀ a, ∃ x l, f a = .tup (x :: l)
section
variable {α : Type} [DecidableEq α] {f : α → D} (E : KEnc f)
include E
theorem f_inj {a b : α} (h : f a = f b) : a = b := E.toks a b (by rw [h])
theorem nkL_e : ∀ {S : List α}, D.nkL (S.map f) = some (S.map E.nk)
  | [] => rfl
  | s :: S => by simp only [List.map_cons, D.nkL, E.nk_eq, nkL_e (S := S)]
theorem nk_mem {s : α} {S : List α} : E.nk s ∈ S.map E.nk ↔ s ∈ S := by
  constructor
  · intro h
    obtain ⟨t, ht, e⟩ := List.mem_map.mp h
    rw [← E.inj _ _ e]; exact ht
  · exact fun h => List.mem_map_of_mem h
omit E in
def ins (S : List α) (s : α) : List α := if s ∈ S then S else S ++ [s]
omit E in
theorem mem_ins {S : List α} {s t : α} : t ∈ ins S s ↔ t ∈ S ∨ t = s := by
  unfold ins
  split
  · rename_i h
    exact ⟨.inl, fun z => z.elim id fun e => e ▸ h⟩
  · simp
omit E in
theorem nodup_ins {S : List α} {s : α} (h : S.Nodup) : (ins S s).Nodup := by
  unfold ins
  split
  · exact h
  · rename_i n
    rw [List.nodup_append]
    exact ⟨h, by simp, fun a ha b hb => by rw [List.mem_singleton.mp hb]; exact fun e => n (e ▸ ha)⟩
omit E in
theorem len_ins {S : List α} {s : α} : (ins S s).length ≤ S.length + 1 := by
  unfold ins
  split <;> simp
theorem kput_e {S : List α} {vs : List D} {s : α} {v : D} : ∃ vs', kput (S.map f) vs (S.map E.nk) (f s) (E.nk s) v = .kdc ((ins S s).map f) vs' := by
  unfold kput ins
  by_cases h : s ∈ S
  · rw [if_pos ((nk_mem E).mpr h), if_pos h]; exact ⟨_, rfl⟩
  · rw [if_neg (fun z => h ((nk_mem E).mp z)), if_neg h]; exact ⟨_, by rw [List.map_append]; rfl⟩
/-- a thing is put in -/
theorem sto_e {i : Nat} {mi m : M D} {ρ : Sl} {Q : Fl → Sl → Prop} (h : W m ρ fun _ ρ1 => ∃ d0, ρ1[i]? = some (some d0) ∧ W mi ρ1 fun kd ρ3 => ∃ S vs s, ρ3[i]? = some (some (.kdc (S.map f) vs)) ∧ kd = f s ∧ S.length < 16777216 ∧ ∀ vs', Q .nx (ρ3.set i (some (.kdc ((ins S s).map f) vs')))) : W (sStoK i mi m) ρ Q := by
  refine W_sStoK.mpr (h.mono fun d ρ1 ⟨d0, h0, h1⟩ => W_mV.mpr ⟨d0, h0, h1.mono fun kd ρ3 ⟨S, vs, s, h2, h3, h4, h5⟩ => ?_⟩)
  subst h3
  obtain ⟨vs', e⟩ := kput_e E (S := S) (vs := vs) (s := s) (v := d)
  exact ⟨_, _, _, _, h2, E.key s, nkL_e E, by simpa using h4, by rw [e]; exact h5 vs'⟩
theorem e_sort {S T : List α} (nS : S.Nodup) (nT : T.Nodup) (h : ∀ s, s ∈ S ↔ s ∈ T) : (S.map f).mergeSort leD = (T.map f).mergeSort leD := by
  have nd : ∀ {U : List α}, U.Nodup → (U.map f).Nodup := fun hU => List.Pairwise.map _ (fun _ _ n e => n (f_inj E e)) hU
  refine CLK.sort_eq (nd nS) (nd nT) (fun x => ?_) fun a ha b hb e => ?_
  · simp only [List.mem_map]
    constructor
    · rintro ⟨s, hs, rfl⟩; exact ⟨s, (h s).mp hs, rfl⟩
    · rintro ⟨s, hs, rfl⟩; exact ⟨s, (h s).mpr hs, rfl⟩
  · obtain ⟨s, _, rfl⟩ := List.mem_map.mp ha
    obtain ⟨t, _, rfl⟩ := List.mem_map.mp hb
    rw [E.toks _ _ e]
theorem dok_e {S : List α} : (dataOk (S.map f) && sortB (S.map f)) = true := by
  rw [Bool.and_eq_true]
  constructor
  · have h1 : ∀ U : List α, D.okL 58 (U.map f) = true := fun U => by
      induction U with
      | nil => simp [D.okL]
      | cons s U ih => simp only [List.map_cons, D.okL, ih, Bool.and_true]; exact E.ok s
    simp only [dataOk, Bool.and_eq_true, List.all_eq_true]
    refine ⟨⟨h1 S, fun a ha b hb => ?_⟩, fun a ha => ?_⟩
    · obtain ⟨s, _, rfl⟩ := List.mem_map.mp ha
      obtain ⟨t, _, rfl⟩ := List.mem_map.mp hb
      exact E.alike s t
    · obtain ⟨s, _, rfl⟩ := List.mem_map.mp ha
      rw [E.non s]; rfl
  · simp only [sortB, Bool.or_eq_true]
    left
    rw [List.all_eq_true]
    intro d hd
    obtain ⟨s, _, rfl⟩ := List.mem_map.mp hd
    obtain ⟨x, l, e⟩ := E.some s
    rw [e]
theorem sortK_e {S : List α} {vs : List D} {P : List D → Prop} (k : P ((S.map f).mergeSort leD)) : ∃ l, sortDK [.kdc (S.map f) vs] = some l ∧ P l := ⟨_, by simp only [sortDK]; rw [if_pos (dok_e E)], k⟩
theorem sortD_e {S : List α} {P : List D → Prop} (k : P ((S.map f).mergeSort leD)) : ∃ l, sortDD [.lst (S.map f)] = some l ∧ P l := ⟨_, by simp only [sortDD]; rw [if_pos (dok_e E)], k⟩
end
/-- corners -/
theorem pn_eq {p q : Pn} (h : p.x = q.x ∧ p.y = q.y) : p = q := by
  cases p; cases q; simp only [Pn.mk.injEq]; exact h
def cnE : KEnc pnD where
  nk p := .tup [.num p.x, .num p.y]
  nk_eq _ := rfl
  key p := by
    have h : D.nk (pnD p) = some (.tup [.num p.x, .num p.y]) := rfl
    unfold CL.keyOf
    rw [h]
    rfl
  inj a b h := by
    simp only [NestedKey.tup.injEq, List.cons.injEq, NestedKey.num.injEq, and_true] at h
    exact pn_eq h
  toks a b h := by
    simp only [pnD, pt, D.py, D.pyL, keyToks, keyToksAll] at h
    simp at h
    exact pn_eq h
  ok p := by simp [pnD, pt, D.okB, D.okL]
  non _ := rfl
  alike a b := by simp [pnD, pt, D.py, D.pyL, alike, alikeAll]
  some p := ⟨_, _, rfl⟩
/-- links -/
def lkD (l : Pn × Pn) : D := .tup [pnD l.1, pnD l.2]
theorem pr_eq {p q : Pn × Pn} (h : p.1 = q.1 ∧ p.2 = q.2) : p = q := by
  cases p; cases q; simp only [Prod.mk.injEq]; exact h
def lkE : KEnc lkD where
  nk l := .tup [.tup [.num l.1.x, .num l.1.y], .tup [.num l.2.x, .num l.2.y]]
  nk_eq _ := rfl
  key l := by
    have h : D.nk (lkD l) = some (.tup [.tup [.num l.1.x, .num l.1.y], .tup [.num l.2.x, .num l.2.y]]) := rfl
    unfold CL.keyOf
    rw [h]
    rfl
  inj a b h := by
    simp only [NestedKey.tup.injEq, List.cons.injEq, NestedKey.num.injEq, and_true] at h
    exact pr_eq ⟨pn_eq h.1, pn_eq h.2⟩
  toks a b h := by
    simp only [lkD, pnD, pt, D.py, D.pyL, keyToks, keyToksAll] at h
    simp at h
    exact pr_eq ⟨pn_eq ⟨h.1, h.2.1⟩, pn_eq ⟨h.2.2.1, h.2.2.2⟩⟩
  ok p := by simp [lkD, pnD, pt, D.okB, D.okL]
  non _ := rfl
  alike a b := by simp [lkD, pnD, pt, D.py, D.pyL, alike, alikeAll]
  some p := ⟨_, _, rfl⟩
end CLE
namespace CLE
open PySem PySem.Spec L2 CL CLG CLX PySem.W
def linksB : MS := (sSeq (sAsg (pN 1) (mC (.kdc [] []))) (sSeq (sFor (pN 2) (mIt (mV 0)) (sFor (pT 2 (psC (pN 3) (psC (pN 4) psN))) (mItN zip2 (mCons (mSl (mV 2) none (some (m1 bNeg (mC (.int 1))))) (mCons (mSl (mV 2) (some (mC (.int 1))) none) mNil))) (sStoK 1 (mN bTup (mCons (mN bMin2D (mCons (mV 3) (mCons (mV 4) mNil))) (mCons (mN bMax2D (mCons (mV 3) (mCons (mV 4) mNil))) mNil))) (mC (.bl true))))) (sFz 1 (sRet (mN bTuple (mCons (mL sortDK (mCons (mV 1) mNil)) mNil))))))
def linksF : List D → Res D := runP 4 linksB
local macro_rules | `(tactic| walk_at "o") => `(tactic| ((try simp only [backA, List.set_cons_zero, List.set_cons_succ, wipeD, List.map_cons, List.map_nil, List.cons_append, List.nil_append, List.replicate_succ, List.replicate_zero]); first | done | rfl))
local macro_rules | `(tactic| walk_at "b") => `(tactic| first
  | with_reducible exact Nb.lit
  | ((with_reducible apply Nb.mul) <;> walk_at "b")
  | ((with_reducible apply Nb.add) <;> walk_at "b")
  | ((with_reducible apply Nb.sub) <;> walk_at "b")
  | ((with_reducible apply Nb.neg) <;> walk_at "b")
  | ((with_reducible apply Nb.fdiv) <;> walk_at "b")
  | ((with_reducible apply Nb.fmod); (· walk_at "z"); (· walk_at "b"))
  | ((with_reducible apply Nb.max) <;> walk_at "b")
  | ((with_reducible apply Nb.min) <;> walk_at "b")
  | ((with_reducible apply Nb.ite) <;> walk_at "b")
  | with_reducible assumption
  | with_reducible exact Nb.le (by assumption)
  | with_reducible exact Nb.nle (by assumption)
  | with_reducible exact Nb.lt (by assumption)
  | ((with_reducible apply Nb.rng (by assumption) (by assumption)) <;> walk_at "b")
  | ((with_reducible apply Nb.rngE (by assumption) (by assumption)) <;> walk_at "b")
  | with_reducible exact Nb.self _)
local macro_rules | `(tactic| walk_at "z") => `(tactic| first | decide | assumption | omega | exact fmod_nn (by omega) | exact fmod_lt (by omega))
local macro_rules | `(tactic| walk_at "e") => `(tactic| first
  | ((with_reducible refine is_ev ?_); first
    | ((with_reducible apply mul_st); (· walk_at "b"); (· walk_at "b"); (· rfl))
    | ((with_reducible apply mul_s1); (· walk_at "b"); (· rfl))
    | ((with_reducible apply mul_s2); (· walk_at "b"); (· rfl))
    | ((with_reducible apply div_st); (· walk_at "z"); (· walk_at "b"); (· rfl))
    | ((with_reducible apply mod_st); (· walk_at "z"))
    | with_reducible apply tup_pt
    | with_reducible apply tup_ln
    | ((with_reducible apply tup_st); (· rfl))
    | ((with_reducible apply lst_st); (· rfl))
    | with_reducible apply eqi_st
    | with_reducible apply nei_st
    | with_reducible apply eqp_st
    | with_reducible apply nep_st
    | with_reducible apply eqp_st'
    | with_reducible apply nep_st'
    | with_reducible apply eqb_st
    | with_reducible apply neb_st
    | with_reducible apply isb_st
    | with_reducible apply eqs_st
    | with_reducible apply nes_st
    | with_reducible refine ix2bi (fun _ _ _ => ?_)
    | ((with_reducible refine ix4i ?_ ?_ (fun _ _ _ => ?_)); (· walk_at "z"); (· walk_at "z"))
    | ((with_reducible refine ix2i ?_ ?_ (fun _ _ _ => ?_)); (· walk_at "z"); (· walk_at "z"))
    | ((with_reducible refine ix3i ?_ ?_ (fun _ _ _ => ?_)); (· walk_at "z"); (· walk_at "z"))
    | refine ⟨_, rfl, ?_⟩)
  | ((with_reducible refine fill_st ?_); refine ⟨_, rfl, ?_⟩; (try dsimp only))
  | ((with_reducible apply and_go rfl); (· (intro _; (repeat walk_at "s"); with_reducible exact ⟨rfl, rfl⟩)))
  | ((with_reducible refine is_chain ?_); (apply chain_go rfl); (· (intro _; (repeat walk_at "s"); exact ⟨rfl, rfl⟩)))
  | ((with_reducible refine draw_step (by assumption) ?_ ?_ (fun _ _ _ _ _ => ?_)); (· walk_at "z"); (· walk_at "z"))
  | ((with_reducible refine CLY.draw_step (by assumption) ?_ ?_ (fun _ _ _ _ _ => ?_)); (· walk_at "z"); (· walk_at "z"))
  | ((with_reducible refine is_evA ?_); refine ⟨_, rfl, ?_⟩)
  | ((with_reducible refine is_evL ?_); refine ⟨_, rfl, ?_⟩)
  | ((with_reducible refine is_evI ?_); refine ⟨_, rfl, ?_⟩)
  | ((with_reducible refine is_evR ?_); refine ⟨_, rfl, ?_⟩))
local macro_rules | `(tactic| walk_at "f") => `(tactic| first
  | with_reducible refine W_mV.mpr ?_
  | with_reducible refine W_mCons.mpr ?_
  | with_reducible refine W_m2.mpr ?_
  | with_reducible refine W_mC.mpr ?_
  | with_reducible refine W_mNil.mpr ?_
  | with_reducible refine W_mN.mpr ?_
  | with_reducible refine W_sSeq.mpr ?_
  | with_reducible refine W_sAsg.mpr ?_
  | with_reducible refine W_m1.mpr ?_
  | with_reducible refine W_mCallP.mpr ?_
  | with_reducible refine W_mCall.mpr ?_
  | with_reducible refine X_evI.mpr ?_
  | with_reducible refine X_evE.mpr ?_
  | with_reducible refine X_evN.mpr ?_
  | with_reducible refine X_if ?_
  | with_reducible refine W_sRet.mpr ?_
  | with_reducible refine W_sK.mpr ?_
  | with_reducible refine X_and ?_
  | with_reducible refine X_or ?_
  | with_reducible refine W_sPar.mpr ?_
  | with_reducible refine W_mSl.mpr ?_
  | with_reducible refine W_mPtN.mpr ?_
  | with_reducible refine W_mPtS.mpr ?_
  | with_reducible refine W_mIt.mpr ?_
  | with_reducible refine W_mItN.mpr ?_
  | with_reducible refine W_mComp.mpr ?_
  | ((with_reducible refine is_comp ?_); first | (apply X_compN; (· walk_at "o")) | ((with_reducible apply X_compY); (· walk_at "o"); (· rfl)))
  | with_reducible refine W_sFor.mpr ?_
  | ((with_reducible refine is_for ?_); refine W_forNil.mpr ?_)
  | with_reducible refine X_chain ?_
  | with_reducible refine W_sExp.mpr ?_
  | with_reducible refine W_mL.mpr ?_
  | with_reducible refine X_mif ?_
  | with_reducible refine W_mIxS.mpr ?_
  | with_reducible refine W_mYes.mpr ?_
  | with_reducible refine W_sPar3.mpr ?_
  | with_reducible refine W_mApp.mpr ?_
  | with_reducible refine W_mBor.mpr ?_
  | with_reducible refine CLX.W_sFz.mpr ?_)
local macro_rules | `(tactic| walk_at "s") => `(tactic| first
  | ((with_reducible refine is_W ?_); walk_at "f")
  | ((with_reducible refine is_ex ?_); first
    | ((with_reducible refine is_evS ?_); refine ⟨_, rfl, ?_⟩)
    | ((with_reducible apply call_st); (· with_reducible assumption))
    | walk_at "e")
  | ((with_reducible apply X_nx); (· walk_at "o"))
  | with_reducible refine Kq_ret.mpr ?_
  | with_reducible refine Kq_brk.mpr ?_
  | with_reducible refine Kq_cnt.mpr ?_
  | ((with_reducible apply X_fnx); (· walk_at "o"))
  | ((with_reducible apply X_fcnt); (· walk_at "o"))
  | with_reducible refine X_fbrk ?_
  | with_reducible refine X_fret ?_
  | ((with_reducible refine is_ltA ?_); refine ⟨?_, ?_⟩; (· first | decide | omega | (simp; omega) | (simp; done)))
  | with_reducible refine parW_mk.mpr ?_
  | with_reducible refine par3W_mk.mpr ?_)
local macro_rules | `(tactic| walk_at "r") => `(tactic| repeat walk_at "s")
local macro_rules | `(tactic| walk_at "u") => `(tactic| first | ((apply X_forC); (· walk_at "o"); (· rfl)) | ((apply X_compY); (· walk_at "o"); (· rfl)) | ((apply X_compC); (· walk_at "o"); (· rfl)))
local macro_rules | `(tactic| walk_at "g") => `(tactic| repeat first | walk_at "s" | (with_reducible refine go_ifF (rfl : _ = false) ?_) | (with_reducible refine go_ifT (rfl : _ = true) ?_) | (refine go_ifF (rfl : _ = false) ?_) | (refine go_ifT (rfl : _ = true) ?_) | walk_at "u")
def lnk (a b : Pn) : Pn × Pn := (pmin a b, pmax a b)
def lks : List Pn → List (Pn × Pn)
  | a :: b :: l => lnk a b :: lks (b :: l)
  | _ => []
def paD' (l : List Pn) : D := .tup (l.map pnD)
theorem zip_lks : ∀ {l : List Pn}, zipL (l.map pnD).dropLast (l.map pnD).tail = (l.zip l.tail).map fun p => D.tup [pnD p.1, pnD p.2]
  | [] => rfl
  | [a] => rfl
  | a :: b :: l => by
    have ih := zip_lks (l := b :: l)
    simp only [List.map_cons, List.dropLast_cons₂, List.tail_cons, List.zip_cons_cons, zipL] at ih ⊢
    rw [ih]
theorem lks_zip : ∀ {l : List Pn}, lks l = (l.zip l.tail).map fun p => lnk p.1 p.2
  | [] => rfl
  | [a] => rfl
  | a :: b :: l => by
    rw [lks, lks_zip (l := b :: l)]
    rfl
theorem pair_loop {o0 o2 : Option D} {Q : Fl → Sl → Prop} : ∀ (T : List (Pn × Pn)) (S : List (Pn × Pn)) (vs : List D) (o3 o4 : Option D), S.Nodup → S.length + T.length ≤ 100000 →
    (∀ (S' : List (Pn × Pn)) (vs' : List D) (o3' o4' : Option D), S'.Nodup → (∀ s, s ∈ S' ↔ s ∈ S ∨ s ∈ T.map fun p => lnk p.1 p.2) → S'.length ≤ S.length + T.length → Q .nx [o0, some (.kdc (S'.map lkD) vs'), o2, o3', o4']) →
    W (forL (pT 2 (psC (pN 3) (psC (pN 4) psN))) (sStoK 1 (mN bTup (mCons (mN bMin2D (mCons (mV 3) (mCons (mV 4) mNil))) (mCons (mN bMax2D (mCons (mV 3) (mCons (mV 4) mNil))) mNil))) (mC (.bl true))) (T.map fun p => D.tup [pnD p.1, pnD p.2])) [o0, some (.kdc (S.map lkD) vs), o2, o3, o4] Q
  | [], S, vs, o3, o4, hn, _, k => W_forNil.mpr (k S vs o3 o4 hn (by simp) (by simp))
  | t :: T, S, vs, o3, o4, hn, hl, k => by
    simp only [List.length_cons] at hl
    refine W_forCons.mpr ⟨[o0, some (.kdc (S.map lkD) vs), o2, some (pnD t.1), some (pnD t.2)], rfl, sto_e lkE (W_mC.mpr ⟨_, rfl, ?_⟩)⟩
    refine W_mN.mpr (W_mCons.mpr (W_mN.mpr (W_mCons.mpr (W_mV.mpr ⟨_, rfl, W_mCons.mpr (W_mV.mpr ⟨_, rfl, W_mNil.mpr (min_two ?_)⟩)⟩))))
    refine W_mCons.mpr (W_mN.mpr (W_mCons.mpr (W_mV.mpr ⟨_, rfl, W_mCons.mpr (W_mV.mpr ⟨_, rfl, W_mNil.mpr (max_two ?_)⟩)⟩)))
    refine W_mNil.mpr ⟨_, rfl, S, vs, lnk t.1 t.2, rfl, rfl, by omega, fun vs' => .inl ⟨.inl rfl, ?_⟩⟩
    have h1 := len_ins (S := S) (s := lnk t.1 t.2)
    refine pair_loop T (ins S (lnk t.1 t.2)) vs' _ _ (nodup_ins hn) (by omega) fun S' vs2 o3' o4' n1 n2 n3 => k S' vs2 o3' o4' n1 (fun s => ?_) (by simp only [List.length_cons]; omega)
    rw [n2, mem_ins]
    simp only [List.map_cons, List.mem_cons]
    constructor
    · rintro ((h | h) | h)
      · exact .inl h
      · exact .inr (.inl h)
      · exact .inr (.inr h)
    · rintro (h | h | h)
      · exact .inl (.inl h)
      · exact .inl (.inr h)
      · exact .inr h
theorem path_loop {o0 : Option D} {Q : Fl → Sl → Prop} : ∀ (T : List (List Pn)) (S : List (Pn × Pn)) (vs : List D) (o2 o3 o4 : Option D), S.Nodup → S.length + (T.map List.length).sum ≤ 100000 →
    (∀ (S' : List (Pn × Pn)) (vs' : List D) (o2' o3' o4' : Option D), S'.Nodup → (∀ s, s ∈ S' ↔ s ∈ S ∨ ∃ p ∈ T, s ∈ lks p) → S'.length ≤ S.length + (T.map List.length).sum → Q .nx [o0, some (.kdc (S'.map lkD) vs'), o2', o3', o4']) →
    W (forL (pN 2) (sFor (pT 2 (psC (pN 3) (psC (pN 4) psN))) (mItN zip2 (mCons (mSl (mV 2) none (some (m1 bNeg (mC (.int 1))))) (mCons (mSl (mV 2) (some (mC (.int 1))) none) mNil))) (sStoK 1 (mN bTup (mCons (mN bMin2D (mCons (mV 3) (mCons (mV 4) mNil))) (mCons (mN bMax2D (mCons (mV 3) (mCons (mV 4) mNil))) mNil))) (mC (.bl true)))) (T.map paD')) [o0, some (.kdc (S.map lkD) vs), o2, o3, o4] Q
  | [], S, vs, o2, o3, o4, hn, _, k => W_forNil.mpr (k S vs o2 o3 o4 hn (by simp) (by simp))
  | t :: T, S, vs, o2, o3, o4, hn, hl, k => by
    simp only [List.map_cons, List.sum_cons] at hl
    have hz : (t.zip t.tail).length ≤ t.length := by rw [List.length_zip]; omega
    refine W_forCons.mpr ⟨[o0, some (.kdc (S.map lkD) vs), some (.tup (t.map pnD)), o3, o4], rfl, ?_⟩
    walk_at "r"
    have e1 : cutD (t.map pnD) none (some (-1)) = (t.map pnD).dropLast := cut_last
    have e2 : cutD (t.map pnD) (some 1) none = (t.map pnD).tail := cut_tail
    rw [e1, e2, zip_lks]
    refine pair_loop (t.zip t.tail) S vs _ _ hn (by omega) fun S' vs' o3' o4' n1 n2 n3 => .inl ⟨.inl rfl, ?_⟩
    rw [← lks_zip] at n2
    refine path_loop T S' vs' _ _ _ n1 (by omega) fun S2 vs2 o2' o32 o42 m1 m2 m3 => k S2 vs2 o2' o32 o42 m1 (fun s => ?_) (by simp only [List.map_cons, List.sum_cons]; omega)
    rw [m2, n2]
    simp only [List.mem_cons]
    constructor
    · rintro ((h | h) | ⟨z, hz, h⟩)
      · exact .inl h
      · exact .inr ⟨t, .inl rfl, h⟩
      · exact .inr ⟨z, .inr hz, h⟩
    · rintro (h | ⟨z, rfl | hz, h⟩)
      · exact .inl (.inl h)
      · exact .inl (.inr h)
      · exact .inr ⟨z, hz, h⟩
/-- what the program tells -/
theorem links_is {T : List (List Pn)} (hl : (T.map List.length).sum ≤ 10000) : ∃ S : List (Pn × Pn), S.Nodup ∧ (∀ s, s ∈ S ↔ ∃ p ∈ T, s ∈ lks p) ∧ S.length ≤ 10000 ∧ linksF [.tup (T.map paD')] = .ok (.tup ((S.map lkD).mergeSort leD)) := by
  have key : ∃ d, linksF [.tup (T.map paD')] = .ok d ∧ ∃ S : List (Pn × Pn), S.Nodup ∧ (∀ s, s ∈ S ↔ ∃ p ∈ T, s ∈ lks p) ∧ S.length ≤ 10000 ∧ d = .tup ((S.map lkD).mergeSort leD) := by
    refine runP_ex ?_
    unfold linksB
    walk_at "r"
    refine path_loop T [] [] _ _ _ (by simp) (by simp; omega) fun S' vs' o2 o3 o4 n1 n2 n3 => ?_
    walk_at "r"
    refine sortK_e lkE ?_
    walk_at "r"
    exact ⟨S', n1, fun s => by rw [n2]; simp, by simp at n3; omega, rfl⟩
  obtain ⟨d, e, S, h1, h2, h3, rfl⟩ := key
  exact ⟨S, h1, h2, h3, e⟩
end CLE
namespace CLE
end CLE
namespace CLE
end CLE
namespace CLE
open PySem PySem.Spec L2 CL CLG CLX PySem.W
local macro_rules | `(tactic| walk_at "o") => `(tactic| ((try simp only [backA, List.set_cons_zero, List.set_cons_succ, wipeD, List.map_cons, List.map_nil, List.cons_append, List.nil_append, List.replicate_succ, List.replicate_zero]); first | done | rfl))
local macro_rules | `(tactic| walk_at "b") => `(tactic| first
  | with_reducible exact Nb.lit
  | ((with_reducible apply Nb.mul) <;> walk_at "b")
  | ((with_reducible apply Nb.add) <;> walk_at "b")
  | ((with_reducible apply Nb.sub) <;> walk_at "b")
  | ((with_reducible apply Nb.neg) <;> walk_at "b")
  | ((with_reducible apply Nb.fdiv) <;> walk_at "b")
  | ((with_reducible apply Nb.fmod); (· walk_at "z"); (· walk_at "b"))
  | ((with_reducible apply Nb.max) <;> walk_at "b")
  | ((with_reducible apply Nb.min) <;> walk_at "b")
  | ((with_reducible apply Nb.ite) <;> walk_at "b")
  | with_reducible assumption
  | with_reducible exact Nb.le (by assumption)
  | with_reducible exact Nb.nle (by assumption)
  | with_reducible exact Nb.lt (by assumption)
  | ((with_reducible apply Nb.rng (by assumption) (by assumption)) <;> walk_at "b")
  | ((with_reducible apply Nb.rngE (by assumption) (by assumption)) <;> walk_at "b")
  | with_reducible exact Nb.self _)
local macro_rules | `(tactic| walk_at "z") => `(tactic| first | decide | assumption | omega | exact fmod_nn (by omega) | exact fmod_lt (by omega))
local macro_rules | `(tactic| walk_at "e") => `(tactic| first
  | ((with_reducible refine is_ev ?_); first
    | ((with_reducible apply mul_st); (· walk_at "b"); (· walk_at "b"); (· rfl))
    | ((with_reducible apply mul_s1); (· walk_at "b"); (· rfl))
    | ((with_reducible apply mul_s2); (· walk_at "b"); (· rfl))
    | ((with_reducible apply div_st); (· walk_at "z"); (· walk_at "b"); (· rfl))
    | ((with_reducible apply mod_st); (· walk_at "z"))
    | with_reducible apply tup_pt
    | with_reducible apply tup_ln
    | ((with_reducible apply tup_st); (· rfl))
    | ((with_reducible apply lst_st); (· rfl))
    | with_reducible apply eqi_st
    | with_reducible apply nei_st
    | with_reducible apply eqp_st
    | with_reducible apply nep_st
    | with_reducible apply eqp_st'
    | with_reducible apply nep_st'
    | with_reducible apply eqb_st
    | with_reducible apply neb_st
    | with_reducible apply isb_st
    | with_reducible apply eqs_st
    | with_reducible apply nes_st
    | with_reducible refine ix2bi (fun _ _ _ => ?_)
    | ((with_reducible refine ix4i ?_ ?_ (fun _ _ _ => ?_)); (· walk_at "z"); (· walk_at "z"))
    | ((with_reducible refine ix2i ?_ ?_ (fun _ _ _ => ?_)); (· walk_at "z"); (· walk_at "z"))
    | ((with_reducible refine ix3i ?_ ?_ (fun _ _ _ => ?_)); (· walk_at "z"); (· walk_at "z"))
    | refine ⟨_, rfl, ?_⟩)
  | ((with_reducible refine fill_st ?_); refine ⟨_, rfl, ?_⟩; (try dsimp only))
  | ((with_reducible apply and_go rfl); (· (intro _; (repeat walk_at "s"); with_reducible exact ⟨rfl, rfl⟩)))
  | ((with_reducible refine is_chain ?_); (apply chain_go rfl); (· (intro _; (repeat walk_at "s"); exact ⟨rfl, rfl⟩)))
  | ((with_reducible refine draw_step (by assumption) ?_ ?_ (fun _ _ _ _ _ => ?_)); (· walk_at "z"); (· walk_at "z"))
  | ((with_reducible refine CLY.draw_step (by assumption) ?_ ?_ (fun _ _ _ _ _ => ?_)); (· walk_at "z"); (· walk_at "z"))
  | ((with_reducible refine is_evA ?_); refine ⟨_, rfl, ?_⟩)
  | ((with_reducible refine is_evL ?_); refine ⟨_, rfl, ?_⟩)
  | ((with_reducible refine is_evI ?_); refine ⟨_, rfl, ?_⟩)
  | ((with_reducible refine is_evR ?_); refine ⟨_, rfl, ?_⟩))
local macro_rules | `(tactic| walk_at "f") => `(tactic| first
  | with_reducible refine W_mV.mpr ?_
  | with_reducible refine W_mCons.mpr ?_
  | with_reducible refine W_m2.mpr ?_
  | with_reducible refine W_mC.mpr ?_
  | with_reducible refine W_mNil.mpr ?_
  | with_reducible refine W_mN.mpr ?_
  | with_reducible refine W_sSeq.mpr ?_
  | with_reducible refine W_sAsg.mpr ?_
  | with_reducible refine W_m1.mpr ?_
  | with_reducible refine W_mCallP.mpr ?_
  | with_reducible refine W_mCall.mpr ?_
  | with_reducible refine X_evI.mpr ?_
  | with_reducible refine X_evE.mpr ?_
  | with_reducible refine X_evN.mpr ?_
  | with_reducible refine X_if ?_
  | with_reducible refine W_sRet.mpr ?_
  | with_reducible refine W_sK.mpr ?_
  | with_reducible refine X_and ?_
  | with_reducible refine X_or ?_
  | with_reducible refine W_sPar.mpr ?_
  | with_reducible refine W_mSl.mpr ?_
  | with_reducible refine W_mPtN.mpr ?_
  | with_reducible refine W_mPtS.mpr ?_
  | with_reducible refine W_mIt.mpr ?_
  | with_reducible refine W_mItN.mpr ?_
  | with_reducible refine W_mComp.mpr ?_
  | ((with_reducible refine is_comp ?_); first | (apply X_compN; (· walk_at "o")) | ((with_reducible apply X_compY); (· walk_at "o"); (· rfl)))
  | with_reducible refine W_sFor.mpr ?_
  | ((with_reducible refine is_for ?_); refine W_forNil.mpr ?_)
  | with_reducible refine X_chain ?_
  | with_reducible refine W_sExp.mpr ?_
  | with_reducible refine W_mL.mpr ?_
  | with_reducible refine X_mif ?_
  | with_reducible refine W_mIxS.mpr ?_
  | with_reducible refine W_mYes.mpr ?_
  | with_reducible refine W_sPar3.mpr ?_
  | with_reducible refine W_mApp.mpr ?_
  | with_reducible refine W_mBor.mpr ?_
  | with_reducible refine CLX.W_sFz.mpr ?_)
local macro_rules | `(tactic| walk_at "s") => `(tactic| first
  | ((with_reducible refine is_W ?_); walk_at "f")
  | ((with_reducible refine is_ex ?_); first
    | ((with_reducible refine is_evS ?_); refine ⟨_, rfl, ?_⟩)
    | ((with_reducible apply call_st); (· with_reducible assumption))
    | walk_at "e")
  | ((with_reducible apply X_nx); (· walk_at "o"))
  | with_reducible refine Kq_ret.mpr ?_
  | with_reducible refine Kq_brk.mpr ?_
  | with_reducible refine Kq_cnt.mpr ?_
  | ((with_reducible apply X_fnx); (· walk_at "o"))
  | ((with_reducible apply X_fcnt); (· walk_at "o"))
  | with_reducible refine X_fbrk ?_
  | with_reducible refine X_fret ?_
  | ((with_reducible refine is_ltA ?_); refine ⟨?_, ?_⟩; (· first | decide | omega | (simp; omega) | (simp; done)))
  | with_reducible refine parW_mk.mpr ?_
  | with_reducible refine par3W_mk.mpr ?_)
local macro_rules | `(tactic| walk_at "r") => `(tactic| repeat walk_at "s")
local macro_rules | `(tactic| walk_at "u") => `(tactic| first | ((apply X_forC); (· walk_at "o"); (· rfl)) | ((apply X_compY); (· walk_at "o"); (· rfl)) | ((apply X_compC); (· walk_at "o"); (· rfl)))
local macro_rules | `(tactic| walk_at "g") => `(tactic| repeat first | walk_at "s" | (with_reducible refine go_ifF (rfl : _ = false) ?_) | (with_reducible refine go_ifT (rfl : _ = true) ?_) | (refine go_ifF (rfl : _ = false) ?_) | (refine go_ifT (rfl : _ = true) ?_) | walk_at "u")
theorem lnk_comm (a b : Pn) : lnk a b = lnk b a := by unfold lnk; rw [pmin_comm, pmax_comm]
theorem lks_app {a b : Pn} {s : Pn × Pn} : ∀ {l : List Pn}, s ∈ lks (l ++ [a, b]) ↔ s ∈ lks (l ++ [a]) ∨ s = lnk a b
  | [] => by simp [lks]
  | [c] => by simp [lks]
  | c :: d :: l => by
    have ih := lks_app (a := a) (b := b) (s := s) (l := d :: l)
    simp only [List.cons_append, lks, List.mem_cons] at ih ⊢
    rw [ih]
    constructor
    · rintro (h | h | h)
      · exact .inl (.inl h)
      · exact .inl (.inr h)
      · exact .inr h
    · rintro ((h | h) | h)
      · exact .inl h
      · exact .inr (.inl h)
      · exact .inr (.inr h)
/-- a path from behind has the same links -/
theorem lks_rev : ∀ {l : List Pn} {s : Pn × Pn}, s ∈ lks l.reverse ↔ s ∈ lks l
  | [], s => Iff.rfl
  | [a], s => Iff.rfl
  | a :: b :: l, s => by
    have ih := lks_rev (l := b :: l) (s := s)
    rw [List.reverse_cons, List.reverse_cons, List.append_assoc]
    rw [List.reverse_cons] at ih
    show s ∈ lks (l.reverse ++ [b, a]) ↔ _
    rw [lks_app, ih, lks, List.mem_cons, lnk_comm b a]
    exact ⟨fun h => h.elim .inr .inl, fun h => h.elim .inr .inl⟩
end CLE
namespace CLE
open PySem PySem.Spec L2 CL CLG CLX PySem.W
def rowB : MS := (sSeq (sAsg (pN 3) (mC (.kdc [] []))) (sSeq (sFor (pN 4) (mItN range1 (mCons (mV 1) mNil)) (sStoK 3 (mN bTup (mCons (mCall drawF (.io 0 :: (.e (mV 2) :: []))) (mCons (mCall drawF (.io 0 :: (.e (mV 2) :: []))) mNil))) (mC (.bl true)))) (sFz 3 (sRet (mN bTupleK (mCons (mV 3) mNil))))))
def rowF : Fn := runF [DKt, .sh, .sh] 2 rowB
local macro_rules | `(tactic| walk_at "o") => `(tactic| ((try simp only [backA, List.set_cons_zero, List.set_cons_succ, wipeD, List.map_cons, List.map_nil, List.cons_append, List.nil_append, List.replicate_succ, List.replicate_zero]); first | done | rfl))
local macro_rules | `(tactic| walk_at "b") => `(tactic| first
  | with_reducible exact Nb.lit
  | ((with_reducible apply Nb.mul) <;> walk_at "b")
  | ((with_reducible apply Nb.add) <;> walk_at "b")
  | ((with_reducible apply Nb.sub) <;> walk_at "b")
  | ((with_reducible apply Nb.neg) <;> walk_at "b")
  | ((with_reducible apply Nb.fdiv) <;> walk_at "b")
  | ((with_reducible apply Nb.fmod); (· walk_at "z"); (· walk_at "b"))
  | ((with_reducible apply Nb.max) <;> walk_at "b")
  | ((with_reducible apply Nb.min) <;> walk_at "b")
  | ((with_reducible apply Nb.ite) <;> walk_at "b")
  | with_reducible assumption
  | with_reducible exact Nb.le (by assumption)
  | with_reducible exact Nb.nle (by assumption)
  | with_reducible exact Nb.lt (by assumption)
  | ((with_reducible apply Nb.rng (by assumption) (by assumption)) <;> walk_at "b")
  | ((with_reducible apply Nb.rngE (by assumption) (by assumption)) <;> walk_at "b")
  | with_reducible exact Nb.self _)
local macro_rules | `(tactic| walk_at "z") => `(tactic| first | decide | assumption | omega | exact fmod_nn (by omega) | exact fmod_lt (by omega))
local macro_rules | `(tactic| walk_at "e") => `(tactic| first
  | ((with_reducible refine is_ev ?_); first
    | ((with_reducible apply mul_st); (· walk_at "b"); (· walk_at "b"); (· rfl))
    | ((with_reducible apply mul_s1); (· walk_at "b"); (· rfl))
    | ((with_reducible apply mul_s2); (· walk_at "b"); (· rfl))
    | ((with_reducible apply div_st); (· walk_at "z"); (· walk_at "b"); (· rfl))
    | ((with_reducible apply mod_st); (· walk_at "z"))
    | with_reducible apply tup_pt
    | with_reducible apply tup_ln
    | ((with_reducible apply tup_st); (· rfl))
    | ((with_reducible apply lst_st); (· rfl))
    | with_reducible apply eqi_st
    | with_reducible apply nei_st
    | with_reducible apply eqp_st
    | with_reducible apply nep_st
    | with_reducible apply eqp_st'
    | with_reducible apply nep_st'
    | with_reducible apply eqb_st
    | with_reducible apply neb_st
    | with_reducible apply isb_st
    | with_reducible apply eqs_st
    | with_reducible apply nes_st
    | with_reducible refine ix2bi (fun _ _ _ => ?_)
    | ((with_reducible refine ix4i ?_ ?_ (fun _ _ _ => ?_)); (· walk_at "z"); (· walk_at "z"))
    | ((with_reducible refine ix2i ?_ ?_ (fun _ _ _ => ?_)); (· walk_at "z"); (· walk_at "z"))
    | ((with_reducible refine ix3i ?_ ?_ (fun _ _ _ => ?_)); (· walk_at "z"); (· walk_at "z"))
    | refine ⟨_, rfl, ?_⟩)
  | ((with_reducible refine fill_st ?_); refine ⟨_, rfl, ?_⟩; (try dsimp only))
  | ((with_reducible apply and_go rfl); (· (intro _; (repeat walk_at "s"); with_reducible exact ⟨rfl, rfl⟩)))
  | ((with_reducible refine is_chain ?_); (apply chain_go rfl); (· (intro _; (repeat walk_at "s"); exact ⟨rfl, rfl⟩)))
  | ((with_reducible refine draw_step (by assumption) ?_ ?_ (fun _ _ _ _ _ => ?_)); (· walk_at "z"); (· walk_at "z"))
  | ((with_reducible refine CLY.draw_step (by assumption) ?_ ?_ (fun _ _ _ _ _ => ?_)); (· walk_at "z"); (· walk_at "z"))
  | ((with_reducible refine is_evA ?_); refine ⟨_, rfl, ?_⟩)
  | ((with_reducible refine is_evL ?_); refine ⟨_, rfl, ?_⟩)
  | ((with_reducible refine is_evI ?_); refine ⟨_, rfl, ?_⟩)
  | ((with_reducible refine is_evR ?_); refine ⟨_, rfl, ?_⟩))
local macro_rules | `(tactic| walk_at "f") => `(tactic| first
  | with_reducible refine W_mV.mpr ?_
  | with_reducible refine W_mCons.mpr ?_
  | with_reducible refine W_m2.mpr ?_
  | with_reducible refine W_mC.mpr ?_
  | with_reducible refine W_mNil.mpr ?_
  | with_reducible refine W_mN.mpr ?_
  | with_reducible refine W_sSeq.mpr ?_
  | with_reducible refine W_sAsg.mpr ?_
  | with_reducible refine W_m1.mpr ?_
  | with_reducible refine W_mCallP.mpr ?_
  | with_reducible refine W_mCall.mpr ?_
  | with_reducible refine X_evI.mpr ?_
  | with_reducible refine X_evE.mpr ?_
  | with_reducible refine X_evN.mpr ?_
  | with_reducible refine X_if ?_
  | with_reducible refine W_sRet.mpr ?_
  | with_reducible refine W_sK.mpr ?_
  | with_reducible refine X_and ?_
  | with_reducible refine X_or ?_
  | with_reducible refine W_sPar.mpr ?_
  | with_reducible refine W_mSl.mpr ?_
  | with_reducible refine W_mPtN.mpr ?_
  | with_reducible refine W_mPtS.mpr ?_
  | with_reducible refine W_mIt.mpr ?_
  | with_reducible refine W_mItN.mpr ?_
  | with_reducible refine W_mComp.mpr ?_
  | ((with_reducible refine is_comp ?_); first | (apply X_compN; (· walk_at "o")) | ((with_reducible apply X_compY); (· walk_at "o"); (· rfl)))
  | with_reducible refine W_sFor.mpr ?_
  | ((with_reducible refine is_for ?_); refine W_forNil.mpr ?_)
  | with_reducible refine X_chain ?_
  | with_reducible refine W_sExp.mpr ?_
  | with_reducible refine W_mL.mpr ?_
  | with_reducible refine X_mif ?_
  | with_reducible refine W_mIxS.mpr ?_
  | with_reducible refine W_mYes.mpr ?_
  | with_reducible refine W_sPar3.mpr ?_
  | with_reducible refine W_mApp.mpr ?_
  | with_reducible refine W_mBor.mpr ?_
  | with_reducible refine CLX.W_sFz.mpr ?_)
local macro_rules | `(tactic| walk_at "s") => `(tactic| first
  | ((with_reducible refine is_W ?_); walk_at "f")
  | ((with_reducible refine is_ex ?_); first
    | ((with_reducible refine is_evS ?_); refine ⟨_, rfl, ?_⟩)
    | ((with_reducible apply call_st); (· with_reducible assumption))
    | walk_at "e")
  | ((with_reducible apply X_nx); (· walk_at "o"))
  | with_reducible refine Kq_ret.mpr ?_
  | with_reducible refine Kq_brk.mpr ?_
  | with_reducible refine Kq_cnt.mpr ?_
  | ((with_reducible apply X_fnx); (· walk_at "o"))
  | ((with_reducible apply X_fcnt); (· walk_at "o"))
  | with_reducible refine X_fbrk ?_
  | with_reducible refine X_fret ?_
  | ((with_reducible refine is_ltA ?_); refine ⟨?_, ?_⟩; (· first | decide | omega | (simp; omega) | (simp; done)))
  | with_reducible refine parW_mk.mpr ?_
  | with_reducible refine par3W_mk.mpr ?_)
local macro_rules | `(tactic| walk_at "r") => `(tactic| repeat walk_at "s")
local macro_rules | `(tactic| walk_at "u") => `(tactic| first | ((apply X_forC); (· walk_at "o"); (· rfl)) | ((apply X_compY); (· walk_at "o"); (· rfl)) | ((apply X_compC); (· walk_at "o"); (· rfl)))
local macro_rules | `(tactic| walk_at "g") => `(tactic| repeat first | walk_at "s" | (with_reducible refine go_ifF (rfl : _ = false) ?_) | (with_reducible refine go_ifT (rfl : _ = true) ?_) | (refine go_ifF (rfl : _ = false) ?_) | (refine go_ifT (rfl : _ = true) ?_) | walk_at "u")
end CLE
namespace CLE
open PySem PySem.Spec L2 CL CLG CLX PySem.W
theorem W_forLen {p : Pt} {b : MS} (I : Nat → Sl → Prop) {Q : Fl → Sl → Prop} : ∀ {xs : List D} {ρ : Sl}, (∀ x ∈ xs, ∀ k ρ, k < xs.length → I (k + 1) ρ → ∃ ρ1, p x ρ = some ρ1 ∧ W b ρ1 fun f ρ2 => (f = .nx ∨ f = .cnt) ∧ I k ρ2) → I xs.length ρ → (∀ ρ', I 0 ρ' → Q .nx ρ') → W (forL p b xs) ρ Q
  | [], ρ, _, h0, hq => W_forNil.mpr (hq ρ h0)
  | x :: xs, ρ, h, h0, hq => by
    obtain ⟨ρ1, e, hb⟩ := h x (by simp) xs.length ρ (by simp) h0
    exact W_forCons.mpr ⟨ρ1, e, hb.mono fun f ρ2 ⟨hf, hi⟩ => .inl ⟨hf, W_forLen I (fun y hy k ρ hk => h y (by simp [hy]) k ρ (by simp; omega)) hi hq⟩⟩
theorem X_andC {ρ : Sl} {QD : D → Sl → Prop} {a b : M D} (h : W a ρ fun x ρ1 => Br x (W b ρ1 QD) (QD (.bl false) ρ1)) : W (mAnd a b) ρ QD := W_mAnd.mpr h
theorem X_orC {ρ : Sl} {QD : D → Sl → Prop} {a b : M D} (h : W a ρ fun x ρ1 => Br x (QD (.bl true) ρ1) (W b ρ1 QD)) : W (mOr a b) ρ QD := W_mOr.mpr h
theorem sum_le {T : List (List Pn)} {n : Nat} (h : ∀ p ∈ T, p.length ≤ n) : (T.map List.length).sum ≤ n * T.length := by
  induction T with
  | nil => simp
  | cons t T ih =>
    have h1 := h t (by simp)
    have h2 := ih fun p hp => h p (by simp [hp])
    simp only [List.map_cons, List.sum_cons, List.length_cons, Nat.mul_succ]
    omega
end CLE
namespace CL
end CL
namespace CL
end CL
namespace CL
open PySem PySem.Spec L2 PySem.W PyProof.Rows
set_option autoImplicit false
def tPoC [Tb] (K : PySem.W.Frag) (τ : Nat → OT) (q : Bool) (m : Option (M D)) : TO := fun σ H Q => ∃ Z own ρ o ρ', RS K τ Z own H ρ σ ∧ mPt m ρ = .ok (o, ρ') ∧ ∀ Z' own' H', RS K τ Z' own' H' ρ' σ → Ext q Z own H Z' own' H' → Q o H'
section
variable [Tb] {X : Cx} {τ : Nat → OT} {q q1 q2 : Bool} {md : Md} {e st : Expr} {lo hi : Option Expr} {ma ms : M D} {ml mh : Option (M D)} {pos p2 : Pos}
theorem po_sC (h : PE X e (tE X.K τ q .sh ma)) : PO X (some e) (tPoC X.K τ q (some ma)) := (po_some h).mono fun σ H Q ⟨Z, own, ρ, o, ρ', rs, e, k⟩ => by
  obtain ⟨d, ρ1, e1, f1⟩ := bind_ok e
  split at f1
  · rename_i i
    cases f1
    exact ⟨Z, own, ρ, _, ρ', rs, e1, fun v Z1 own1 H1 S rs1 rm n x1 => ⟨i, by simpa only [Rm, R, RSh] using rm, k Z1 own1 H1 rs1 x1⟩⟩
  · cases f1
end
section
variable [Tb] {X : Cx} {τ : Nat → OT} {a b x y : Expr} {ma mb mx my : M D} {pos : Pos} {ta tb tx ty : TE}
end
end CL
namespace CLN
end CLN
namespace CLX
end CLX
namespace CLN
end CLN
namespace CLN
open PySem CL CLG CLX
def lnk1 (a b : Pn) : Li := ⟨a.x, a.y, b.x, b.y⟩
end CLN
namespace CLN
end CLN
namespace CLN
end CLN
namespace CL
open PySem PySem.Spec L2 PySem.W PyProof.Rows
set_option autoImplicit false
theorem pick_one (items : Array Value) : slicePick items none none (some 1) = items.toList.toArray := by
  have h1 : sliceBounds none none (some 1) items.size = (0, (items.size : Int), 1) := by
    first
    | rfl
    | simp [sliceBounds]
  have h2 : sliceRange 0 (items.size : Int) 1 = List.range items.size := by
    unfold sliceRange
    by_cases h : (0 : Int) < items.size
    · have e : ((items.size : Int) - 0 + 1 - 1) / 1 = (items.size : Int) := by rw [Int.ediv_one]; omega
      have h3 : 0 < items.size := by omega
      simp [h, h3]
    · have e : items.size = 0 := by omega
      rw [e]; simp
  unfold slicePick
  rw [h1]
  show ((sliceRange 0 (items.size : Int) 1).filterMap (items[·]?)).toArray = _
  rw [h2, PySem.W.krv_all]
section
variable [Tb] {X : Cx}
def tStepB [Tb] (K : PySem.W.Frag) (te : TE) (ts : TO) : TE := fun σ H Q => te σ H fun x H1 => ∃ a, x = .ref a ∧ ts σ H1 fun o H2 => (∃ xs, SqT K H2 a xs ∧ ((o = some 1 ∧ Q (.ref a) H2) ∨ (o = some (-1) ∧ ∀ p, H2 p = none → Q (.ref p) (upd H2 p (.tup xs.reverse))))) ∨
  (∃ xs, SqL K H2 a xs ∧ ((o = some 1 ∧ ∀ p, H2 p = none → Q (.ref p) (upd H2 p (.lst xs))) ∨ (o = some (-1) ∧ ∀ p, H2 p = none → Q (.ref p) (upd H2 p (.lst xs.reverse)))))
theorem pe_stepB {e : Expr} {st : Option Expr} {te : TE} {ts : TO} {p3 pos : Pos} (he : PE X e te) (hst : PO X st ts) (hsub : ∀ x i : Value, subscripted (Expr.Slice none none st p3) false x i = operate [x, i] (getItem x i)) : PE X (.Subscript e (.Slice none none st p3) pos) (tStepB X.K te ts) := by
  refine ⟨fun pins s σ H Q I h => ?_⟩
  refine PyProof.Rows.Subscript_ (thn (he.run pins s σ H _ I h) fun v s1 ⟨x, H1, I1, r1, a, ex, qq⟩ => ?_)
  subst ex
  cases r1
  refine wpAny_Slice (thn (po_none.run pins s1 σ H1 (fun o H2 => o = none ∧ H2 = H1) I1 ⟨rfl, rfl⟩) fun vl s2 ⟨l, H2, I2, pl, el, e2⟩ => ?_)
  subst el e2
  refine thn (po_none.run pins s2 σ H2 (fun o H3 => o = none ∧ H3 = H2) I2 ⟨rfl, rfl⟩) fun vu s3 ⟨u, H3, I3, pu, eu, e3⟩ => ?_
  subst eu e3
  refine thn (hst.run pins s3 σ H3 _ I3 qq) fun vs s4 ⟨o, H4, I4, ps, hh⟩ => ?_
  have J : Inv X pins σ H4 { s4 with heap := s4.heap.push { cls := .type "slice", data := .fields #[vl, vu, vs] } } := I4.kept (t' := s4.toks) fun b ob q => Heap.get?_push_of_some _ q
  show wpAny (model X.prog X.w) X.A (subscriptTail e (.Slice none none st p3) (.ref a) (.ref s4.heap.objs.size)) (EP X pins σ Q) X.xe { s4 with heap := s4.heap.push { cls := .type "slice", data := .fields #[vl, vu, vs] } }
  rcases hh with ⟨xs, hx4, q4⟩ | ⟨xs, hx4, q4⟩
  · obtain ⟨its, r, ht, hz⟩ := J.tuple hx4
    have hlen := r.length
    refine tail_any (ops := [.ref a, .ref s4.heap.objs.size]) ht.typeIs (PyProof.Rows.slot_tuple_getitem.lookup) ?_ (by first | exact hsub _ _ | (have := hsub (.ref a) (.ref s4.heap.objs.size); with_unfolding_all exact this))
    rcases q4 with ⟨rfl, q4⟩ | ⟨rfl, q4⟩
    · exact item_tuple_one ht (Heap.IsSliceOf.new _ vl vu vs) pl pu ps ⟨.ref a, _, J, rfl, q4⟩
    · refine item_tuple_rev ht (Heap.IsSliceOf.new _ vl vu vs) pl pu ps ?_ (by rw [List.size_toArray]; omega)
      refine ⟨.ref _, _, J.laid (t' := s4.toks) (o := .tup xs.reverse) (fun b ob q => Heap.get?_push_of_some _ q) (Nat.le_refl _) ?_, rfl, q4 _ (J.hok.fresh (Nat.le_refl _))⟩
      exact ⟨by rw [List.length_reverse]; exact hz, _, r.reverse, PyProof.Rows.IsTup.new _ _⟩
  · obtain ⟨its, r, ht, hz⟩ := J.list hx4
    have hlen := r.length
    refine tail_any (ops := [.ref a, .ref s4.heap.objs.size]) ht.isList.typeIs (PySem.slot_list_getitem.lookup) ?_ (by first | exact hsub _ _ | (have := hsub (.ref a) (.ref s4.heap.objs.size); with_unfolding_all exact this))
    rcases q4 with ⟨rfl, q4⟩ | ⟨rfl, q4⟩
    · refine wpAny_getItem_list_slice ht.isList (Heap.IsSliceOf.new _ vl vu vs) pl pu ps (by decide) ?_ (by rw [List.size_toArray]; omega)
      rw [pick_one]
      refine ⟨.ref _, _, J.laid (t' := s4.toks) (o := .lst xs) (fun b ob q => Heap.get?_push_of_some _ q) (Nat.le_refl _) ?_, rfl, q4 _ (J.hok.fresh (Nat.le_refl _))⟩
      exact ⟨hz, _, 0, r, Heap.get?_push_size _ rfl⟩
    · refine wpAny_getItem_list_slice ht.isList (Heap.IsSliceOf.new _ vl vu vs) pl pu ps (by decide) ?_ (by rw [List.size_toArray]; omega)
      rw [PySem.W.krv_pick]
      refine ⟨.ref _, _, J.laid (t' := s4.toks) (o := .lst xs.reverse) (fun b ob q => Heap.get?_push_of_some _ q) (Nat.le_refl _) ?_, rfl, q4 _ (J.hok.fresh (Nat.le_refl _))⟩
      exact ⟨by rw [List.length_reverse]; exact hz, _, 0, r.reverse, Heap.get?_push_size _ rfl⟩
def bStep2 : D → Option Int → Option D
  | .tup l, o => if o = some 1 then some (.tup l) else if o = some (-1) then some (.tup l.reverse) else none
  | .lst l, o => if o = some 1 then some (.lst l) else if o = some (-1) then some (.lst l.reverse) else none
  | _, _ => none
def mStep2 (a : M D) (st : M D) : M D := bind a fun x => bind (mPt (some st)) fun o => ofO (bStep2 x o)
variable {τ : Nat → OT} {q q1 : Bool} {md : Md} {e st : Expr} {ma ms : M D} {pos p2 : Pos}
theorem step_fin {x d : D} {Z2 : Addr → Prop} {own2 : Addr → Option Nat} {H2 : Hp} {ρ' : Sl} {σ : L2.St} {a : Addr} {o : Option Int} {Z : Addr → Prop} {own : Addr → Option Nat} {H : Hp} {q : Bool} {Q : VK} (p2 : Pk0 X.K Z2 H2 x (.ref a)) (rs2 : RS X.K τ Z2 own2 H2 ρ' σ) (x12 : Ext q Z own H Z2 own2 H2) (f4 : bStep2 x o = some d)
    (k : ∀ v Z' own' H' S, RS X.K τ Z' own' H' ρ' σ → Rm X.K Z' own' H' .sh d v S → NewR H Z' own' H' S → Ext q Z own H Z' own' H' → Q v H') :
    (∃ xs, SqT X.K H2 a xs ∧ ((o = some 1 ∧ Q (.ref a) H2) ∨ (o = some (-1) ∧ ∀ p, H2 p = none → Q (.ref p) (upd H2 p (.tup xs.reverse))))) ∨
      (∃ xs, SqL X.K H2 a xs ∧ ((o = some 1 ∧ ∀ p, H2 p = none → Q (.ref p) (upd H2 p (.lst xs))) ∨ (o = some (-1) ∧ ∀ p, H2 p = none → Q (.ref p) (upd H2 p (.lst xs.reverse))))) := by
  cases x with
  | tup l =>
    left
    obtain ⟨a', xs', ea, s2, l2⟩ := p2.tup
    cases ea
    refine ⟨xs', s2, ?_⟩
    simp only [bStep2] at f4
    split at f4
    · rename_i ho
      subst ho
      cases f4
      exact .inl ⟨rfl, fin_sh rs2 x12 Grow.refl (RF.tup l2 s2) NewS.none k⟩
    · split at f4
      · rename_i ho
        subst ho
        cases f4
        refine .inr ⟨rfl, fun p hp => ?_⟩
        have g : Grow H2 (upd H2 p (.tup xs'.reverse)) := Grow.new hp
        exact fin_sh rs2 x12 g (RF.tup (g.shL l2.reverse) (SqT.of upd_same)) NewS.none k
      · cases f4
  | lst l =>
    right
    obtain ⟨a', xs', ea, s2, l2⟩ := p2.lst
    cases ea
    refine ⟨xs', SqL.of s2, ?_⟩
    simp only [bStep2] at f4
    split at f4
    · rename_i ho
      subst ho
      cases f4
      refine .inl ⟨rfl, fun p hp => ?_⟩
      have g : Grow H2 (upd H2 p (.lst xs')) := Grow.new hp
      exact fin_sh rs2 x12 g (RF.list (g.shL l2) upd_same) (NewS.one trivial hp) k
    · split at f4
      · rename_i ho
        subst ho
        cases f4
        refine .inr ⟨rfl, fun p hp => ?_⟩
        have g : Grow H2 (upd H2 p (.lst xs'.reverse)) := Grow.new hp
        exact fin_sh rs2 x12 g (RF.list (g.shL l2.reverse) upd_same) (NewS.one trivial hp) k
      · cases f4
  | _ => simp [bStep2] at f4
theorem pk_ref {Z : Addr → Prop} {H : Hp} {x d : D} {v : V} {o : Option Int} (p : Pk0 X.K Z H x v) (f : bStep2 x o = some d) : ∃ a, v = .ref a := by
  cases x with
  | tup l => obtain ⟨a, _, e, _⟩ := p.tup; exact ⟨a, e⟩
  | lst l => obtain ⟨a, _, e, _⟩ := p.lst; exact ⟨a, e⟩
  | _ => simp [bStep2] at f
theorem e_step2C (he : PE X e (tE X.K τ q .sh ma)) (hs : PO X (some st) (tPoC X.K τ q1 (some ms))) (hsub : ∀ x i : Value, subscripted (Expr.Slice none none (some st) p2) false x i = operate [x, i] (getItem x i) := by intros; with_unfolding_all rfl) : PE X (.Subscript e (.Slice none none (some st) p2) pos) (tE X.K τ (q && q1) .sh (mStep2 ma ms)) := (pe_stepB he hs hsub).mono fun σ H Q ⟨Z, own, ρ, d, ρ', rs, e, k⟩ => by
  obtain ⟨x, ρ1, e1, f1⟩ := bind_ok e
  obtain ⟨o, ρ2, e2, f2⟩ := bind_ok f1
  obtain ⟨f4, rfl⟩ := ofO_ok f2
  refine ⟨Z, own, ρ, _, ρ1, rs, e1, fun v Z1 own1 H1 S1 rs1 rm1 _ x1 => ?_⟩
  obtain ⟨a, rfl⟩ := pk_ref (rm1.pk0 (md := .sh) trivial) f4
  refine ⟨a, rfl, Z1, own1, ρ1, o, ρ', rs1, e2, fun Z2 own2 H2 rs2 x2 => ?_⟩
  exact step_fin (rs1.pk0 x2 (md := .sh) trivial (.inl rfl) rm1) rs2 (x1.trans x2) f4 k
omit [Tb] in
theorem W_mStep2 {ρ : Sl} {QD : D → Sl → Prop} {a st : M D} : W (mStep2 a st) ρ QD ↔ W a ρ fun x ρ1 => W (mPt (some st)) ρ1 fun o ρ2 => ∃ d, bStep2 x o = some d ∧ QD d ρ2 := by simp only [mStep2, W_bind, W_ofO]
end
end CL
namespace CL
open PySem PySem.Spec L2 PySem.W PyProof.Rows
set_option autoImplicit false
def bReprF : List D → Option D
  | [d] => if D.okE 60 d = true ∧ d.shownE.length ≤ 16777216 then some (.str d.shownE) else none
  | _ => none
theorem c_reprF [Tb] {X : Cx} (hu : X.A.units + 64 < cLine) (hg : X.A.guards = some []) : CallR X (.builtin "repr") (rFn X.K bReprF) := by
  intro pins s σ H xs us Q I r h
  obtain ⟨Z, ds, d, pl, e, k⟩ := h
  unfold bReprF at e
  split at e
  · rename_i c
    split at e
    · rename_i ho
      cases e
      obtain ⟨v, rfl, p⟩ := pl.one
      obtain ⟨u, rfl, ru⟩ := r.one
      have rd := p.rdE I ho.1 ru
      have kk : Q (.str c.pyE.shown) H := fin0 (by simp only [RSh]; rfl) k
      obtain ⟨sh1, l2, sh2⟩ := shownE_le 60 c ho.1
      have hsz : c.pyE.shown.length ≤ sizeLine := by rw [szL]; exact ho.2
      have ref : ∀ a, u = .ref a → wpAny (model X.prog X.w) X.A (call (.builtin "repr") [u]) (EP X pins σ Q) X.xe s := fun a e => by
        subst e
        exact rd.repr sh1 hsz hg (by omega) (fun h' t tk hk => ⟨.str _, H, I.kept hk, ⟨_, rfl⟩, kk⟩)
      cases c with
      | non =>
        rw [p.non] at ru
        have ru : u = Value.none := ru
        subst ru
        simp only [D.pyE, PyData.shown] at kk
        exact PySem.P.repr_of_none ⟨.str _, H, I.tok _, ⟨_, rfl⟩, kk⟩
      | bl b =>
        rw [p.bl] at ru
        have ru : u = Value.bool b := ru
        subst ru
        simp only [D.pyE, PyData.shown] at kk
        refine PySem.P.repr_of_bool ⟨.str _, H, I.tok _, ⟨_, rfl⟩, ?_⟩
        cases b <;> exact kk
      | int i =>
        rw [p.int] at ru
        obtain ⟨t, rfl⟩ := ru
        simp only [D.pyE, PyData.shown] at kk
        have hi := sh1
        simp only [D.pyE, PyData.showable, decide_eq_true_eq] at hi
        exact PySem.P.repr_of_int hi ⟨.str _, H, I.tok _, ⟨_, rfl⟩, kk⟩
      | str z =>
        rw [p.str] at ru
        obtain ⟨t, rfl⟩ := ru
        simp only [D.pyE, PyData.shown] at kk hsz
        exact PySem.P.repr_of_str ⟨.str _, H, I.tok _, ⟨_, rfl⟩, kk⟩ hsz
      | tup l =>
        obtain ⟨a, ys, rfl, _⟩ := p.tup
        exact ref a ru
      | lst l =>
        obtain ⟨a, ys, rfl, _⟩ := p.lst
        exact ref a ru
      | scr l => simp [D.okE] at ho
      | dct ks vs =>
        rcases p with p | ⟨_, _, _, e, _⟩
        · simp only [RSh] at p
          obtain ⟨a, kvs, rfl, _⟩ := p
          exact ref a ru
        · cases e
      | kdc _ _ => simp [D.okE] at ho
      | ins _ _ _ => simp [D.okE] at ho
    · cases e
  · cases e
end CL
namespace CLN
open PySem CL CLG CLX CLE
end CLN
namespace CLN
open PySem PySem.Spec L2 CL CLG CLX CLE PySem.W
local macro_rules | `(tactic| walk_at "o") => `(tactic| ((try simp only [backA, List.set_cons_zero, List.set_cons_succ, wipeD, List.map_cons, List.map_nil, List.cons_append, List.nil_append, List.replicate_succ, List.replicate_zero]); first | done | rfl))
local macro_rules | `(tactic| walk_at "b") => `(tactic| first
  | with_reducible exact Nb.lit
  | ((with_reducible apply Nb.mul) <;> walk_at "b")
  | ((with_reducible apply Nb.add) <;> walk_at "b")
  | ((with_reducible apply Nb.sub) <;> walk_at "b")
  | ((with_reducible apply Nb.neg) <;> walk_at "b")
  | ((with_reducible apply Nb.fdiv) <;> walk_at "b")
  | ((with_reducible apply Nb.fmod); (· walk_at "z"); (· walk_at "b"))
  | ((with_reducible apply Nb.max) <;> walk_at "b")
  | ((with_reducible apply Nb.min) <;> walk_at "b")
  | ((with_reducible apply Nb.ite) <;> walk_at "b")
  | with_reducible assumption
  | with_reducible exact Nb.le (by assumption)
  | with_reducible exact Nb.nle (by assumption)
  | with_reducible exact Nb.lt (by assumption)
  | ((with_reducible apply Nb.rng (by assumption) (by assumption)) <;> walk_at "b")
  | ((with_reducible apply Nb.rngE (by assumption) (by assumption)) <;> walk_at "b")
  | with_reducible exact Nb.self _)
local macro_rules | `(tactic| walk_at "z") => `(tactic| first | decide | assumption | omega | exact fmod_nn (by omega) | exact fmod_lt (by omega))
local macro_rules | `(tactic| walk_at "e") => `(tactic| first
  | ((with_reducible refine is_ev ?_); first
    | ((with_reducible apply mul_st); (· walk_at "b"); (· walk_at "b"); (· rfl))
    | ((with_reducible apply mul_s1); (· walk_at "b"); (· rfl))
    | ((with_reducible apply mul_s2); (· walk_at "b"); (· rfl))
    | ((with_reducible apply div_st); (· walk_at "z"); (· walk_at "b"); (· rfl))
    | ((with_reducible apply mod_st); (· walk_at "z"))
    | with_reducible apply tup_pt
    | with_reducible apply tup_ln
    | ((with_reducible apply tup_st); (· rfl))
    | ((with_reducible apply lst_st); (· rfl))
    | with_reducible apply eqi_st
    | with_reducible apply nei_st
    | with_reducible apply eqp_st
    | with_reducible apply nep_st
    | with_reducible apply eqp_st'
    | with_reducible apply nep_st'
    | with_reducible apply eqb_st
    | with_reducible apply neb_st
    | with_reducible apply isb_st
    | with_reducible apply eqs_st
    | with_reducible apply nes_st
    | with_reducible refine ix2bi (fun _ _ _ => ?_)
    | ((with_reducible refine ix4i ?_ ?_ (fun _ _ _ => ?_)); (· walk_at "z"); (· walk_at "z"))
    | ((with_reducible refine ix2i ?_ ?_ (fun _ _ _ => ?_)); (· walk_at "z"); (· walk_at "z"))
    | ((with_reducible refine ix3i ?_ ?_ (fun _ _ _ => ?_)); (· walk_at "z"); (· walk_at "z"))
    | refine ⟨_, rfl, ?_⟩)
  | ((with_reducible refine fill_st ?_); refine ⟨_, rfl, ?_⟩; (try dsimp only))
  | ((with_reducible apply and_go rfl); (· (intro _; (repeat walk_at "s"); with_reducible exact ⟨rfl, rfl⟩)))
  | ((with_reducible refine is_chain ?_); (apply chain_go rfl); (· (intro _; (repeat walk_at "s"); exact ⟨rfl, rfl⟩)))
  | ((with_reducible refine draw_step (by assumption) ?_ ?_ (fun _ _ _ _ _ => ?_)); (· walk_at "z"); (· walk_at "z"))
  | ((with_reducible refine CLY.draw_step (by assumption) ?_ ?_ (fun _ _ _ _ _ => ?_)); (· walk_at "z"); (· walk_at "z"))
  | ((with_reducible refine is_evA ?_); refine ⟨_, rfl, ?_⟩)
  | ((with_reducible refine is_evL ?_); refine ⟨_, rfl, ?_⟩)
  | ((with_reducible refine is_evI ?_); refine ⟨_, rfl, ?_⟩)
  | ((with_reducible refine is_evR ?_); refine ⟨_, rfl, ?_⟩))
local macro_rules | `(tactic| walk_at "f") => `(tactic| first
  | with_reducible refine W_mV.mpr ?_
  | with_reducible refine W_mCons.mpr ?_
  | with_reducible refine W_m2.mpr ?_
  | with_reducible refine W_mC.mpr ?_
  | with_reducible refine W_mNil.mpr ?_
  | with_reducible refine W_mN.mpr ?_
  | with_reducible refine W_sSeq.mpr ?_
  | with_reducible refine W_sAsg.mpr ?_
  | with_reducible refine W_m1.mpr ?_
  | with_reducible refine W_mCallP.mpr ?_
  | with_reducible refine W_mCall.mpr ?_
  | with_reducible refine X_evI.mpr ?_
  | with_reducible refine X_evE.mpr ?_
  | with_reducible refine X_evN.mpr ?_
  | with_reducible refine X_if ?_
  | with_reducible refine W_sRet.mpr ?_
  | with_reducible refine W_sK.mpr ?_
  | with_reducible refine X_and ?_
  | with_reducible refine X_or ?_
  | with_reducible refine W_sPar.mpr ?_
  | with_reducible refine W_mSl.mpr ?_
  | with_reducible refine W_mPtN.mpr ?_
  | with_reducible refine W_mPtS.mpr ?_
  | with_reducible refine W_mIt.mpr ?_
  | with_reducible refine W_mItN.mpr ?_
  | with_reducible refine W_mComp.mpr ?_
  | ((with_reducible refine is_comp ?_); first | (apply X_compN; (· walk_at "o")) | ((with_reducible apply X_compY); (· walk_at "o"); (· rfl)))
  | with_reducible refine W_sFor.mpr ?_
  | ((with_reducible refine is_for ?_); refine W_forNil.mpr ?_)
  | with_reducible refine X_chain ?_
  | with_reducible refine W_sExp.mpr ?_
  | with_reducible refine W_mL.mpr ?_
  | with_reducible refine X_mif ?_
  | with_reducible refine W_mIxS.mpr ?_
  | with_reducible refine W_mYes.mpr ?_
  | with_reducible refine W_sPar3.mpr ?_
  | with_reducible refine W_mApp.mpr ?_
  | with_reducible refine W_mBor.mpr ?_
  | with_reducible refine CLX.W_sFz.mpr ?_)
local macro_rules | `(tactic| walk_at "s") => `(tactic| first
  | ((with_reducible refine is_W ?_); walk_at "f")
  | ((with_reducible refine is_ex ?_); first
    | ((with_reducible refine is_evS ?_); refine ⟨_, rfl, ?_⟩)
    | ((with_reducible apply call_st); (· with_reducible assumption))
    | with_reducible refine ⟨_, by with_reducible assumption, ?_⟩
    | walk_at "e")
  | ((with_reducible apply X_nx); (· walk_at "o"))
  | with_reducible refine Kq_ret.mpr ?_
  | with_reducible refine Kq_brk.mpr ?_
  | with_reducible refine Kq_cnt.mpr ?_
  | ((with_reducible apply X_fnx); (· walk_at "o"))
  | ((with_reducible apply X_fcnt); (· walk_at "o"))
  | with_reducible refine X_fbrk ?_
  | with_reducible refine X_fret ?_
  | ((with_reducible refine is_ltA ?_); refine ⟨?_, ?_⟩; (· first | decide | omega | (simp; omega) | (simp; done)))
  | with_reducible refine parW_mk.mpr ?_
  | with_reducible refine par3W_mk.mpr ?_)
local macro_rules | `(tactic| walk_at "r") => `(tactic| repeat walk_at "s")
local macro_rules | `(tactic| walk_at "u") => `(tactic| first | ((apply X_forC); (· walk_at "o"); (· rfl)) | ((apply X_compY); (· walk_at "o"); (· rfl)) | ((apply X_compC); (· walk_at "o"); (· rfl)))
local macro_rules | `(tactic| walk_at "g") => `(tactic| repeat first | walk_at "s" | (with_reducible refine go_ifF (rfl : _ = false) ?_) | (with_reducible refine go_ifT (rfl : _ = true) ?_) | (refine go_ifF (rfl : _ = false) ?_) | (refine go_ifT (rfl : _ = true) ?_) | walk_at "u")
theorem eqv_pn2 {a b : Pn} : (pnD a).eqv (pnD b) = decide (a = b) := by
  have h : (a = b) ↔ (a.x = b.x ∧ a.y = b.y) := ⟨fun e => by subst e; exact ⟨rfl, rfl⟩, fun h => pn_eq h⟩
  simp [pnD, pt, D.eqv, D.py, D.pyL, PyData.eqv, PyData.eqvAll, h]
  by_cases h1 : a.x = b.x <;> by_cases h2 : a.y = b.y <;> simp [h1, h2]
theorem at_end {l : List D} {x : D} : atI (l ++ [x]) (-1) = some x := by
  unfold atI ixN
  simp
  rw [if_pos (by omega)]
  show (l ++ [x])[((-1 : Int) + ((l.length : Int) + 1)).toNat]? = some x
  rw [show ((-1 : Int) + ((l.length : Int) + 1)).toNat = l.length by omega]
  simp
end CLN
namespace CL
open PySem PySem.Spec L2 PySem.W PyProof.Rows
theorem small_text {i : Int} (h : i.natAbs < 2 ^ 26) : (PySem.Str.ofString (toString i)).length ≤ 9 := by
  rw [PySem.ofString_length]
  exact int_text_length_le10 (k := 8) (by decide) (Nat.lt_trans h (by decide))
mutual
theorem small_le : ∀ (n : Nat) (d : D), D.gd 26 n d = true → d.pyE.shown.length + 2 ≤ 16 * D.wtE d
  | _, .non, _ => by simp only [D.pyE, PyData.shown, D.wtE]; decide
  | _, .bl b, _ => by simp only [D.pyE, PyData.shown, D.wtE]; cases b <;> decide
  | _, .int i, h => by
    simp only [D.gd, decide_eq_true_eq] at h
    have e := small_text h
    simp only [D.pyE, PyData.shown, D.wtE]
    omega
  | _, .str x, _ => by simp only [D.pyE, PyData.shown, D.wtE]; omega
  | n + 1, .tup l, o => by
    simp only [D.gd] at o
    have c := smallL_le n l o
    simp only [D.pyE, PyData.shown, D.wtE]
    have := tupleText_le (PyData.shownAll (D.pyEL l))
    omega
  | n + 1, .lst l, o => by
    simp only [D.gd] at o
    have c := smallL_le n l o
    simp only [D.pyE, PyData.shown, D.wtE]
    have := listText_le (PyData.shownAll (D.pyEL l))
    omega
  | n + 1, .dct ks vs, o => by
    simp only [D.gd, Bool.and_eq_true] at o
    have c := smallL_le n ks o.1.1
    have c' := smallL_le n vs o.1.2
    simp only [D.pyE, PyData.shown, D.wtE]
    have h1 := dictText_le (PyData.shownKv ((D.pyEL ks).zip (D.pyEL vs)))
    have h2 := piled_kv (D.pyEL ks) (D.pyEL vs)
    omega
  | 0, .tup l, o => by simp [D.gd] at o
  | 0, .lst l, o => by simp [D.gd] at o
  | 0, .dct _ _, o => by simp [D.gd] at o
  | _, .kdc _ _, o => by simp [D.gd] at o
  | _, .ins _ _ _, o => by simp [D.gd] at o
  | _, .scr _, o => by simp [D.gd] at o
theorem smallL_le : ∀ (n : Nat) (l : List D), D.gdL 26 n l = true → piled (PyData.shownAll (D.pyEL l)) ≤ 16 * D.wtEL l
  | _, [], _ => by simp only [D.pyEL, PyData.shownAll, D.wtEL]; simp [piled]
  | n, d :: ds, o => by
    simp only [D.gdL, Bool.and_eq_true] at o
    have c := small_le n d o.1
    have c' := smallL_le n ds o.2
    simp only [D.pyEL, PyData.shownAll, D.wtEL, piled_cons]
    omega
end
theorem reprF_small {n : Nat} {d : D} (h : D.gd 26 n d = true) (hn : n ≤ 60) (hw : 16 * d.wtE ≤ 16777216) : bReprF [d] = some (.str d.shownE) := by
  simp only [bReprF]
  have := small_le n d h
  rw [if_pos ⟨gd_okE (b := 26) (by decide) 60 d (gd_mono (Nat.le_refl _) d hn h), by unfold D.shownE; omega⟩]
end CL
namespace CLN
open PySem CL CLG CLX CLE
end CLN
namespace CL
open PySem PySem.Spec L2 PySem.W
def bInB (a b : D) : Option D := match b with
  | .tup l => bInT a (.tup l)
  | b => bIn a b
section
variable [Tb] {X : Cx}
theorem o_inB (hu : X.A.units + 65 < cLine) : OpR X (compareOp .In) (rF2 X.K bInB) := by
  intro pins s σ H x y v u Q I r1 r2 h
  obtain ⟨Z, a, b, d, p1, p2, e, k⟩ := h
  cases b with
  | tup l => exact o_inT hu pins s σ H x y v u Q I r1 r2 ⟨Z, a, _, d, p1, p2, e, k⟩
  | _ => exact o_in hu pins s σ H x y v u Q I r1 r2 ⟨Z, a, _, d, p1, p2, e, k⟩
end
end CL
namespace CLN
end CLN
namespace CLN
open PySem PySem.Spec L2 CL CLG CLX CLE PySem.W
theorem pre_e {α : Type} {f : α → D} : ∀ {S : List α} {l : List D}, (∀ x ∈ l, ∃ s ∈ S, x = f s) → ∃ C : List α, l = C.map f ∧ ∀ c ∈ C, c ∈ S
  | S, [], _ => ⟨[], rfl, by simp⟩
  | S, x :: l, h => by
    obtain ⟨s, hs, rfl⟩ := h x (by simp)
    obtain ⟨C, rfl, hC⟩ := pre_e (S := S) (l := l) fun y hy => h y (by simp [hy])
    exact ⟨s :: C, rfl, fun c hc => (by rcases List.mem_cons.mp hc with rfl | hc <;> first | exact hs | exact hC _ hc)⟩
theorem sorted_e {α : Type} [DecidableEq α] {f : α → D} (E : KEnc f) {S : List α} : ∃ C : List α, (S.map f).mergeSort leD = C.map f ∧ ∀ c, c ∈ C ↔ c ∈ S := by
  have hp := List.mergeSort_perm (S.map f) leD
  obtain ⟨C, e, hC⟩ := pre_e (f := f) (S := S) (l := (S.map f).mergeSort leD) fun x hx => by
    obtain ⟨s, hs, rfl⟩ := List.mem_map.mp (hp.mem_iff.mp hx)
    exact ⟨s, hs, rfl⟩
  refine ⟨C, e, fun c => ⟨hC c, fun hc => ?_⟩⟩
  have : f c ∈ (S.map f).mergeSort leD := hp.mem_iff.mpr (List.mem_map_of_mem hc)
  rw [e] at this
  obtain ⟨z, hz, hz2⟩ := List.mem_map.mp this
  rw [← f_inj E hz2]; exact hz
theorem lnk_or {a b : Pn} : lnk a b = (a, b) ∨ lnk a b = (b, a) := by
  unfold lnk pmin pmax
  cases h1 : b.lt a with
  | true =>
    have h2 : a.lt b = false := by
      rw [Pn.nlt_iff]
      rw [Pn.lt_iff] at h1
      omega
    rw [h2]
    exact .inr rfl
  | false =>
    cases h2 : a.lt b with
    | true => exact .inl rfl
    | false =>
      have e : a = b := by
        rw [Pn.nlt_iff] at h1 h2
        exact CLE.pn_eq (by omega)
      subst e
      exact .inl rfl
end CLN
namespace CLO
end CLO
namespace CLO
/-- both numbers of a line's point, from a corner on: begins and steps -/
structure Rw where
  a : Int
  s : Int
  b : Int
  r : Int
def Rw.n (w : Rw) (k m : Int) : Int := max (((w.a * m + w.s * k).natAbs : Nat) : Int) (((w.b * m + w.r * k).natAbs : Nat) : Int)
end CLO
namespace CL
open PySem L2
theorem ixl0 {x : D} {l : List D} {P : D → Prop} (k : P x) : ∃ d, bIx (.lst (x :: l)) (.int 0) = some d ∧ P d := ⟨x, at_nat (l := x :: l) (k := 0) rfl, k⟩
end CL
namespace CLO
end CLO
namespace CLO
end CLO
namespace CLO
open PySem PySem.Spec L2 CL CLG CLX CLE CLN PySem.W
local macro_rules | `(tactic| walk_at "o") => `(tactic| ((try simp only [backA, List.set_cons_zero, List.set_cons_succ, wipeD, List.map_cons, List.map_nil, List.cons_append, List.nil_append, List.replicate_succ, List.replicate_zero]); first | done | rfl))
local macro_rules | `(tactic| walk_at "b") => `(tactic| first
  | with_reducible exact Nb.lit
  | ((with_reducible apply Nb.mul) <;> walk_at "b")
  | ((with_reducible apply Nb.add) <;> walk_at "b")
  | ((with_reducible apply Nb.sub) <;> walk_at "b")
  | ((with_reducible apply Nb.neg) <;> walk_at "b")
  | ((with_reducible apply Nb.fdiv) <;> walk_at "b")
  | ((with_reducible apply Nb.fmod); (· walk_at "z"); (· walk_at "b"))
  | ((with_reducible apply Nb.max) <;> walk_at "b")
  | ((with_reducible apply Nb.min) <;> walk_at "b")
  | ((with_reducible apply Nb.ite) <;> walk_at "b")
  | with_reducible assumption
  | with_reducible exact Nb.le (by assumption)
  | with_reducible exact Nb.nle (by assumption)
  | with_reducible exact Nb.lt (by assumption)
  | ((with_reducible apply Nb.rng (by assumption) (by assumption)) <;> walk_at "b")
  | ((with_reducible apply Nb.rngE (by assumption) (by assumption)) <;> walk_at "b")
  | with_reducible exact Nb.self _)
local macro_rules | `(tactic| walk_at "z") => `(tactic| first | decide | assumption | omega | exact fmod_nn (by omega) | exact fmod_lt (by omega))
local macro_rules | `(tactic| walk_at "e") => `(tactic| first
  | ((with_reducible refine is_ev ?_); first
    | ((with_reducible apply mul_st); (· walk_at "b"); (· walk_at "b"); (· rfl))
    | ((with_reducible apply mul_s1); (· walk_at "b"); (· rfl))
    | ((with_reducible apply mul_s2); (· walk_at "b"); (· rfl))
    | ((with_reducible apply div_st); (· walk_at "z"); (· walk_at "b"); (· rfl))
    | ((with_reducible apply mod_st); (· walk_at "z"))
    | with_reducible apply tup_pt
    | with_reducible apply tup_ln
    | ((with_reducible apply tup_st); (· rfl))
    | ((with_reducible apply lst_st); (· rfl))
    | with_reducible apply eqi_st
    | with_reducible apply nei_st
    | with_reducible apply eqp_st
    | with_reducible apply nep_st
    | with_reducible apply eqp_st'
    | with_reducible apply nep_st'
    | with_reducible apply eqb_st
    | with_reducible apply neb_st
    | with_reducible apply isb_st
    | with_reducible apply eqs_st
    | with_reducible apply nes_st
    | with_reducible refine ixl0 ?_
    | with_reducible refine ixl1 ?_
    | with_reducible refine ix2bi (fun _ _ _ => ?_)
    | ((with_reducible refine ix4i ?_ ?_ (fun _ _ _ => ?_)); (· walk_at "z"); (· walk_at "z"))
    | ((with_reducible refine ix2i ?_ ?_ (fun _ _ _ => ?_)); (· walk_at "z"); (· walk_at "z"))
    | ((with_reducible refine ix3i ?_ ?_ (fun _ _ _ => ?_)); (· walk_at "z"); (· walk_at "z"))
    | refine ⟨_, rfl, ?_⟩)
  | ((with_reducible refine fill_st ?_); refine ⟨_, rfl, ?_⟩; (try dsimp only))
  | ((with_reducible apply and_go rfl); (· (intro _; (repeat walk_at "s"); with_reducible exact ⟨rfl, rfl⟩)))
  | ((with_reducible refine is_chain ?_); (apply chain_go rfl); (· (intro _; (repeat walk_at "s"); exact ⟨rfl, rfl⟩)))
  | ((with_reducible refine draw_step (by assumption) ?_ ?_ (fun _ _ _ _ _ => ?_)); (· walk_at "z"); (· walk_at "z"))
  | ((with_reducible refine CLY.draw_step (by assumption) ?_ ?_ (fun _ _ _ _ _ => ?_)); (· walk_at "z"); (· walk_at "z"))
  | ((with_reducible refine is_evA ?_); refine ⟨_, rfl, ?_⟩)
  | ((with_reducible refine is_evL ?_); refine ⟨_, rfl, ?_⟩)
  | ((with_reducible refine is_evI ?_); refine ⟨_, rfl, ?_⟩)
  | ((with_reducible refine is_evR ?_); refine ⟨_, rfl, ?_⟩))
local macro_rules | `(tactic| walk_at "f") => `(tactic| first
  | with_reducible refine W_mV.mpr ?_
  | with_reducible refine W_mCons.mpr ?_
  | with_reducible refine W_m2.mpr ?_
  | with_reducible refine W_mC.mpr ?_
  | with_reducible refine W_mNil.mpr ?_
  | with_reducible refine W_mN.mpr ?_
  | with_reducible refine W_sSeq.mpr ?_
  | with_reducible refine W_sAsg.mpr ?_
  | with_reducible refine W_m1.mpr ?_
  | with_reducible refine W_mCallP.mpr ?_
  | with_reducible refine W_mCall.mpr ?_
  | with_reducible refine X_evI.mpr ?_
  | with_reducible refine X_evE.mpr ?_
  | with_reducible refine X_evN.mpr ?_
  | with_reducible refine X_if ?_
  | with_reducible refine W_sRet.mpr ?_
  | with_reducible refine W_sK.mpr ?_
  | with_reducible refine X_and ?_
  | with_reducible refine X_or ?_
  | with_reducible refine W_sPar.mpr ?_
  | with_reducible refine W_mSl.mpr ?_
  | with_reducible refine W_mPtN.mpr ?_
  | with_reducible refine W_mPtS.mpr ?_
  | with_reducible refine W_mIt.mpr ?_
  | with_reducible refine W_mItN.mpr ?_
  | with_reducible refine W_mComp.mpr ?_
  | ((with_reducible refine is_comp ?_); first | (apply X_compN; (· walk_at "o")) | ((with_reducible apply X_compY); (· walk_at "o"); (· rfl)))
  | with_reducible refine W_sFor.mpr ?_
  | ((with_reducible refine is_for ?_); refine W_forNil.mpr ?_)
  | with_reducible refine X_chain ?_
  | with_reducible refine W_sExp.mpr ?_
  | with_reducible refine W_mL.mpr ?_
  | with_reducible refine X_mif ?_
  | with_reducible refine W_mIxS.mpr ?_
  | with_reducible refine W_mYes.mpr ?_
  | with_reducible refine W_sPar3.mpr ?_
  | with_reducible refine W_mApp.mpr ?_
  | with_reducible refine W_mBor.mpr ?_
  | with_reducible refine CLX.W_sFz.mpr ?_)
local macro_rules | `(tactic| walk_at "s") => `(tactic| first
  | ((with_reducible refine is_W ?_); walk_at "f")
  | ((with_reducible refine is_ex ?_); first
    | ((with_reducible refine is_evS ?_); refine ⟨_, rfl, ?_⟩)
    | ((with_reducible apply call_st); (· with_reducible assumption))
    | with_reducible refine ⟨_, by with_reducible assumption, ?_⟩
    | walk_at "e")
  | ((with_reducible apply X_nx); (· walk_at "o"))
  | with_reducible refine Kq_ret.mpr ?_
  | with_reducible refine Kq_brk.mpr ?_
  | with_reducible refine Kq_cnt.mpr ?_
  | ((with_reducible apply X_fnx); (· walk_at "o"))
  | ((with_reducible apply X_fcnt); (· walk_at "o"))
  | with_reducible refine X_fbrk ?_
  | with_reducible refine X_fret ?_
  | ((with_reducible refine is_ltA ?_); refine ⟨?_, ?_⟩; (· first | decide | omega | (simp; omega) | (simp; done)))
  | with_reducible refine parW_mk.mpr ?_
  | with_reducible refine par3W_mk.mpr ?_)
local macro_rules | `(tactic| walk_at "r") => `(tactic| repeat walk_at "s")
local macro_rules | `(tactic| walk_at "u") => `(tactic| first | ((apply X_forC); (· walk_at "o"); (· rfl)) | ((apply X_compY); (· walk_at "o"); (· rfl)) | ((apply X_compC); (· walk_at "o"); (· rfl)))
local macro_rules | `(tactic| walk_at "g") => `(tactic| repeat first | walk_at "s" | (with_reducible refine go_ifF (rfl : _ = false) ?_) | (with_reducible refine go_ifT (rfl : _ = true) ?_) | (refine go_ifF (rfl : _ = false) ?_) | (refine go_ifT (rfl : _ = true) ?_) | walk_at "u")
theorem pre_pn : ∀ {S : List Pn} {l : List D}, (∀ x ∈ l, ∃ s ∈ S, x = pnD s) → ∃ C : List Pn, l = C.map pnD ∧ ∀ c ∈ C, c ∈ S
  | S, [], _ => ⟨[], rfl, by simp⟩
  | S, x :: l, h => by
    obtain ⟨s, hs, rfl⟩ := h x (by simp)
    obtain ⟨C, rfl, hC⟩ := pre_pn (S := S) (l := l) fun y hy => h y (by simp [hy])
    exact ⟨s :: C, rfl, fun c hc => by (rcases List.mem_cons.mp hc with rfl | hc <;> first | exact hs | exact hC _ hc)⟩
theorem sorted_pn {S : List Pn} (hS : S.Nodup) : ∃ C : List Pn, (S.map pnD).mergeSort leD = C.map pnD ∧ C.Nodup ∧ (∀ c, c ∈ C ↔ c ∈ S) ∧ C.length = S.length := by
  have hp := List.mergeSort_perm (S.map pnD) leD
  obtain ⟨C, e, hC⟩ := pre_pn (S := S) (l := (S.map pnD).mergeSort leD) fun x hx => by
    obtain ⟨s, hs, rfl⟩ := List.mem_map.mp (hp.mem_iff.mp hx)
    exact ⟨s, hs, rfl⟩
  have hinj : ∀ a b : Pn, pnD a = pnD b → a = b := fun a b h => f_inj cnE h
  refine ⟨C, e, ?_, fun c => ⟨hC c, fun hc => ?_⟩, ?_⟩
  · have : ((S.map pnD).mergeSort leD).Nodup := hp.nodup_iff.mpr (List.Pairwise.map _ (fun a b n h => n (hinj a b h)) hS)
    rw [e] at this
    exact (List.pairwise_map.mp this).imp fun h e => h (by rw [e])
  · have : pnD c ∈ (S.map pnD).mergeSort leD := hp.mem_iff.mpr (List.mem_map_of_mem hc)
    rw [e] at this
    obtain ⟨z, hz, hz2⟩ := List.mem_map.mp this
    rw [← hinj _ _ hz2]; exact hz
  · have := hp.length_eq
    rw [e] at this
    simpa using this
end CLO
namespace CLO
end CLO
namespace CLQ
end CLQ
namespace CLQ
end CLQ
namespace CLE
end CLE
namespace CLW
end CLW
namespace CLW
end CLW
namespace CLW
end CLW
namespace CLW
end CLW
namespace CLO
end CLO
namespace CLS
open PySem PySem.Spec PyProof.Rows L2 CL
def sm : Nat → Nat
  | 0 => 0
  | n + 1 => 5 * sm n + 1
theorem sm_add (a : Nat) : ∀ b, sm (a + b) = 5 ^ b * sm a + sm b
  | 0 => by simp [sm]
  | b + 1 => by
    show 5 * sm (a + b) + 1 = _
    rw [sm_add a b, Nat.pow_succ]
    simp only [sm]
    grind
theorem four_sm : ∀ n, 4 * sm n + 1 = 5 ^ n
  | 0 => rfl
  | n + 1 => by
    have := four_sm n
    rw [Nat.pow_succ, ← this]
    simp only [sm]
    omega
theorem sm_odd : ∀ n, sm n % 2 = n % 2
  | 0 => rfl
  | n + 1 => by
    have := sm_odd n
    simp only [sm]
    omega
theorem sm_two (n : Nat) : sm (2 * n) = sm n * (2 * (2 * sm n + 1)) := by
  rw [show 2 * n = n + n by omega, sm_add, ← four_sm]
  grind
/-- 2 ^ k parts the n-th sum just where it parts n -/
theorem sm_dvd : ∀ (k n : Nat), 2 ^ k ∣ sm n → 2 ^ k ∣ n
  | 0, n, _ => by simp
  | k + 1, n, h => by
    have h2 : 2 ∣ sm n := Nat.dvd_trans ⟨2 ^ k, by rw [Nat.pow_succ, Nat.mul_comm]⟩ h
    have hn : n % 2 = 0 := by have := sm_odd n; omega
    obtain ⟨m, rfl⟩ : ∃ m, n = 2 * m := ⟨n / 2, by omega⟩
    rw [sm_two, Nat.pow_succ] at h
    have h3 : 2 ^ k * 2 ∣ (sm m * (2 * sm m + 1)) * 2 := by
      rw [show (sm m * (2 * sm m + 1)) * 2 = sm m * (2 * (2 * sm m + 1)) by grind]; exact h
    have h4 := Nat.dvd_of_mul_dvd_mul_right (by decide) h3
    have h5 : 2 ^ k ∣ sm m := by
      refine Nat.Coprime.dvd_of_dvd_mul_right ?_ h4
      refine Nat.Coprime.pow_left k ?_
      unfold Nat.Coprime
      rw [Nat.gcd_rec, show (2 * sm m + 1) % 2 = 1 by omega]
      rfl
    have := sm_dvd k m h5
    rw [Nat.pow_succ]
    rw [Nat.mul_comm 2 m]
    exact Nat.mul_dvd_mul_right this 2
theorem sm_top : ∀ k, 2 ^ k ∣ sm (2 ^ k)
  | 0 => by simp
  | k + 1 => by
    rw [Nat.pow_succ, Nat.mul_comm (2 ^ k) 2, sm_two, Nat.mul_comm 2 (2 ^ k)]
    exact Nat.mul_dvd_mul (sm_top k) ⟨_, rfl⟩
theorem sm_inj {k a b : Nat} (h : a < b) (hb : b < 2 ^ k) : sm a % 2 ^ k ≠ sm b % 2 ^ k := fun e => by
  obtain ⟨c, rfl⟩ : ∃ c, b = c + a := ⟨b - a, by omega⟩
  rw [sm_add c a] at e
  have e2 : 2 ^ k ∣ 5 ^ a * sm c := by
    have := Nat.sub_mod_eq_zero_of_mod_eq e.symm
    rw [Nat.add_sub_cancel] at this
    exact Nat.dvd_of_mod_eq_zero this
  have e3 : 2 ^ k ∣ sm c := Nat.Coprime.dvd_of_dvd_mul_left (Nat.Coprime.pow k a (by decide)) e2
  have := Nat.le_of_dvd (by omega) (sm_dvd k c e3)
  omega
/-- pigeons -/
theorem onto : ∀ (n : Nat) (f : Nat → Nat), (∀ i, i < n → f i < n) → (∀ i j, i < j → j < n → f i ≠ f j) → ∀ y, y < n → ∃ i, i < n ∧ f i = y := by
  intro n
  induction n with
  | zero => intro f _ _ y hy; omega
  | succ n ih =>
    intro f h1 h2 y hy
    -- the last value is moved to the top
    let g : Nat → Nat := fun i => if f i = n then f n else f i
    have hg : ∀ i, i < n → g i < n := fun i hi => by
      have a := h1 i (by omega)
      have b := h1 n (by omega)
      have c := h2 i n hi (by omega)
      show (if f i = n then f n else f i) < n
      split
      · rename_i e; omega
      · omega
    have gi : ∀ i j, i < j → j < n → g i ≠ g j := fun i j hij hj => by
      have a := h2 i j hij (by omega)
      have b := h2 i n (by omega) (by omega)
      have c := h2 j n (by omega) (by omega)
      show (if f i = n then f n else f i) ≠ (if f j = n then f n else f j)
      split <;> split <;> omega
    by_cases hy0 : y = f n
    · exact ⟨n, by omega, hy0.symm⟩
    · by_cases hyn : y = n
      · -- n is met, else all n + 1 values lie below n
        subst hyn
        rcases Nat.lt_or_ge (f y) y with c | c
        · obtain ⟨i, hi, e⟩ := ih g hg gi (f y) c
          have e' : (if f i = y then f y else f i) = f y := e
          split at e'
          · exact ⟨i, by omega, by assumption⟩
          · exact absurd e' (h2 i y (by omega) (by omega))
        · have := h1 y (by omega)
          omega
      · obtain ⟨i, hi, e⟩ := ih g hg gi y (by omega)
        have e' : (if f i = n then f n else f i) = y := e
        split at e'
        · exact absurd e'.symm hy0
        · exact ⟨i, by omega, e'⟩
theorem sm_all {k j : Nat} (hj : j < 2 ^ k) : ∃ n, n < 2 ^ k ∧ sm n % 2 ^ k = j := onto (2 ^ k) (fun n => sm n % 2 ^ k) (fun i _ => Nat.mod_lt _ (Nat.pow_pos (by decide))) (fun i j h1 h2 => sm_inj h1 h2) j hj
def Mk (m : Nat) : Prop := ∃ k, 3 ≤ k ∧ k ≤ 13 ∧ m + 1 = 2 ^ k
theorem Mk.odd {m : Nat} (h : Mk m) : m % 2 = 1 := by
  obtain ⟨k, h3, _, e⟩ := h
  obtain ⟨j, rfl⟩ : ∃ j, k = j + 1 := ⟨k - 1, by omega⟩
  rw [Nat.pow_succ] at e
  omega
theorem Mk.le {m : Nat} (h : Mk m) : m ≤ 8191 := by
  obtain ⟨k, _, h13, e⟩ := h
  have h1 := Nat.pow_le_pow_right (show 0 < 2 by decide) h13
  have h2 : (2 : Nat) ^ 13 = 8192 := by decide
  omega
theorem mk7 : Mk 7 := ⟨3, by decide, by decide, by decide⟩
theorem lcg_sum (m i : Nat) : ∀ n, lcgI m i n % (m + 1) = (5 ^ n * i + sm n) % (m + 1)
  | 0 => by simp [lcgI, sm]
  | n + 1 => by
    have e : lcgI m i (n + 1) = (lcgI m i n * 5 + 1) % (m + 1) := rfl
    have e2 : 5 ^ (n + 1) * i + sm (n + 1) = (5 ^ n * i + sm n) * 5 + 1 := by
      rw [Nat.pow_succ]
      simp only [sm]
      grind
    rw [e, Nat.mod_mod, e2, Nat.add_mod, Nat.mul_mod, lcg_sum m i n, ← Nat.mul_mod, ← Nat.add_mod]
theorem hits {m i j : Nat} (hm : Mk m) (hi : i ≤ m) (hj : j ≤ m) : ∃ n, n ≤ m ∧ lcgI m i n = j := by
  obtain ⟨k, _, _, e⟩ := hm
  obtain ⟨a, ha, ea⟩ := sm_all (k := k) (j := i) (by omega)
  obtain ⟨b, hb, eb⟩ := sm_all (k := k) (j := j) (by omega)
  have le : ∀ n, lcgI m i n ≤ m := fun n => by
    cases n with
    | zero => exact hi
    | succ n => exact Nat.le_of_lt_succ (Nat.mod_lt _ (Nat.succ_pos _))
  have go : ∀ n, sm (a + n) % 2 ^ k = j → lcgI m i n = j := fun n h => by
    have h1 := lcg_sum m i n
    rw [Nat.mod_eq_of_lt (Nat.lt_succ_of_le (le n)), e] at h1
    rw [h1, ← h, sm_add, ← ea]
    simp [Nat.add_mod, Nat.mul_mod]
  rcases Nat.lt_or_ge b a with c | c
  · refine ⟨b + 2 ^ k - a, by omega, go _ ?_⟩
    obtain ⟨q, hq⟩ := sm_top k
    rw [show a + (b + 2 ^ k - a) = 2 ^ k + b by omega, sm_add, hq, show 5 ^ b * (2 ^ k * q) + sm b = sm b + 2 ^ k * (5 ^ b * q) by grind, Nat.add_mul_mod_self_left]
    exact eb
  · exact ⟨b - a, by omega, go _ (by rw [show a + (b - a) = b by omega]; exact eb)⟩
theorem run_hits {m j : Nat} (hm : Mk m) (h : Int) (hj : j ≤ m) : ∃ n, n ≤ m + 12 ∧ runI m (SetTable.bits h) n = j := by
  obtain ⟨n, hn, e⟩ := hits hm (runI_le m (SetTable.bits h) 12) hj
  exact ⟨12 + n, by omega, (runI_tail (bits_lt h) n).trans e⟩
theorem way_in {m : Nat} (h : Int) (k : Nat) : way m h k ≤ m := by
  have h0 : SetTable.bits h % (m + 1) ≤ m := Nat.le_of_lt_succ (Nat.mod_lt _ (Nat.succ_pos _))
  have h1 := runEnd_bd h0
  have h2 := nth_in (m := m) k (runAt m (SetTable.bits h % (m + 1)) (SetTable.bits h)) (show SetTable.bits h % (m + 1) + (SetTable.runEnd m (SetTable.bits h % (m + 1)) - SetTable.bits h % (m + 1)) ≤ m by omega)
  exact Nat.le_trans (Nat.le_add_right _ _) h2
/-- the first place on the way that isn't among some -/
theorem gap {m : Nat} (hm : Mk m) {Z : List Nat} (hl : Z.length ≤ m) (h : Int) : ∃ K, K < 10 * SetTable.turns m ∧ way m h K ∉ Z ∧ ∀ k, k < K → way m h k ∈ Z := by
  obtain ⟨j, hj, hz⟩ := st_missing Z (m + 1) (by omega)
  obtain ⟨n, hn, e⟩ := run_hits hm h (Nat.le_of_lt_succ hj)
  obtain ⟨q, hq, e2⟩ := run_nth m (SetTable.bits h) n
  have ew : way m h q = j := by
    show (nth m (runAt m (SetTable.bits h % (m + 1)) (SetTable.bits h)) q).j = j
    rw [e2]
    exact e
  obtain ⟨K, k1, k2, k3⟩ := st_least (p := fun k => way m h k ∉ Z) q (show way m h q ∉ Z by rw [ew]; exact hz)
  exact ⟨K, by unfold SetTable.turns; omega, k2, fun k hk => Classical.byContradiction fun c => k3 k hk c⟩
theorem seat {m j : Nat} (hm : Mk m) (ow : Array (Option Nat)) (h : Int) (hj : j ≤ m) (hf : oAt ow j = none) : ∃ K, SetTable.layClean.free m ow (SetTable.turns m) (SetTable.bits h % (m + 1)) (SetTable.bits h) = some (way m h K) ∧ oAt ow (way m h K) = none ∧ ∀ k, k < K → oAt ow (way m h k) ≠ none := by
  obtain ⟨n, hn, e⟩ := run_hits hm h hj
  have ew : way m h (off m (SetTable.bits h % (m + 1)) (SetTable.bits h) n) = j := by
    show (nth m (runAt m _ _) _).j = j
    rw [nth_off, itL_run]
    exact e
  obtain ⟨K, k1, k2, k3⟩ := st_least (p := fun k => oAt ow (way m h k) = none) (off m (SetTable.bits h % (m + 1)) (SetTable.bits h) n) (by show oAt ow (way m h _) = none; rw [ew]; exact hf)
  refine ⟨K, free_spec m ow (SetTable.turns m) n _ _ K (by unfold SetTable.turns; omega) k1 (fun k hk => ?_) ?_, k2, k3⟩
  · have z : oAt ow (way m h k) ≠ none := k3 k hk
    show (oAt ow (way m h k)).isNone = false
    cases c : oAt ow (way m h k) with
    | none => exact absurd c z
    | some v => rfl
  · show (oAt ow (way m h K)).isNone = true
    have z : oAt ow (way m h K) = none := k2
    rw [z]
    rfl
theorem own_more {m : Nat} (hm : Mk m) {D : List Int} {ow : Array (Option Nat)} (W : Own m D ow) (hl : D.length ≤ m) (h : Int) : ∃ j, SetTable.layClean.free m ow (SetTable.turns m) (SetTable.bits h % (m + 1)) (SetTable.bits h) = some j ∧ Own m (D ++ [h]) (ow.setIfInBounds j (some D.length)) := by
  obtain ⟨ps, lp, ip⟩ := W.ps
  obtain ⟨f, hf, nf⟩ := st_missing ps (m + 1) (by omega)
  have vac : oAt ow f = none := Classical.byContradiction fun c => nf (ip f (by omega) c)
  obtain ⟨K, e1, e2, e3⟩ := seat hm ow h (by omega) vac
  have inn := way_in (m := m) h K
  have sz : way m h K < ow.size := by have := W.sz; omega
  have me := oAt_set_self (owner := ow) (some D.length) sz
  have old : ∀ {i : Nat}, oAt ow i ≠ none → oAt (ow.setIfInBounds (way m h K) (some D.length)) i ≠ none := fun {i} hi => by
    rcases Nat.decEq i (way m h K) with c | c
    · rw [oAt_set_ne _ c]; exact hi
    · rw [c, me]; simp
  refine ⟨way m h K, e1, by rw [Array.size_setIfInBounds]; exact W.sz, fun j k hj hk => ?_, fun k hk => ?_, way m h K :: ps, by simp [lp], fun j hj hne => ?_⟩
  · rcases Nat.decEq j (way m h K) with c | c
    · rw [oAt_set_ne _ c] at hk
      obtain ⟨g, G, a1, a2, a3⟩ := W.at_ j k hj hk
      exact ⟨g, G, by rw [List.getElem?_append_left (List.getElem?_eq_some_iff.mp a1).1]; exact a1, a2, fun q hq => old (a3 q hq)⟩
    · rw [c, me] at hk
      cases hk
      exact ⟨h, K, by simp, c.symm, fun q hq => old (e3 q hq)⟩
  · rcases Nat.lt_or_ge k D.length with c | c
    · obtain ⟨j, hj, ej⟩ := W.all k c
      refine ⟨j, hj, ?_⟩
      rw [oAt_set_ne _ fun z => by rw [z, e2] at ej; cases ej]
      exact ej
    · have ek : k = D.length := by simp at hk; omega
      exact ⟨way m h K, inn, by rw [ek]; exact me⟩
  · rcases Nat.decEq j (way m h K) with c | c
    · rw [oAt_set_ne _ c] at hne
      exact List.mem_cons_of_mem _ (ip j hj hne)
    · rw [c]; exact List.mem_cons_self
theorem own_all {m : Nat} (hm : Mk m) : ∀ (R D : List Int) (ow : Array (Option Nat)), Own m D ow → D.length + R.length ≤ m → ∃ ow', R.foldl (stepF m) (some (ow, D.length)) = some (ow', (D ++ R).length) ∧ Own m (D ++ R) ow'
  | [], D, ow, W, _ => ⟨ow, by simp, by simpa using W⟩
  | h :: R, D, ow, W, hl => by
    simp only [List.length_cons] at hl
    obtain ⟨j, e, W1⟩ := own_more hm W (by omega) h
    obtain ⟨ow', f, W2⟩ := own_all hm R (D ++ [h]) _ W1 (by simp; omega)
    refine ⟨ow', ?_, by simpa using W2⟩
    rw [List.foldl_cons, stepF_some e]
    simpa using f
theorem lay_all {m : Nat} (hm : Mk m) {hs : Array Int} (hn : hs.size ≤ m) : ∃ ow, SetTable.layClean m hs = some ow ∧ Own m hs.toList ow := by
  obtain ⟨ow, f, W⟩ := own_all hm hs.toList [] _ (Own.init m) (by simpa using hn)
  refine ⟨ow, ?_, by simpa using W⟩
  rw [layClean_eq]
  have f2 : hs.toList.foldl (stepF m) (some (Array.replicate (m + 1) none, 0)) = some (ow, hs.toList.length) := by simpa using f
  rw [f2]
  rfl
structure Tg (t : SetTable) (hs : List Int) : Prop where
  ris : Ris t.place.toList
  dm : t.dummies = #[]
  sz : t.place.size = hs.length
  msk : Mk t.mask
  bd : ∀ x ∈ t.place.toList, x ≤ t.mask
  way : ∀ (i : Nat) (h : Int) (j : Nat), hs[i]? = some h → t.place.toList[i]? = some j → ∃ k, L2.way t.mask h k = j ∧ ∀ q, q < k → L2.way t.mask h q ∈ t.place.toList
/-- what has the hash lies on the way ahead of the gap -/
theorem Tg.ahead {t : SetTable} {hs : List Int} (T : Tg t hs) {h : Int} {K i j : Nat} (hK : L2.way t.mask h K ∉ t.place.toList) (hi : hs[i]? = some h) (hj : t.place.toList[i]? = some j) : ∃ k, k < K ∧ L2.way t.mask h k = j := by
  obtain ⟨k, e, z⟩ := T.way i h j hi hj
  refine ⟨k, Nat.lt_of_not_le fun c => ?_, e⟩
  rcases Nat.lt_or_eq_of_le c with c | c
  · exact hK (z K c)
  · rw [c, e] at hK
    exact hK (List.mem_of_getElem? hj)
theorem Tg.add {t : SetTable} {hs : List Int} (T : Tg t hs) {h : Int} {K : Nat} (hK : L2.way t.mask h K ∉ t.place.toList) (hb : ∀ k, k < K → L2.way t.mask h k ∈ t.place.toList) {p : Nat} (hp : p = SetTable.below t.place (L2.way t.mask h K)) :
    (t.put (L2.way t.mask h K)).2 = p ∧ p ≤ hs.length ∧ Tg (t.put (L2.way t.mask h K)).1 (hs.take p ++ h :: hs.drop p) ∧ (t.put (L2.way t.mask h K)).1.fill = hs.length + 1 := by
  have inn := way_in (m := t.mask) h K
  obtain ⟨j, hj⟩ : ∃ j, j = L2.way t.mask h K := ⟨_, rfl⟩
  rw [← hj] at hK inn hp ⊢
  have cut := (below_cut T.ris j).1
  rw [← hp] at cut
  have pp := put_place t j
  rw [← hp] at pp
  have szl : t.place.toList.length = hs.length := by rw [Array.length_toList]; exact T.sz
  have c1 : p ≤ t.place.toList.length := by rw [Array.length_toList]; exact cut
  have c2 : p ≤ hs.length := by omega
  have nw : t.place[SetTable.below t.place j]? ≠ some j := fun e => hK (List.mem_of_getElem? (by rw [Array.getElem?_toList]; exact e))
  have zs : (t.put j).1.place.size = hs.length + 1 := by rw [← Array.length_toList, pp, L2.len_ins _ c1, szl]
  have grow : ∀ {x : Nat}, x ∈ t.place.toList → x ∈ (t.put j).1.place.toList := fun hx => by rw [pp]; exact L2.mem_ins.mpr (.inr hx)
  refine ⟨hp.symm, c2, ⟨ris_insert T.ris nw, put_dm T.dm j, by rw [L2.len_ins _ c2]; exact zs, T.msk, fun x hx => ?_, fun i g y h1 h2 => ?_⟩, ?_⟩
  · rw [pp] at hx
    rcases L2.mem_ins.mp hx with rfl | z
    · exact inn
    · exact T.bd x z
  · rw [tins_get hs c2] at h1
    rw [pp, tins_get _ c1] at h2
    have lift : (∃ k, L2.way t.mask g k = y ∧ ∀ q, q < k → L2.way t.mask g q ∈ t.place.toList) → ∃ k, L2.way t.mask g k = y ∧ ∀ q, q < k → L2.way t.mask g q ∈ (t.put j).1.place.toList := fun ⟨k, a, b⟩ => ⟨k, a, fun q hq => grow (b q hq)⟩
    rcases Nat.lt_trichotomy i p with c | c | c
    · rw [if_pos c] at h1 h2
      exact lift (T.way i g y h1 h2)
    · rw [if_neg (by omega), if_pos c] at h1 h2
      cases h1
      cases h2
      exact lift ⟨K, hj.symm, hb⟩
    · rw [if_neg (by omega), if_neg (by omega)] at h1 h2
      exact lift (T.way (i - 1) g y h1 h2)
  · show (t.put j).1.place.size + (t.put j).1.dummies.size = hs.length + 1
    rw [put_dm T.dm j, zs]
    rfl
/-- laid anew -/
theorem anew (t : SetTable) {hs : Array Int} {wanted M : Nat} (hw : SetTable.sizeAbove wanted - 1 = M) (hM : Mk M) (hn : hs.size ≤ M) :
    ∃ t' order, t.relaid hs wanted = some (t', order) ∧ order.toList.Perm (List.range hs.size) ∧ Tg t' (order.toList.map fun i => hs.getD i 0) ∧ t'.mask = M ∧ t'.led = t.led ∧ t'.plain = t.plain := by
  obtain ⟨ow, e, W⟩ := lay_all hM hn
  obtain ⟨r1, r2⟩ := ris_live (fun j => ow.getD j none) (List.range (M + 1)) (show (List.range (M + 1)).Pairwise (· < ·) from List.pairwise_lt_range)
  have r1 : Ris ((liveOf M ow).map (·.1)) := r1
  have r2 : ∀ x ∈ (liveOf M ow).map (·.1), x ∈ List.range (M + 1) := r2
  have nd : ((liveOf M ow).map (·.1)).Nodup := r1.imp fun h => Nat.ne_of_lt h
  have many : (liveOf M ow).length = hs.size := by
    obtain ⟨ps, p1, p2⟩ := W.ps
    have up := nat_nodup_len _ ps nd fun x hx => by
      obtain ⟨⟨y, k⟩, hq, rfl⟩ := List.mem_map.mp hx
      obtain ⟨b1, b2⟩ := (mem_live W.sz).mp hq
      exact p2 y b1 (by rw [b2]; simp)
    have lo := nat_nodup_len (List.range hs.size) ((liveOf M ow).map (·.2)) List.nodup_range fun k hk => by
      obtain ⟨j, b1, b2⟩ := W.all k (by simpa using hk)
      exact List.mem_map.mpr ⟨(j, k), (mem_live W.sz).mpr ⟨b1, b2⟩, rfl⟩
    simp only [List.length_map, List.length_range, Array.length_toList] at up lo p1
    omega
  refine ⟨tabOf t M ow, ((liveOf M ow).map (·.2)).toArray, by rw [relaid_eq, hw, e]; rfl, perm_range _ _ (by simpa using many) fun k hk => ?_, ⟨r1, rfl, ?_, hM, fun x hx => Nat.le_of_lt_succ (List.mem_range.mp (r2 x hx)), fun i h j h1 h2 => ?_⟩, rfl, rfl, rfl⟩
  · obtain ⟨j, b1, b2⟩ := W.all k (by simpa using hk)
    exact List.mem_map.mpr ⟨(j, k), (mem_live W.sz).mpr ⟨b1, b2⟩, rfl⟩
  · simp [tabOf]
  · have h1 : (((liveOf M ow).map (·.2)).map fun i => hs.getD i 0)[i]? = some h := h1
    have h2 : ((liveOf M ow).map (·.1))[i]? = some j := h2
    obtain ⟨⟨y, k⟩, hq, rfl⟩ : ∃ q, (liveOf M ow)[i]? = some q ∧ q.1 = j := by
      rw [List.getElem?_map] at h2
      exact Option.map_eq_some_iff.mp h2
    have h1 : hs.getD k 0 = h := by
      rw [List.getElem?_map, List.getElem?_map, hq] at h1
      exact Option.some.inj h1
    obtain ⟨b1, b2⟩ := (mem_live W.sz).mp (List.mem_of_getElem? hq)
    obtain ⟨g, K, a1, a2, a3⟩ := W.at_ y k b1 b2
    have eg : g = h := by
      rw [← h1, Array.getD_eq_getD_getElem?, ← Array.getElem?_toList, a1]
      rfl
    subst eg
    refine ⟨K, a2, fun q hq => ?_⟩
    show way M g q ∈ (liveOf M ow).map (·.1)
    cases z : oAt ow (way M g q) with
    | none => exact absurd z (a3 q hq)
    | some v => exact List.mem_map.mpr ⟨(_, v), (mem_live W.sz).mpr ⟨way_in g q, z⟩, rfl⟩
theorem size_go : ∀ (f k n : Nat), n < 2 ^ (k + f) → ∃ j, k ≤ j ∧ SetTable.sizeAbove.go n f (2 ^ k) = 2 ^ j ∧ n < 2 ^ j ∧ (k < j → 2 ^ j ≤ 2 * n)
  | 0, k, n, h => ⟨k, Nat.le_refl _, rfl, by simpa using h, fun z => absurd z (Nat.lt_irrefl _)⟩
  | f + 1, k, n, h => by
    show ∃ j, k ≤ j ∧ (if 2 ^ k ≤ n then SetTable.sizeAbove.go n f (2 ^ k * 2) else 2 ^ k) = 2 ^ j ∧ n < 2 ^ j ∧ (k < j → 2 ^ j ≤ 2 * n)
    by_cases c : 2 ^ k ≤ n
    · rw [if_pos c, ← Nat.pow_succ]
      obtain ⟨j, a, b, d, e⟩ := size_go f (k + 1) n (by rw [show k + 1 + f = k + (f + 1) by omega]; exact h)
      refine ⟨j, by omega, b, d, fun _ => ?_⟩
      rcases Nat.lt_or_ge (k + 1) j with z | z
      · exact e z
      · rw [show j = k + 1 by omega, Nat.pow_succ]; omega
    · rw [if_neg c]
      exact ⟨k, Nat.le_refl _, rfl, by omega, fun z => absurd z (Nat.lt_irrefl _)⟩
theorem size_is {n : Nat} (h : 0 < n) (hn : n ≤ 2040) : ∃ M, SetTable.sizeAbove (SetTable.grown n) - 1 = M ∧ Mk M ∧ SetTable.sizeAbove (SetTable.grown n) ≤ 8192 ∧ n * 5 < M * 3 ∧ n ≤ M := by
  have eg : SetTable.grown n = n * 4 := by unfold SetTable.grown; rw [if_neg (by omega)]
  have big : n * 4 < 2 ^ (3 + 64) := Nat.lt_of_lt_of_le (show n * 4 < 10000 by omega) (by decide)
  obtain ⟨j, a, b, d, e⟩ := size_go 64 3 (n * 4) big
  have es : SetTable.sizeAbove (SetTable.grown n) = 2 ^ j := by rw [eg]; exact b
  have j13 : j ≤ 13 := by
    rcases Nat.lt_or_ge 13 j with c | c
    · have h1 := e (by omega)
      have h2 := Nat.pow_le_pow_right (show 0 < 2 by decide) c
      have h3 : (2 : Nat) ^ (13 + 1) = 16384 := by decide
      rw [h3] at h2
      omega
    · exact c
  have top := Nat.pow_le_pow_right (show 0 < 2 by decide) j13
  have h3 : (2 : Nat) ^ 13 = 8192 := by decide
  refine ⟨2 ^ j - 1, by rw [es], ⟨j, a, j13, by omega⟩, by rw [es]; omega, by omega, by omega⟩
end CLS
namespace CLS
open PySem PySem.Spec PyProof.Rows L2 CL
section
variable {P : Program} {w : World}
structure Sg (P : Program) (w : World) (h : Heap) (a : Addr) (L : List (Addr × List Int)) (es : Array (Int × Value)) (ep : Nat) (t : SetTable) : Prop where
  ob : ∃ o, h.get? a = some o ∧ o.ExactSet ∧ o.data = .set es ep t
  rows : es.toList = rowsOf P w L
  tab : Tg t (L.map fun p => thash P w p.2)
  nd : (L.map (·.2)).Nodup
  pl : t.plain = true
  ld : w.params.followText "set-order" = true ∨ t.led = true
  rm : L.length * 5 < t.mask * 3
  fw : L.length ≤ 2040
variable {h h' : Heap} {a : Addr} {L : List (Addr × List Int)} {es : Array (Int × Value)} {ep : Nat} {t : SetTable}
theorem rows_len (hr : es.toList = rowsOf P w L) : es.size = L.length := by rw [← Array.length_toList, hr]; simp [rowsOf]
theorem Sg.fit (S : Sg P w h a L es ep t) : t.fits es.size = true := by
  have h1 := S.tab.sz
  have h2 := rows_len S.rows
  have h3 := S.rm
  rw [List.length_map] at h1
  simp only [SetTable.fits, SetTable.fill, S.tab.dm, Bool.and_eq_true, beq_iff_eq, decide_eq_true_eq]
  exact ⟨by omega, by simp; omega⟩
theorem row_at (hr : es.toList = rowsOf P w L) {i : Nat} {p : Addr × List Int} (hp : L[i]? = some p) : es[i]? = some (thash P w p.2, Value.ref p.1) := by
  rw [← Array.getElem?_toList, hr, rowsOf, List.getElem?_map, hp]; rfl
theorem Sg.stays (S : Sg P w h a L es ep t) (ha : ∀ o, h.get? a = some o → h'.get? a = some o) : Sg P w h' a L es ep t := by
  obtain ⟨o, ho, r⟩ := S.ob
  exact ⟨⟨o, ha o ho, r⟩, S.rows, S.tab, S.nd, S.pl, S.ld, S.rm, S.fw⟩
theorem sg_new (ho : h.get? a = some { cls := .type "set", dict := none, data := .set #[] 0 (.fresh 0 0 (!w.params.followText "set-order")) }) : Sg P w h a [] #[] 0 (.fresh 0 0 (!w.params.followText "set-order")) := by
  refine ⟨⟨_, ho, ⟨rfl, rfl, rfl⟩, rfl⟩, rfl, ⟨List.Pairwise.nil, rfl, rfl, mk7, fun x hx => ?_, fun i g j hi => ?_⟩, List.nodup_nil, rfl, ?_, show 0 * 5 < 7 * 3 by decide, Nat.zero_le _⟩
  · cases hx
  · simp at hi
  · show _ ∨ (!w.params.followText "set-order") = true
    cases w.params.followText "set-order" <;> simp
end
section
variable {P : Program} {w : World} {A : Around} {E : Value → Shared → Prop} {s : Shared} {a : Addr} {L : List (Addr × List Int)} {es : Array (Int × Value)} {ep : Nat} {t : SetTable}
abbrev stp (m : Nat) (g : Int) (c : Nat) : SetTable.Probe := nth m (runAt m (SetTable.bits g % (m + 1)) (SetTable.bits g)) c
theorem stp_add (m : Nat) (g : Int) (c q : Nat) : nth m (stp m g c) q = stp m g (c + q) := (nth_add m c _ q).symm
theorem stp_dm (m : Nat) (g : Int) : ∀ c, (stp m g c).dummy = none
  | 0 => rfl
  | c + 1 => by
    have e : stp m g (c + 1) = adv m (stp m g c) := nth_succ m _ c
    have ih := stp_dm m g c
    rw [e]
    unfold adv
    split <;> exact ih
theorem look (S : Sg P w s.heap a L es ep t) (ht : ∀ p ∈ L, IsT P w s.heap p.2 p.1) {x : Addr} {k : List Int} (hx : IsT P w s.heap k x) (hu : A.units < cLine) {K : Nat} (hKf : K < 10 * SetTable.turns t.mask)
    (hK : way t.mask (thash P w k) K ∉ t.place.toList) (hKb : ∀ c, c < K → way t.mask (thash P w k) c ∈ t.place.toList) {Q : SetFound → Shared → Prop}
    (yes : k ∈ L.map (·.2) → Q (.there none) s) (no : k ∉ L.map (·.2) → Q (.free (way t.mask (thash P w k) K) false) s) :
    ∀ (f c : Nat) (st : Option SetTable.Probe), st.getD (t.probeStart (thash P w k)) = stp t.mask (thash P w k) c → c ≤ K → K - c < f →
      (∀ (i : Nat) p, L[i]? = some p → p.2 = k → ∃ d, c ≤ d ∧ d < K ∧ t.place.toList[i]? = some (way t.mask (thash P w k) d)) →
      wpAny (model P w) A (setSearchFrom a (.ref x) (thash P w k) true f st) Q E s
  | 0, _, _, _, _, hf, _ => absurd hf (Nat.not_lt_zero _)
  | f + 1, c, st, hst, hc, hf, rest => by
    obtain ⟨o, ho, _, hd⟩ := S.ob
    obtain ⟨g, eg⟩ : ∃ g, g = thash P w k := ⟨_, rfl⟩
    have at_ : ∀ q, (nth t.mask (stp t.mask g c) q).j = way t.mask g (c + q) := fun q => congrArg SetTable.Probe.j (stp_add t.mask g c q)
    have hash : ∀ (i : Nat) p, L[i]? = some p → (es[i]?.map (·.1)).getD 0 = thash P w p.2 := fun i p hp => by rw [row_at S.rows hp]; rfl
    rw [← eg] at hst hK hKb no rest ⊢
    have spec := go_spec t S.tab.ris S.tab.dm (fun i => (es[i]?.map (·.1)).getD 0) g (10 * SetTable.turns t.mask) (K - c) (stp t.mask g c) (stp_dm ..) (by omega) (fun q hq => by rw [at_]; exact hKb _ (by omega)) (by rw [at_, show c + (K - c) = K by omega]; exact hK)
    have gw : ¬ t.gaveWay = true := by simp [SetTable.gaveWay, S.tab.msk.odd]
    rw [setSearchFrom_succ]
    refine wpAny_bind (wpAny_setState_of ho hd S.fit ?_)
    dsimp only
    refine wp_if_neg gw ?_
    try (refine wpAny_bind (wpAny_pure ?_))
    rcases spec with ⟨q, i, hq, hi, _, prior, hpr⟩ | ⟨prior, hpr⟩
    · rw [hst, show t.probe (fun i => (es[i]?.map (·.1)).getD 0) g (stp t.mask g c) = _ from hpr]
      dsimp only
      rw [at_] at hi ⊢
      rw [stp_add]
      have il : i < L.length := by
        have h1 := (List.getElem?_eq_some_iff.mp hi).1
        have h2 := S.tab.sz
        simp only [List.length_map, Array.length_toList] at h1 h2
        omega
      obtain ⟨p, hp⟩ : ∃ p, L[i]? = some p := ⟨_, List.getElem?_eq_getElem il⟩
      have pm : p ∈ L := List.mem_of_getElem? hp
      have sl : t.slot (way t.mask g (c + q)) = .live i := slot_live S.tab.ris hi
      have tail : wpAny (model P w) A (searchRest a (.ref x) g true f es t (way t.mask g (c + q)) i (stp t.mask g (c + (q + 1)))) Q E s := by
        unfold searchRest
        rw [row_at S.rows hp]
        dsimp only
        refine wpAny_bind (wpAny_holding (wpAny_eqBool_tuple hu (ht p pm) hx ?_))
        refine wpAny_bind (wpAny_setState_of ho hd S.fit ?_)
        dsimp only
        by_cases e : p.2 = k
        · exact wp_if_pos (by simp [e]) (wpAny_pure (yes (List.mem_map.mpr ⟨p, pm, e⟩)))
        · refine wp_if_neg (by simp [e]) ?_
          try (refine wpAny_bind (wpAny_pure ?_))
          rw [sameMem]
          dsimp only
          simp only [if_true, sl, row_at S.rows hp]
          refine wpAny_bind (wpAny_isSame_ref_self (wpAny_bind (wpAny_pure ?_)))
          simp only [if_true]
          refine wp_if_neg (by simp [e]) ?_
          subst eg
          refine look S ht hx hu hKf hK hKb yes no f (c + (q + 1)) _ rfl (by omega) (by omega) fun i0 p0 h0 e0 => ?_
          obtain ⟨d, d1, d2, d3⟩ := rest i0 p0 h0 e0
          refine ⟨d, ?_, d2, d3⟩
          rcases Nat.lt_trichotomy d (c + q) with z | z | z
          · refine absurd ((hash i0 p0 h0).trans (congrArg (thash P w) e0)) (prior (d - c) i0 (by omega) ?_)
            rw [at_, show c + (d - c) = d by omega]
            exact d3
          · rw [z] at d3
            have same := slot_live S.tab.ris d3
            rw [sl] at same
            cases same
            rw [hp] at h0
            cases h0
            exact absurd e0 e
          · omega
      by_cases hl : t.led = true
      · refine wp_if_neg (by simp [hl]) ?_
        first | exact tail | exact wpAny_bind (wpAny_pure tail)
      · refine wp_if_pos (by simp [hl]) ?_
        refine wpAny_bind (seen_tup hx (fun y hy => ?_) (wp_if_neg (by decide) ?_))
        · obtain ⟨e, he, rfl⟩ := List.mem_map.mp hy
          have he : e ∈ es.toList := by
            have : e ∈ es ∧ e.1 = g := by simpa using he
            simpa using this.1
          rw [S.rows] at he
          obtain ⟨p2, hp2, rfl⟩ := List.mem_map.mp he
          exact ⟨p2.2, p2.1, rfl, ht p2 hp2⟩
        · first | exact tail | exact wpAny_bind (wpAny_pure tail)
    · rw [hst, show t.probe (fun i => (es[i]?.map (·.1)).getD 0) g (stp t.mask g c) = _ from hpr]
      dsimp only
      rw [at_, show c + (K - c) = K by omega]
      refine wpAny_pure (no fun hm => ?_)
      obtain ⟨p0, h0, e0⟩ := List.mem_map.mp hm
      obtain ⟨i0, hi0⟩ := List.mem_iff_getElem?.mp h0
      obtain ⟨d, d1, d2, d3⟩ := rest i0 p0 hi0 e0
      refine absurd ((hash i0 p0 hi0).trans (congrArg (thash P w) e0)) ?_
      rw [← eg]
      refine prior (d - c) i0 (by omega) ?_
      rw [at_, show c + (d - c) = d by omega]
      exact d3
/-- as it is asked ahead of adding -/
theorem look_at (S : Sg P w s.heap a L es ep t) (ht : ∀ p ∈ L, IsT P w s.heap p.2 p.1) {x : Addr} {k : List Int} (hx : IsT P w s.heap k x) (hu : A.units < cLine) {Q : SetFound → Shared → Prop}
    (yes : k ∈ L.map (·.2) → Q (.there none) s)
    (no : ∀ K, k ∉ L.map (·.2) → way t.mask (thash P w k) K ∉ t.place.toList → (∀ c, c < K → way t.mask (thash P w k) c ∈ t.place.toList) → Q (.free (way t.mask (thash P w k) K) false) s) :
    wpAny (model P w) A (setSearch a (.ref x) (thash P w k) true) Q E s := by
  have rm := S.rm
  have sz := S.tab.sz
  rw [List.length_map] at sz
  obtain ⟨K, f1, f2, f3⟩ := gap S.tab.msk (Z := t.place.toList) (by rw [Array.length_toList, sz]; omega) (thash P w k)
  have few : K < 100000 := by
    have := S.tab.msk.le
    unfold SetTable.turns at f1
    omega
  unfold setSearch
  refine look S ht hx hu f1 f2 f3 yes (fun n => no K n f2 f3) 100000 0 none rfl (Nat.zero_le _) (by omega) fun i p hp e => ?_
  have hi : (L.map fun p => thash P w p.2)[i]? = some (thash P w k) := by rw [List.getElem?_map, hp, ← e]; rfl
  have il : i < t.place.toList.length := by
    have := (List.getElem?_eq_some_iff.mp hp).1
    rw [Array.length_toList]
    omega
  obtain ⟨d, d1, d2⟩ := S.tab.ahead f2 hi (List.getElem?_eq_getElem il)
  exact ⟨d, Nat.zero_le _, d1, by rw [d2]; exact List.getElem?_eq_getElem il⟩
theorem relay {o : Obj} (ho : s.heap.get? a = some o) (hex : o.ExactSet) (hd : o.data = .set es ep t) (hr : es.toList = rowsOf P w L) (hz : t.place.size = es.size) (hdm : t.dummies = #[]) (hm : es.size ≤ t.mask)
    (nd : (L.map (·.2)).Nodup) (pl : t.plain = true) (ld : w.params.followText "set-order" = true ∨ t.led = true) (l0 : 0 < L.length) (fw : L.length ≤ 2040) {Q : Unit → Shared → Prop}
    (k : ∀ h' L' es' ep' t', Heap.SameBut a s.heap h' → Sg P w h' a L' es' ep' t' → L'.Perm L → Q () { s with heap := h' }) : wpAny (model P w) A (setRelay a (SetTable.grown L.length)) Q E s := by
  have esz := rows_len hr
  obtain ⟨M, m1, m2, m3, m4, m5⟩ := size_is l0 fw
  have ft : t.fits es.size = true := by
    simp only [SetTable.fits, SetTable.fill, hdm, Bool.and_eq_true, beq_iff_eq, decide_eq_true_eq]
    exact ⟨hz, by simp; omega⟩
  obtain ⟨t', order, e, pm, T, em, el, ep2⟩ := anew t (hs := es.map (·.1)) m1 m2 (by rw [Array.size_map]; omega)
  rw [Array.size_map, esz] at pm
  obtain ⟨L2, r1, r2, r3⟩ := order_rows L es order hr pm
  rw [← r3] at T
  have z2 : (order.filterMap (es[·]?)).size = es.size := by rw [rows_len r1, r2.length_eq, esz]
  rw [setRelay_eq]
  refine wpAny_bind (wpAny_setState_of ho hd ft ?_)
  dsimp only
  refine wp_if_neg (by rw [sizeLine_eq]; omega) ?_
  try (refine wpAny_bind (wpAny_pure ?_))
  rw [e]
  dsimp only
  refine wpAny_bind (wp_if_neg (by rw [z2]; simp) ?_)
  try (refine wpAny_bind (wpAny_pure ?_))
  refine wpAny_pure ?_
  dsimp only
  refine wpAny_storeSet_of ho hd ?_ (by rw [z2, sizeLine_eq]; omega)
  have sb : Heap.SameBut a s.heap (s.heap.update a (Obj.putSet (order.filterMap (es[·]?)) t')) := Heap.SameBut.update ..
  exact k _ L2 _ (ep + 1) t' sb ⟨⟨_, store_at ho hd, ⟨hex.1, hex.2.1, hex.2.2⟩, rfl⟩, r1, T, (r2.map (·.2)).nodup_iff.mpr nd, by rw [ep2]; exact pl, by rw [el]; exact ld, by rw [r2.length_eq, em]; exact m4, by rw [r2.length_eq]; exact fw⟩ r2
theorem add (S : Sg P w s.heap a L es ep t) (ht : ∀ p ∈ L, IsT P w s.heap p.2 p.1) {x : Addr} {k : List Int} (hx : IsT P w s.heap k x) (hu : A.units < cLine) (few : k ∉ L.map (·.2) → L.length + 1 ≤ 2040) {Q : Bool → Shared → Prop}
    (hQ : ∀ b h' L' es' ep' t', Heap.SameBut a s.heap h' → Sg P w h' a L' es' ep' t' → (k ∈ L.map (·.2) → L' = L) → (k ∉ L.map (·.2) → L'.Perm ((x, k) :: L)) → Q b { s with heap := h' }) :
    wpAny (model P w) A (setAddHashed a (.ref x) (thash P w k)) Q E s := by
  obtain ⟨o, ho, hex, hd⟩ := S.ob
  have esz := rows_len S.rows
  have rm := S.rm
  unfold setAddHashed
  refine wpAny_holding ?_
  rw [show (100000 : Nat) = 99999 + 1 from rfl, setAddHashedIn_succ]
  refine wpAny_bind (wpAny_setState_of ho hd S.fit ?_)
  dsimp only
  refine wp_if_neg (show ¬ byScan (.ref x) es = true by simp [byScan, Value.scannable]) ?_
  try (refine wpAny_bind (wpAny_pure ?_))
  refine wpAny_bind (look_at S ht hx hu (fun m => ?_) fun K m hK hb => ?_)
  · dsimp only
    exact wpAny_pure (hQ false s.heap L es ep t (Heap.SameBut.refl a s.heap) S (fun _ => rfl) fun z => absurd m z)
  · have few := few m
    dsimp only
    refine wpAny_bind (wpAny_setState_of ho hd S.fit ?_)
    dsimp only
    obtain ⟨p, hp⟩ : ∃ p, p = SetTable.below t.place (way t.mask (thash P w k) K) := ⟨_, rfl⟩
    obtain ⟨q1, q2, q3, q9⟩ := S.tab.add hK hb hp
    have q4 : (t.put (way t.mask (thash P w k) K)).1.mask = t.mask := rfl
    have q5 : (t.put (way t.mask (thash P w k) K)).1.led = t.led := rfl
    have pl1 : (t.put (way t.mask (thash P w k) K)).1.plain = true := S.pl
    generalize t.put (way t.mask (thash P w k) K) = pt at q1 q3 q4 q5 q9 pl1 ⊢
    obtain ⟨t1, p'⟩ := pt
    dsimp only at q1 q3 q4 q5 q9 pl1 ⊢
    subst q1
    first
      | (refine wpAny_bind (wp_if_pos pl1 (hashBy_tup hx ?_)))
      | refine wp_if_pos pl1 (wpAny_bind (hashBy_tup hx ?_))
    simp only [if_true]
    have inn : (SetTable.insertAt es p' (thash P w k, Value.ref x)).toList = rowsOf P w (L.take p' ++ (x, k) :: L.drop p') := by rw [SetTable.toList_insertAt, rows_put, S.rows]
    have pm := put_perm L p' (x, k)
    have len : (L.take p' ++ (x, k) :: L.drop p').length = L.length + 1 := pm.length_eq
    have hhs : (L.take p' ++ (x, k) :: L.drop p').map (fun p => thash P w p.2) = (L.map fun p => thash P w p.2).take p' ++ thash P w k :: (L.map fun p => thash P w p.2).drop p' := by simp
    rw [← hhs] at q3
    have nd1 : ((L.take p' ++ (x, k) :: L.drop p').map (·.2)).Nodup := (pm.map (·.2)).nodup_iff.mpr (List.nodup_cons.mpr ⟨m, S.nd⟩)
    have ez := rows_len inn
    rw [len] at ez
    generalize SetTable.insertAt es p' (thash P w k, Value.ref x) = es1 at inn ez ⊢
    generalize L.take p' ++ (x, k) :: L.drop p' = L1 at pm len q3 nd1 inn
    refine wpAny_bind (wpAny_storeSet_of ho hd ?_ (by rw [ez, sizeLine_eq]; omega))
    have sb : Heap.SameBut a s.heap (s.heap.update a (Obj.putSet es1 t1)) := Heap.SameBut.update ..
    have ho1 := store_at (es' := es1) (t' := t1) ho hd
    generalize s.heap.update a (Obj.putSet es1 t1) = h1 at sb ho1 ⊢
    have ld1 : w.params.followText "set-order" = true ∨ t1.led = true := by rw [q5]; exact S.ld
    have sz1 : t1.place.size = es1.size := by
      have := q3.sz
      rw [List.length_map, len] at this
      omega
    have full : t1.tooFull = true ↔ t1.mask * 3 ≤ (L.length + 1) * 5 := by
      unfold SetTable.tooFull
      rw [decide_eq_true_eq, q9, List.length_map]
    by_cases hf : t1.tooFull = true
    · have go : wpAny (model P w) A (setRelay a (SetTable.grown (es.size + 1))) (fun _ s' => wpAny (model P w) A (pure true) Q E s') E { s with heap := h1 } := by
        rw [esz, ← len]
        refine relay (s := { s with heap := h1 }) ho1 ⟨hex.1, hex.2.1, hex.2.2⟩ rfl inn sz1 q3.dm (by rw [ez, q4]; omega) nd1 pl1 ld1 (by omega) (by omega) fun h2 L2 es2 ep2 t2 sb2 S2 pm2 => ?_
        exact wpAny_pure (hQ true h2 L2 es2 ep2 t2 (sb.trans sb2) S2 (fun z => absurd z m) fun _ => pm2.trans pm)
      first
        | exact wpAny_bind (wp_if_pos (by simp [hf]) go)
        | exact wp_if_pos (by simp [hf]) (wpAny_bind go)
    · have done : wpAny (model P w) A (pure true) Q E { s with heap := h1 } := by
        refine wpAny_pure (hQ true h1 L1 es1 (ep + 1) t1 sb ⟨⟨_, ho1, ⟨hex.1, hex.2.1, hex.2.2⟩, rfl⟩, inn, q3, nd1, pl1, ld1, ?_, by omega⟩ (fun z => absurd z m) fun _ => pm)
        rw [len]
        rw [full] at hf
        omega
      first
        | exact wp_if_neg (by simp [hf]) done
        | exact wpAny_bind (wp_if_neg (by simp [hf]) (wpAny_pure done))
        | exact wp_if_neg (by simp [hf]) (wpAny_bind (wpAny_pure done))
end
end CLS
namespace CLS
open PySem PySem.Spec PyProof.Rows L2 CL
section
variable {P : Program} {w : World} {A : Around} {E : Value → Shared → Prop} {s : Shared}
/-- set.update's loop -/
theorem upd_loop {I : Addr} {fp wr : List Addr} {G : Array GenState → Array GenState → Prop} {n : Nat} {Pv : Nat → Value → Prop} {St : Nat → Shared → Prop} {R : Result → Shared → Prop}
    (W : WalksS P w A.in1 I fp wr G n Pv St) (b0 : Addr) (hb : b0 ∉ fp) (ks : List (Addr × List Int)) (hn : n = ks.length) (few : ∀ Z : List (List Int), Z.Nodup → (∀ z ∈ Z, z ∈ ks.map (·.2)) → Z.length ≤ 2040)
    (hv : ∀ i v, Pv i v → ∃ p, ks[i]? = some p ∧ v = .ref p.1) (h0 : Heap) (hk : ∀ p ∈ ks, IsT P w h0 p.2 p.1) (nb : h0.get? b0 = none) (nw : ∀ b ∈ wr, h0.get? b = none) (hu : A.in1.units < cLine) :
    ∀ (j i : Nat) (s : Shared), n - i = j → i ≤ n → St i s → (∀ b o, h0.get? b = some o → s.heap.get? b = some o) → (∃ L es ep t, Sg P w s.heap b0 L es ep t ∧ Got ks i L) →
      (∀ s' L es ep t, Moved (b0 :: wr) G s s' → Sg P w s'.heap b0 L es ep t → Got ks n L → (∀ b o, h0.get? b = some o → s'.heap.get? b = some o) → R (.ok (.ret .none)) s') →
      codeAny (model P w) A (.builtin "set.update.loop" ⟨[.ref b0, .ref I], []⟩) R s := by
  have out : b0 ∉ wr := fun z => hb (W.sub _ z)
  have sub : ∀ b ∈ wr, b ∈ b0 :: wr := fun b z => List.mem_cons_of_mem _ z
  have old : ∀ {s s' : Shared}, Moved wr G s s' → (∀ b o, h0.get? b = some o → s.heap.get? b = some o) → ∀ b o, h0.get? b = some o → s'.heap.get? b = some o := fun m k b o e =>
    m.heap b o (fun z => by rw [nw b z] at e; cases e) (k b o e)
  intro j
  induction j with
  | zero =>
    intro i s hj hi st kp ⟨L, es, ep, t, S, g⟩ k
    obtain rfl : i = n := by omega
    refine codeAny_builtin F.entry_set_update_loop ?_
    rw [Around.under_plainId F.plain_set_update_loop _]
    show wpAny _ A.in1 (pyNext (.ref I) >>= _) _ _ s
    refine wpAny_bind (W.done s _ _ st fun s' m => ?_)
    show wpAny _ A.in1 (ret Value.none) _ _ s'
    exact wpAny_pure (k s' L es ep t (m.mono sub) (S.stays fun o e => m.heap b0 o out e) g (old m kp))
  | succ j ih =>
    intro i s hj hi st kp ⟨L, es, ep, t, S, g⟩ k
    have lt : i < n := by omega
    refine codeAny_builtin F.entry_set_update_loop ?_
    rw [Around.under_plainId F.plain_set_update_loop _]
    show wpAny _ A.in1 (pyNext (.ref I) >>= _) _ _ s
    refine wpAny_bind (W.item i s _ _ lt st fun v s' pv st' m => ?_)
    obtain ⟨p, hp, rfl⟩ := hv i v pv
    have kp' := old m kp
    have inn : ∀ q ∈ L, q ∈ ks := fun q hq => List.mem_of_mem_take (g.sub q hq)
    have S' : Sg P w s'.heap b0 L es ep t := S.stays fun o e => m.heap b0 o out e
    have tp : ∀ q ∈ ks, IsT P w s'.heap q.2 q.1 := fun q hq => isT_keep (hk q hq) kp'
    have pk : p ∈ ks := List.mem_of_getElem? hp
    show wpAny _ A.in1 (holding [Value.ref p.1] (setAdd b0 (.ref p.1)) >>= _) _ _ s'
    refine wpAny_bind (wpAny_holding ?_)
    unfold setAdd
    refine wpAny_holding (wpAny_bind (wpAny_pyHash_tuple hu (tp p pk) ?_))
    refine add (s := { s' with toks := s'.toks + (p.2.length + 1) }) S' (fun q hq => tp q (inn q hq)) (tp p pk) hu (fun z => ?_) fun b h' L' es' ep' t' sb S2 c1 c2 => ?_
    · have := few (p.2 :: L.map (·.2)) (List.nodup_cons.mpr ⟨z, S.nd⟩) fun y hy => by
        rcases List.mem_cons.mp hy with rfl | hy
        · exact List.mem_map_of_mem pk
        · obtain ⟨q, hq, rfl⟩ := List.mem_map.mp hy
          exact List.mem_map_of_mem (inn q hq)
      simpa using this
    have g' : Got ks (i + 1) L' := by
      by_cases c : p.2 ∈ L.map (·.2)
      · rw [c1 c]; exact g.same hp c
      · exact g.more hp (c2 c)
    have kp2 : ∀ b o, h0.get? b = some o → h'.get? b = some o := fun b o e => (sb.2 b fun z => by rw [z, nb] at e; cases e).trans (kp' b o e)
    refine wpAny_pure ⟨plainId_quiet F.plain_set_update_loop _, ih (i + 1) _ (by omega) lt (W.frame _ s' _ _ st' (Nat.le_add_right _ _) fun b z o e => ?_) kp2 ⟨L', es', ep', t', S2, g'⟩ fun s2 L2 es2 ep2 t2 m2 S3 g2 kp3 => ?_⟩
    · rw [sb.2 b fun y : b = b0 => hb (by rw [← y]; exact z)]; exact e
    · refine k s2 L2 es2 ep2 t2 (Moved.trans W.gtrans ((m.mono sub).then_heap (Nat.le_add_right _ _) fun b o y e => ?_) m2) S3 g2 kp3
      rw [sb.2 b fun z : b = b0 => y (by rw [z]; exact List.mem_cons_self)]; exact e
def SeqAt (kd : String) (h : Heap) (l : Addr) (items : Array Value) : Prop := ∃ o, h.get? l = some o ∧ o.cls = .type kd ∧ ∃ n, o.data = .seq items n
set_option maxHeartbeats 3200000 in
/-- set(x), x a sequence -/
theorem call_set {kd : String} {l : Addr} {items : Array Value} (ks : List (Addr × List Int)) {Q : Value → Shared → Prop} (hh : A.handled = none) (hl : SeqAt kd s.heap l items) (n1 : isSubtype (.type kd) (.type "set") = pure false) (n2 : isSubtype (.type kd) (.type "frozenset") = pure false) (n3 : (Value.type kd == Value.type "dict") = false)
    (ito : Obj) (St : Addr → Nat → Heap → Prop)
    (it : ∀ (A' : Around) (s1 : Shared) (Q' : Value → Shared → Prop) (E' : Value → Shared → Prop), SeqAt kd s1.heap l items → Q' (.ref s1.heap.objs.size) { s1 with heap := s1.heap.push ito } → wpAny (model P w) A' (pyIter (.ref l)) Q' E' s1)
    (wk : ∀ (A' : Around) (I : Addr), A'.handled = none → l ≠ I → Walks P w A' I [I, l] [I] items.size (fun i v => items[i]? = some v) (St I)) (s0 : ∀ h' : Heap, SeqAt kd h' l items → St h'.objs.size 0 (h'.push ito))
    (hit : items.toList = ks.map fun p => Value.ref p.1) (hk : ∀ p ∈ ks, IsT P w s.heap p.2 p.1) (few : ∀ Z : List (List Int), Z.Nodup → (∀ z ∈ Z, z ∈ ks.map (·.2)) → Z.length ≤ 2040) (hu : A.units + 3 < cLine)
    (h : ∀ (h' : Heap) (tk : Nat) L es ep t, Sg P w h' s.heap.objs.size L es ep t → Got ks ks.length L → (∀ b o, s.heap.get? b = some o → h'.get? b = some o) → Q (.ref s.heap.objs.size) { s with heap := h', toks := tk }) :
    wpAny (model P w) A (call (.type "set") [.ref l]) Q E s := by
  have isz : items.size = ks.length := by rw [← Array.length_toList, hit, List.length_map]
  have gone : ∀ b, s.heap.objs.size ≤ b → s.heap.get? b = none := fun b hb => by
    cases q : s.heap.get? b with
    | none => rfl
    | some o => exact absurd (Heap.lt_size q) (Nat.not_lt.mpr hb)
  obtain ⟨c, tl, hmro⟩ := F.called_set.mro
  have f1 := F.called_set.made
  have f2 := F.called_set.sub
  have f3 := F.called_set.notType
  have f4 := F.called_set.canCreate
  have f5 := F.typeCall_set_1 (.ref l)
  refine wpAny_call (codeAny_of_tree ?_)
  show wpAny _ _ (callAny (.type "set") _) _ _ _
  refine wpAny_pure ⟨Code.quiet_builtin _ (by decide +kernel), codeAny_builtin F.entry_type_call ?_⟩
  rw [Around.under_plain (weight_type_call_type "set" [.ref l] []) rfl]
  repeat (any_goals (first | assumption | wp_step))
  let so : Obj := { cls := .type "set", dict := none, data := .set #[] 0 (.fresh 0 0 (!w.params.followText "set-order")) }
  refine codeAny_mono (code_set_led1 (.ref l) (E := E) (Q₁ := fun obj s₁ => obj = .ref s.heap.objs.size ∧ s₁ = { s with heap := s.heap.push so }) ⟨rfl, rfl⟩) fun r s₁ hr => ?_
  cases r with
  | error e => exact hr
  | ok fl =>
    cases fl with
    | ret obj =>
      obtain ⟨rfl, rfl⟩ := hr
      have hS : (s.heap.push so).get? s.heap.objs.size = some so := Heap.get?_push_size _ rfl
      have hT : Shared.TypeIs { s with heap := s.heap.push so } (.ref s.heap.objs.size) "set" := ⟨_, hS, rfl⟩
      have hli := F.called_set.init.lookup
      have hbi := F.called_set.init.bind (.ref s.heap.objs.size)
      repeat (any_goals (first | assumption | wp_step))
      refine codeAny_mono (codeAny_call_builtin (R := wants (fun r s₂ => r = .none ∧ ∃ h' tk L es ep t, s₂ = { s with heap := h', toks := tk } ∧ Sg P w h' s.heap.objs.size L es ep t ∧ Got ks ks.length L ∧ (∀ b o, s.heap.get? b = some o → h'.get? b = some o)) E) F.called_set.init.plain F.entry_set_init (check_set_init_1 hT ?_)) fun r₂ s₂ hr₂ => ?_
      · have hl1 : SeqAt kd (s.heap.push so) l items := by
          obtain ⟨o, ho, r⟩ := hl
          exact ⟨o, Heap.get?_push_of_some _ ho, r⟩
        have lS : l < s.heap.objs.size := by
          obtain ⟨o, ho, _⟩ := hl
          exact Heap.lt_size ho
        obtain ⟨ol, hol, hcl, nl, hdl⟩ := id hl1
        obtain ⟨ocls, odict, odata, oslots⟩ := ol
        simp only at hcl hdl
        subst hcl
        subst hdl
        unfold Builtin.«set.__init__» noKeywords Builtin.Frozenset.updateFrom
        generalize hPI : pyIter = PI
        wp_walk
        subst hPI
        refine it _ _ _ _ hl1 ?_
        refine wpAny_bind (wpAny_runValue ?_)
        have hh3 : A.in1.in1.in1.handled = none := by simp [hh]
        have zp : (s.heap.push so).objs.size = s.heap.objs.size + 1 := Heap.size_push ..
        have ne : l ≠ (s.heap.push so).objs.size := by rw [zp]; exact Nat.ne_of_lt (Nat.lt_succ_of_lt lS)
        refine upd_loop ((wk _ _ hh3 ne).toS) s.heap.objs.size (by rw [zp]; simp only [List.mem_cons, List.not_mem_nil, or_false, not_or]; exact ⟨Nat.ne_of_lt (Nat.lt_succ_self _), Nat.ne_of_gt lS⟩) ks isz few (fun i v hv => ?_) s.heap hk (gone _ (Nat.le_refl _)) (fun b hb => gone b (by rw [List.mem_singleton.mp hb, zp]; exact Nat.le_succ _)) hu (items.size - 0) 0 _ (by omega) (Nat.zero_le _) (s0 _ hl1) (fun b o e => Heap.get?_push_of_some _ (Heap.get?_push_of_some _ e)) ?hS0 ?hR
        · have hv : items.toList[i]? = some v := by rw [Array.getElem?_toList]; exact hv
          rw [hit, List.getElem?_map] at hv
          obtain ⟨p, hp, rfl⟩ := Option.map_eq_some_iff.mp hv
          exact ⟨p, hp, rfl⟩
        case hS0 => exact ⟨[], #[], 0, _, sg_new (Heap.get?_push_of_some _ hS), Got.zero ks⟩
        case hR =>
          intro s' L es ep t m S' g' kp
          obtain ⟨h', g2, d', tk', os'⟩ := s'
          have eg : g2 = s.gens := m.gens
          have ed : d' = s.drawn := m.drawn
          have eo : os' = s.os := m.os
          subst eg
          subst ed
          subst eo
          rw [isz] at g'
          refine wpAny_pure ?_
          show wpAny _ _ (ret Value.none) _ _ _
          exact wpAny_pure ⟨rfl, h', tk', L, es, ep, t, rfl, S', g', kp⟩
      · cases r₂ with
        | error e => exact hr₂
        | ok fl₂ =>
          cases fl₂ with
          | ret r =>
            obtain ⟨rfl, h', tk, L, es, ep, t, rfl, S', g', kp⟩ := hr₂
            repeat (any_goals (first | assumption | wp_step))
            exact h _ _ _ _ _ _ S' g' kp
          | _ => exact hr₂.elim
    | _ => exact hr.elim
theorem call_set_list {l : Addr} {items : Array Value} (ks : List (Addr × List Int)) {Q : Value → Shared → Prop} (hh : A.handled = none) (hl : s.heap.IsList l items) (hit : items.toList = ks.map fun p => Value.ref p.1) (hk : ∀ p ∈ ks, IsT P w s.heap p.2 p.1) (few : ∀ Z : List (List Int), Z.Nodup → (∀ z ∈ Z, z ∈ ks.map (·.2)) → Z.length ≤ 2040) (hu : A.units + 3 < cLine)
    (h : ∀ (h' : Heap) (tk : Nat) L es ep t, Sg P w h' s.heap.objs.size L es ep t → Got ks ks.length L → (∀ b o, s.heap.get? b = some o → h'.get? b = some o) → Q (.ref s.heap.objs.size) { s with heap := h', toks := tk }) :
    wpAny (model P w) A (call (.type "set") [.ref l]) Q E s :=
  call_set (kd := "list") ks hh hl F.sub_list_set F.sub_list_frozenset (by decide) { cls := .type "list_iterator", data := .fields #[.ref l, .int 0 0] } (fun I i h => h.IsListIter I l i ∧ h.IsList l items)
    (fun A' s1 Q' E' hs k => wpAny_pyIter_list hs k) (fun A' I hA ne => Walks.list hA I l ne items) (fun h' hs => ⟨⟨_, Heap.get?_push_size _ rfl, rfl, rfl⟩, (show h'.IsList l items from hs).push _⟩) hit hk few hu h
theorem call_set_tuple {l : Addr} {items : Array Value} (ks : List (Addr × List Int)) {Q : Value → Shared → Prop} (hh : A.handled = none) (hl : s.heap.IsTuple l items) (hit : items.toList = ks.map fun p => Value.ref p.1) (hk : ∀ p ∈ ks, IsT P w s.heap p.2 p.1) (few : ∀ Z : List (List Int), Z.Nodup → (∀ z ∈ Z, z ∈ ks.map (·.2)) → Z.length ≤ 2040) (hu : A.units + 3 < cLine)
    (h : ∀ (h' : Heap) (tk : Nat) L es ep t, Sg P w h' s.heap.objs.size L es ep t → Got ks ks.length L → (∀ b o, s.heap.get? b = some o → h'.get? b = some o) → Q (.ref s.heap.objs.size) { s with heap := h', toks := tk }) :
    wpAny (model P w) A (call (.type "set") [.ref l]) Q E s :=
  call_set (kd := "tuple") ks hh hl F.sub_tuple_set F.sub_tuple_frozenset (by decide) { cls := .type "tuple_iterator", data := .fields #[.ref l, .int 0 0] } (fun I i h => h.IsTupleIter I l i ∧ h.IsTuple l items)
    (fun A' s1 Q' E' hs k => wpAny_pyIter_tuple hs k) (fun A' I hA ne => Walks.tuple hA I l ne items) (fun h' hs => ⟨⟨_, Heap.get?_push_size _ rfl, rfl, rfl⟩, (show h'.IsTuple l items from hs).push _⟩) hit hk few hu h
end
end CLS
namespace CLS
open PySem PySem.Spec L2 PySem.W PyProof.Rows CL
set_option autoImplicit false
section
variable {P : Program} {w : World} {A : Around} {E : Value → Shared → Prop} {s : Shared}
/-- sorted(set) -/
theorem sorted_sg {a : Addr} {L : List (Addr × List Int)} {es : Array (Int × Value)} {ep : Nat} {t : SetTable} {Q : Value → Shared → Prop} (R : Sg P w s.heap a L es ep t) (tp : ∀ p ∈ L, IsT P w s.heap p.2 p.1) (hh : A.handled = none) (hu : A.units + 65 < cLine) (hB : ∀ p ∈ L, p.2 ≠ [])
    (hQ : ∀ s' p (out : Array Value) (c : Nat) (L' : List (Addr × List Int)), (∀ b o, s.heap.get? b = some o → s'.heap.get? b = some o) → s'.gens = s.gens → s'.os = s.os → s.heap.objs.size ≤ p →
      s'.heap.get? p = some (seqObj "list" out c) → out.toList = L'.map (fun q => Value.ref q.1) → L'.Perm L → L'.Pairwise (fun q r => leI q.2 r.2 = true) → Q (.ref p) s') :
    wpAny (model P w) A (call (.builtin "sorted") [.ref a]) Q E s := by
  obtain ⟨o, ho, hex, hd⟩ := R.ob
  have hsz := rows_len R.rows
  have hfew := R.fw
  refine Calls.call_function_entry kind_sorted plain_sorted entry_sorted (args_sorted1 _) ?_
  unfold Builtin.«sorted»
  refine wpAny_bind (m := checkCount "sorted" 1 1 _) (wpAny_pure ?_)
  refine wpAny_bind (collect_set (A := A.in1) hh ⟨o, ho, hex.1, hd⟩ R.fit (by unfold scanBound; omega) R.tab.ris R.ld fun s1 vs k1 hz g1 o1 pm => ?_)
  have hes : es.toList.map (·.2) = L.map fun q => Value.ref q.1 := by
    rw [R.rows]
    unfold L2.rowsOf
    rw [List.map_map] <;> rfl
  rw [hes] at pm
  have ord : ∀ vs : List Value, (∀ v ∈ vs, ∃ q ∈ L, v = Value.ref q.1) → ∃ L1 : List (Addr × List Int), vs = L1.map (fun q => Value.ref q.1) ∧ ∀ q ∈ L1, q ∈ L := by
    intro vs
    induction vs with
    | nil => intro _; exact ⟨[], rfl, fun q hq => (by cases hq)⟩
    | cons v vs ih =>
      intro hv
      obtain ⟨q, hq, e⟩ := hv v List.mem_cons_self
      obtain ⟨L1, e1, hs⟩ := ih fun u hu => hv u (List.mem_cons_of_mem _ hu)
      refine ⟨q :: L1, by rw [List.map_cons, e, e1], fun r hr => ?_⟩
      rcases List.mem_cons.mp hr with z | z
      · rw [z]; exact hq
      · exact hs r z
  have one : ∀ q ∈ L, ∀ r ∈ L, q.1 = r.1 → q = r := fun q hq r hr e => by
    have a1 := tp q hq
    have a2 := tp r hr
    rw [e] at a1
    have e2 : q.2 = r.2 := a1.inj a2
    exact Prod.ext e e2
  have perm_of : ∀ L1 : List (Addr × List Int), (∀ q ∈ L1, q ∈ L) → (L1.map (fun q => Value.ref q.1)).Perm (L.map fun q => Value.ref q.1) → L1.Perm L := by
    intro L1 hs pm1
    have nL : L.Nodup := nodup_of_map R.nd
    have nref : (L.map fun q => Value.ref q.1).Nodup := by
      refine List.pairwise_map.mpr (List.Pairwise.imp_of_mem (fun {q r} hq hr hne e => ?_) nL)
      injection e with e
      exact hne (one q hq r hr e)
    have n1 : L1.Nodup := nodup_of_map (pm1.nodup_iff.mpr nref)
    refine (List.perm_ext_iff_of_nodup n1 nL).mpr fun q => ⟨hs q, fun hq => ?_⟩
    have hm : Value.ref q.1 ∈ L1.map (fun q => Value.ref q.1) := pm1.mem_iff.mpr (List.mem_map.mpr ⟨q, hq, rfl⟩)
    obtain ⟨r, hr, e⟩ := List.mem_map.mp hm
    injection e with e
    rw [← one r (hs r hr) q hq e]
    exact hr
  have hvl : vs.length ≤ 2040 := by rw [pm.length_eq, List.length_map]; exact hfew
  have hvs : vs.length ≤ sizeLine := by rw [sizeLine_eq]; omega
  refine wpAny_bind (wpAny_newList ?_ hvs)
  have hoL : (s1.heap.push (seqObj "list" vs.toArray 0)).get? s1.heap.objs.size = some (seqObj "list" vs.toArray 0) := Heap.get?_push_size _ rfl
  obtain ⟨L1, e1, hs1⟩ := ord vs fun v hv => by
    obtain ⟨q, hq, e⟩ := List.mem_map.mp (pm.mem_iff.mp hv)
    exact ⟨q, hq, e.symm⟩
  have p1 : L1.Perm L := perm_of L1 hs1 (by rw [← e1]; exact pm)
  -- the tuples are read wherever they stand
  have rd : ∀ q ∈ L, ∀ h' : Heap, (∀ b o, s.heap.get? b = some o → h'.get? b = some o) → ∃ as, Reads h' (.ref q.1) (.tuple (q.2.map PyData.int)) as := fun q hq h' hk => by
    obtain ⟨ob, items, n, hob, hcl, hdt, hit⟩ := tp q hq
    have ra : ∀ {k : List Int} {us : List Value}, ItemsAre (intKind P w) k us → ∃ as, ReadsAll h' us (k.map PyData.int) as := by
      intro k us x
      have := ints_of_items x
      clear x
      induction this with
      | nil => exact ⟨[], .nil⟩
      | cons i t _ ih =>
        obtain ⟨as, ih⟩ := ih
        exact ⟨_, .cons (.int i t) ih⟩
    obtain ⟨as, r⟩ := ra hit
    exact ⟨_, Reads.tuple (hk _ _ hob) hcl hdt r⟩
  let enc : Addr × List Int → PyData := fun q => .tuple (q.2.map PyData.int)
  have e0 : EachIs (fun v (q : Addr × List Int) => v = Value.ref q.1 ∧ q ∈ L) vs L1 := by
    have : ∀ M : List (Addr × List Int), (∀ q ∈ M, q ∈ L) → EachIs (fun v (q : Addr × List Int) => v = Value.ref q.1 ∧ q ∈ L) (M.map fun q => Value.ref q.1) M := by
      intro M
      induction M with
      | nil => intro _; exact .nil
      | cons q M ih => intro h; exact .cons ⟨rfl, h q List.mem_cons_self⟩ (ih fun r hr => h r (List.mem_cons_of_mem _ hr))
    rw [e1]
    exact this L1 hs1
  have keep : ∀ b o, s.heap.get? b = some o → (sortingHeap (s1.heap.push (seqObj "list" vs.toArray 0)) s1.heap.objs.size vs).get? b = some o := fun b o e => by
    have q := k1 b o e
    exact sortingHeap_old (Nat.ne_of_lt (Heap.lt_size q)) (Heap.get?_push_of_some _ q)
  have er : EachIs (fun v q => ∃ as, Reads (sortingHeap (s1.heap.push (seqObj "list" vs.toArray 0)) s1.heap.objs.size vs) v (enc q) as) vs L1 := e0.mono fun v q ⟨e, hq⟩ => by
    subst e
    exact rd q hq _ keep
  have alk : ∀ a b : List Int, alikeAll (a.map PyData.int) (b.map PyData.int) = true := by
    intro a
    induction a with
    | nil => intro b; simp [alikeAll]
    | cons x a ih => intro b; cases b with
      | nil => simp [alikeAll]
      | cons y b => simp [alikeAll, alike, ih b]
  have hal : AllAlike (L1.map enc) := AllAlike.of fun q r => by simp only [enc, alike]; exact alk _ _
  have hk : PySem.W.Sortable (L1.map enc) := .inl fun d hd => by
    obtain ⟨q, hq, rfl⟩ := List.mem_map.mp hd
    have := hB q (hs1 q hq)
    cases h : q.2 with
    | nil => exact absurd h this
    | cons x r => exact ⟨.int x, r.map PyData.int, by simp only [enc, h, List.map_cons]⟩
  have dep : ∀ q : Addr × List Int, (enc q).depth ≤ 1 := fun q => by
    have : ∀ l : List Int, PyData.depthAll (l.map PyData.int) = 0 := by
      intro l
      induction l with
      | nil => simp [PyData.depthAll]
      | cons x l ih => simp [PyData.depthAll, PyData.depth, ih]
    simp only [enc, PyData.depth, this]
    omega
  have S : ∀ A' : Around, A'.units + 2 < cLine → SortsAt P w A' { s1 with heap := sortingHeap (s1.heap.push (seqObj "list" vs.toArray 0)) s1.heap.objs.size vs } (dataKind (sortingHeap (s1.heap.push (seqObj "list" vs.toArray 0)) s1.heap.objs.size vs) (L1.map enc)) vs := fun A' hu' =>
    SortsAt.data (s := { s1 with heap := sortingHeap (s1.heap.push (seqObj "list" vs.toArray 0)) s1.heap.objs.size vs }) (each_map (R := fun v d => ∃ as, Reads (sortingHeap (s1.heap.push (seqObj "list" vs.toArray 0)) s1.heap.objs.size vs) v d as) enc er) hal hk fun d hd => by
      obtain ⟨q, _, rfl⟩ := List.mem_map.mp hd
      have := dep q
      omega
  refine wpAny_bind (wpAny_holding (wpAny_call_entry slot_list_sort ⟨_, hoL, rfl⟩ entry_list_sort (list_sort_vals (s := { s1 with heap := s1.heap.push (seqObj "list" vs.toArray 0) }) hoL (S _ (by show A.units + 1 + 1 + 2 < cLine; omega)) hvs ⟨_, rfl, ?_⟩) (args_list_sort _)))
  have eo := sortVals_data false e0 er hal
  obtain ⟨c, hc⟩ := PyProof.Rows.sortedHeap_at (vs := vs) (out := (sortVals (dataKind (sortingHeap (s1.heap.push (seqObj "list" vs.toArray 0)) s1.heap.objs.size vs) (L1.map enc)) false vs vs).toArray) hoL
  have e' : sortVals (dataKind (sortingHeap (s1.heap.push (seqObj "list" vs.toArray 0)) s1.heap.objs.size vs) (L1.map enc)) false vs vs = (L1.mergeSort (dataLe false enc)).map fun q => Value.ref q.1 := by
    have : ∀ {us : List Value} {M : List (Addr × List Int)}, EachIs (fun v (q : Addr × List Int) => v = Value.ref q.1 ∧ q ∈ L) us M → us = M.map fun q => Value.ref q.1 := by
      intro us M x
      induction x with
      | nil => rfl
      | cons h _ ih => rw [List.map_cons, h.1, ih]
    exact this eo
  refine wpAny_pure ⟨_, rfl, hQ _ s1.heap.objs.size _ c (L1.mergeSort (dataLe false enc)) (fun b u e => ?_) g1 o1 hz hc (by simpa using e') ((List.mergeSort_perm _ _).trans p1) ?_⟩
  · have q := k1 b u e
    have hlt := Heap.lt_size q
    show (sortedHeap (s1.heap.push (seqObj "list" vs.toArray 0)) s1.heap.objs.size vs _).get? b = some u
    rw [sortedHeap_old (Nat.ne_of_lt hlt) (by rw [size_push']; exact Nat.lt_succ_of_lt hlt)]
    exact Heap.get?_push_of_some _ q
  · have := sort_pairwise (le := dataLe false enc) (sortLe_total (listOrd itemOrd) false fun b => keyToks (enc b)) L1
    exact this
end
structure S0 (P : Program) (w : World) (h : Heap) (a : Addr) (L : List (Addr × List Int)) : Prop where
  ex : ∃ es ep t, Sg P w h a L es ep t
def SO (P : Program) (w : World) (a : Addr) (L : List (Addr × List Int)) : HO := .ext fun h => S0 P w h a L
theorem so_new {P : Program} {w : World} {H : Hp} {h : Heap} {a : Addr} {L : List (Addr × List Int)} (R : S0 P w h a L) : ObjOk P w H h a (SO P w a L) := by
  obtain ⟨es, ep, t, S⟩ := id R
  obtain ⟨o, ho, _⟩ := S.ob
  exact ⟨R, ⟨o, ho⟩, fun h1 h2 ⟨es', ep', t', S'⟩ k => ⟨es', ep', t', S'.stays fun o e => k o e⟩⟩
def Few (L : List (List Int)) : Prop := L.eraseDups.length ≤ 2040
theorem Few.le {L : List (List Int)} (h : Few L) {Z : List (List Int)} (hn : Z.Nodup) (hz : ∀ z ∈ Z, z ∈ L) : Z.length ≤ 2040 := by
  refine Nat.le_trans ?_ h
  have key : ∀ {l m : List (List Int)}, l.Nodup → (∀ x ∈ l, x ∈ m) → l.length ≤ m.length := by
    intro l
    induction l with
    | nil => intro m _ _; exact Nat.zero_le _
    | cons x l ih =>
      intro m hn hs
      obtain ⟨h1, h2⟩ := List.nodup_cons.mp hn
      have hx : x ∈ m := hs x (by simp)
      have := ih (m := m.erase x) h2 fun y hy => (List.mem_erase_of_ne fun e => h1 (by rw [← e]; exact hy)).mpr (hs y (by simp [hy]))
      have := List.length_erase_of_mem hx
      have := List.length_pos_of_mem hx
      simp only [List.length_cons]
      omega
  exact key hn fun z hzz => List.mem_eraseDups.mpr (hz z hzz)
section
variable [Tb] {X : Cx}
def rSetOf (K : PySem.W.Frag) (P : Program) (w : World) : List V → Hp → VK → Prop := fun xs H Q => ∃ (l : Addr) (ks : List (Addr × List Int)), xs = [V.ref l] ∧ (SqL K H l (ks.map fun p => V.ref p.1) ∨ SqT K H l (ks.map fun p => V.ref p.1)) ∧ (∀ p ∈ ks, SqT K H p.1 (p.2.map V.int)) ∧ Few (ks.map (·.2)) ∧
  ∀ a L, H a = none → (∀ p ∈ L, p ∈ ks) → (∀ p ∈ ks, p.2 ∈ L.map (·.2)) → (L.map (·.2)).Nodup → L.length ≤ 2040 → Q (.ref a) (upd H a (SO P w a L))
theorem cr_setOf (hc : X.calm = true) (hu : X.A.units + 64 < cLine) : CallR X (.type "set") (rSetOf X.K X.prog X.w) := by
  intro pins s σ H xs us Q I r h
  obtain ⟨l, ks, rfl, hl, hk, hf, q⟩ := h
  rw [Vals.ref1 r]
  have hn : H s.heap.objs.size = none := I.hok.fresh (Nat.le_refl _)
  rcases hl with hl | hl
  · obtain ⟨its, rv, pl, hz⟩ := I.list hl
    exact call_set_list (P := X.prog) (w := X.w) ks (I.ok.hd hc) pl.isList (by simpa using refs_of_vals rv) (fun p hp => I.isT (hk p hp)) (fun Z hn hz => hf.le hn hz) (by omega) fun h' tk L es ep t S g k => ⟨.ref s.heap.objs.size, upd H s.heap.objs.size (SO X.prog X.w s.heap.objs.size L), I.laid (t' := tk) k (Nat.le_refl _) (so_new ⟨es, ep, t, S⟩), rfl, q _ L hn (fun p hp => List.mem_of_mem_take (g.sub p hp)) (fun p hp => g.all p (by rw [List.take_length]; exact hp)) S.nd S.fw⟩
  · obtain ⟨its, rv, ⟨o, ho, ht, n, hd⟩, _⟩ := I.tuple hl
    exact call_set_tuple (P := X.prog) (w := X.w) (items := its.toArray) ks (I.ok.hd hc) ⟨o, ho, ht, n, hd⟩ (by simpa using refs_of_vals rv) (fun p hp => I.isT (hk p hp)) (fun Z hn hz => hf.le hn hz) (by omega) fun h' tk L es ep t S g k => ⟨.ref s.heap.objs.size, upd H s.heap.objs.size (SO X.prog X.w s.heap.objs.size L), I.laid (t' := tk) k (Nat.le_refl _) (so_new ⟨es, ep, t, S⟩), rfl, q _ L hn (fun p hp => List.mem_of_mem_take (g.sub p hp)) (fun p hp => g.all p (by rw [List.take_length]; exact hp)) S.nd S.fw⟩
/-- sorted(set) -/
def rSortG (K : PySem.W.Frag) (P : Program) (w : World) : List V → Hp → VK → Prop := fun vs H Q => ∃ (a : Addr) (L : List (Addr × List Int)), vs = [V.ref a] ∧ H a = some (SO P w a L) ∧ (∀ p ∈ L, SqT K H p.1 (p.2.map V.int)) ∧ (∀ p ∈ L, p.2 ≠ []) ∧
  ∀ (L' : List (Addr × List Int)) (p : Addr), L'.Perm L → (L'.map (·.2)).Nodup → L'.Pairwise (fun q r => leI q.2 r.2 = true) → H p = none → Q (.ref p) (upd H p (.lst (L'.map fun q => V.ref q.1)))
theorem cr_sortG (hc : X.calm = true) (hu : X.A.units + 65 < cLine) : CallR X (.builtin "sorted") (rSortG X.K X.prog X.w) := by
  intro pins s σ H vs us Q I r h
  obtain ⟨a, L, rfl, ha, hk, hB, q⟩ := h
  obtain ⟨es, ep, t, R⟩ : S0 X.prog X.w s.heap a L := (I.hok a _ ha).1
  rw [Vals.ref1 r]
  refine sorted_sg R (fun p hp => I.isT (hk p hp)) (I.ok.hd hc) hu hB fun s' p out c L' k g o hp hg hout pm pw => ?_
  have hfew : L'.length ≤ 2040 := by rw [pm.length_eq]; exact R.fw
  have hlen : (L'.map fun q => V.ref q.1).length ≤ sizeLine := by rw [List.length_map, sizeLine_eq]; omega
  have hn : H p = none := I.hok.fresh hp
  have hv : Vals (L'.map fun q => V.ref q.1) out.toList := by rw [hout]; exact vals_of_refs L'
  have J : Inv X pins σ (upd H p (.lst (L'.map fun q => V.ref q.1))) { s with heap := s'.heap, gens := s'.gens, drawn := s'.drawn, toks := s'.toks } :=
    I.call (ch := []) (Un.laid k hp hn) (I.hok.laid k hp ⟨hlen, out.toList, c, hv, hg⟩) (by rw [g]; exact I.bare) (fun _ z => nomatch z)
  have e : s' = { s with heap := s'.heap, gens := s'.gens, drawn := s'.drawn, toks := s'.toks } := by
    cases s'
    cases s
    cases o
    rfl
  rw [e]
  exact ⟨.ref p, _, J, rfl, q L' p pm ((pm.map (·.2)).nodup_iff.mpr R.nd) pw hn⟩
def seqD : D → Option (List (List Int))
  | .lst l => allI l
  | .tup l => allI l
  | _ => none
instance {L : List (List Int)} : Decidable (Few L) := inferInstanceAs (Decidable (_ ≤ _))
def sortSetG : List D → Option (List D)
  | [d] => (seqD d).bind fun L => if (decide (Few L) && L.all fun a => !a.isEmpty) = true then some ((sortSet L).map tIs) else none
  | _ => none
theorem seq_refs {Z : Addr → Prop} {H : Hp} {d : D} {L : List (List Int)} {v : V} (h : seqD d = some L) (p : Pk0 X.K Z H d v) : ∃ (l : Addr) (ks : List (Addr × List Int)), v = V.ref l ∧ (SqL X.K H l (ks.map fun p => V.ref p.1) ∨ SqT X.K H l (ks.map fun p => V.ref p.1)) ∧ (∀ p ∈ ks, SqT X.K H p.1 (p.2.map V.int)) ∧ ks.map (·.2) = L := by
  unfold seqD at h
  split at h
  · obtain ⟨b, ys, rfl, s1, l1⟩ := p.lst
    rw [allI_eq h] at l1
    obtain ⟨ks, rfl, rfl, hk⟩ := refs_of l1
    exact ⟨b, ks, rfl, .inl (SqL.of s1), hk, rfl⟩
  · obtain ⟨b, ys, rfl, s1, l1⟩ := p.tup
    rw [allI_eq h] at l1
    obtain ⟨ks, rfl, rfl, hk⟩ := refs_of l1
    exact ⟨b, ks, rfl, .inr s1, hk, rfl⟩
  · cases h
theorem e_sortSetG {τ : Nat → OT} {q : Bool} {a : Expr} {ms : M (List D)} {p p2 pos pos2 : Pos} (ha : PA X [a] (tA X.K τ q ms)) (hc : X.calm = true) (hu : X.A.units + 65 < cLine) (hm1 : X.mg "sorted" = none) (hm2 : X.mg "set" = none) (hg1 : Gl X "sorted" := by rfl) (hg2 : Gl X "set" := by rfl)
    (hv1 : bootBuiltins "sorted" = some (.builtin "sorted") := by decide +kernel) (hv2 : bootBuiltins "set" = some (.type "set") := by decide +kernel)
    (hs1 : starEach [a] X.env = (false, eval a X.env) :: starEach [] X.env := by rfl) (hs2 : starEach [.Call (.Name "set" p2) [a] [] pos2] X.env = (false, eval (.Call (.Name "set" p2) [a] [] pos2) X.env) :: starEach [] X.env := by rfl) (hp1 : (backTo pos (starEach [] X.env)).any (·.1) = false := by rfl) (hp2 : (backTo pos2 (starEach [] X.env)).any (·.1) = false := by rfl) :
    PE X (.Call (.Name "sorted" p) [.Call (.Name "set" p2) [a] [] pos2] [] pos) (tE X.K τ q (.ow (.ol .sh .sh)) (mL sortSetG ms)) := by
  refine (pe_callB (cr_sortG hc hu) hg1 hm1 hv1 (pa_cons (pe_callTy (cr_setOf hc (by omega)) hg2 hm2 hv2 ha (by decide) (by decide) hs1 hp2) pa_nil hs2) (by decide) (by decide) hs2 hp1).mono fun σ H Q ⟨Z, own, ρ, d, ρ', rs, e, k⟩ => ?_
  obtain ⟨xs, ρ1, e1, f1⟩ := bind_ok e
  obtain ⟨f2, rfl⟩ := ofO_ok f1
  obtain ⟨l, hl, rfl⟩ := Option.map_eq_some_iff.mp f2
  refine ⟨Z, own, ρ, xs, ρ', rs, e1, fun vs Z1 own1 H1 rs1 rl x1 => ?_⟩
  unfold sortSetG at hl
  split at hl
  · rename_i d0
    obtain ⟨L, hL, hl⟩ := Option.bind_eq_some_iff.mp hl
    split at hl
    · rename_i ho
      cases hl
      simp only [Bool.and_eq_true, decide_eq_true_eq, List.all_eq_true, Bool.not_eq_true', List.isEmpty_eq_false_iff] at ho
      obtain ⟨v, rfl, pv⟩ := rl.one
      obtain ⟨b, ks, rfl, hs, hk, rfl⟩ := seq_refs hL pv
      refine ⟨b, ks, rfl, hs, hk, ho.1, fun a2 L2 ha2 hsub hall _ _ => ?_⟩
      show tNil σ _ _
      have g2 : Grow H1 (upd H1 a2 (SO X.prog X.w a2 L2)) := Grow.new ha2
      have keepT : ∀ p ∈ L2, SqT X.K (upd H1 a2 (SO X.prog X.w a2 L2)) p.1 (p.2.map V.int) := fun p hp => NL.sqT (fun a3 o h3 _ n => g2.at_ a3 o h3 n) (hk p (hsub p hp))
      refine ⟨a2, L2, rfl, upd_same, keepT, fun p hp => ho.2 p.2 (List.mem_map.mpr ⟨p, hsub p hp, rfl⟩), fun L' p3 hperm hnd hpw hp3 => ?_⟩
      have x2 : Ext q Z own H Z1 own1 (upd H1 a2 (SO X.prog X.w a2 L2)) := by
        have := x1.trans (ExtF.growO (q := q) (Z := Z1) (own := own1) g2)
        rwa [Bool.and_self] at this
      have eL : sortSet (ks.map (·.2)) = L'.map (·.2) := by
        refine (sortSet_is hnd (fun z => ⟨fun hz => ?_, fun hz => ?_⟩) (List.pairwise_map.mpr hpw)).symm
        · obtain ⟨p, hp, rfl⟩ := List.mem_map.mp hz
          exact List.mem_map.mpr ⟨p, hsub p (hperm.mem_iff.mp hp), rfl⟩
        · obtain ⟨p, hp, rfl⟩ := List.mem_map.mp hz
          obtain ⟨p', hp', e'⟩ := List.mem_map.mp (hall p hp)
          exact List.mem_map.mpr ⟨p', hperm.mem_iff.mpr hp', e'⟩
      rw [eL] at k
      exact fin_ol (rs1.growO g2) x2 hp3 ((Grow.new hp3).shL (rel_refs fun p hp => keepT p (hperm.mem_iff.mp hp))) k
    · cases hl
  · cases hl
end
end CLS
namespace CL
end CL
namespace CLI
open PySem PySem.Spec L2 CL CLG CLX CLE PySem.W
local macro_rules | `(tactic| walk_at "o") => `(tactic| ((try simp only [backA, List.set_cons_zero, List.set_cons_succ, wipeD, List.map_cons, List.map_nil, List.cons_append, List.nil_append, List.replicate_succ, List.replicate_zero]); first | done | rfl))
local macro_rules | `(tactic| walk_at "b") => `(tactic| first
  | with_reducible exact Nb.lit
  | ((with_reducible apply Nb.mul) <;> walk_at "b")
  | ((with_reducible apply Nb.add) <;> walk_at "b")
  | ((with_reducible apply Nb.sub) <;> walk_at "b")
  | ((with_reducible apply Nb.neg) <;> walk_at "b")
  | ((with_reducible apply Nb.fdiv) <;> walk_at "b")
  | ((with_reducible apply Nb.fmod); (· walk_at "z"); (· walk_at "b"))
  | ((with_reducible apply Nb.max) <;> walk_at "b")
  | ((with_reducible apply Nb.min) <;> walk_at "b")
  | ((with_reducible apply Nb.ite) <;> walk_at "b")
  | with_reducible assumption
  | with_reducible exact Nb.le (by assumption)
  | with_reducible exact Nb.nle (by assumption)
  | with_reducible exact Nb.lt (by assumption)
  | ((with_reducible apply Nb.rng (by assumption) (by assumption)) <;> walk_at "b")
  | ((with_reducible apply Nb.rngE (by assumption) (by assumption)) <;> walk_at "b")
  | with_reducible exact Nb.self _)
local macro_rules | `(tactic| walk_at "z") => `(tactic| first | decide | assumption | omega | exact fmod_nn (by omega) | exact fmod_lt (by omega))
local macro_rules | `(tactic| walk_at "e") => `(tactic| first
  | ((with_reducible refine is_ev ?_); first
    | ((with_reducible apply mul_st); (· walk_at "b"); (· walk_at "b"); (· rfl))
    | ((with_reducible apply mul_s1); (· walk_at "b"); (· rfl))
    | ((with_reducible apply mul_s2); (· walk_at "b"); (· rfl))
    | ((with_reducible apply div_st); (· walk_at "z"); (· walk_at "b"); (· rfl))
    | ((with_reducible apply mod_st); (· walk_at "z"))
    | with_reducible apply tup_pt
    | with_reducible apply tup_ln
    | ((with_reducible apply tup_st); (· rfl))
    | ((with_reducible apply lst_st); (· rfl))
    | with_reducible apply eqi_st
    | with_reducible apply nei_st
    | with_reducible apply eqp_st
    | with_reducible apply nep_st
    | with_reducible apply eqp_st'
    | with_reducible apply nep_st'
    | with_reducible apply eqb_st
    | with_reducible apply neb_st
    | with_reducible apply isb_st
    | with_reducible apply eqs_st
    | with_reducible apply nes_st
    | with_reducible refine ixl0 ?_
    | with_reducible refine ixl1 ?_
    | with_reducible refine ix2bi (fun _ _ _ => ?_)
    | ((with_reducible refine ix4i ?_ ?_ (fun _ _ _ => ?_)); (· walk_at "z"); (· walk_at "z"))
    | ((with_reducible refine ix2i ?_ ?_ (fun _ _ _ => ?_)); (· walk_at "z"); (· walk_at "z"))
    | ((with_reducible refine ix3i ?_ ?_ (fun _ _ _ => ?_)); (· walk_at "z"); (· walk_at "z"))
    | refine ⟨_, rfl, ?_⟩)
  | ((with_reducible refine fill_st ?_); refine ⟨_, rfl, ?_⟩; (try dsimp only))
  | ((with_reducible apply and_go rfl); (· (intro _; (repeat walk_at "s"); with_reducible exact ⟨rfl, rfl⟩)))
  | ((with_reducible refine is_chain ?_); (apply chain_go rfl); (· (intro _; (repeat walk_at "s"); exact ⟨rfl, rfl⟩)))
  | ((with_reducible refine draw_step (by assumption) ?_ ?_ (fun _ _ _ _ _ => ?_)); (· walk_at "z"); (· walk_at "z"))
  | ((with_reducible refine CLY.draw_step (by assumption) ?_ ?_ (fun _ _ _ _ _ => ?_)); (· walk_at "z"); (· walk_at "z"))
  | ((with_reducible refine is_evA ?_); refine ⟨_, rfl, ?_⟩)
  | ((with_reducible refine is_evL ?_); refine ⟨_, rfl, ?_⟩)
  | ((with_reducible refine is_evI ?_); refine ⟨_, rfl, ?_⟩)
  | ((with_reducible refine is_evR ?_); refine ⟨_, rfl, ?_⟩))
local macro_rules | `(tactic| walk_at "f") => `(tactic| first
  | with_reducible refine W_mV.mpr ?_
  | with_reducible refine W_mCons.mpr ?_
  | with_reducible refine W_m2.mpr ?_
  | with_reducible refine W_mC.mpr ?_
  | with_reducible refine W_mNil.mpr ?_
  | with_reducible refine W_mN.mpr ?_
  | with_reducible refine W_sSeq.mpr ?_
  | with_reducible refine W_sAsg.mpr ?_
  | with_reducible refine W_m1.mpr ?_
  | with_reducible refine W_mCallP.mpr ?_
  | with_reducible refine W_mCall.mpr ?_
  | with_reducible refine X_evI.mpr ?_
  | with_reducible refine X_evE.mpr ?_
  | with_reducible refine X_evN.mpr ?_
  | with_reducible refine X_if ?_
  | with_reducible refine W_sRet.mpr ?_
  | with_reducible refine W_sK.mpr ?_
  | with_reducible refine X_and ?_
  | with_reducible refine X_or ?_
  | with_reducible refine W_sPar.mpr ?_
  | with_reducible refine W_mSl.mpr ?_
  | with_reducible refine W_mPtN.mpr ?_
  | with_reducible refine W_mPtS.mpr ?_
  | with_reducible refine W_mIt.mpr ?_
  | with_reducible refine W_mItN.mpr ?_
  | with_reducible refine W_mComp.mpr ?_
  | ((with_reducible refine is_comp ?_); first | (apply X_compN; (· walk_at "o")) | ((with_reducible apply X_compY); (· walk_at "o"); (· rfl)))
  | with_reducible refine W_sFor.mpr ?_
  | ((with_reducible refine is_for ?_); refine W_forNil.mpr ?_)
  | with_reducible refine X_chain ?_
  | with_reducible refine W_sExp.mpr ?_
  | with_reducible refine W_mL.mpr ?_
  | with_reducible refine X_mif ?_
  | with_reducible refine W_mIxS.mpr ?_
  | with_reducible refine W_mYes.mpr ?_
  | with_reducible refine W_sPar3.mpr ?_
  | with_reducible refine W_mApp.mpr ?_
  | with_reducible refine W_mBor.mpr ?_
  | with_reducible refine CLX.W_sFz.mpr ?_)
local macro_rules | `(tactic| walk_at "s") => `(tactic| first
  | ((with_reducible refine is_W ?_); walk_at "f")
  | ((with_reducible refine is_ex ?_); first
    | ((with_reducible refine is_evS ?_); refine ⟨_, rfl, ?_⟩)
    | ((with_reducible apply call_st); (· with_reducible assumption))
    | with_reducible refine ⟨_, by with_reducible assumption, ?_⟩
    | walk_at "e")
  | ((with_reducible apply X_nx); (· walk_at "o"))
  | with_reducible refine Kq_ret.mpr ?_
  | with_reducible refine Kq_brk.mpr ?_
  | with_reducible refine Kq_cnt.mpr ?_
  | ((with_reducible apply X_fnx); (· walk_at "o"))
  | ((with_reducible apply X_fcnt); (· walk_at "o"))
  | with_reducible refine X_fbrk ?_
  | with_reducible refine X_fret ?_
  | ((with_reducible refine is_ltA ?_); refine ⟨?_, ?_⟩; (· first | decide | omega | (simp; omega) | (simp; done)))
  | with_reducible refine parW_mk.mpr ?_
  | with_reducible refine par3W_mk.mpr ?_)
local macro_rules | `(tactic| walk_at "r") => `(tactic| repeat walk_at "s")
local macro_rules | `(tactic| walk_at "u") => `(tactic| first | ((apply X_forC); (· walk_at "o"); (· rfl)) | ((apply X_compY); (· walk_at "o"); (· rfl)) | ((apply X_compC); (· walk_at "o"); (· rfl)))
local macro_rules | `(tactic| walk_at "g") => `(tactic| repeat first | walk_at "s" | (with_reducible refine go_ifF (rfl : _ = false) ?_) | (with_reducible refine go_ifT (rfl : _ = true) ?_) | (refine go_ifF (rfl : _ = false) ?_) | (refine go_ifT (rfl : _ = true) ?_) | walk_at "u")
theorem dups_key : ∀ {l : List (List Int)}, l.eraseDups.length ≤ l.length ∧ (l.eraseDups.length = l.length → l.Nodup) := by
  intro l
  induction h : l.length using Nat.strongRecOn generalizing l with
  | _ n ih =>
    cases l with
    | nil => simp
    | cons a l =>
      rw [List.eraseDups_cons, List.length_cons]
      rw [List.length_cons] at h
      have hf := List.length_filter_le (fun b => !b == a) l
      obtain ⟨i1, i2⟩ := ih (l.filter fun b => !b == a).length (by omega) rfl
      refine ⟨by omega, fun e => ?_⟩
      have e2 : (l.filter fun b => !b == a).length = l.length := by omega
      have e3 : ∀ b ∈ l, (!b == a) = true := List.length_filter_eq_length_iff.mp e2
      have e4 : (l.filter fun b => !b == a) = l := List.filter_eq_self.mpr e3
      have e5 := i2 (by omega)
      rw [e4] at e5
      exact List.nodup_cons.mpr ⟨fun hm => by simpa using e3 a hm, e5⟩
end CLI
namespace CLN
end CLN
namespace CL
end CL
namespace CLV
end CLV
namespace CLT
open PySem PySem.Spec L2 CL CLG CLX CLE CLN PySem.W
local macro_rules | `(tactic| walk_at "o") => `(tactic| ((try simp only [backA, List.set_cons_zero, List.set_cons_succ, wipeD, List.map_cons, List.map_nil, List.cons_append, List.nil_append, List.replicate_succ, List.replicate_zero]); first | done | rfl))
local macro_rules | `(tactic| walk_at "b") => `(tactic| first
  | with_reducible exact Nb.lit
  | ((with_reducible apply Nb.mul) <;> walk_at "b")
  | ((with_reducible apply Nb.add) <;> walk_at "b")
  | ((with_reducible apply Nb.sub) <;> walk_at "b")
  | ((with_reducible apply Nb.neg) <;> walk_at "b")
  | ((with_reducible apply Nb.fdiv) <;> walk_at "b")
  | ((with_reducible apply Nb.fmod); (· walk_at "z"); (· walk_at "b"))
  | ((with_reducible apply Nb.max) <;> walk_at "b")
  | ((with_reducible apply Nb.min) <;> walk_at "b")
  | ((with_reducible apply Nb.ite) <;> walk_at "b")
  | with_reducible assumption
  | with_reducible exact Nb.le (by assumption)
  | with_reducible exact Nb.nle (by assumption)
  | with_reducible exact Nb.lt (by assumption)
  | ((with_reducible apply Nb.rng (by assumption) (by assumption)) <;> walk_at "b")
  | ((with_reducible apply Nb.rngE (by assumption) (by assumption)) <;> walk_at "b")
  | with_reducible exact Nb.self _)
local macro_rules | `(tactic| walk_at "z") => `(tactic| first | decide | with_reducible assumption | omega | exact fmod_nn (by omega) | exact fmod_lt (by omega))
local macro_rules | `(tactic| walk_at "e") => `(tactic| first
  | ((with_reducible refine is_ev ?_); first
    | ((with_reducible apply mul_st); (· walk_at "b"); (· walk_at "b"); (· rfl))
    | ((with_reducible apply mul_s1); (· walk_at "b"); (· rfl))
    | ((with_reducible apply mul_s2); (· walk_at "b"); (· rfl))
    | ((with_reducible apply div_st); (· walk_at "z"); (· walk_at "b"); (· rfl))
    | ((with_reducible apply mod_st); (· walk_at "z"))
    | with_reducible apply tup_pt
    | with_reducible apply tup_ln
    | ((with_reducible apply tup_st); (· rfl))
    | ((with_reducible apply lst_st); (· rfl))
    | with_reducible apply eqi_st
    | with_reducible apply nei_st
    | with_reducible apply eqp_st
    | with_reducible apply nep_st
    | with_reducible apply eqp_st'
    | with_reducible apply nep_st'
    | with_reducible apply eqb_st
    | with_reducible apply neb_st
    | with_reducible apply isb_st
    | with_reducible apply eqs_st
    | with_reducible apply nes_st
    | with_reducible refine ixl0 ?_
    | with_reducible refine ixl1 ?_
    | with_reducible refine ix2bi (fun _ _ _ => ?_)
    | ((with_reducible refine ix4i ?_ ?_ (fun _ _ _ => ?_)); (· walk_at "z"); (· walk_at "z"))
    | ((with_reducible refine ix2i ?_ ?_ (fun _ _ _ => ?_)); (· walk_at "z"); (· walk_at "z"))
    | ((with_reducible refine ix3i ?_ ?_ (fun _ _ _ => ?_)); (· walk_at "z"); (· walk_at "z"))
    | refine ⟨_, rfl, ?_⟩)
  | ((with_reducible refine fill_st ?_); refine ⟨_, rfl, ?_⟩; (try dsimp only))
  | ((with_reducible apply and_go rfl); (· (intro _; (repeat walk_at "s"); with_reducible exact ⟨rfl, rfl⟩)))
  | ((with_reducible refine is_chain ?_); (apply chain_go rfl); (· (intro _; (repeat walk_at "s"); exact ⟨rfl, rfl⟩)))
  | ((with_reducible refine draw_step (by assumption) ?_ ?_ (fun _ _ _ _ _ => ?_)); (· walk_at "z"); (· walk_at "z"))
  | ((with_reducible refine CLY.draw_step (by assumption) ?_ ?_ (fun _ _ _ _ _ => ?_)); (· walk_at "z"); (· walk_at "z"))
  | ((with_reducible refine is_evA ?_); refine ⟨_, rfl, ?_⟩)
  | ((with_reducible refine is_evL ?_); refine ⟨_, rfl, ?_⟩)
  | ((with_reducible refine is_evI ?_); refine ⟨_, rfl, ?_⟩)
  | ((with_reducible refine is_evR ?_); refine ⟨_, rfl, ?_⟩))
local macro_rules | `(tactic| walk_at "f") => `(tactic| first
  | with_reducible refine W_mV.mpr ?_
  | with_reducible refine W_mCons.mpr ?_
  | with_reducible refine W_m2.mpr ?_
  | with_reducible refine W_mC.mpr ?_
  | with_reducible refine W_mNil.mpr ?_
  | with_reducible refine W_mN.mpr ?_
  | with_reducible refine W_sSeq.mpr ?_
  | with_reducible refine W_sAsg.mpr ?_
  | with_reducible refine W_m1.mpr ?_
  | with_reducible refine W_mCallP.mpr ?_
  | with_reducible refine W_mCall.mpr ?_
  | with_reducible refine X_evI.mpr ?_
  | with_reducible refine X_evE.mpr ?_
  | with_reducible refine X_evN.mpr ?_
  | with_reducible refine X_if ?_
  | with_reducible refine W_sRet.mpr ?_
  | with_reducible refine W_sK.mpr ?_
  | with_reducible refine X_and ?_
  | with_reducible refine X_or ?_
  | with_reducible refine W_sPar.mpr ?_
  | with_reducible refine W_mSl.mpr ?_
  | with_reducible refine W_mPtN.mpr ?_
  | with_reducible refine W_mPtS.mpr ?_
  | with_reducible refine W_mIt.mpr ?_
  | with_reducible refine W_mItN.mpr ?_
  | with_reducible refine W_mComp.mpr ?_
  | ((with_reducible refine is_comp ?_); first | (apply X_compN; (· walk_at "o")) | ((with_reducible apply X_compY); (· walk_at "o"); (· rfl)))
  | with_reducible refine W_sFor.mpr ?_
  | ((with_reducible refine is_for ?_); refine W_forNil.mpr ?_)
  | with_reducible refine X_chain ?_
  | with_reducible refine W_sExp.mpr ?_
  | with_reducible refine W_mL.mpr ?_
  | with_reducible refine X_mif ?_
  | with_reducible refine W_mIxS.mpr ?_
  | with_reducible refine W_mYes.mpr ?_
  | with_reducible refine W_sPar3.mpr ?_
  | with_reducible refine W_mApp.mpr ?_
  | with_reducible refine W_mBor.mpr ?_
  | with_reducible refine CLX.W_sFz.mpr ?_)
local macro_rules | `(tactic| walk_at "s") => `(tactic| first
  | ((with_reducible refine is_W ?_); walk_at "f")
  | ((with_reducible refine is_ex ?_); first
    | ((with_reducible refine is_evS ?_); refine ⟨_, rfl, ?_⟩)
    | ((with_reducible apply call_st); (· with_reducible assumption))
    | with_reducible refine ⟨_, by with_reducible assumption, ?_⟩
    | walk_at "e")
  | ((with_reducible apply X_nx); (· walk_at "o"))
  | with_reducible refine Kq_ret.mpr ?_
  | with_reducible refine Kq_brk.mpr ?_
  | with_reducible refine Kq_cnt.mpr ?_
  | ((with_reducible apply X_fnx); (· walk_at "o"))
  | ((with_reducible apply X_fcnt); (· walk_at "o"))
  | with_reducible refine X_fbrk ?_
  | with_reducible refine X_fret ?_
  | ((with_reducible refine is_ltA ?_); refine ⟨?_, ?_⟩; (· first | decide | omega | (simp; omega) | (simp; done)))
  | with_reducible refine parW_mk.mpr ?_
  | with_reducible refine par3W_mk.mpr ?_)
local macro_rules | `(tactic| walk_at "r") => `(tactic| repeat walk_at "s")
local macro_rules | `(tactic| walk_at "u") => `(tactic| first | ((apply X_forC); (· walk_at "o"); (· rfl)) | ((apply X_compY); (· walk_at "o"); (· rfl)) | ((apply X_compC); (· walk_at "o"); (· rfl)))
local macro_rules | `(tactic| walk_at "g") => `(tactic| repeat first | walk_at "s" | (with_reducible refine go_ifF (rfl : _ = false) ?_) | (with_reducible refine go_ifT (rfl : _ = true) ?_) | (refine go_ifF (rfl : _ = false) ?_) | (refine go_ifT (rfl : _ = true) ?_) | walk_at "u")
theorem okL_pn : ∀ {S : List Pn}, D.okL 59 (S.map pnD) = true
  | [] => by simp [D.okL]
  | s :: S => by simp [D.okL, okL_pn (S := S), pnD, pt, D.okB]
def I1 (C P : D) (ρ : Sl) : Prop := ∃ o2, ρ = [some C, some P, o2, none]
end CLT
namespace CLZ
end CLZ
namespace CL
end CL
namespace CLPH
end CLPH
namespace CL
end CL
namespace CLB
end CLB
namespace CLB
end CLB
namespace CLSD
open PySem PySem.Spec L2 CL CLG CLX CLE CLN CLB
local macro_rules | `(tactic| walk_at "o") => `(tactic| ((try simp only [backA, List.set_cons_zero, List.set_cons_succ, wipeD, List.map_cons, List.map_nil, List.cons_append, List.nil_append, List.replicate_succ, List.replicate_zero]); first | done | rfl))
local macro_rules | `(tactic| walk_at "b") => `(tactic| first
  | with_reducible exact Nb.lit
  | ((with_reducible apply Nb.mul) <;> walk_at "b")
  | ((with_reducible apply Nb.add) <;> walk_at "b")
  | ((with_reducible apply Nb.sub) <;> walk_at "b")
  | ((with_reducible apply Nb.neg) <;> walk_at "b")
  | ((with_reducible apply Nb.fdiv) <;> walk_at "b")
  | ((with_reducible apply Nb.fmod); (· walk_at "z"); (· walk_at "b"))
  | ((with_reducible apply Nb.max) <;> walk_at "b")
  | ((with_reducible apply Nb.min) <;> walk_at "b")
  | ((with_reducible apply Nb.ite) <;> walk_at "b")
  | with_reducible assumption
  | with_reducible exact Nb.le (by assumption)
  | with_reducible exact Nb.nle (by assumption)
  | with_reducible exact Nb.lt (by assumption)
  | ((with_reducible apply Nb.rng (by assumption) (by assumption)) <;> walk_at "b")
  | ((with_reducible apply Nb.rngE (by assumption) (by assumption)) <;> walk_at "b")
  | with_reducible exact Nb.self _)
local macro_rules | `(tactic| walk_at "z") => `(tactic| first | decide | with_reducible assumption | omega | exact fmod_nn (by omega) | exact fmod_lt (by omega))
local macro_rules | `(tactic| walk_at "e") => `(tactic| first
  | ((with_reducible refine is_ev ?_); first
    | ((with_reducible apply mul_st); (· walk_at "b"); (· walk_at "b"); (· rfl))
    | ((with_reducible apply mul_s1); (· walk_at "b"); (· rfl))
    | ((with_reducible apply mul_s2); (· walk_at "b"); (· rfl))
    | ((with_reducible apply div_st); (· walk_at "z"); (· walk_at "b"); (· rfl))
    | ((with_reducible apply mod_st); (· walk_at "z"))
    | with_reducible apply tup_pt
    | with_reducible apply tup_ln
    | ((with_reducible apply tup_st); (· rfl))
    | ((with_reducible apply lst_st); (· rfl))
    | with_reducible apply eqi_st
    | with_reducible apply nei_st
    | with_reducible apply eqp_st
    | with_reducible apply nep_st
    | with_reducible apply eqp_st'
    | with_reducible apply nep_st'
    | with_reducible apply eqb_st
    | with_reducible apply neb_st
    | with_reducible apply isb_st
    | with_reducible apply eqs_st
    | with_reducible apply nes_st
    | with_reducible refine ixl0 ?_
    | with_reducible refine ixl1 ?_
    | with_reducible refine ix2bi (fun _ _ _ => ?_)
    | ((with_reducible refine ix4i ?_ ?_ (fun _ _ _ => ?_)); (· walk_at "z"); (· walk_at "z"))
    | ((with_reducible refine ix2i ?_ ?_ (fun _ _ _ => ?_)); (· walk_at "z"); (· walk_at "z"))
    | ((with_reducible refine ix3i ?_ ?_ (fun _ _ _ => ?_)); (· walk_at "z"); (· walk_at "z"))
    | refine ⟨_, rfl, ?_⟩)
  | ((with_reducible refine fill_st ?_); refine ⟨_, rfl, ?_⟩; (try dsimp only))
  | ((with_reducible apply and_go rfl); (· (intro _; (repeat walk_at "s"); with_reducible exact ⟨rfl, rfl⟩)))
  | ((with_reducible refine is_chain ?_); (apply chain_go rfl); (· (intro _; (repeat walk_at "s"); exact ⟨rfl, rfl⟩)))
  | ((with_reducible refine draw_step (by assumption) ?_ ?_ (fun _ _ _ _ _ => ?_)); (· walk_at "z"); (· walk_at "z"))
  | ((with_reducible refine CLY.draw_step (by assumption) ?_ ?_ (fun _ _ _ _ _ => ?_)); (· walk_at "z"); (· walk_at "z"))
  | ((with_reducible refine is_evA ?_); refine ⟨_, rfl, ?_⟩)
  | ((with_reducible refine is_evL ?_); refine ⟨_, rfl, ?_⟩)
  | ((with_reducible refine is_evI ?_); refine ⟨_, rfl, ?_⟩)
  | ((with_reducible refine is_evR ?_); refine ⟨_, rfl, ?_⟩))
local macro_rules | `(tactic| walk_at "f") => `(tactic| first
  | with_reducible refine W_mV.mpr ?_
  | with_reducible refine W_mCons.mpr ?_
  | with_reducible refine W_m2.mpr ?_
  | with_reducible refine W_mC.mpr ?_
  | with_reducible refine W_mNil.mpr ?_
  | with_reducible refine W_mN.mpr ?_
  | with_reducible refine W_sSeq.mpr ?_
  | with_reducible refine W_sAsg.mpr ?_
  | with_reducible refine W_m1.mpr ?_
  | with_reducible refine W_mCallP.mpr ?_
  | with_reducible refine W_mCall.mpr ?_
  | with_reducible refine X_evI.mpr ?_
  | with_reducible refine X_evE.mpr ?_
  | with_reducible refine X_evN.mpr ?_
  | with_reducible refine X_if ?_
  | with_reducible refine W_sRet.mpr ?_
  | with_reducible refine W_sK.mpr ?_
  | with_reducible refine X_and ?_
  | with_reducible refine X_or ?_
  | with_reducible refine W_sPar.mpr ?_
  | with_reducible refine W_mSl.mpr ?_
  | with_reducible refine W_mPtN.mpr ?_
  | with_reducible refine W_mPtS.mpr ?_
  | with_reducible refine W_mIt.mpr ?_
  | with_reducible refine W_mItN.mpr ?_
  | with_reducible refine W_mComp.mpr ?_
  | ((with_reducible refine is_comp ?_); first | (apply X_compN; (· walk_at "o")) | ((with_reducible apply X_compY); (· walk_at "o"); (· rfl)))
  | with_reducible refine W_sFor.mpr ?_
  | ((with_reducible refine is_for ?_); refine W_forNil.mpr ?_)
  | with_reducible refine X_chain ?_
  | with_reducible refine W_sExp.mpr ?_
  | with_reducible refine W_mL.mpr ?_
  | with_reducible refine X_mif ?_
  | with_reducible refine W_mIxS.mpr ?_
  | with_reducible refine W_mYes.mpr ?_
  | with_reducible refine W_sPar3.mpr ?_
  | with_reducible refine W_mApp.mpr ?_
  | with_reducible refine W_mBor.mpr ?_
  | with_reducible refine CLX.W_sFz.mpr ?_)
local macro_rules | `(tactic| walk_at "s") => `(tactic| first
  | ((with_reducible refine is_W ?_); walk_at "f")
  | ((with_reducible refine is_ex ?_); first
    | ((with_reducible refine is_evS ?_); refine ⟨_, rfl, ?_⟩)
    | ((with_reducible apply call_st); (· with_reducible assumption))
    | with_reducible refine ⟨_, by with_reducible assumption, ?_⟩
    | with_reducible refine W_mBr1.mpr ?_
    | walk_at "e")
  | ((with_reducible apply X_nx); (· walk_at "o"))
  | with_reducible refine Kq_ret.mpr ?_
  | with_reducible refine Kq_brk.mpr ?_
  | with_reducible refine Kq_cnt.mpr ?_
  | ((with_reducible apply X_fnx); (· walk_at "o"))
  | ((with_reducible apply X_fcnt); (· walk_at "o"))
  | with_reducible refine X_fbrk ?_
  | with_reducible refine X_fret ?_
  | ((with_reducible refine is_ltA ?_); refine ⟨?_, ?_⟩; (· first | decide | omega | (simp; omega) | (simp; done)))
  | with_reducible refine parW_mk.mpr ?_
  | with_reducible refine par3W_mk.mpr ?_)
local macro_rules | `(tactic| walk_at "r") => `(tactic| repeat walk_at "s")
local macro_rules | `(tactic| walk_at "u") => `(tactic| first | ((apply X_forC); (· walk_at "o"); (· rfl)) | ((apply X_compY); (· walk_at "o"); (· rfl)) | ((apply X_compC); (· walk_at "o"); (· rfl)))
local macro_rules | `(tactic| walk_at "g") => `(tactic| repeat first | walk_at "s" | (with_reducible refine go_ifF (rfl : _ = false) ?_) | (with_reducible refine go_ifT (rfl : _ = true) ?_) | (refine go_ifF (rfl : _ = false) ?_) | (refine go_ifT (rfl : _ = true) ?_) | walk_at "u")
def PA (A B : List Pn) (i : Nat) : Bool := match A[i]? with | some c => decide (c ∈ B) | none => false
theorem in_pnT {c : Pn} {F : List Pn} : bInB (pnD c) (.tup (F.map pnD)) = some (.bl (decide (c ∈ F))) := by
  have h1 : D.okB 60 (pnD c) = true := by simp [pnD, pt, D.okB, D.okL]
  have h2 : D.okB 60 (.tup (F.map pnD)) = true := by simp only [D.okB]; exact CLT.okL_pn
  have h3 : ((F.map pnD).any fun z => D.eqv z (pnD c)) = decide (c ∈ F) := by
    rw [Bool.eq_iff_iff, List.any_eq_true, decide_eq_true_iff]
    constructor
    · rintro ⟨z, hz, e⟩
      obtain ⟨p, hp, rfl⟩ := List.mem_map.mp hz
      rw [eqv_pn2, decide_eq_true_iff] at e
      rw [← e]; exact hp
    · exact fun h => ⟨_, List.mem_map_of_mem h, by rw [eqv_pn2]; simp⟩
  simp only [bInB, bInT, h1, h2, h3, Bool.and_self, if_true]
end CLSD
namespace CLSD
end CLSD
namespace CLSD
open PySem PySem.Spec L2 CL CLG CLX CLE CLN CLB
def Nx (A : List Pn) (a b : Pn) : Prop := ∃ i : Nat, A[i]? = some a ∧ A[i + 1]? = some b
def Adj (A : List Pn) (a b : Pn) : Prop := Nx A a b ∨ Nx A b a
theorem Adj.symm {A : List Pn} {a b : Pn} (h : Adj A a b) : Adj A b a := Or.symm h
/-- seen from c one way -/
structure SameDir (c p q : Pn) : Prop where
  cr : (p.x - c.x) * (q.y - c.y) = (p.y - c.y) * (q.x - c.x)
  dt : 0 < (p.x - c.x) * (q.x - c.x) + (p.y - c.y) * (q.y - c.y)
def Sep (A B : List Pn) : Prop := ∀ c p q, Adj A c p → Adj B c q → SameDir c p q → p = q
theorem SameDir.symm {c p q : Pn} (h : SameDir c p q) : SameDir c q p := ⟨by have := h.cr; rw [Int.mul_comm (q.x - c.x), Int.mul_comm (q.y - c.y)]; exact this.symm, by have := h.dt; rw [Int.mul_comm (q.x - c.x), Int.mul_comm (q.y - c.y)]; exact this⟩
theorem Sep.symm {A B : List Pn} (h : Sep A B) : Sep B A := fun c p q h1 h2 h3 => (h c q p h2 h1 h3.symm).symm
structure Aff where
  a : Int
  b : Int
  c : Int
  d : Int
  r : Int
  u : Int
def Aff.ap (m : Aff) (z : Pn) : Pn := ⟨m.a * z.x + m.b * z.y + m.r, m.c * z.x + m.d * z.y + m.u⟩
structure Aff.ok (m : Aff) : Prop where
  det : m.a * m.d - m.b * m.c ≠ 0
  a : m.a.natAbs ≤ 700
  b : m.b.natAbs ≤ 700
  c : m.c.natAbs ≤ 700
  d : m.d.natAbs ≤ 700
  r : m.r.natAbs ≤ 850000
  u : m.u.natAbs ≤ 850000
theorem Aff.ok.inj {m : Aff} (h : m.ok) {x y : Pn} (e : m.ap x = m.ap y) : x = y := by
  have e1 : m.a * x.x + m.b * x.y + m.r = m.a * y.x + m.b * y.y + m.r := congrArg Pn.x e
  have e2 : m.c * x.x + m.d * x.y + m.u = m.c * y.x + m.d * y.y + m.u := congrArg Pn.y e
  have f1 : (m.a * m.d - m.b * m.c) * (x.x - y.x) = 0 := by grind
  have f2 : (m.a * m.d - m.b * m.c) * (x.y - y.y) = 0 := by grind
  rcases Int.mul_eq_zero.mp f1 with z | z
  · exact absurd z h.det
  · rcases Int.mul_eq_zero.mp f2 with w | w
    · exact absurd w h.det
    · exact CLE.pn_eq ⟨by omega, by omega⟩
theorem sq0 (s : Int) : 0 ≤ s * s := by
  rcases Int.le_total 0 s with h | h
  · exact Int.mul_nonneg h h
  · exact Int.mul_nonneg_of_nonpos_of_nonpos h h
end CLSD
namespace CLSD
open PySem PySem.Spec L2 CL CLG CLX CLE CLN CLB
def crs (c p q : Pn) : Int := (p.x - c.x) * (q.y - c.y) - (p.y - c.y) * (q.x - c.x)
def dts (c p q : Pn) : Int := (p.x - c.x) * (q.x - c.x) + (p.y - c.y) * (q.y - c.y)
theorem len_pos {c a : Pn} (h : a ≠ c) : 0 < dts c a a := by
  unfold dts
  have h1 := sq0 (a.x - c.x)
  have h2 := sq0 (a.y - c.y)
  rcases Int.lt_or_eq_of_le (show 0 ≤ (a.x - c.x) * (a.x - c.x) + (a.y - c.y) * (a.y - c.y) by omega) with z | z
  · exact z
  · exfalso
    have e1 : (a.x - c.x) * (a.x - c.x) = 0 := by omega
    have e2 : (a.y - c.y) * (a.y - c.y) = 0 := by omega
    have g1 : a.x - c.x = 0 := by rcases Int.mul_eq_zero.mp e1 with q | q <;> exact q
    have g2 : a.y - c.y = 0 := by rcases Int.mul_eq_zero.mp e2 with q | q <;> exact q
    exact h (CLE.pn_eq ⟨by omega, by omega⟩)
end CLSD
namespace CL
open PySem PySem.Spec L2 PyProof.Rows
theorem args_sum2 (a b : Value) : argsOk "sum" ⟨[a, b], []⟩ := by unfold argsOk; kernel_rfl
section
variable {prog : Program} {w : World} {A : Around} {R : Result → Shared → Prop}
theorem sumL_loop {I ax S : Addr} {items : Array Value} {ts : List (List Value)} (hh : A.in1.handled = none) (hne : ax ≠ I) (hSI : S ≠ I) (hSa : S ≠ ax) (hts : ts.length = items.size) :
    ∀ (k i : Nat) (s : Shared) (T : Addr) (acc : List Value) (n c : Nat), items.size - i = k → i ≤ items.size → s.heap.IsListIter I ax i → s.heap.IsList ax items →
    s.heap.get? S = some { cls := .type "list", dict := none, data := .seq #[.ref T] c, slots := #[] } → IsL s.heap T acc.toArray n → T ≠ S → T ≠ I →
    (∀ j, i ≤ j → j < items.size → ∃ a l m, items[j]? = some (.ref a) ∧ a ≠ S ∧ a ≠ I ∧ ts[j]? = some l ∧ IsL s.heap a l.toArray m) →
    acc.length + (ts.drop i).flatten.length ≤ sizeLine →
    (∀ h' tk T' n', (∀ b o, b ≠ I → b ≠ S → s.heap.get? b = some o → h'.get? b = some o) → IsL h' T' (acc ++ (ts.drop i).flatten).toArray n' → (T' = T ∨ S < T') → R (.ok (.ret (.ref T'))) { s with heap := h', toks := tk }) →
    codeAny (model prog w) A (.builtin "sum.loop" ⟨[.ref I, .ref S, rawInt 2, rawInt 0], []⟩) R s := by
  have W := Walks.list (prog := prog) (w := w) hh I ax hne items
  intro k
  induction k with
  | zero =>
    intro i s T acc n c hk hi hit hax hS hT hTS hTI hall hz hR
    have hin : i = items.size := by omega
    subst hin
    refine codeAny_builtin F.entry_sum_loop ?_
    rw [Around.under_plainId F.plain_sum_loop _]
    show wpAny _ A.in1 (seqItems? (.ref S) >>= _) _ _ s
    refine wpAny_bind (wpAny_seqItems hS rfl ?_)
    show wpAny _ A.in1 (tryCatch (pyNext (.ref I)) _ >>= _) _ _ s
    refine wpAny_bind (wpAny_tryCatch (W.done s _ _ ⟨hit, hax⟩ fun h' tk hk' => ?_))
    have hk2 : ∀ b o, b ≠ I → s.heap.get? b = some o → h'.get? b = some o := fun b o hb e => hk' b o (by simpa using hb) e
    have e0 : ts.drop items.size = [] := List.drop_eq_nil_of_le (by omega)
    refine wpAny_pure (hR h' tk T n (fun b o hb _ e => hk2 b o hb e) ?_ (.inl rfl))
    rw [e0, List.flatten_nil, List.append_nil]
    exact hk2 T _ hTI hT
  | succ k ih =>
    intro i s T acc n c hk hi hit hax hS hT hTS hTI hall hz hR
    have hlt : i < items.size := by omega
    refine codeAny_builtin F.entry_sum_loop ?_
    rw [Around.under_plainId F.plain_sum_loop _]
    show wpAny _ A.in1 (seqItems? (.ref S) >>= _) _ _ s
    refine wpAny_bind (wpAny_seqItems hS rfl ?_)
    show wpAny _ A.in1 (tryCatch (pyNext (.ref I)) _ >>= _) _ _ s
    refine wpAny_bind (wpAny_tryCatch (W.item i s _ _ hlt ⟨hit, hax⟩ fun v h' tk hP hst' hk' => ?_))
    have hk2 : ∀ b o, b ≠ I → s.heap.get? b = some o → h'.get? b = some o := fun b o hb e => hk' b o (by simpa using hb) e
    obtain ⟨a, l, m, ea, haS, haI, hl, hLa⟩ := hall i (Nat.le_refl _) hlt
    have hv : v = .ref a := by rw [show items[i]? = some v from hP] at ea; exact Option.some.inj ea
    subst hv
    have hS' := hk2 S _ hSI hS
    have hT' : IsL h' T acc.toArray n := hk2 T _ hTI hT
    have hA' : IsL h' a l.toArray m := hk2 a _ haI hLa
    have hdrop : ts.drop i = l :: ts.drop (i + 1) := by
      have hi' : i < ts.length := by omega
      rw [List.drop_eq_getElem_cons hi']
      congr 1
      have := List.getElem?_eq_getElem hi'
      rw [hl] at this
      exact (Option.some.inj this).symm
    rw [hdrop, List.flatten_cons] at hz hR
    rw [List.length_append] at hz
    show wpAny _ A.in1 ((holding [Value.ref a] (binaryOp .Add (.ref T) (.ref a))).attempt >>= _) _ _ _
    refine wpAny_bind (wpAny_attempt (wpAny_holding (PySem.P.add_list hT' hA' ?_ (by simp only [List.size_toArray]; omega))))
    have key : acc.toArray ++ l.toArray = (acc ++ l).toArray := by simp
    rw [key]
    have hlt1 : S < h'.objs.size := Heap.lt_size hS'
    have hI1 : ∃ o, h'.get? I = some o := let ⟨o, ho, _⟩ := hst'.1; ⟨o, ho⟩
    have hlt2 : I < h'.objs.size := let ⟨_, ho⟩ := hI1; Heap.lt_size ho
    show wpAny _ A.in1 (updateSeq S (fun _ => #[.ref h'.objs.size]) >>= _) _ _ _
    refine wpAny_bind (wpAny_updateSeq (Heap.get?_push_of_some _ hS') rfl ?_)
    have hS₂ := Heap.get?_update_self (Obj.mapSeq fun _ => #[Value.ref h'.objs.size]) (Heap.get?_push_of_some { cls := .type "list", data := .seq (acc ++ l).toArray } hS') rfl
    refine wpAny_bind (wpAny_letGo ?_)
    have up : ∀ b o, b ≠ S → h'.get? b = some o → (((h'.push { cls := .type "list", data := .seq (acc ++ l).toArray }).update S (Obj.mapSeq fun _ => #[Value.ref h'.objs.size])).update S (Obj.mapSeq fun _ => #[Value.ref h'.objs.size])).get? b = some o := fun b o hb e =>
      (Heap.get?_update_other _ _ (Ne.symm hb)).trans ((Heap.get?_update_other _ _ (Ne.symm hb)).trans (Heap.get?_push_of_some _ e))
    have upN : (((h'.push { cls := .type "list", data := .seq (acc ++ l).toArray }).update S (Obj.mapSeq fun _ => #[Value.ref h'.objs.size])).update S (Obj.mapSeq fun _ => #[Value.ref h'.objs.size])).get? h'.objs.size = some { cls := .type "list", data := .seq (acc ++ l).toArray } :=
      (Heap.get?_update_other _ _ (Nat.ne_of_lt hlt1)).trans ((Heap.get?_update_other _ _ (Nat.ne_of_lt hlt1)).trans (Heap.get?_push_size _ rfl))
    refine wpAny_bind (wpAny_updateSeq hS₂ rfl (wpAny_pure ⟨plainId_quiet F.plain_sum_loop _, ih (i + 1) _ h'.objs.size (acc ++ l) 0 _ (by omega) hlt (hst'.1.at fun o e => up I o (Ne.symm hSI) e) (hst'.2.at fun o e => up ax o (Ne.symm hSa) e) (Heap.get?_update_self _ hS₂ rfl) upN (Ne.symm (Nat.ne_of_lt hlt1)) (Ne.symm (Nat.ne_of_lt hlt2)) (fun j h1 h2 => ?_) (by rw [List.length_append]; omega) fun h2 tk2 T2 n2 hk3 hT2 hor => ?_⟩))
    · obtain ⟨a2, l2, m2, q1, q2, q3, q4, q5⟩ := hall j (by omega) h2
      exact ⟨a2, l2, m2, q1, q2, q3, q4, up a2 _ q2 (hk2 a2 _ q3 q5)⟩
    · refine hR h2 tk2 T2 n2 (fun b o hb hbS e => hk3 b o hb hbS (up b o hbS (hk2 b o hb e))) (by rw [List.append_assoc] at hT2; exact hT2) (.inr ?_)
      rcases hor with rfl | hor
      · exact hlt1
      · exact hor
end
theorem sub_list_str : isSubtype (.type "list") (.type "str") = pure false := by rw [isSubtype_type]; kernel_rfl
theorem sub_list_bytes : isSubtype (.type "list") (.type "bytes") = pure false := by rw [isSubtype_type]; kernel_rfl
theorem sub_list_bytearray : isSubtype (.type "list") (.type "bytearray") = pure false := by rw [isSubtype_type]; kernel_rfl
section
variable {prog : Program} {w : World} {A : Around} {E : Value → Shared → Prop} {s : Shared}
theorem call_sumL {ax b : Addr} {items : Array Value} {ts : List (List Value)} {n : Nat} {Q : Value → Shared → Prop} (hh : A.handled = none) (hl : s.heap.IsList ax items) (hb : IsL s.heap b #[] n) (hts : ts.length = items.size)
    (hall : ∀ j, j < items.size → ∃ a l m, items[j]? = some (.ref a) ∧ ts[j]? = some l ∧ IsL s.heap a l.toArray m) (hz : ts.flatten.length ≤ sizeLine)
    (h : ∀ h' tk T' n', (∀ b o, s.heap.get? b = some o → h'.get? b = some o) → IsL h' T' ts.flatten.toArray n' → (T' = b ∧ ts.flatten = [] ∨ s.heap.objs.size ≤ T') → Q (.ref T') { s with heap := h', toks := tk }) :
    wpAny (model prog w) A (call (.builtin "sum") [.ref ax, .ref b]) Q E s := by
  have hax : ax < s.heap.objs.size := let ⟨_, ho, _⟩ := hl; Heap.lt_size ho
  have hbx : b < s.heap.objs.size := Heap.lt_size hb
  refine call_function_tree F.kind_sum F.plain_sum F.entry_sum (args_sum2 _ _) ?_
  unfold Builtin.«sum»
  simp only [List.length_cons, List.length_nil]
  rw [if_neg (by decide)]
  refine wpAny_bind (wpAny_of_eq (show Builtin.Builtins.bindParams "sum" ["start"] 0 { pos := [.ref b] } = pure [some (.ref b)] from rfl) ?_)
  refine wpAny_bind (wpAny_pyIter_list hl ?_)
  have hb1 : IsL (s.heap.push { cls := .type "list_iterator", data := .fields #[.ref ax, .int 0 0] }) b #[] n := hb.push _
  have tb : Shared.TypeIs { s with heap := s.heap.push { cls := .type "list_iterator", data := .fields #[.ref ax, .int 0 0] } } (.ref b) "list" := ⟨_, hb1, rfl⟩
  refine wpAny_bind (wpAny_pure ?_)
  simp only [List.forIn_cons, List.forIn_nil]
  refine wpAny_bind (wpAny_bind (wpAny_bind (wpAny_isInstance (T := "list") (b := false) tb sub_list_str ?_)))
  simp only [Bool.false_eq_true, if_false]
  refine wpAny_pure (wpAny_bind (wpAny_bind (wpAny_isInstance (T := "list") (b := false) tb sub_list_bytes ?_)))
  simp only [Bool.false_eq_true, if_false]
  refine wpAny_pure (wpAny_bind (wpAny_bind (wpAny_isInstance (T := "list") (b := false) tb sub_list_bytearray ?_)))
  simp only [Bool.false_eq_true, if_false]
  refine wpAny_pure (wpAny_pure ?_)
  refine wpAny_bind (wpAny_newObj_type ?_)
  have up : ∀ c o, s.heap.get? c = some o → ((s.heap.push { cls := .type "list_iterator", data := .fields #[.ref ax, .int 0 0] }).push { cls := .type "list", data := .seq #[.ref b] }).get? c = some o := fun c o e => Heap.get?_push_of_some _ (Heap.get?_push_of_some _ e)
  have sz1 : (s.heap.push { cls := .type "list_iterator", data := .fields #[.ref ax, .int 0 0] }).objs.size = s.heap.objs.size + 1 := by simp [Heap.push]
  have hIS : s.heap.objs.size < (s.heap.push { cls := .type "list_iterator", data := .fields #[.ref ax, .int 0 0] }).objs.size := by rw [sz1]; exact Nat.lt_succ_self _
  refine wpAny_pure ⟨plainId_quiet F.plain_sum_loop _, sumL_loop (I := s.heap.objs.size) (ax := ax) (S := (s.heap.push { cls := .type "list_iterator", data := .fields #[.ref ax, .int 0 0] }).objs.size) (items := items) (ts := ts) hh (Nat.ne_of_lt hax) (Nat.ne_of_gt hIS) (Nat.ne_of_gt (Nat.lt_trans hax hIS)) hts items.size 0 _ b [] n 0 rfl (Nat.zero_le _) ?_ ?_ ?_ (up b _ hb) (Nat.ne_of_lt (Nat.lt_trans hbx hIS)) (Nat.ne_of_lt hbx) (fun j _ h2 => ?_) (by simpa using hz) fun h' tk T' n' hk hT hor => ?_⟩
  · exact ⟨_, Heap.get?_push_of_some _ (Heap.get?_push_size _ rfl), rfl, rfl⟩
  · obtain ⟨o, ho, r⟩ := hl
    exact ⟨o, up ax o ho, r⟩
  · exact Heap.get?_push_size _ rfl
  · obtain ⟨a, l, m, e1, e2, e3⟩ := hall j h2
    have := Heap.lt_size e3
    exact ⟨a, l, m, e1, Nat.ne_of_lt (Nat.lt_trans this hIS), Nat.ne_of_lt this, e2, up a _ e3⟩
  · rw [List.drop_zero, List.nil_append] at hT
    refine h h' tk T' n' (fun c o e => hk c o (Nat.ne_of_lt (Heap.lt_size e)) (Nat.ne_of_lt (Nat.lt_trans (Heap.lt_size e) hIS)) (up c o e)) hT ?_
    rcases hor with rfl | hor
    · refine .inl ⟨rfl, ?_⟩
      have e1 := hk T' _ (Nat.ne_of_lt hbx) (Nat.ne_of_lt (Nat.lt_trans hbx hIS)) (up T' _ hb)
      have e2 := hT
      unfold IsL at e2
      rw [e1] at e2
      injection e2 with e3
      injection e3 with _ _ e4 _
      injection e4 with e5 _
      have := congrArg Array.toList e5
      simpa using this.symm
    · exact .inr (Nat.le_of_lt (Nat.lt_trans hIS hor))
end
def catL : List D → Option (List D)
  | [] => some []
  | .lst l :: r => (catL r).map (l ++ ·)
  | _ => none
/-- sum(lists, []) -/
def sumL : List D → Option D
  | [.lst ls, .lst []] => (catL ls).bind fun l => if l.length ≤ 4000000 then some (.lst l) else none
  | _ => none
def rFnS [Tb] (K : PySem.W.Frag) (f : List D → Option D) : List V → Hp → VK → Prop := fun xs H Q => ∃ Z ds d, RShL K Z H ds xs ∧ f ds = some d ∧ ∀ v H' S, Grow H H' → RF K Z H' d v S → NewS H H' S → Q v H'
section
variable [Tb] {X : Cx}
theorem cat_vals {pins : List (Addr × Obj)} {σ : L2.St} {H : Hp} {s : Shared} {Z : Addr → Prop} (I : Inv X pins σ H s) : ∀ {ls l : List D} {xs : List V} {its : List Value}, catL ls = some l → RShL X.K Z H ls xs → Vals xs its →
    ∃ (ys : List V) (ts : List (List Value)), RShL X.K Z H l ys ∧ Vals ys ts.flatten ∧ ts.length = its.length ∧ ∀ j, j < its.length → ∃ a lj m, its[j]? = some (.ref a) ∧ ts[j]? = some lj ∧ IsL s.heap a lj.toArray m
  | [], l, xs, its, e, r, v => by
    unfold catL at e
    cases e
    simp only [RShL] at r
    subst r
    cases v
    exact ⟨[], [], rfl, .nil, rfl, fun j h => absurd h (Nat.not_lt_zero _)⟩
  | d :: ls, l, xs, its, e, r, v => by
    cases d with
    | lst l0 =>
      unfold catL at e
      obtain ⟨l1, e1, rfl⟩ := Option.map_eq_some_iff.mp e
      simp only [RShL] at r
      obtain ⟨w, ws, rfl, r1, r2⟩ := r
      simp only [RSh] at r1
      obtain ⟨a, x0, rfl, _, h0, q0⟩ := r1
      cases v with
      | cons v1 v2 =>
        rename_i u us
        cases v1
        obtain ⟨_, i0, n0, vv, ob⟩ := I.hok a _ h0
        obtain ⟨ys, ts, g1, g2, g3, g4⟩ := cat_vals I e1 r2 v2
        refine ⟨x0 ++ ys, i0 :: ts, q0.append g1, vv.append g2, by simp [g3], fun j hj => ?_⟩
        cases j with
        | zero => exact ⟨a, i0, n0, rfl, rfl, ob⟩
        | succ j =>
          obtain ⟨a2, lj, m, f1, f2, f3⟩ := g4 j (by simpa using hj)
          exact ⟨a2, lj, m, by simpa using f1, by simpa using f2, f3⟩
    | _ => unfold catL at e; cases e
theorem c_sumL (hc : X.calm = true) : CallR X (.builtin "sum") (rFnS X.K sumL) := by
  intro pins s σ H xs us Q I r h
  obtain ⟨Z, ds, d, pl, e, k⟩ := h
  unfold sumL at e
  split at e
  · rename_i ls
    obtain ⟨l, e1, e2⟩ := Option.bind_eq_some_iff.mp e
    split at e2
    · rename_i hl
      cases e2
      simp only [RShL] at pl
      obtain ⟨v, ws, rfl, p1, v2, ws2, rfl, p2, rfl⟩ := pl
      have p2' := p2
      simp only [RSh, RShL] at p1 p2
      obtain ⟨ax, x0, rfl, z1, h1, l1⟩ := p1
      obtain ⟨b, y0, rfl, z2, h2, rfl⟩ := p2
      obtain ⟨hz1, its, n1, v1, o1⟩ := I.hok ax _ h1
      obtain ⟨hz2, i2, n2, vv2, o2⟩ := I.hok b _ h2
      cases vv2
      cases r with
      | cons r1 rt =>
        cases rt with
        | cons r2 rt2 =>
          cases rt2
          cases r1
          cases r2
          obtain ⟨ys, ts, g1, g2, g3, g4⟩ := cat_vals I e1 l1 v1
          have hly : ys.length = l.length := g1.len.symm
          have hlt : ts.flatten.length = ys.length := g2.length.symm
          have hsl := sizeLine_eq
          refine call_sumL (ax := ax) (b := b) (items := its.toArray) (ts := ts) (I.ok.hd hc) ⟨_, o1, rfl, n1, rfl⟩ o2 (by simpa using g3) (fun j hj => ?_) (by omega) fun h' tk T' n' hk hT hor => ?_
          · obtain ⟨a, lj, m, f1, f2, f3⟩ := g4 j (by simpa using hj)
            exact ⟨a, lj, m, by simpa using f1, f2, f3⟩
          · rcases hor with ⟨rfl, he⟩ | hor
            · rw [he] at g2
              cases g2
              have : l = [] := List.eq_nil_of_length_eq_zero (by simpa using hly.symm)
              subst this
              exact ⟨.ref T', H, I.kept hk, rfl, k _ _ (fun _ => False) Grow.refl (.inl p2') NewS.none⟩
            · exact ⟨.ref T', upd H T' (.lst ys), I.laid (t' := tk) hk hor ⟨by omega, ts.flatten, n', g2, hT⟩, rfl, finL (I.hok.fresh hor) g1 k⟩
    · cases e2
  · cases e
theorem naryS {τ : Nat → OT} {q : Bool} {ms : M (List D)} {f : List D → Option D} : ∀ σ H Q, tE X.K τ q .sh (mN f ms) σ H Q → tCB (rFnS X.K f) (tAs X.K τ q ms) σ H Q := fun σ H Q ⟨Z, own, ρ, d, ρ', rs, e, k⟩ => by
  obtain ⟨xs, ρ1, e1, e⟩ := bind_ok e
  obtain ⟨e3, rfl⟩ := ofO_ok e
  exact ⟨Z, own, ρ, xs, ρ', rs, e1, fun vs Z1 own1 H1 rs1 rl x1 => ⟨Z1, xs, d, rl, e3, fun u H3 S g r n => fin_sh rs1 x1 g r n k⟩⟩
theorem e_callBS {τ : Nat → OT} {q : Bool} {e : Expr} {es : List Expr} {ms : M (List D)} {pos : Pos} {f : List D → Option D} {x : Str} {id : String} {p : Pos} (hc : CallR X (.builtin id) (rFnS X.K f)) (ha : PA X (e :: es) (tAs X.K τ q ms)) (hg : Gl X x := by rfl) (hm : X.mg x = none := by assumption) (hv : bootBuiltins x = some (.builtin id) := by decide +kernel) (hn : x ≠ "__name__" := by decide) (hdb : (x == ("__debug__" : Str)) = false := by decide) (hst : starEach (e :: es) X.env = (false, eval e X.env) :: starEach es X.env := by rfl) (hpl : (backTo pos (starEach es X.env)).any (·.1) = false := by rfl) :
    PE X (.Call (.Name x p) (e :: es) [] pos) (tE X.K τ q .sh (mN f ms)) := (pe_callB hc hg hm hv ha hn hdb hst hpl).mono naryS
end
end CL
namespace CLTR
open PySem PySem.Spec L2 CL CLG CLX CLE CLN CLSD
/-- c lies between a and b -/
structure On (c a b : Pn) : Prop where
  cr : crs c a b = 0
  dt : dts c a b < 0
theorem lt_ne {a b : Pn} (h : a.lt b = true) : a ≠ b := by
  rintro rfl
  rw [Pn.lt_iff] at h
  omega
theorem betw {a b c : Pn} (h : crs a b c = 0) (h1 : a.lt c = true) (h2 : c.lt b = true) : On c a b := by
  rw [Pn.lt_iff] at h1 h2
  have e0 : crs c a b = 0 := by
    have : crs c a b = crs a b c := by unfold crs; grind
    rw [this]; exact h
  refine ⟨e0, ?_⟩
  have e1 : (a.x - c.x) * (b.y - c.y) = (a.y - c.y) * (b.x - c.x) := by unfold crs at e0; omega
  unfold dts
  by_cases q1 : a.x < c.x
  · by_cases q2 : c.x < b.x
    · have t1 : (a.x - c.x) * (b.x - c.x) < 0 := Int.mul_neg_of_neg_of_pos (by omega) (by omega)
      have t2 : (a.y - c.y) * (b.y - c.y) ≤ 0 := by
        refine Int.not_lt.mp fun w => ?_
        rcases Int.lt_trichotomy (a.y - c.y) 0 with g | g | g
        · have g2 : b.y - c.y < 0 := by
            refine Int.not_le.mp fun z => ?_
            have := Int.mul_nonpos_of_nonpos_of_nonneg (Int.le_of_lt g) z
            omega
          have := Int.mul_pos_of_neg_of_neg (show a.x - c.x < 0 by omega) g2
          have := Int.mul_neg_of_neg_of_pos g (show 0 < b.x - c.x by omega)
          omega
        · rw [g] at w; omega
        · have g2 : 0 < b.y - c.y := Int.pos_of_mul_pos_right w (by omega)
          have := Int.mul_neg_of_neg_of_pos (show a.x - c.x < 0 by omega) g2
          have := Int.mul_pos g (show 0 < b.x - c.x by omega)
          omega
      omega
    · have q3 : c.x = b.x ∧ c.y < b.y := by omega
      rw [q3.1, Int.sub_self, Int.mul_zero] at e1
      rcases Int.mul_eq_zero.mp e1 with z | z
      · omega
      · omega
  · have q3 : a.x = c.x ∧ a.y < c.y := by omega
    rw [q3.1, Int.sub_self, Int.zero_mul] at e1
    rcases Int.mul_eq_zero.mp e1.symm with z | z
    · omega
    · have t2 : (a.y - c.y) * (b.y - c.y) < 0 := Int.mul_neg_of_neg_of_pos (by omega) (by omega)
      rw [q3.1, Int.sub_self, Int.zero_mul]
      omega
def parted (x y : Int) : Bool := (decide (x < 0) && decide (0 < y)) || (decide (y < 0) && decide (0 < x))
/-- the program: they cross -/
def crP (a b c d : Pn) : Bool := parted (crs a b c) (crs a b d) && parted (crs c d a) (crs c d b)
/-- the law's -/
def hitE (c d : Pn) (s : CLG.Sp) (e : Pn) : Bool := (decide (e = c) || decide (e = d)) && (decide (e.x * s.d = s.n) && decide (e.y * s.d = s.m))
def crL (a b c d : Pn) : Bool := match CLK.raw (lnk1 a b) (lnk1 c d) with
  | [] => false
  | [s] => !(hitE c d s a || hitE c d s b)
  | _ => true
theorem parted_iff {x y : Int} : parted x y = true ↔ (x < 0 ∧ 0 < y) ∨ (y < 0 ∧ 0 < x) := by
  unfold parted
  rw [Bool.or_eq_true, Bool.and_eq_true, Bool.and_eq_true, decide_eq_true_iff, decide_eq_true_iff, decide_eq_true_iff, decide_eq_true_iff]
theorem m_is {a b c d : Pn} : (lnk1 a b).m (lnk1 c d) = crs a b d - crs a b c := by simp only [Li.m, lnk1, CLG.turn, crs]; grind
theorem far_is {a b c d : Pn} : (lnk1 a b).far (lnk1 c d) = crs a b c := by simp only [Li.far, lnk1, CLG.turn, crs]
theorem k_is {a b c d : Pn} : (lnk1 a b).k (lnk1 c d) = crs c d a := by simp only [Li.k, lnk1, CLG.turn, crs]; grind
theorem l_is {a b c d : Pn} : (lnk1 a b).l (lnk1 c d) = -crs a b c := by simp only [Li.l, lnk1, CLG.turn, crs]; grind
theorem four_is {a b c d : Pn} : crs c d a - crs c d b = crs a b d - crs a b c := by unfold crs; grind
theorem line_on {a b c d : Pn} (hab : a ≠ b) (h1 : crs a b c = 0) (h2 : crs a b d = 0) : crs c d a = 0 ∧ crs c d b = 0 := by
  have i1 : (b.x - a.x) * crs c d a = (c.x - a.x) * (crs a b d - crs a b c) - (d.x - c.x) * crs a b c := by unfold crs; grind
  have i2 : (b.y - a.y) * crs c d a = (c.y - a.y) * (crs a b d - crs a b c) - (d.y - c.y) * crs a b c := by unfold crs; grind
  rw [h1, h2] at i1 i2
  have z : crs c d a = 0 := by
    have j1 : (b.x - a.x) * crs c d a = 0 := by rw [i1]; simp
    have j2 : (b.y - a.y) * crs c d a = 0 := by rw [i2]; simp
    rcases Int.mul_eq_zero.mp j1 with q | q
    · rcases Int.mul_eq_zero.mp j2 with q' | q'
      · exact absurd (CLE.pn_eq ⟨by omega, by omega⟩) hab
      · exact q'
    · exact q
  have := four_is (a := a) (b := b) (c := c) (d := d)
  rw [h1, h2, z] at this
  exact ⟨z, by omega⟩
theorem lt_tri {a b : Pn} (h : a ≠ b) : a.lt b = true ∨ b.lt a = true := by
  cases h1 : a.lt b with
  | true => exact .inl rfl
  | false =>
    cases h2 : b.lt a with
    | true => exact .inr rfl
    | false => exact absurd (Pn.eq_of h1 h2) h
theorem lt_asym {a b : Pn} (h : a.lt b = true) : b.lt a = false := by
  rw [Pn.lt_iff] at h
  rw [Pn.nlt_iff]
  omega
theorem lt_trans' {a b c : Pn} (h : a.lt b = true) (h' : b.lt c = true) : a.lt c = true := by
  rw [Pn.lt_iff] at *
  omega
/-- two links along one straight line, with no end of one inside the other: at most an end in common -/
theorem cross_flat {a b c d : Pn} (hab : a.lt b = true) (hcd : c.lt d = true) (hne : (a, b) ≠ (c, d)) (h0 : crs a b c = 0) (h0' : crs a b d = 0)
    (n1 : ¬ On c a b) (n2 : ¬ On d a b) (n3 : ¬ On a c d) (n4 : ¬ On b c d) : crL a b c d = false := by
  obtain ⟨z1, z2⟩ := line_on (lt_ne hab) h0 h0'
  have hm : (lnk1 a b).m (lnk1 c d) = 0 := by rw [m_is]; omega
  have hf : (lnk1 a b).far (lnk1 c d) = 0 := by rw [far_is]; exact h0
  have e1 : (lnk1 a b).lo = a := by
    show pmin a b = a
    unfold pmin
    rw [lt_asym hab]; rfl
  have e2 : (lnk1 a b).hi = b := by
    show pmax a b = b
    unfold pmax
    rw [hab]; rfl
  have e3 : (lnk1 c d).lo = c := by
    show pmin c d = c
    unfold pmin
    rw [lt_asym hcd]; rfl
  have e4 : (lnk1 c d).hi = d := by
    show pmax c d = d
    unfold pmax
    rw [hcd]; rfl
  unfold crL CLK.raw
  rw [if_pos hm, if_pos hf]
  unfold Li.along
  rw [e1, e2, e3, e4]
  cases hx : (pmin b d).lt (pmax a c) with
  | true => simp
  | false =>
    rw [if_neg (by simp)]
    have b1 : ∀ e : Pn, e = a ∨ e = b → e = c ∨ e = d → hitE c d ⟨e.x, e.y, 1⟩ a = true ∨ hitE c d ⟨e.x, e.y, 1⟩ b = true := fun e he he' => by
      rcases he with rfl | rfl
      · left
        unfold hitE
        rcases he' with h | h <;> simp [h]
      · right
        unfold hitE
        rcases he' with h | h <;> simp [h]
    have key : ∀ e : Pn, e = a ∨ e = b → e = c ∨ e = d → (!(hitE c d ⟨e.x, e.y, 1⟩ a || hitE c d ⟨e.x, e.y, 1⟩ b)) = false := fun e h1 h2 => by
      rcases b1 e h1 h2 with q | q <;> simp [q]
    by_cases hac : a = c
    · subst hac
      exfalso
      have hbd : b ≠ d := fun e => hne (by rw [e])
      rcases lt_tri hbd with q | q
      · exact n4 (betw z2 hab q)
      · exact n2 (betw h0' hcd q)
    · rcases lt_tri hac with q | q
      · have hp : pmax a c = c := by unfold pmax; rw [q]; rfl
        rw [hp] at hx ⊢
        by_cases hcb : c = b
        · have hmin : pmin b d = b := by unfold pmin; rw [hcb] at hcd; rw [lt_asym hcd]; rfl
          rw [hmin, if_pos hcb]
          exact key c (.inr hcb) (.inl rfl)
        · exfalso
          rcases lt_tri hcb with w | w
          · exact n1 (betw h0 q w)
          · have : (pmin b d).lt c = true := by
              unfold pmin
              split
              · rename_i g; exact absurd (lt_trans' w hcd) (by rw [lt_asym g]; simp)
              · exact w
            rw [this] at hx; cases hx
      · have hp : pmax a c = a := by unfold pmax; rw [lt_asym q]; rfl
        rw [hp] at hx ⊢
        by_cases had : a = d
        · have hmin : pmin b d = d := by unfold pmin; rw [had] at hab; rw [hab]; rfl
          rw [hmin, if_pos had]
          exact key a (.inl rfl) (.inr had)
        · exfalso
          rcases lt_tri had with w | w
          · exact n3 (betw z1 q w)
          · have : (pmin b d).lt a = true := by
              unfold pmin
              split
              · exact w
              · rename_i g; exact absurd (lt_trans' w hab) (by simpa using g)
            rw [this] at hx; cases hx
theorem on_of {a b e : Pn} {M k : Int} (hM : M ≠ 0) (hx : M * (e.x - a.x) = k * (b.x - a.x)) (hy : M * (e.y - a.y) = k * (b.y - a.y)) (hk : k * (k - M) < 0) (hab : a ≠ b) : On e a b := by
  have i1 : M * M * dts e a b = k * (k - M) * dts a b b := by
    have : M * M * dts e a b = (M * (e.x - a.x)) * (M * (e.x - a.x) - M * (b.x - a.x)) + (M * (e.y - a.y)) * (M * (e.y - a.y) - M * (b.y - a.y)) := by unfold dts; grind
    rw [this, hx, hy]
    unfold dts
    grind
  have i2 : M * M * crs e a b = 0 := by
    have : M * M * crs e a b = (M * (e.y - a.y)) * (M * (b.x - a.x)) - (M * (e.x - a.x)) * (M * (b.y - a.y)) := by unfold crs; grind
    rw [this, hx, hy]
    grind
  have hMM : 0 < M * M := by
    rcases Int.lt_or_eq_of_le (sq0 M) with z | z
    · exact z
    · rcases Int.mul_eq_zero.mp z.symm with q | q <;> exact absurd q hM
  refine ⟨?_, ?_⟩
  · rcases Int.mul_eq_zero.mp i2 with z | z
    · omega
    · exact z
  · have hp := Int.mul_neg_of_neg_of_pos hk (len_pos (c := a) (a := b) (Ne.symm hab))
    rw [← i1] at hp
    refine Int.not_le.mp fun z => ?_
    have := Int.mul_nonneg (Int.le_of_lt hMM) z
    omega
theorem at_0 {a b e : Pn} {M k : Int} (hM : M ≠ 0) (hx : M * (e.x - a.x) = k * (b.x - a.x)) (hy : M * (e.y - a.y) = k * (b.y - a.y)) (hk : k = 0) : e = a := by
  rw [hk, Int.zero_mul] at hx hy
  refine CLE.pn_eq ⟨?_, ?_⟩
  · rcases Int.mul_eq_zero.mp hx with z | z
    · exact absurd z hM
    · omega
  · rcases Int.mul_eq_zero.mp hy with z | z
    · exact absurd z hM
    · omega
theorem at_M {a b e : Pn} {M k : Int} (hM : M ≠ 0) (hx : M * (e.x - a.x) = k * (b.x - a.x)) (hy : M * (e.y - a.y) = k * (b.y - a.y)) (hk : k = M) : e = b := by
  subst hk
  exact CLE.pn_eq ⟨by have := Int.eq_of_mul_eq_mul_left hM hx; omega, by have := Int.eq_of_mul_eq_mul_left hM hy; omega⟩
theorem three_is {a b c d : Pn} : (crs a b d - crs a b c) * (c.x - a.x) = crs c d a * (b.x - a.x) + crs a b c * (d.x - c.x) ∧ (crs a b d - crs a b c) * (c.y - a.y) = crs c d a * (b.y - a.y) + crs a b c * (d.y - c.y) := by
  constructor <;> (unfold crs; grind)
theorem sg_cases {m : Int} (h : m ≠ 0) : (0 < m ∧ sg m = 1) ∨ (m < 0 ∧ sg m = -1) := by
  unfold sg
  split
  · exact .inr ⟨by assumption, rfl⟩
  · exact .inl ⟨by omega, rfl⟩
/-- where a corner of one link lies on the other one's line -/
theorem cross_up {a b c d : Pn} (hab : a ≠ b) (hcd : c ≠ d) (hm : crs a b d - crs a b c ≠ 0) (n1 : ¬ On c a b) (n2 : ¬ On d a b) (n3 : ¬ On a c d) (n4 : ¬ On b c d) : crL a b c d = crP a b c d := by
  obtain ⟨t1, t2⟩ := three_is (a := a) (b := b) (c := c) (d := d)
  have f := four_is (a := a) (b := b) (c := c) (d := d)
  have hm' : (lnk1 a b).m (lnk1 c d) ≠ 0 := by rw [m_is]; exact hm
  have hmeet : (lnk1 a b).meetB (lnk1 c d) = true ↔ (0 ≤ sg (crs a b d - crs a b c) * crs c d a ∧ sg (crs a b d - crs a b c) * crs c d a ≤ sg (crs a b d - crs a b c) * (crs a b d - crs a b c)) ∧ 0 ≤ sg (crs a b d - crs a b c) * -crs a b c ∧ sg (crs a b d - crs a b c) * -crs a b c ≤ sg (crs a b d - crs a b c) * (crs a b d - crs a b c) := by
    unfold Li.meetB
    rw [m_is, k_is, l_is, Bool.and_eq_true, decide_eq_true_iff, decide_eq_true_iff]
  have hraw : CLK.raw (lnk1 a b) (lnk1 c d) = if (lnk1 a b).meetB (lnk1 c d) = true then [⟨a.x * (sg (crs a b d - crs a b c) * (crs a b d - crs a b c)) + (b.x - a.x) * (sg (crs a b d - crs a b c) * crs c d a), a.y * (sg (crs a b d - crs a b c) * (crs a b d - crs a b c)) + (b.y - a.y) * (sg (crs a b d - crs a b c) * crs c d a), sg (crs a b d - crs a b c) * (crs a b d - crs a b c)⟩] else [] := by
    unfold CLK.raw
    rw [if_neg hm', m_is, k_is]
    rfl
  -- the places of the four ends
  have ea : (crs a b d - crs a b c) * (a.x - c.x) = -crs a b c * (d.x - c.x) - crs c d a * (b.x - a.x) ∧ (crs a b d - crs a b c) * (a.y - c.y) = -crs a b c * (d.y - c.y) - crs c d a * (b.y - a.y) := ⟨by grind, by grind⟩
  have eb : (crs a b d - crs a b c) * (b.x - c.x) = -crs a b c * (d.x - c.x) - crs c d b * (b.x - a.x) ∧ (crs a b d - crs a b c) * (b.y - c.y) = -crs a b c * (d.y - c.y) - crs c d b * (b.y - a.y) := ⟨by grind, by grind⟩
  have ed : (crs a b d - crs a b c) * (d.x - a.x) = crs c d a * (b.x - a.x) + crs a b d * (d.x - c.x) ∧ (crs a b d - crs a b c) * (d.y - a.y) = crs c d a * (b.y - a.y) + crs a b d * (d.y - c.y) := ⟨by grind, by grind⟩
  generalize hs1 : crs a b c = s1 at *
  generalize hs2 : crs a b d = s2 at *
  generalize hs3 : crs c d a = s3 at *
  generalize hs4 : crs c d b = s4 at *
  have hitA : ∀ X : Int, (s2 - s1) ≠ 0 → s3 = 0 → (a = c ∨ a = d) → hitE c d ⟨a.x * (sg (s2 - s1) * (s2 - s1)) + (b.x - a.x) * (sg (s2 - s1) * s3), a.y * (sg (s2 - s1) * (s2 - s1)) + (b.y - a.y) * (sg (s2 - s1) * s3), sg (s2 - s1) * (s2 - s1)⟩ a = true := fun _ _ h h' => by
    unfold hitE
    rw [h]
    rcases h' with q | q <;> simp [q]
  have hitB : s3 = s2 - s1 → (b = c ∨ b = d) → hitE c d ⟨a.x * (sg (s2 - s1) * (s2 - s1)) + (b.x - a.x) * (sg (s2 - s1) * s3), a.y * (sg (s2 - s1) * (s2 - s1)) + (b.y - a.y) * (sg (s2 - s1) * s3), sg (s2 - s1) * (s2 - s1)⟩ b = true := fun h h' => by
    unfold hitE
    rw [h]
    have g1 : b.x * (sg (s2 - s1) * (s2 - s1)) = a.x * (sg (s2 - s1) * (s2 - s1)) + (b.x - a.x) * (sg (s2 - s1) * (s2 - s1)) := by grind
    have g2 : b.y * (sg (s2 - s1) * (s2 - s1)) = a.y * (sg (s2 - s1) * (s2 - s1)) + (b.y - a.y) * (sg (s2 - s1) * (s2 - s1)) := by grind
    rw [decide_eq_true g1, decide_eq_true g2]
    rcases h' with q | q <;> simp [q]
  cases hb : (lnk1 a b).meetB (lnk1 c d) with
  | false =>
    have hn : ¬ ((lnk1 a b).meetB (lnk1 c d) = true) := by rw [hb]; simp
    rw [hmeet] at hn
    have e1 : crL a b c d = false := by unfold crL; rw [hraw, hb]; rfl
    rw [e1]
    cases hc : crP a b c d with
    | false => rfl
    | true =>
      exfalso
      unfold crP at hc
      rw [hs1, hs2, hs3, hs4, Bool.and_eq_true, parted_iff, parted_iff] at hc
      rcases sg_cases hm with ⟨q, q'⟩ | ⟨q, q'⟩ <;> rw [q'] at hn <;> omega
  | true =>
    have hy := hmeet.mp hb
    have e1 : crL a b c d = !(hitE c d ⟨a.x * (sg (s2 - s1) * (s2 - s1)) + (b.x - a.x) * (sg (s2 - s1) * s3), a.y * (sg (s2 - s1) * (s2 - s1)) + (b.y - a.y) * (sg (s2 - s1) * s3), sg (s2 - s1) * (s2 - s1)⟩ a || hitE c d ⟨a.x * (sg (s2 - s1) * (s2 - s1)) + (b.x - a.x) * (sg (s2 - s1) * s3), a.y * (sg (s2 - s1) * (s2 - s1)) + (b.y - a.y) * (sg (s2 - s1) * s3), sg (s2 - s1) * (s2 - s1)⟩ b) := by unfold crL; rw [hraw, hb]; rfl
    rw [e1]
    cases hc : crP a b c d with
    | true =>
      unfold crP at hc
      rw [hs1, hs2, hs3, hs4, Bool.and_eq_true, parted_iff, parted_iff] at hc
      have no : ∀ e : Pn, e = a ∨ e = b → hitE c d ⟨a.x * (sg (s2 - s1) * (s2 - s1)) + (b.x - a.x) * (sg (s2 - s1) * s3), a.y * (sg (s2 - s1) * (s2 - s1)) + (b.y - a.y) * (sg (s2 - s1) * s3), sg (s2 - s1) * (s2 - s1)⟩ e = false := fun e he => by
        cases hh : hitE c d ⟨a.x * (sg (s2 - s1) * (s2 - s1)) + (b.x - a.x) * (sg (s2 - s1) * s3), a.y * (sg (s2 - s1) * (s2 - s1)) + (b.y - a.y) * (sg (s2 - s1) * s3), sg (s2 - s1) * (s2 - s1)⟩ e with
        | false => rfl
        | true =>
          exfalso
          unfold hitE at hh
          rw [Bool.and_eq_true, Bool.and_eq_true, decide_eq_true_iff, decide_eq_true_iff] at hh
          obtain ⟨_, g1, g2⟩ := hh
          simp only at g1 g2
          have hk : sg (s2 - s1) * s3 ≠ 0 ∧ sg (s2 - s1) * (s2 - s1) - sg (s2 - s1) * s3 ≠ 0 := by
            rcases sg_cases hm with ⟨q, q'⟩ | ⟨q, q'⟩ <;> rw [q'] <;> omega
          rcases he with rfl | rfl
          · have w1 : (b.x - e.x) * (sg (s2 - s1) * s3) = 0 := by omega
            have w2 : (b.y - e.y) * (sg (s2 - s1) * s3) = 0 := by omega
            rcases Int.mul_eq_zero.mp w1 with z | z
            · rcases Int.mul_eq_zero.mp w2 with z' | z'
              · exact hab (CLE.pn_eq ⟨by omega, by omega⟩)
              · exact hk.1 z'
            · exact hk.1 z
          · have w1 : (e.x - a.x) * (sg (s2 - s1) * (s2 - s1) - sg (s2 - s1) * s3) = 0 := by grind
            have w2 : (e.y - a.y) * (sg (s2 - s1) * (s2 - s1) - sg (s2 - s1) * s3) = 0 := by grind
            rcases Int.mul_eq_zero.mp w1 with z | z
            · rcases Int.mul_eq_zero.mp w2 with z' | z'
              · exact hab (CLE.pn_eq ⟨by omega, by omega⟩)
              · exact hk.2 z'
            · exact hk.2 z
      rw [no a (.inl rfl), no b (.inr rfl)]; rfl
    | false =>
      have nc : ¬ (((s1 < 0 ∧ 0 < s2) ∨ (s2 < 0 ∧ 0 < s1)) ∧ ((s3 < 0 ∧ 0 < s4) ∨ (s4 < 0 ∧ 0 < s3))) := fun z => by
        have : crP a b c d = true := by
          unfold crP
          rw [hs1, hs2, hs3, hs4, Bool.and_eq_true, parted_iff, parted_iff]; exact z
        rw [this] at hc; cases hc
      have weak : (s1 ≤ 0 ∧ 0 ≤ s2 ∧ 0 ≤ s3 ∧ s4 ≤ 0) ∨ (0 ≤ s1 ∧ s2 ≤ 0 ∧ s3 ≤ 0 ∧ 0 ≤ s4) := by
        rcases sg_cases hm with ⟨q, q'⟩ | ⟨q, q'⟩ <;> rw [q'] at hy <;> omega
      have fin : (s3 = 0 ∧ (a = c ∨ a = d)) ∨ (s3 = s2 - s1 ∧ (b = c ∨ b = d)) := by
        have prod : ∀ x y : Int, ((x < 0 ∧ 0 < y) ∨ (y < 0 ∧ 0 < x)) → x * y < 0 := fun x y h => by
          rcases h with ⟨h1, h2⟩ | ⟨h1, h2⟩
          · exact Int.mul_neg_of_neg_of_pos h1 h2
          · exact Int.mul_neg_of_pos_of_neg h2 h1
        by_cases z3 : s3 = 0
        · left
          refine ⟨z3, ?_⟩
          have x1 : (s2 - s1) * (a.x - c.x) = -s1 * (d.x - c.x) := by rw [ea.1, z3]; omega
          have x2 : (s2 - s1) * (a.y - c.y) = -s1 * (d.y - c.y) := by rw [ea.2, z3]; omega
          by_cases w1 : s1 = 0
          · exact .inl (at_0 hm x1 x2 (by omega))
          · by_cases w2 : s2 = 0
            · exact .inr (at_M hm x1 x2 (by omega))
            · refine absurd (on_of hm x1 x2 ?_ hcd) n3
              have := prod s1 s2 (by omega)
              have e : -s1 * (-s1 - (s2 - s1)) = s1 * s2 := by grind
              rw [e]; exact this
        · by_cases z4 : s4 = 0
          · right
            refine ⟨by omega, ?_⟩
            have x1 : (s2 - s1) * (b.x - c.x) = -s1 * (d.x - c.x) := by rw [eb.1, z4]; omega
            have x2 : (s2 - s1) * (b.y - c.y) = -s1 * (d.y - c.y) := by rw [eb.2, z4]; omega
            by_cases w1 : s1 = 0
            · exact .inl (at_0 hm x1 x2 (by omega))
            · by_cases w2 : s2 = 0
              · exact .inr (at_M hm x1 x2 (by omega))
              · refine absurd (on_of hm x1 x2 ?_ hcd) n4
                have := prod s1 s2 (by omega)
                have e : -s1 * (-s1 - (s2 - s1)) = s1 * s2 := by grind
                rw [e]; exact this
          · exfalso
            have pr := prod s3 s4 (by omega)
            have e : s3 * (s3 - (s2 - s1)) = s3 * s4 := by
              have : s3 - (s2 - s1) = s4 := by omega
              rw [this]
            by_cases w1 : s1 = 0
            · have x1 : (s2 - s1) * (c.x - a.x) = s3 * (b.x - a.x) := by rw [t1, w1]; omega
              have x2 : (s2 - s1) * (c.y - a.y) = s3 * (b.y - a.y) := by rw [t2, w1]; omega
              exact n1 (on_of hm x1 x2 (by rw [e]; exact pr) hab)
            · have w2 : s2 = 0 := by omega
              have x1 : (s2 - s1) * (d.x - a.x) = s3 * (b.x - a.x) := by rw [ed.1, w2]; omega
              have x2 : (s2 - s1) * (d.y - a.y) = s3 * (b.y - a.y) := by rw [ed.2, w2]; omega
              exact n2 (on_of hm x1 x2 (by rw [e]; exact pr) hab)
      rcases fin with ⟨h1, h2⟩ | ⟨h1, h2⟩
      · rw [hitA 0 hm h1 h2]; rfl
      · rw [hitB h1 h2, Bool.or_true]; rfl
theorem cross_eq {a b c d : Pn} (hab : a.lt b = true) (hcd : c.lt d = true) (hne : (a, b) ≠ (c, d)) (n1 : ¬ On c a b) (n2 : ¬ On d a b) (n3 : ¬ On a c d) (n4 : ¬ On b c d) : crL a b c d = crP a b c d := by
  by_cases hm : crs a b d - crs a b c = 0
  · have e : crP a b c d = false := by
      cases h : crP a b c d with
      | false => rfl
      | true =>
        unfold crP at h
        rw [Bool.and_eq_true, parted_iff] at h
        omega
    rw [e]
    by_cases h0 : crs a b c = 0
    · exact cross_flat hab hcd hne h0 (by omega) n1 n2 n3 n4
    · unfold crL CLK.raw
      rw [if_pos (by rw [m_is]; exact hm), if_neg (by rw [far_is]; exact h0)]
  · exact cross_up (lt_ne hab) (lt_ne hcd) hm n1 n2 n3 n4
/-- a corner on a link, as the program tells it -/
def boxB (a b c : Pn) : Bool := (decide (min a.x b.x ≤ c.x) && decide (c.x ≤ max a.x b.x)) && (decide (min a.y b.y ≤ c.y) && decide (c.y ≤ max a.y b.y))
def onP (c a b : Pn) : Bool := !(decide (c = a) || decide (c = b)) && (boxB a b c && decide (crs a b c = 0))
def onL (c a b : Pn) : Bool := decide (crs c a b = 0) && decide (dts c a b < 0)
theorem onL_iff {a b c : Pn} : onL c a b = true ↔ On c a b := by
  unfold onL
  rw [Bool.and_eq_true, decide_eq_true_iff, decide_eq_true_iff]
  exact ⟨fun ⟨h1, h2⟩ => ⟨h1, h2⟩, fun ⟨h1, h2⟩ => ⟨h1, h2⟩⟩
theorem in_box {A B C : Int} : (min A B ≤ C ∧ C ≤ max A B) → (A - C) * (B - C) ≤ 0 := fun h => by
  rcases Int.le_total A B with q | q
  · exact Int.mul_nonpos_of_nonpos_of_nonneg (by omega) (by omega)
  · exact Int.mul_nonpos_of_nonneg_of_nonpos (by omega) (by omega)
theorem box_in {A B C : Int} (h : (A - C) * (B - C) ≤ 0) : min A B ≤ C ∧ C ≤ max A B := by
  by_cases q : A ≤ C <;> by_cases q' : B ≤ C
  · refine ⟨by omega, Int.not_lt.mp fun z => ?_⟩
    have := Int.mul_pos_of_neg_of_neg (show A - C < 0 by omega) (show B - C < 0 by omega)
    omega
  · omega
  · omega
  · have := Int.mul_pos (show 0 < A - C by omega) (show 0 < B - C by omega)
    omega
theorem on_eq {a b c : Pn} (hab : a ≠ b) : onP c a b = onL c a b := by
  rw [Bool.eq_iff_iff, onL_iff]
  unfold onP boxB
  rw [Bool.and_eq_true, Bool.and_eq_true, Bool.and_eq_true, Bool.and_eq_true, Bool.and_eq_true, Bool.not_eq_true', Bool.or_eq_false_iff, decide_eq_false_iff_not, decide_eq_false_iff_not, decide_eq_true_iff, decide_eq_true_iff, decide_eq_true_iff, decide_eq_true_iff, decide_eq_true_iff]
  have e0 : crs c a b = crs a b c := by unfold crs; grind
  constructor
  · rintro ⟨⟨h1, h2⟩, ⟨⟨h3, h4⟩, h5⟩⟩
    refine ⟨by rw [e0]; exact h5, ?_⟩
    have p1 := in_box h3
    have p2 := in_box h4
    unfold dts
    refine Int.not_le.mp fun z => ?_
    have z1 : (a.x - c.x) * (b.x - c.x) = 0 := by omega
    have z2 : (a.y - c.y) * (b.y - c.y) = 0 := by omega
    have cr : (a.x - c.x) * (b.y - c.y) = (a.y - c.y) * (b.x - c.x) := by
      rw [← e0] at h5
      unfold crs at h5
      omega
    rcases Int.mul_eq_zero.mp z1 with q | q <;> rcases Int.mul_eq_zero.mp z2 with q' | q'
    · exact h1 (CLE.pn_eq ⟨by omega, by omega⟩)
    · rw [q, q', Int.zero_mul] at cr
      rcases Int.mul_eq_zero.mp cr.symm with w | w
      · exact h1 (CLE.pn_eq ⟨by omega, by omega⟩)
      · exact h2 (CLE.pn_eq ⟨by omega, by omega⟩)
    · rw [q, q', Int.zero_mul] at cr
      rcases Int.mul_eq_zero.mp cr with w | w
      · exact h1 (CLE.pn_eq ⟨by omega, by omega⟩)
      · exact h2 (CLE.pn_eq ⟨by omega, by omega⟩)
    · exact h2 (CLE.pn_eq ⟨by omega, by omega⟩)
  · rintro ⟨h1, h2⟩
    have hca : c ≠ a := by rintro rfl; unfold dts at h2; simp at h2
    have hcb : c ≠ b := by rintro rfl; unfold dts at h2; simp at h2
    have kp := len_pos (c := c) (a := a) (Ne.symm hca)
    have i1 : dts c a a * ((a.x - c.x) * (b.x - c.x)) = dts c a b * ((a.x - c.x) * (a.x - c.x)) - crs c a b * ((a.x - c.x) * (a.y - c.y)) := by unfold dts crs; grind
    have i2 : dts c a a * ((a.y - c.y) * (b.y - c.y)) = dts c a b * ((a.y - c.y) * (a.y - c.y)) + crs c a b * ((a.x - c.x) * (a.y - c.y)) := by unfold dts crs; grind
    rw [h1, Int.zero_mul] at i1 i2
    have s1 := Int.mul_nonpos_of_nonpos_of_nonneg (Int.le_of_lt h2) (sq0 (a.x - c.x))
    have s2 := Int.mul_nonpos_of_nonpos_of_nonneg (Int.le_of_lt h2) (sq0 (a.y - c.y))
    have n1 : (a.x - c.x) * (b.x - c.x) ≤ 0 := Int.not_lt.mp fun z => by
      have := Int.mul_pos kp z
      omega
    have n2 : (a.y - c.y) * (b.y - c.y) ≤ 0 := Int.not_lt.mp fun z => by
      have := Int.mul_pos kp z
      omega
    exact ⟨⟨hca, hcb⟩, ⟨⟨box_in n1, box_in n2⟩, by rw [← e0]; exact h1⟩⟩
theorem apart_x {s1 s2 s3 s4 A B C D : Int} (t : (s2 - s1) * (C - A) = s3 * (B - A) + s1 * (D - C)) (f : s3 - s4 = s2 - s1) (h12 : (s1 < 0 ∧ 0 < s2) ∨ (s2 < 0 ∧ 0 < s1)) (h34 : (s3 < 0 ∧ 0 < s4) ∨ (s4 < 0 ∧ 0 < s3)) : ¬ (A < C ∧ A < D ∧ B < C ∧ B < D) := by
  rintro ⟨k1, k2, k3, k4⟩
  have e : -s4 * A + s3 * B = s2 * C - s1 * D := by
    have : s4 = s3 - s2 + s1 := by omega
    rw [this]; grind
  have core : ∀ X : Int, A ≤ X → B ≤ X → X < C → X < D → False := fun X a1 a2 a3 a4 => by
    rcases h12 with ⟨u1, u2⟩ | ⟨u1, u2⟩
    · have v1 : 0 ≤ -s4 * (X - A) := Int.mul_nonneg (by omega) (by omega)
      have v2 : 0 ≤ s3 * (X - B) := Int.mul_nonneg (by omega) (by omega)
      have v3 : 0 < s2 * (C - X) := Int.mul_pos u2 (by omega)
      have v4 : 0 < -s1 * (D - X) := Int.mul_pos (by omega) (by omega)
      have i : -s4 * (X - A) + s3 * (X - B) + s2 * (C - X) + -s1 * (D - X) = (s3 - s4 - s2 + s1) * X := by grind
      rw [show s3 - s4 - s2 + s1 = 0 by omega] at i
      omega
    · have v1 : -s4 * (X - A) ≤ 0 := Int.mul_nonpos_of_nonpos_of_nonneg (by omega) (by omega)
      have v2 : s3 * (X - B) ≤ 0 := Int.mul_nonpos_of_nonpos_of_nonneg (by omega) (by omega)
      have v3 : s2 * (C - X) < 0 := Int.mul_neg_of_neg_of_pos u1 (by omega)
      have v4 : -s1 * (D - X) < 0 := Int.mul_neg_of_neg_of_pos (by omega) (by omega)
      have i : -s4 * (X - A) + s3 * (X - B) + s2 * (C - X) + -s1 * (D - X) = (s3 - s4 - s2 + s1) * X := by grind
      rw [show s3 - s4 - s2 + s1 = 0 by omega] at i
      omega
  rcases Int.le_total A B with q | q
  · exact core B q (Int.le_refl _) k3 k4
  · exact core A (Int.le_refl _) q k1 k2
/-- the boxes are apart -/
def apartB (a b c d : Pn) : Bool := (decide (max a.x b.x < min c.x d.x) || decide (max c.x d.x < min a.x b.x)) || (decide (max a.y b.y < min c.y d.y) || decide (max c.y d.y < min a.y b.y))
theorem apart_no {a b c d : Pn} (h : apartB a b c d = true) : crP a b c d = false := by
  cases hc : crP a b c d with
  | false => rfl
  | true =>
    exfalso
    unfold crP at hc
    rw [Bool.and_eq_true, parted_iff, parted_iff] at hc
    obtain ⟨t1, t2⟩ := three_is (a := a) (b := b) (c := c) (d := d)
    have f := four_is (a := a) (b := b) (c := c) (d := d)
    have x1 := apart_x t1 (by omega) hc.1 hc.2
    have x2 := apart_x t2 (by omega) hc.1 hc.2
    have y1 := apart_x (A := -a.x) (B := -b.x) (C := -c.x) (D := -d.x) (s1 := crs a b c) (s2 := crs a b d) (s3 := crs c d a) (s4 := crs c d b) (by grind) (by omega) hc.1 hc.2
    have y2 := apart_x (A := -a.y) (B := -b.y) (C := -c.y) (D := -d.y) (s1 := crs a b c) (s2 := crs a b d) (s3 := crs c d a) (s4 := crs c d b) (by grind) (by omega) hc.1 hc.2
    unfold apartB at h
    simp only [Bool.or_eq_true, decide_eq_true_iff] at h
    omega
end CLTR
namespace CL
open PySem PySem.Spec PySem.W L2 PyProof.Rows
set_option autoImplicit false
def listKD : List D → Option (List D)
  | [.kdc ks _] => some ks
  | _ => none
theorem c_listK [Tb] {X : Cx} (hr : X.calm = true) : CallR X (.type "list") (rLn X.K listKD) := by
  intro pins s σ H xs us Q I r h
  obtain ⟨Z, ds, l, pl, e, k⟩ := h
  unfold listKD at e
  split at e
  · rename_i ks vs
    cases e
    obtain ⟨v, rfl, p⟩ := pl.one
    obtain ⟨a, xs, rfl, g1, g2, g3, g4⟩ := p.kdc
    rw [Vals.ref1 r]
    obtain ⟨z, hs, ko, us, va, dd, hz⟩ := kd_at I g1 g2 g3
    obtain ⟨o, es, ep, e1, e2, e3, e4, _, _⟩ := dd
    have hsz : es.size = xs.length := by
      have := congrArg List.length e4
      rw [List.length_map, (zu_keys va).2] at this
      simpa using this
    refine kdl_call (KdlSrc.rawDict (prog := X.prog) (w := X.w) (es := es) (ep := ep) hs) (I.ok.hd hr) ⟨o, e1, e2, e3⟩ (by rw [hsz]; exact z) fun h' tk acc c' hk hL hacc => ?_
    have ha : acc.toList = xs.map fun x => Value.ref x.2.1 := by
      refine List.ext_getElem? fun j => ?_
      by_cases hj : j < acc.size
      · have h1 : acc[j]? = some acc[j] := Array.getElem?_eq_getElem hj
        obtain ⟨hi, ev⟩ := hacc.2 j _ h1
        rw [Array.getElem?_toList, h1, ev]
        have h2 : es.toList[j]? = some es[j] := by rw [Array.getElem?_toList]; exact Array.getElem?_eq_getElem hi
        rw [e4, List.getElem?_map] at h2
        obtain ⟨y, hy, ey⟩ := Option.map_eq_some_iff.mp h2
        obtain ⟨x, hx, hxy⟩ := zu_at hy
        rw [List.getElem?_map, hx, ← ey]
        show some (Value.ref y.2.1) = some (Value.ref x.2.1)
        rw [hxy]
      · rw [List.getElem?_eq_none (by simpa using hj), List.getElem?_eq_none]
        have := hacc.1
        simp
        omega
    have rv : Vals (xs.map fun x => V.ref x.2.1) (xs.map fun x => Value.ref x.2.1) := by
      have : ∀ l : List (NestedKey × Addr × V), Vals (l.map fun x => V.ref x.2.1) (l.map fun x => Value.ref x.2.1) := fun l => by
        induction l with
        | nil => exact .nil
        | cons x l ih => exact .cons rfl ih
      exact this xs
    have ea : acc = (xs.map fun x => Value.ref x.2.1).toArray := by rw [← ha]
    subst ea
    exact ⟨.ref _, upd H s.heap.objs.size (.lst (xs.map fun x => V.ref x.2.1)), I.laid (t' := tk) hk (Nat.le_refl _) ⟨by simpa using z, _, c', rv, hL⟩, rfl, k _ _ (I.hok.fresh (Nat.le_refl _)) g3⟩
  · cases e
end CL
namespace CLTR
open PySem PySem.Spec L2 CL CLG CLX CLE CLN CLSD
def B_side_of : MS := (sSeq (sAsg (pN 3) (m2 bMul (m2 bSub (m2 bIx (mV 1) (mC (.int 0))) (m2 bIx (mV 0) (mC (.int 0)))) (m2 bSub (m2 bIx (mV 2) (mC (.int 1))) (m2 bIx (mV 0) (mC (.int 1)))))) (sRet (m2 bSub (mV 3) (m2 bMul (m2 bSub (m2 bIx (mV 1) (mC (.int 1))) (m2 bIx (mV 0) (mC (.int 1)))) (m2 bSub (m2 bIx (mV 2) (mC (.int 0))) (m2 bIx (mV 0) (mC (.int 0))))))))
def F_side_of : List D → Res D := runP 1 B_side_of
def B_lies_between : MS := (sSeq (sFor (pN 3) (mIt (mN bTup (mCons (mC (.int 0)) (mCons (mC (.int 1)) mNil)))) (sIf (m1 bNot (mChain bLe bLe (mN bMin2 (mCons (m2 bIx (mV 0) (mV 3)) (mCons (m2 bIx (mV 1) (mV 3)) mNil))) (m2 bIx (mV 2) (mV 3)) (mN bMax2 (mCons (m2 bIx (mV 0) (mV 3)) (mCons (m2 bIx (mV 1) (mV 3)) mNil))))) (sRet (mC (.bl false))) (sK .nx))) (sRet (mC (.bl true))))
def F_lies_between : List D → Res D := runP 1 B_lies_between
def B_lies_on : MS := (sSeq (sAsg (pT 2 (psC (pN 2) (psC (pN 3) psN))) (mV 1)) (sSeq (sIf (mOr (m2 bInB (mV 0) (mV 1)) (m1 bNot (mCallP F_lies_between (mCons (mV 2) (mCons (mV 3) (mCons (mV 0) mNil)))))) (sRet (mC (.bl false))) (sK .nx)) (sRet (m2 bEq (mCallP F_side_of (mCons (mV 2) (mCons (mV 3) (mCons (mV 0) mNil)))) (mC (.int 0))))))
def F_lies_on : List D → Res D := runP 2 B_lies_on
def B_are_apart : MS := (sSeq (sFor (pN 2) (mIt (mN bTup (mCons (mC (.int 0)) (mCons (mC (.int 1)) mNil)))) (sSeq (sIf (m2 bLt (mN bMax2 (mCons (m2 bIx (m2 bIx (mV 0) (mC (.int 0))) (mV 2)) (mCons (m2 bIx (m2 bIx (mV 0) (mC (.int 1))) (mV 2)) mNil))) (mN bMin2 (mCons (m2 bIx (m2 bIx (mV 1) (mC (.int 0))) (mV 2)) (mCons (m2 bIx (m2 bIx (mV 1) (mC (.int 1))) (mV 2)) mNil)))) (sRet (mC (.bl true))) (sK .nx)) (sIf (m2 bLt (mN bMax2 (mCons (m2 bIx (m2 bIx (mV 1) (mC (.int 0))) (mV 2)) (mCons (m2 bIx (m2 bIx (mV 1) (mC (.int 1))) (mV 2)) mNil))) (mN bMin2 (mCons (m2 bIx (m2 bIx (mV 0) (mC (.int 0))) (mV 2)) (mCons (m2 bIx (m2 bIx (mV 0) (mC (.int 1))) (mV 2)) mNil)))) (sRet (mC (.bl true))) (sK .nx)))) (sRet (mC (.bl false))))
def F_are_apart : List D → Res D := runP 1 B_are_apart
def B_are_parted : MS := (sRet (mOr (mChain bLt bLt (mV 0) (mC (.int 0)) (mV 1)) (mChain bLt bLt (mV 1) (mC (.int 0)) (mV 0))))
def F_are_parted : List D → Res D := runP 0 B_are_parted
def B_do_cross : MS := (sSeq (sIf (mCallP F_are_apart (mCons (mV 0) (mCons (mV 1) mNil))) (sRet (mC (.bl false))) (sK .nx)) (sSeq (sAsg (pT 2 (psC (pN 2) (psC (pN 3) psN))) (mV 0)) (sSeq (sAsg (pT 2 (psC (pN 4) (psC (pN 5) psN))) (mV 1)) (sSeq (sIf (m1 bNot (mCallP F_are_parted (mCons (mCallP F_side_of (mCons (mV 2) (mCons (mV 3) (mCons (mV 4) mNil)))) (mCons (mCallP F_side_of (mCons (mV 2) (mCons (mV 3) (mCons (mV 5) mNil)))) mNil)))) (sRet (mC (.bl false))) (sK .nx)) (sRet (mCallP F_are_parted (mCons (mCallP F_side_of (mCons (mV 4) (mCons (mV 5) (mCons (mV 2) mNil)))) (mCons (mCallP F_side_of (mCons (mV 4) (mCons (mV 5) (mCons (mV 3) mNil)))) mNil))))))))
def F_do_cross : List D → Res D := runP 4 B_do_cross
def B__law_is_on : MS := (sSeq (sPar 2 3 (mCons (mCallP CLK.F__law_less (mCons (m2 bIx (mV 1) (mC (.int 0))) (mCons (mV 0) mNil))) (mCons (mCallP CLK.F__law_less (mCons (m2 bIx (mV 1) (mC (.int 1))) (mCons (mV 0) mNil))) mNil))) (sRet (mAnd (m2 bEq (mCallP CLK.F__law_turn (mCons (mV 2) (mCons (mV 3) mNil))) (mC (.int 0))) (m2 bLt (m2 bAdd (m2 bMul (m2 bIx (mV 2) (mC (.int 0))) (m2 bIx (mV 3) (mC (.int 0)))) (m2 bMul (m2 bIx (mV 2) (mC (.int 1))) (m2 bIx (mV 3) (mC (.int 1))))) (mC (.int 0))))))
def F__law_is_on : List D → Res D := runP 2 B__law_is_on
def B__law_do_cross : MS := (sSeq (sAsg (pN 2) (mCallP CLK.F__law_common (mCons (mV 0) (mCons (mV 1) mNil)))) (sSeq (sIf (m2 bEq (mN bLen (mCons (mV 2) mNil)) (mC (.int 1))) (sSeq (sAsg (pT 3 (psC (pN 3) (psC (pN 4) (psC (pN 5) psN)))) (m2 bIx (mV 2) (mC (.int 0)))) (sRet (m2 bEq (mComp [6] (pN 6) (mIt (mV 0)) (mAnd (m2 bInB (mV 6) (mV 1)) (m2 bEq (mN bTup (mCons (m2 bMul (m2 bIx (mV 6) (mC (.int 0))) (mV 5)) (mCons (m2 bMul (m2 bIx (mV 6) (mC (.int 1))) (mV 5)) mNil))) (mN bTup (mCons (mV 3) (mCons (mV 4) mNil))))) (mV 6)) (mN bLst mNil)))) (sK .nx)) (sRet (m2 bNe (mV 2) (mN bLst mNil)))))
def F__law_do_cross : List D → Res D := runP 5 B__law_do_cross
local macro_rules | `(tactic| walk_at "o") => `(tactic| ((try simp only [backA, List.set_cons_zero, List.set_cons_succ, wipeD, List.map_cons, List.map_nil, List.cons_append, List.nil_append, List.replicate_succ, List.replicate_zero]); first | done | rfl))
local macro_rules | `(tactic| walk_at "b") => `(tactic| first
  | with_reducible exact Nb.lit
  | ((with_reducible apply Nb.mul) <;> walk_at "b")
  | ((with_reducible apply Nb.add) <;> walk_at "b")
  | ((with_reducible apply Nb.sub) <;> walk_at "b")
  | ((with_reducible apply Nb.neg) <;> walk_at "b")
  | ((with_reducible apply Nb.fdiv) <;> walk_at "b")
  | ((with_reducible apply Nb.fmod); (· walk_at "z"); (· walk_at "b"))
  | ((with_reducible apply Nb.max) <;> walk_at "b")
  | ((with_reducible apply Nb.min) <;> walk_at "b")
  | ((with_reducible apply Nb.ite) <;> walk_at "b")
  | with_reducible assumption
  | with_reducible exact Nb.le (by assumption)
  | with_reducible exact Nb.nle (by assumption)
  | with_reducible exact Nb.lt (by assumption)
  | ((with_reducible apply Nb.rng (by assumption) (by assumption)) <;> walk_at "b")
  | ((with_reducible apply Nb.rngE (by assumption) (by assumption)) <;> walk_at "b")
  | with_reducible exact Nb.self _)
local macro_rules | `(tactic| walk_at "z") => `(tactic| first | decide | with_reducible assumption | omega | exact fmod_nn (by omega) | exact fmod_lt (by omega))
local macro_rules | `(tactic| walk_at "e") => `(tactic| first
  | ((with_reducible refine is_ev ?_); first
    | ((with_reducible apply mul_st); (· walk_at "b"); (· walk_at "b"); (· rfl))
    | ((with_reducible apply mul_s1); (· walk_at "b"); (· rfl))
    | ((with_reducible apply mul_s2); (· walk_at "b"); (· rfl))
    | ((with_reducible apply div_st); (· walk_at "z"); (· walk_at "b"); (· rfl))
    | ((with_reducible apply mod_st); (· walk_at "z"))
    | with_reducible apply tup_pt
    | with_reducible apply tup_ln
    | ((with_reducible apply tup_st); (· rfl))
    | ((with_reducible apply lst_st); (· rfl))
    | with_reducible apply eqi_st
    | with_reducible apply nei_st
    | with_reducible apply eqp_st
    | with_reducible apply nep_st
    | with_reducible apply eqp_st'
    | with_reducible apply nep_st'
    | with_reducible apply eqb_st
    | with_reducible apply neb_st
    | with_reducible apply isb_st
    | with_reducible apply eqs_st
    | with_reducible apply nes_st
    | with_reducible refine ixl0 ?_
    | with_reducible refine ixl1 ?_
    | with_reducible refine ix2bi (fun _ _ _ => ?_)
    | ((with_reducible refine ix4i ?_ ?_ (fun _ _ _ => ?_)); (· walk_at "z"); (· walk_at "z"))
    | ((with_reducible refine ix2i ?_ ?_ (fun _ _ _ => ?_)); (· walk_at "z"); (· walk_at "z"))
    | ((with_reducible refine ix3i ?_ ?_ (fun _ _ _ => ?_)); (· walk_at "z"); (· walk_at "z"))
    | refine ⟨_, rfl, ?_⟩)
  | ((with_reducible refine fill_st ?_); refine ⟨_, rfl, ?_⟩; (try dsimp only))
  | ((with_reducible apply and_go rfl); (· (intro _; (repeat walk_at "s"); with_reducible exact ⟨rfl, rfl⟩)))
  | ((with_reducible refine is_chain ?_); (apply chain_go rfl); (· (intro _; (repeat walk_at "s"); exact ⟨rfl, rfl⟩)))
  | ((with_reducible refine draw_step (by assumption) ?_ ?_ (fun _ _ _ _ _ => ?_)); (· walk_at "z"); (· walk_at "z"))
  | ((with_reducible refine CLY.draw_step (by assumption) ?_ ?_ (fun _ _ _ _ _ => ?_)); (· walk_at "z"); (· walk_at "z"))
  | ((with_reducible refine is_evA ?_); refine ⟨_, rfl, ?_⟩)
  | ((with_reducible refine is_evL ?_); refine ⟨_, rfl, ?_⟩)
  | ((with_reducible refine is_evI ?_); refine ⟨_, rfl, ?_⟩)
  | ((with_reducible refine is_evR ?_); refine ⟨_, rfl, ?_⟩))
local macro_rules | `(tactic| walk_at "f") => `(tactic| first
  | with_reducible refine W_mV.mpr ?_
  | with_reducible refine W_mCons.mpr ?_
  | with_reducible refine W_m2.mpr ?_
  | with_reducible refine W_mC.mpr ?_
  | with_reducible refine W_mNil.mpr ?_
  | with_reducible refine W_mN.mpr ?_
  | with_reducible refine W_sSeq.mpr ?_
  | with_reducible refine W_sAsg.mpr ?_
  | with_reducible refine W_m1.mpr ?_
  | with_reducible refine W_mCallP.mpr ?_
  | with_reducible refine W_mCall.mpr ?_
  | with_reducible refine X_evI.mpr ?_
  | with_reducible refine X_evE.mpr ?_
  | with_reducible refine X_evN.mpr ?_
  | with_reducible refine X_if ?_
  | with_reducible refine W_sRet.mpr ?_
  | with_reducible refine W_sK.mpr ?_
  | with_reducible refine X_and ?_
  | with_reducible refine X_or ?_
  | with_reducible refine W_sPar.mpr ?_
  | with_reducible refine W_mSl.mpr ?_
  | with_reducible refine W_mPtN.mpr ?_
  | with_reducible refine W_mPtS.mpr ?_
  | with_reducible refine W_mIt.mpr ?_
  | with_reducible refine W_mItN.mpr ?_
  | with_reducible refine W_mComp.mpr ?_
  | ((with_reducible refine is_comp ?_); first | (apply X_compN; (· walk_at "o")) | ((with_reducible apply X_compY); (· walk_at "o"); (· rfl)))
  | with_reducible refine W_sFor.mpr ?_
  | ((with_reducible refine is_for ?_); refine W_forNil.mpr ?_)
  | with_reducible refine X_chain ?_
  | with_reducible refine W_sExp.mpr ?_
  | with_reducible refine W_mL.mpr ?_
  | with_reducible refine X_mif ?_
  | with_reducible refine W_mIxS.mpr ?_
  | with_reducible refine W_mYes.mpr ?_
  | with_reducible refine W_sPar3.mpr ?_
  | with_reducible refine W_mApp.mpr ?_
  | with_reducible refine W_mBor.mpr ?_
  | with_reducible refine CLX.W_sFz.mpr ?_)
local macro_rules | `(tactic| walk_at "s") => `(tactic| first
  | ((with_reducible refine is_W ?_); walk_at "f")
  | ((with_reducible refine is_ex ?_); first
    | ((with_reducible refine is_evS ?_); refine ⟨_, rfl, ?_⟩)
    | ((with_reducible apply call_st); (· with_reducible assumption))
    | with_reducible refine ⟨_, by with_reducible assumption, ?_⟩
    | walk_at "e")
  | ((with_reducible apply X_nx); (· walk_at "o"))
  | with_reducible refine Kq_ret.mpr ?_
  | with_reducible refine Kq_brk.mpr ?_
  | with_reducible refine Kq_cnt.mpr ?_
  | ((with_reducible apply X_fnx); (· walk_at "o"))
  | ((with_reducible apply X_fcnt); (· walk_at "o"))
  | with_reducible refine X_fbrk ?_
  | with_reducible refine X_fret ?_
  | ((with_reducible refine is_ltA ?_); refine ⟨?_, ?_⟩; (· first | decide | omega | (simp; omega) | (simp; done)))
  | with_reducible refine parW_mk.mpr ?_
  | with_reducible refine par3W_mk.mpr ?_)
local macro_rules | `(tactic| walk_at "r") => `(tactic| repeat walk_at "s")
local macro_rules | `(tactic| walk_at "u") => `(tactic| first | ((apply X_forC); (· walk_at "o"); (· rfl)) | ((apply X_compY); (· walk_at "o"); (· rfl)) | ((apply X_compC); (· walk_at "o"); (· rfl)))
local macro_rules | `(tactic| walk_at "g") => `(tactic| repeat first | walk_at "s" | (with_reducible refine go_ifF (rfl : _ = false) ?_) | (with_reducible refine go_ifT (rfl : _ = true) ?_) | (refine go_ifF (rfl : _ = false) ?_) | (refine go_ifT (rfl : _ = true) ?_) | walk_at "u")
abbrev Lk := Pn × Pn
structure Pb (c : Pn) : Prop where
  x : c.x.natAbs ≤ 5000000
  y : c.y.natAbs ≤ 5000000
theorem pbd {a b : Int} (h : a.natAbs ≤ 5000000) (h' : b.natAbs ≤ 5000000) : (a - b).natAbs ≤ 10000000 := by omega
theorem side_is {a b c : Pn} (ha : Pb a) (hb : Pb b) (hc : Pb c) : F_side_of [pnD a, pnD b, pnD c] = .ok (.int (crs a b c)) := by
  have h1 := ha.x
  have h2 := ha.y
  have h3 := hb.x
  have h4 := hb.y
  have h5 := hc.x
  have h6 := hc.y
  refine runP_of ?_
  unfold B_side_of
  walk_at "r"
  rfl
theorem parted_is {x y : Int} : F_are_parted [.int x, .int y] = .ok (.bl (parted x y)) := by
  refine runP_of ?_
  unfold B_are_parted
  walk_at "r"
  rfl
theorem mn {a b : Int} : (if b < a then b else a) = min a b := by split <;> omega
theorem mx {a b : Int} : (if b > a then b else a) = max a b := by split <;> omega
theorem between_is {a b c : Pn} : F_lies_between [pnD a, pnD b, pnD c] = .ok (.bl (boxB a b c)) := by
  refine runP_of ?_
  unfold B_lies_between
  walk_at "r"
  walk_at "u"
  walk_at "r"
  rw [mn, mx]
  refine go_if (fun h => ?_) fun h => ?_
  · have e : boxB a b c = false := by unfold boxB; rw [Bool.not_eq_true'] at h; rw [h]; rfl
    rw [e]
    walk_at "r"
    rfl
  · have e : boxB a b c = (decide (min a.y b.y ≤ c.y) && decide (c.y ≤ max a.y b.y)) := by unfold boxB; rw [Bool.not_eq_false'] at h; rw [h]; rfl
    rw [e]
    walk_at "r"
    walk_at "u"
    walk_at "r"
    rw [mn, mx]
    refine go_if (fun h => ?_) fun h => ?_
    · rw [Bool.not_eq_true'] at h
      rw [h]
      walk_at "r"
      rfl
    · rw [Bool.not_eq_false'] at h
      rw [h]
      walk_at "r"
      rfl
theorem apart_is {l m : Lk} : F_are_apart [lkD l, lkD m] = .ok (.bl (apartB l.1 l.2 m.1 m.2)) := by
  obtain ⟨a, b⟩ := l
  obtain ⟨c, d⟩ := m
  have X0 : bIx (lkD (a, b)) (.int 0) = some (pnD a) := rfl
  have X1 : bIx (lkD (a, b)) (.int 1) = some (pnD b) := rfl
  have Y0 : bIx (lkD (c, d)) (.int 0) = some (pnD c) := rfl
  have Y1 : bIx (lkD (c, d)) (.int 1) = some (pnD d) := rfl
  refine runP_of ?_
  unfold B_are_apart
  unfold apartB
  simp only
  walk_at "r"
  walk_at "u"
  walk_at "r"
  rw [mn, mx]
  refine go_if (fun h => ?_) fun h => ?_
  · rw [h]
    walk_at "r"
    rfl
  rw [h]
  walk_at "r"
  rw [mn, mx]
  refine go_if (fun h => ?_) fun h => ?_
  · rw [h]
    walk_at "r"
    rfl
  rw [h]
  walk_at "r"
  walk_at "u"
  walk_at "r"
  rw [mn, mx]
  refine go_if (fun h => ?_) fun h => ?_
  · rw [h]
    walk_at "r"
    rfl
  rw [h]
  walk_at "r"
  rw [mn, mx]
  refine go_if (fun h => ?_) fun h => ?_
  · rw [h]
    walk_at "r"
    rfl
  rw [h]
  walk_at "r"
  rfl
theorem lieson_is {c : Pn} {l : Lk} (hc : Pb c) (h1 : Pb l.1) (h2 : Pb l.2) : F_lies_on [pnD c, lkD l] = .ok (.bl (onP c l.1 l.2)) := by
  obtain ⟨a, b⟩ := l
  have I : bInB (pnD c) (lkD (a, b)) = some (.bl (decide (c ∈ [a, b]))) := in_pnT (F := [a, b])
  have eI : decide (c ∈ [a, b]) = (decide (c = a) || decide (c = b)) := by
    rw [Bool.eq_iff_iff]; simp
  have E1 := between_is (a := a) (b := b) (c := c)
  have E2 := side_is h1 h2 hc
  simp only at E2
  refine runP_of ?_
  unfold B_lies_on
  walk_at "r"
  rw [eI]
  have eo : onP c a b = (!(decide (c = a) || decide (c = b)) && (boxB a b c && decide (crs a b c = 0))) := rfl
  simp only
  rw [eo]
  cases hx : decide (c = a) || decide (c = b) with
  | true =>
    refine go_ifT rfl ?_
    walk_at "r"
    rfl
  | false =>
    cases hb : boxB a b c with
    | false =>
      refine go_ifT rfl ?_
      walk_at "r"
      rfl
    | true =>
      refine go_ifF rfl ?_
      walk_at "r"
      rfl
theorem docross_is {l m : Lk} (h1 : Pb l.1) (h2 : Pb l.2) (h3 : Pb m.1) (h4 : Pb m.2) : F_do_cross [lkD l, lkD m] = .ok (.bl (crP l.1 l.2 m.1 m.2)) := by
  have E0 := apart_is (l := l) (m := m)
  have no : apartB l.1 l.2 m.1 m.2 = true → crP l.1 l.2 m.1 m.2 = false := apart_no
  obtain ⟨a, b⟩ := l
  obtain ⟨c, d⟩ := m
  simp only at *
  have S1 := side_is h1 h2 h3
  have S2 := side_is h1 h2 h4
  have S3 := side_is h3 h4 h1
  have S4 := side_is h3 h4 h2
  have P1 := parted_is (x := crs a b c) (y := crs a b d)
  have P2 := parted_is (x := crs c d a) (y := crs c d b)
  have eo : crP a b c d = (parted (crs a b c) (crs a b d) && parted (crs c d a) (crs c d b)) := rfl
  refine runP_of ?_
  unfold B_do_cross
  walk_at "r"
  refine go_if (fun h => ?_) fun h => ?_
  · rw [no h]
    walk_at "r"
    rfl
  · walk_at "r"
    rw [eo]
    refine go_if (fun h => ?_) fun h => ?_
    · rw [Bool.not_eq_true'] at h
      rw [h]
      walk_at "r"
      rfl
    · rw [Bool.not_eq_false'] at h
      rw [h]
      walk_at "r"
      rfl
theorem lison_is {c : Pn} {l : Lk} (hc : Pb c) (h1 : Pb l.1) (h2 : Pb l.2) : F__law_is_on [pnD c, lkD l] = .ok (.bl (onL c l.1 l.2)) := by
  obtain ⟨a, b⟩ := l
  simp only at *
  have X0 : bIx (lkD (a, b)) (.int 0) = some (pnD a) := rfl
  have X1 : bIx (lkD (a, b)) (.int 1) = some (pnD b) := rfl
  have u1 := h1.x
  have u2 := h1.y
  have u3 := h2.x
  have u4 := h2.y
  have u5 := hc.x
  have u6 := hc.y
  have q1 := pbd h1.x hc.x
  have q2 := pbd h1.y hc.y
  have q3 := pbd h2.x hc.x
  have q4 := pbd h2.y hc.y
  have L1 : CLK.F__law_less [pnD a, pnD c] = .ok (pt (a.x - c.x) (a.y - c.y)) := CLK.less_is
  have L2 : CLK.F__law_less [pnD b, pnD c] = .ok (pt (b.x - c.x) (b.y - c.y)) := CLK.less_is
  have T : CLK.F__law_turn [pt (a.x - c.x) (a.y - c.y), pt (b.x - c.x) (b.y - c.y)] = .ok (.int (crs c a b)) := CLK.turn_is' (by omega) (by omega) (by omega) (by omega)
  refine runP_of ?_
  unfold B__law_is_on
  walk_at "r"
  rfl
theorem sml_lk {l : Lk} (h1 : Pb l.1) (h2 : Pb l.2) : Sml (lnk1 l.1 l.2) := ⟨by have := h1.x; show l.1.x.natAbs ≤ _; omega, by have := h1.y; show l.1.y.natAbs ≤ _; omega, by have := h2.x; show l.2.x.natAbs ≤ _; omega, by have := h2.y; show l.2.y.natAbs ≤ _; omega⟩
set_option maxHeartbeats 0 in
theorem ldocross_is {l m : Lk} (h1 : Pb l.1) (h2 : Pb l.2) (h3 : Pb m.1) (h4 : Pb m.2) : F__law_do_cross [lkD l, lkD m] = .ok (.bl (crL l.1 l.2 m.1 m.2)) := by
  have E : CLK.F__law_common [lkD l, lkD m] = .ok (.lst ((CLK.raw (lnk1 l.1 l.2) (lnk1 m.1 m.2)).map spD)) := CLK.lcommon_is (sml_lk h1 h2) (sml_lk h3 h4)
  obtain ⟨a, b⟩ := l
  obtain ⟨c, d⟩ := m
  simp only at *
  have eo : crL a b c d = match CLK.raw (lnk1 a b) (lnk1 c d) with
    | [] => false
    | [s] => !(hitE c d s a || hitE c d s b)
    | _ => true := rfl
  have hraw : (CLK.raw (lnk1 a b) (lnk1 c d)).length ≤ 2 := by
    unfold CLK.raw
    split
    · split
      · unfold Li.along
        split
        · simp
        · split <;> simp
      · simp
    · split <;> simp
  refine runP_of ?_
  unfold B__law_do_cross
  rw [eo]
  cases hr : CLK.raw (lnk1 a b) (lnk1 c d) with
  | nil =>
    rw [hr] at E
    simp only [List.map_nil] at E
    walk_at "r"
    refine go_ifF rfl ?_
    walk_at "r"
    rfl
  | cons s r =>
    cases r with
    | nil =>
      rw [hr] at E
      simp only [List.map_cons, List.map_nil] at E
      have ax := h1.x
      have ay := h1.y
      have bx := h2.x
      have bY := h2.y
      walk_at "r"
      refine go_ifT rfl ?_
      walk_at "r"
      refine X_compFM (xs := [a, b]) (g := pnD) (f := hitE c d s) (h := pnD) (fun e he => ?_) ?_
      · have ex : e.x.natAbs ≤ 5000000 := by
          simp only [List.mem_cons, List.not_mem_nil, or_false] at he
          rcases he with rfl | rfl <;> assumption
        have ey : e.y.natAbs ≤ 5000000 := by
          simp only [List.mem_cons, List.not_mem_nil, or_false] at he
          rcases he with rfl | rfl <;> assumption
        have I : bInB (pnD e) (lkD (c, d)) = some (.bl (decide (e ∈ [c, d]))) := in_pnT (F := [c, d])
        have eI : decide (e ∈ [c, d]) = (decide (e = c) || decide (e = d)) := by
          rw [Bool.eq_iff_iff]; simp
        rw [eI] at I
        refine ⟨_, rfl, ?_, rfl, fun _ => ?_⟩
        · walk_at "r"
          rw [Bool.decide_and]
          exact ⟨rfl, rfl⟩
        · walk_at "r"
          exact ⟨rfl, rfl⟩
      walk_at "r"
      simp only
      cases ha : hitE c d s a <;> cases hb : hitE c d s b <;> simp [List.filter, ha, hb]
    | cons s2 r =>
      have : r = [] := by
        rw [hr] at hraw
        simp only [List.length_cons] at hraw
        exact List.eq_nil_of_length_eq_zero (by omega)
      subst this
      rw [hr] at E
      simp only [List.map_cons, List.map_nil] at E
      walk_at "r"
      refine go_ifF rfl ?_
      walk_at "r"
      rfl
end CLTR
namespace CLTR
open PySem PySem.Spec L2 CL CLG CLX CLE CLN CLSD
def B_corners_on : MS := (sSeq (sAsg (pN 1) (mC (.kdc [] []))) (sSeq (sFor (pN 2) (mIt (mV 0)) (sFor (pN 3) (mIt (mV 2)) (sStoK 1 (mV 3) (mC (.bl true))))) (sFz 1 (sRet (mN bTuple (mCons (mL sortDK (mCons (mV 1) mNil)) mNil))))))
def F_corners_on : List D → Res D := runP 3 B_corners_on
def B_trouble_of : MS := (sSeq (sAsg (pN 1) (mCallP linksF (mCons (mV 0) mNil))) (sSeq (sFor (pN 2) (mIt (mCallP F_corners_on (mCons (mV 0) mNil))) (sFor (pN 3) (mIt (mV 1)) (sIf (mCallP F_lies_on (mCons (mV 2) (mCons (mV 3) mNil))) (sRet (mN bTup (mCons (mC (.str "on")) (mCons (mV 2) (mCons (mV 3) mNil))))) (sK .nx)))) (sSeq (sFor (pT 2 (psC (pN 4) (psC (pN 3) psN))) (mItN enumL (mCons (mV 1) mNil)) (sFor (pN 5) (mIt (mSl (mV 1) (some (m2 bAdd (mV 4) (mC (.int 1)))) none)) (sIf (mCallP F_do_cross (mCons (mV 3) (mCons (mV 5) mNil))) (sRet (mN bTup (mCons (mC (.str "cross")) (mCons (mV 3) (mCons (mV 5) mNil))))) (sK .nx)))) (sRet (mC .non)))))
def F_trouble_of : List D → Res D := runP 5 B_trouble_of
def B__law_links : MS := (sSeq (sAsg (pN 1) (mC (.kdc [] []))) (sSeq (sFor (pN 2) (mIt (mV 0)) (sFor (pT 2 (psC (pN 3) (psC (pN 4) psN))) (mItN zip2 (mCons (mSl (mV 2) none (some (m1 bNeg (mC (.int 1))))) (mCons (mSl (mV 2) (some (mC (.int 1))) none) mNil))) (sStoK 1 (mN bTup (mCons (mN bMin2D (mCons (mV 3) (mCons (mV 4) mNil))) (mCons (mN bMax2D (mCons (mV 3) (mCons (mV 4) mNil))) mNil))) (mC (.bl true))))) (sFz 1 (sRet (mL sortDD (mCons (mL listKD (mCons (mV 1) mNil)) mNil))))))
def F__law_links : List D → Res D := runP 4 B__law_links
def B__law_trouble : MS := (sSeq (sAsg (pN 1) (mCallP F__law_links (mCons (mV 0) mNil))) (sSeq (sFor (pN 2) (mIt (mL CLS.sortSetG (mCons (mN sumL (mCons (mComp [6] (pN 6) (mIt (mV 0)) mYes (mL listOfD (mCons (mV 6) mNil))) (mCons (mN bLst mNil) mNil))) mNil))) (sFor (pN 3) (mIt (mV 1)) (sIf (mCallP F__law_is_on (mCons (mV 2) (mCons (mV 3) mNil))) (sRet (mN bTup (mCons (mC (.str "on")) (mCons (mV 2) (mCons (mV 3) mNil))))) (sK .nx)))) (sSeq (sFor (pN 4) (mItN range1 (mCons (mN bLen (mCons (mV 1) mNil)) mNil)) (sFor (pN 5) (mIt (mSl (mV 1) (some (m2 bAdd (mV 4) (mC (.int 1)))) none)) (sIf (mCallP F__law_do_cross (mCons (m2 bIx (mV 1) (mV 4)) (mCons (mV 5) mNil))) (sRet (mN bTup (mCons (mC (.str "cross")) (mCons (m2 bIx (mV 1) (mV 4)) (mCons (mV 5) mNil))))) (sK .nx)))) (sRet (mC .non)))))
def F__law_trouble : List D → Res D := runP 6 B__law_trouble
local macro_rules | `(tactic| walk_at "o") => `(tactic| ((try simp only [backA, List.set_cons_zero, List.set_cons_succ, wipeD, List.map_cons, List.map_nil, List.cons_append, List.nil_append, List.replicate_succ, List.replicate_zero]); first | done | rfl))
local macro_rules | `(tactic| walk_at "b") => `(tactic| first
  | with_reducible exact Nb.lit
  | ((with_reducible apply Nb.mul) <;> walk_at "b")
  | ((with_reducible apply Nb.add) <;> walk_at "b")
  | ((with_reducible apply Nb.sub) <;> walk_at "b")
  | ((with_reducible apply Nb.neg) <;> walk_at "b")
  | ((with_reducible apply Nb.fdiv) <;> walk_at "b")
  | ((with_reducible apply Nb.fmod); (· walk_at "z"); (· walk_at "b"))
  | ((with_reducible apply Nb.max) <;> walk_at "b")
  | ((with_reducible apply Nb.min) <;> walk_at "b")
  | ((with_reducible apply Nb.ite) <;> walk_at "b")
  | with_reducible assumption
  | with_reducible exact Nb.le (by assumption)
  | with_reducible exact Nb.nle (by assumption)
  | with_reducible exact Nb.lt (by assumption)
  | ((with_reducible apply Nb.rng (by assumption) (by assumption)) <;> walk_at "b")
  | ((with_reducible apply Nb.rngE (by assumption) (by assumption)) <;> walk_at "b")
  | with_reducible exact Nb.self _)
local macro_rules | `(tactic| walk_at "z") => `(tactic| first | decide | with_reducible assumption | omega | exact fmod_nn (by omega) | exact fmod_lt (by omega))
local macro_rules | `(tactic| walk_at "e") => `(tactic| first
  | ((with_reducible refine is_ev ?_); first
    | ((with_reducible apply mul_st); (· walk_at "b"); (· walk_at "b"); (· rfl))
    | ((with_reducible apply mul_s1); (· walk_at "b"); (· rfl))
    | ((with_reducible apply mul_s2); (· walk_at "b"); (· rfl))
    | ((with_reducible apply div_st); (· walk_at "z"); (· walk_at "b"); (· rfl))
    | ((with_reducible apply mod_st); (· walk_at "z"))
    | with_reducible apply tup_pt
    | with_reducible apply tup_ln
    | ((with_reducible apply tup_st); (· rfl))
    | ((with_reducible apply lst_st); (· rfl))
    | with_reducible apply eqi_st
    | with_reducible apply nei_st
    | with_reducible apply eqp_st
    | with_reducible apply nep_st
    | with_reducible apply eqp_st'
    | with_reducible apply nep_st'
    | with_reducible apply eqb_st
    | with_reducible apply neb_st
    | with_reducible apply isb_st
    | with_reducible apply eqs_st
    | with_reducible apply nes_st
    | with_reducible refine ixl0 ?_
    | with_reducible refine ixl1 ?_
    | with_reducible refine ix2bi (fun _ _ _ => ?_)
    | ((with_reducible refine ix4i ?_ ?_ (fun _ _ _ => ?_)); (· walk_at "z"); (· walk_at "z"))
    | ((with_reducible refine ix2i ?_ ?_ (fun _ _ _ => ?_)); (· walk_at "z"); (· walk_at "z"))
    | ((with_reducible refine ix3i ?_ ?_ (fun _ _ _ => ?_)); (· walk_at "z"); (· walk_at "z"))
    | refine ⟨_, rfl, ?_⟩)
  | ((with_reducible refine fill_st ?_); refine ⟨_, rfl, ?_⟩; (try dsimp only))
  | ((with_reducible apply and_go rfl); (· (intro _; (repeat walk_at "s"); with_reducible exact ⟨rfl, rfl⟩)))
  | ((with_reducible refine is_chain ?_); (apply chain_go rfl); (· (intro _; (repeat walk_at "s"); exact ⟨rfl, rfl⟩)))
  | ((with_reducible refine draw_step (by assumption) ?_ ?_ (fun _ _ _ _ _ => ?_)); (· walk_at "z"); (· walk_at "z"))
  | ((with_reducible refine CLY.draw_step (by assumption) ?_ ?_ (fun _ _ _ _ _ => ?_)); (· walk_at "z"); (· walk_at "z"))
  | ((with_reducible refine is_evA ?_); refine ⟨_, rfl, ?_⟩)
  | ((with_reducible refine is_evL ?_); refine ⟨_, rfl, ?_⟩)
  | ((with_reducible refine is_evI ?_); refine ⟨_, rfl, ?_⟩)
  | ((with_reducible refine is_evR ?_); refine ⟨_, rfl, ?_⟩))
local macro_rules | `(tactic| walk_at "f") => `(tactic| first
  | with_reducible refine W_mV.mpr ?_
  | with_reducible refine W_mCons.mpr ?_
  | with_reducible refine W_m2.mpr ?_
  | with_reducible refine W_mC.mpr ?_
  | with_reducible refine W_mNil.mpr ?_
  | with_reducible refine W_mN.mpr ?_
  | with_reducible refine W_sSeq.mpr ?_
  | with_reducible refine W_sAsg.mpr ?_
  | with_reducible refine W_m1.mpr ?_
  | with_reducible refine W_mCallP.mpr ?_
  | with_reducible refine W_mCall.mpr ?_
  | with_reducible refine X_evI.mpr ?_
  | with_reducible refine X_evE.mpr ?_
  | with_reducible refine X_evN.mpr ?_
  | with_reducible refine X_if ?_
  | with_reducible refine W_sRet.mpr ?_
  | with_reducible refine W_sK.mpr ?_
  | with_reducible refine X_and ?_
  | with_reducible refine X_or ?_
  | with_reducible refine W_sPar.mpr ?_
  | with_reducible refine W_mSl.mpr ?_
  | with_reducible refine W_mPtN.mpr ?_
  | with_reducible refine W_mPtS.mpr ?_
  | with_reducible refine W_mIt.mpr ?_
  | with_reducible refine W_mItN.mpr ?_
  | with_reducible refine W_mComp.mpr ?_
  | ((with_reducible refine is_comp ?_); first | (apply X_compN; (· walk_at "o")) | ((with_reducible apply X_compY); (· walk_at "o"); (· rfl)))
  | with_reducible refine W_sFor.mpr ?_
  | ((with_reducible refine is_for ?_); refine W_forNil.mpr ?_)
  | with_reducible refine X_chain ?_
  | with_reducible refine W_sExp.mpr ?_
  | with_reducible refine W_mL.mpr ?_
  | with_reducible refine X_mif ?_
  | with_reducible refine W_mIxS.mpr ?_
  | with_reducible refine W_mYes.mpr ?_
  | with_reducible refine W_sPar3.mpr ?_
  | with_reducible refine W_mApp.mpr ?_
  | with_reducible refine W_mBor.mpr ?_
  | with_reducible refine CLX.W_sFz.mpr ?_)
local macro_rules | `(tactic| walk_at "s") => `(tactic| first
  | ((with_reducible refine is_W ?_); walk_at "f")
  | ((with_reducible refine is_ex ?_); first
    | ((with_reducible refine is_evS ?_); refine ⟨_, rfl, ?_⟩)
    | ((with_reducible apply call_st); (· with_reducible assumption))
    | with_reducible refine ⟨_, by with_reducible assumption, ?_⟩
    | walk_at "e")
  | ((with_reducible apply X_nx); (· walk_at "o"))
  | with_reducible refine Kq_ret.mpr ?_
  | with_reducible refine Kq_brk.mpr ?_
  | with_reducible refine Kq_cnt.mpr ?_
  | ((with_reducible apply X_fnx); (· walk_at "o"))
  | ((with_reducible apply X_fcnt); (· walk_at "o"))
  | with_reducible refine X_fbrk ?_
  | with_reducible refine X_fret ?_
  | ((with_reducible refine is_ltA ?_); refine ⟨?_, ?_⟩; (· first | decide | omega | (simp; omega) | (simp; done)))
  | with_reducible refine parW_mk.mpr ?_
  | with_reducible refine par3W_mk.mpr ?_)
local macro_rules | `(tactic| walk_at "r") => `(tactic| repeat walk_at "s")
local macro_rules | `(tactic| walk_at "u") => `(tactic| first | ((apply X_forC); (· walk_at "o"); (· rfl)) | ((apply X_compY); (· walk_at "o"); (· rfl)) | ((apply X_compC); (· walk_at "o"); (· rfl)))
local macro_rules | `(tactic| walk_at "g") => `(tactic| repeat first | walk_at "s" | (with_reducible refine go_ifF (rfl : _ = false) ?_) | (with_reducible refine go_ifT (rfl : _ = true) ?_) | (refine go_ifF (rfl : _ = false) ?_) | (refine go_ifT (rfl : _ = true) ?_) | walk_at "u")
def resOn (f : Pn → Lk → Bool) : List Pn → List Lk → Option D
  | [], _ => none
  | c :: K, L => match L.find? (f c) with
    | some l => some (.tup [.str "on", pnD c, lkD l])
    | none => resOn f K L
def resCr (g : Lk → Lk → Bool) : List Lk → Option D
  | [] => none
  | l :: r => match r.find? (g l) with
    | some m => some (.tup [.str "cross", lkD l, lkD m])
    | none => resCr g r
def resD (f : Pn → Lk → Bool) (g : Lk → Lk → Bool) (K : List Pn) (L : List Lk) : D := match resOn f K L with
  | some d => d
  | none => match resCr g L with
    | some d => d
    | none => .non
def onB (F : List D → Res D) : MS := (sIf (mCallP F (mCons (mV 2) (mCons (mV 3) mNil))) (sRet (mN bTup (mCons (mC (.str "on")) (mCons (mV 2) (mCons (mV 3) mNil))))) (sK .nx))
theorem on_row {F : List D → Res D} {f : Pn → Lk → Bool} {c : Pn} {o0 o1 : Option D} {tl : Sl} {Q : Fl → Sl → Prop} : ∀ (r : List Lk) (o3 : Option D), (∀ l ∈ r, F [pnD c, lkD l] = .ok (.bl (f c l))) →
    (∀ l, r.find? (f c) = some l → ∀ ρ, Q (.ret (.tup [.str "on", pnD c, lkD l])) ρ) → (r.find? (f c) = none → ∀ o3, Q .nx (o0 :: o1 :: some (pnD c) :: o3 :: tl)) → W (forL (pN 3) (onB F) (r.map lkD)) (o0 :: o1 :: some (pnD c) :: o3 :: tl) Q
  | [], o3, _, _, k => W_forNil.mpr (k rfl o3)
  | l :: r, o3, h, k1, k2 => by
    have E := h l (by simp)
    refine W_forCons.mpr ⟨o0 :: o1 :: some (pnD c) :: some (lkD l) :: tl, rfl, ?_⟩
    unfold onB
    walk_at "r"
    refine go_if (fun hf => ?_) fun hf => ?_
    · walk_at "r"
      exact .inr (.inr ⟨_, rfl, k1 l (by rw [List.find?_cons_of_pos hf]) _⟩)
    · walk_at "r"
      refine .inl ⟨.inl rfl, on_row r _ (fun m hm => h m (by simp [hm])) (fun m hm => k1 m (by rw [List.find?_cons_of_neg (by simp [hf])]; exact hm)) (fun hn => k2 (by rw [List.find?_cons_of_neg (by simp [hf])]; exact hn))⟩
theorem on_all {F : List D → Res D} {f : Pn → Lk → Bool} {L : List Lk} {d1 : D} {o0 : Option D} {tl : Sl} {Q : Fl → Sl → Prop} (hL : itemsOf d1 = some (L.map lkD)) : ∀ (K : List Pn) (o2 o3 : Option D), (∀ c ∈ K, ∀ l ∈ L, F [pnD c, lkD l] = .ok (.bl (f c l))) →
    (∀ d, resOn f K L = some d → ∀ ρ, Q (.ret d) ρ) → (resOn f K L = none → ∀ o2 o3, Q .nx (o0 :: some d1 :: o2 :: o3 :: tl)) → W (forL (pN 2) (sFor (pN 3) (mIt (mV 1)) (onB F)) (K.map pnD)) (o0 :: some d1 :: o2 :: o3 :: tl) Q
  | [], o2, o3, _, _, k => W_forNil.mpr (k rfl o2 o3)
  | c :: K, o2, o3, h, k1, k2 => by
    refine W_forCons.mpr ⟨o0 :: some d1 :: some (pnD c) :: o3 :: tl, rfl, ?_⟩
    walk_at "r"
    refine on_row L o3 (fun l hl => h c (by simp) l hl) (fun l hl ρ => ?_) (fun hn o3' => ?_)
    · exact .inr (.inr ⟨_, rfl, k1 _ (by unfold resOn; rw [hl]) _⟩)
    · refine .inl ⟨.inl rfl, on_all hL K _ _ (fun x hx => h x (by simp [hx])) (fun d hd => k1 d (by unfold resOn; rw [hn]; exact hd)) (fun hd => k2 (by unfold resOn; rw [hn]; exact hd))⟩
def crB (F : List D → Res D) (me : M D) : MS := (sIf (mCallP F (mCons me (mCons (mV 5) mNil))) (sRet (mN bTup (mCons (mC (.str "cross")) (mCons me (mCons (mV 5) mNil))))) (sK .nx))
theorem cr_row {F : List D → Res D} {me : M D} {g : Lk → Lk → Bool} {l : Lk} {o0 o1 o2 o3 o4 : Option D} {tl : Sl} {Q : Fl → Sl → Prop} (hme : ∀ o5 P, P (lkD l) (o0 :: o1 :: o2 :: o3 :: o4 :: o5 :: tl) → W me (o0 :: o1 :: o2 :: o3 :: o4 :: o5 :: tl) P) : ∀ (r : List Lk) (o5 : Option D), (∀ m ∈ r, F [lkD l, lkD m] = .ok (.bl (g l m))) →
    (∀ m, r.find? (g l) = some m → ∀ ρ, Q (.ret (.tup [.str "cross", lkD l, lkD m])) ρ) → (r.find? (g l) = none → ∀ o5, Q .nx (o0 :: o1 :: o2 :: o3 :: o4 :: o5 :: tl)) → W (forL (pN 5) (crB F me) (r.map lkD)) (o0 :: o1 :: o2 :: o3 :: o4 :: o5 :: tl) Q
  | [], o5, _, _, k => W_forNil.mpr (k rfl o5)
  | m :: r, o5, h, k1, k2 => by
    have E := h m (by simp)
    refine W_forCons.mpr ⟨o0 :: o1 :: o2 :: o3 :: o4 :: some (lkD m) :: tl, rfl, ?_⟩
    unfold crB
    refine W_sIf.mpr (W_mCallP.mpr (W_mCons.mpr (hme _ _ ?_)))
    walk_at "r"
    refine go_if (fun hf => ?_) fun hf => ?_
    · refine W_sRet.mpr (W_mN.mpr (W_mCons.mpr (W_mC.mpr (W_mCons.mpr (hme _ _ ?_)))))
      walk_at "r"
      exact .inr (.inr ⟨_, rfl, k1 m (by rw [List.find?_cons_of_pos hf]) _⟩)
    · walk_at "r"
      refine .inl ⟨.inl rfl, cr_row hme r _ (fun x hx => h x (by simp [hx])) (fun x hx => k1 x (by rw [List.find?_cons_of_neg (by simp [hf])]; exact hx)) (fun hn => k2 (by rw [List.find?_cons_of_neg (by simp [hf])]; exact hn))⟩
theorem cut_suf {α : Type} {A r : List α} {l : α} : cutD (A ++ l :: r) (some ((A.length : Nat) + 1 : Int)) none = r := by
  have e : ((A.length : Nat) + 1 : Int) = ((A.length + 1 : Nat) : Int) := by omega
  rw [e, cut_from]
  have : (A ++ l :: r).drop (A.length + 1) = r := by
    rw [← List.drop_drop, List.drop_left]; rfl
  exact this
/-- the program's second loops -/
theorem crP_all {L : List Lk} {o0 o2 : Option D} {Q : Fl → Sl → Prop} : ∀ (A r : List Lk) (o3 o4 o5 : Option D), L = A ++ r → (∀ l ∈ L, ∀ m ∈ L, F_do_cross [lkD l, lkD m] = .ok (.bl (crP l.1 l.2 m.1 m.2))) →
    (∀ d, resCr (fun l m => crP l.1 l.2 m.1 m.2) r = some d → ∀ ρ, Q (.ret d) ρ) → (resCr (fun l m => crP l.1 l.2 m.1 m.2) r = none → ∀ o3 o4 o5, Q .nx [o0, some (.tup (L.map lkD)), o2, o3, o4, o5]) →
    W (forL (pT 2 (psC (pN 4) (psC (pN 3) psN))) (sFor (pN 5) (mIt (mSl (mV 1) (some (m2 bAdd (mV 4) (mC (.int 1)))) none)) (crB F_do_cross (mV 3))) (enumFrom A.length (r.map lkD))) [o0, some (.tup (L.map lkD)), o2, o3, o4, o5] Q
  | A, [], o3, o4, o5, e, _, _, k => W_forNil.mpr (k rfl o3 o4 o5)
  | A, l :: r, o3, o4, o5, e, h, k1, k2 => by
    have hcut : cutD (L.map lkD) (some ((A.length : Nat) + 1 : Int)) none = r.map lkD := by
      rw [e, List.map_append, List.map_cons]
      have := cut_suf (A := A.map lkD) (r := r.map lkD) (l := lkD l)
      rw [List.length_map] at this
      exact this
    refine W_forCons.mpr ⟨[o0, some (.tup (L.map lkD)), o2, some (lkD l), some (.int (A.length : Nat)), o5], rfl, ?_⟩
    walk_at "r"
    rw [hcut]
    refine cr_row (g := fun l m => crP l.1 l.2 m.1 m.2) (l := l) (fun o5 P hP => W_mV.mpr ⟨_, rfl, hP⟩) r o5 (fun m hm => h l (by rw [e]; simp) m (by rw [e]; simp [hm])) (fun m hm ρ => ?_) (fun hn o5' => ?_)
    · exact .inr (.inr ⟨_, rfl, k1 _ (by unfold resCr; rw [hm]) _⟩)
    · refine .inl ⟨.inl rfl, ?_⟩
      have := crP_all (L := L) (o0 := o0) (o2 := o2) (Q := Q) (A ++ [l]) r (some (lkD l)) (some (.int (A.length : Nat))) o5' (by rw [e]; simp) h (fun d hd => k1 d (by unfold resCr; rw [hn]; exact hd)) (fun hd => k2 (by unfold resCr; rw [hn]; exact hd))
      rw [List.length_append] at this
      exact this
/-- the law's second loops -/
theorem crL_all {L : List Lk} {o0 o2 o3 o6 : Option D} {Q : Fl → Sl → Prop} (hl : L.length ≤ 10000) : ∀ (A r : List Lk) (o4 o5 : Option D), L = A ++ r → (∀ l ∈ L, ∀ m ∈ L, F__law_do_cross [lkD l, lkD m] = .ok (.bl (crL l.1 l.2 m.1 m.2))) →
    (∀ d, resCr (fun l m => crL l.1 l.2 m.1 m.2) r = some d → ∀ ρ, Q (.ret d) ρ) → (resCr (fun l m => crL l.1 l.2 m.1 m.2) r = none → ∀ o4 o5, Q .nx [o0, some (.lst (L.map lkD)), o2, o3, o4, o5, o6]) →
    W (forL (pN 4) (sFor (pN 5) (mIt (mSl (mV 1) (some (m2 bAdd (mV 4) (mC (.int 1)))) none)) (crB F__law_do_cross (m2 bIx (mV 1) (mV 4)))) ((List.range r.length).map fun (i : Nat) => D.int ((A.length + i : Nat) : Int))) [o0, some (.lst (L.map lkD)), o2, o3, o4, o5, o6] Q
  | A, [], o4, o5, e, _, _, k => W_forNil.mpr (k rfl o4 o5)
  | A, l :: r, o4, o5, e, h, k1, k2 => by
    have hcut : cutD (L.map lkD) (some ((A.length : Nat) + 1 : Int)) none = r.map lkD := by
      rw [e, List.map_append, List.map_cons]
      have := cut_suf (A := A.map lkD) (r := r.map lkD) (l := lkD l)
      rw [List.length_map] at this
      exact this
    have X : bIx (.lst (L.map lkD)) (.int (A.length : Nat)) = some (lkD l) := by
      rw [e]
      exact at_nat (by simp)
    have er : ((List.range (l :: r).length).map fun (i : Nat) => D.int ((A.length + i : Nat) : Int)) = D.int (A.length : Nat) :: ((List.range r.length).map fun (i : Nat) => D.int (((A ++ [l]).length + i : Nat) : Int)) := by
      rw [List.length_cons, List.range_succ_eq_map, List.map_cons, List.map_map]
      refine congr (congrArg _ rfl) (List.map_congr_left fun i _ => ?_)
      simp only [Function.comp, List.length_append, List.length_cons, List.length_nil]
      congr 2
      omega
    rw [er]
    refine W_forCons.mpr ⟨[o0, some (.lst (L.map lkD)), o2, o3, some (.int (A.length : Nat)), o5, o6], rfl, ?_⟩
    walk_at "r"
    rw [hcut]
    refine cr_row (g := fun l m => crL l.1 l.2 m.1 m.2) (l := l) (fun o5 P hP => ?_) r o5 (fun m hm => h l (by rw [e]; simp) m (by rw [e]; simp [hm])) (fun m hm ρ => ?_) (fun hn o5' => ?_)
    · exact W_m2.mpr (W_mV.mpr ⟨_, rfl, W_mV.mpr ⟨_, rfl, _, X, hP⟩⟩)
    · exact .inr (.inr ⟨_, rfl, k1 _ (by unfold resCr; rw [hm]) _⟩)
    · refine .inl ⟨.inl rfl, ?_⟩
      exact crL_all hl (A ++ [l]) r (some (.int (A.length : Nat))) o5' (by rw [e]; simp) h (fun d hd => k1 d (by unfold resCr; rw [hn]; exact hd)) (fun hd => k2 (by unfold resCr; rw [hn]; exact hd))
end CLTR
namespace CLTR
open PySem PySem.Spec L2 CL CLG CLX CLE CLN CLSD PySem.W
local macro_rules | `(tactic| walk_at "o") => `(tactic| ((try simp only [backA, List.set_cons_zero, List.set_cons_succ, wipeD, List.map_cons, List.map_nil, List.cons_append, List.nil_append, List.replicate_succ, List.replicate_zero]); first | done | rfl))
local macro_rules | `(tactic| walk_at "b") => `(tactic| first
  | with_reducible exact Nb.lit
  | ((with_reducible apply Nb.mul) <;> walk_at "b")
  | ((with_reducible apply Nb.add) <;> walk_at "b")
  | ((with_reducible apply Nb.sub) <;> walk_at "b")
  | ((with_reducible apply Nb.neg) <;> walk_at "b")
  | ((with_reducible apply Nb.fdiv) <;> walk_at "b")
  | ((with_reducible apply Nb.fmod); (· walk_at "z"); (· walk_at "b"))
  | ((with_reducible apply Nb.max) <;> walk_at "b")
  | ((with_reducible apply Nb.min) <;> walk_at "b")
  | ((with_reducible apply Nb.ite) <;> walk_at "b")
  | with_reducible assumption
  | with_reducible exact Nb.le (by assumption)
  | with_reducible exact Nb.nle (by assumption)
  | with_reducible exact Nb.lt (by assumption)
  | ((with_reducible apply Nb.rng (by assumption) (by assumption)) <;> walk_at "b")
  | ((with_reducible apply Nb.rngE (by assumption) (by assumption)) <;> walk_at "b")
  | with_reducible exact Nb.self _)
local macro_rules | `(tactic| walk_at "z") => `(tactic| first | decide | with_reducible assumption | omega | exact fmod_nn (by omega) | exact fmod_lt (by omega))
local macro_rules | `(tactic| walk_at "e") => `(tactic| first
  | ((with_reducible refine is_ev ?_); first
    | ((with_reducible apply mul_st); (· walk_at "b"); (· walk_at "b"); (· rfl))
    | ((with_reducible apply mul_s1); (· walk_at "b"); (· rfl))
    | ((with_reducible apply mul_s2); (· walk_at "b"); (· rfl))
    | ((with_reducible apply div_st); (· walk_at "z"); (· walk_at "b"); (· rfl))
    | ((with_reducible apply mod_st); (· walk_at "z"))
    | with_reducible apply tup_pt
    | with_reducible apply tup_ln
    | ((with_reducible apply tup_st); (· rfl))
    | ((with_reducible apply lst_st); (· rfl))
    | with_reducible apply eqi_st
    | with_reducible apply nei_st
    | with_reducible apply eqp_st
    | with_reducible apply nep_st
    | with_reducible apply eqp_st'
    | with_reducible apply nep_st'
    | with_reducible apply eqb_st
    | with_reducible apply neb_st
    | with_reducible apply isb_st
    | with_reducible apply eqs_st
    | with_reducible apply nes_st
    | with_reducible refine ixl0 ?_
    | with_reducible refine ixl1 ?_
    | with_reducible refine ix2bi (fun _ _ _ => ?_)
    | ((with_reducible refine ix4i ?_ ?_ (fun _ _ _ => ?_)); (· walk_at "z"); (· walk_at "z"))
    | ((with_reducible refine ix2i ?_ ?_ (fun _ _ _ => ?_)); (· walk_at "z"); (· walk_at "z"))
    | ((with_reducible refine ix3i ?_ ?_ (fun _ _ _ => ?_)); (· walk_at "z"); (· walk_at "z"))
    | refine ⟨_, rfl, ?_⟩)
  | ((with_reducible refine fill_st ?_); refine ⟨_, rfl, ?_⟩; (try dsimp only))
  | ((with_reducible apply and_go rfl); (· (intro _; (repeat walk_at "s"); with_reducible exact ⟨rfl, rfl⟩)))
  | ((with_reducible refine is_chain ?_); (apply chain_go rfl); (· (intro _; (repeat walk_at "s"); exact ⟨rfl, rfl⟩)))
  | ((with_reducible refine draw_step (by assumption) ?_ ?_ (fun _ _ _ _ _ => ?_)); (· walk_at "z"); (· walk_at "z"))
  | ((with_reducible refine CLY.draw_step (by assumption) ?_ ?_ (fun _ _ _ _ _ => ?_)); (· walk_at "z"); (· walk_at "z"))
  | ((with_reducible refine is_evA ?_); refine ⟨_, rfl, ?_⟩)
  | ((with_reducible refine is_evL ?_); refine ⟨_, rfl, ?_⟩)
  | ((with_reducible refine is_evI ?_); refine ⟨_, rfl, ?_⟩)
  | ((with_reducible refine is_evR ?_); refine ⟨_, rfl, ?_⟩))
local macro_rules | `(tactic| walk_at "f") => `(tactic| first
  | with_reducible refine W_mV.mpr ?_
  | with_reducible refine W_mCons.mpr ?_
  | with_reducible refine W_m2.mpr ?_
  | with_reducible refine W_mC.mpr ?_
  | with_reducible refine W_mNil.mpr ?_
  | with_reducible refine W_mN.mpr ?_
  | with_reducible refine W_sSeq.mpr ?_
  | with_reducible refine W_sAsg.mpr ?_
  | with_reducible refine W_m1.mpr ?_
  | with_reducible refine W_mCallP.mpr ?_
  | with_reducible refine W_mCall.mpr ?_
  | with_reducible refine X_evI.mpr ?_
  | with_reducible refine X_evE.mpr ?_
  | with_reducible refine X_evN.mpr ?_
  | with_reducible refine X_if ?_
  | with_reducible refine W_sRet.mpr ?_
  | with_reducible refine W_sK.mpr ?_
  | with_reducible refine X_and ?_
  | with_reducible refine X_or ?_
  | with_reducible refine W_sPar.mpr ?_
  | with_reducible refine W_mSl.mpr ?_
  | with_reducible refine W_mPtN.mpr ?_
  | with_reducible refine W_mPtS.mpr ?_
  | with_reducible refine W_mIt.mpr ?_
  | with_reducible refine W_mItN.mpr ?_
  | with_reducible refine W_mComp.mpr ?_
  | ((with_reducible refine is_comp ?_); first | (apply X_compN; (· walk_at "o")) | ((with_reducible apply X_compY); (· walk_at "o"); (· rfl)))
  | with_reducible refine W_sFor.mpr ?_
  | ((with_reducible refine is_for ?_); refine W_forNil.mpr ?_)
  | with_reducible refine X_chain ?_
  | with_reducible refine W_sExp.mpr ?_
  | with_reducible refine W_mL.mpr ?_
  | with_reducible refine X_mif ?_
  | with_reducible refine W_mIxS.mpr ?_
  | with_reducible refine W_mYes.mpr ?_
  | with_reducible refine W_sPar3.mpr ?_
  | with_reducible refine W_mApp.mpr ?_
  | with_reducible refine W_mBor.mpr ?_
  | with_reducible refine CLX.W_sFz.mpr ?_)
local macro_rules | `(tactic| walk_at "s") => `(tactic| first
  | ((with_reducible refine is_W ?_); walk_at "f")
  | ((with_reducible refine is_ex ?_); first
    | ((with_reducible refine is_evS ?_); refine ⟨_, rfl, ?_⟩)
    | ((with_reducible apply call_st); (· with_reducible assumption))
    | with_reducible refine ⟨_, by with_reducible assumption, ?_⟩
    | walk_at "e")
  | ((with_reducible apply X_nx); (· walk_at "o"))
  | with_reducible refine Kq_ret.mpr ?_
  | with_reducible refine Kq_brk.mpr ?_
  | with_reducible refine Kq_cnt.mpr ?_
  | ((with_reducible apply X_fnx); (· walk_at "o"))
  | ((with_reducible apply X_fcnt); (· walk_at "o"))
  | with_reducible refine X_fbrk ?_
  | with_reducible refine X_fret ?_
  | ((with_reducible refine is_ltA ?_); refine ⟨?_, ?_⟩; (· first | decide | omega | (simp; omega) | (simp; done)))
  | with_reducible refine parW_mk.mpr ?_
  | with_reducible refine par3W_mk.mpr ?_)
local macro_rules | `(tactic| walk_at "r") => `(tactic| repeat walk_at "s")
local macro_rules | `(tactic| walk_at "u") => `(tactic| first | ((apply X_forC); (· walk_at "o"); (· rfl)) | ((apply X_compY); (· walk_at "o"); (· rfl)) | ((apply X_compC); (· walk_at "o"); (· rfl)))
local macro_rules | `(tactic| walk_at "g") => `(tactic| repeat first | walk_at "s" | (with_reducible refine go_ifF (rfl : _ = false) ?_) | (with_reducible refine go_ifT (rfl : _ = true) ?_) | (refine go_ifF (rfl : _ = false) ?_) | (refine go_ifT (rfl : _ = true) ?_) | walk_at "u")
theorem c_loop {o0 o2 : Option D} {Q : Fl → Sl → Prop} : ∀ (t S : List Pn) (vs : List D) (o3 : Option D), S.Nodup → S.length + t.length ≤ 100000 →
    (∀ (S' : List Pn) (vs' : List D) (o3' : Option D), S'.Nodup → (∀ s, s ∈ S' ↔ s ∈ S ∨ s ∈ t) → S'.length ≤ S.length + t.length → Q .nx [o0, some (.kdc (S'.map pnD) vs'), o2, o3']) →
    W (forL (pN 3) (sStoK 1 (mV 3) (mC (.bl true))) (t.map pnD)) [o0, some (.kdc (S.map pnD) vs), o2, o3] Q
  | [], S, vs, o3, hn, _, k => W_forNil.mpr (k S vs o3 hn (by simp) (by simp))
  | c :: t, S, vs, o3, hn, hl, k => by
    simp only [List.length_cons] at hl
    refine W_forCons.mpr ⟨[o0, some (.kdc (S.map pnD) vs), o2, some (pnD c)], rfl, sto_e cnE (W_mC.mpr ⟨_, rfl, W_mV.mpr ⟨_, rfl, S, vs, c, rfl, rfl, by omega, fun vs' => .inl ⟨.inl rfl, ?_⟩⟩⟩)⟩
    have h1 := CLE.len_ins (S := S) (s := c)
    refine c_loop t (CLE.ins S c) vs' _ (CLE.nodup_ins hn) (by omega) fun S' vs2 o3' n1 n2 n3 => k S' vs2 o3' n1 (fun s => ?_) (by simp only [List.length_cons]; omega)
    rw [n2, CLE.mem_ins]
    simp only [List.mem_cons]
    constructor
    · rintro ((h | h) | h)
      · exact .inl h
      · exact .inr (.inl h)
      · exact .inr (.inr h)
    · rintro (h | h | h)
      · exact .inl (.inl h)
      · exact .inl (.inr h)
      · exact .inr h
theorem cp_loop {o0 : Option D} {Q : Fl → Sl → Prop} : ∀ (T : List (List Pn)) (S : List Pn) (vs : List D) (o2 o3 : Option D), S.Nodup → S.length + (T.map List.length).sum ≤ 100000 →
    (∀ (S' : List Pn) (vs' : List D) (o2' o3' : Option D), S'.Nodup → (∀ s, s ∈ S' ↔ s ∈ S ∨ ∃ p ∈ T, s ∈ p) → S'.length ≤ S.length + (T.map List.length).sum → Q .nx [o0, some (.kdc (S'.map pnD) vs'), o2', o3']) →
    W (forL (pN 2) (sFor (pN 3) (mIt (mV 2)) (sStoK 1 (mV 3) (mC (.bl true)))) (T.map paD')) [o0, some (.kdc (S.map pnD) vs), o2, o3] Q
  | [], S, vs, o2, o3, hn, _, k => W_forNil.mpr (k S vs o2 o3 hn (by simp) (by simp))
  | t :: T, S, vs, o2, o3, hn, hl, k => by
    simp only [List.map_cons, List.sum_cons] at hl
    refine W_forCons.mpr ⟨[o0, some (.kdc (S.map pnD) vs), some (.tup (t.map pnD)), o3], rfl, ?_⟩
    walk_at "r"
    refine c_loop t S vs _ hn (by omega) fun S' vs' o3' n1 n2 n3 => .inl ⟨.inl rfl, ?_⟩
    refine cp_loop T S' vs' _ _ n1 (by omega) fun S2 vs2 o2' o32 m1 m2 m3 => k S2 vs2 o2' o32 m1 (fun s => ?_) (by simp only [List.map_cons, List.sum_cons]; omega)
    rw [m2, n2]
    simp only [List.mem_cons]
    constructor
    · rintro ((h | h) | ⟨z, hz, h⟩)
      · exact .inl h
      · exact .inr ⟨t, .inl rfl, h⟩
      · exact .inr ⟨z, .inr hz, h⟩
    · rintro (h | ⟨z, rfl | hz, h⟩)
      · exact .inl (.inl h)
      · exact .inl (.inr h)
      · exact .inr ⟨z, hz, h⟩
theorem corners_is {T : List (List Pn)} (hl : (T.map List.length).sum ≤ 10000) : ∃ S : List Pn, S.Nodup ∧ (∀ s, s ∈ S ↔ ∃ p ∈ T, s ∈ p) ∧ S.length ≤ 10000 ∧ F_corners_on [.tup (T.map paD')] = .ok (.tup ((S.map pnD).mergeSort leD)) := by
  have key : ∃ d, F_corners_on [.tup (T.map paD')] = .ok d ∧ ∃ S : List Pn, S.Nodup ∧ (∀ s, s ∈ S ↔ ∃ p ∈ T, s ∈ p) ∧ S.length ≤ 10000 ∧ d = .tup ((S.map pnD).mergeSort leD) := by
    refine runP_ex ?_
    unfold B_corners_on
    walk_at "r"
    refine cp_loop T [] [] _ _ (by simp) (by simp; omega) fun S' vs' o2 o3 n1 n2 n3 => ?_
    walk_at "r"
    refine sortK_e cnE ?_
    walk_at "r"
    exact ⟨fun s => by rw [n2]; simp, by simp at n3; omega, rfl⟩
  obtain ⟨d, e, S, h1, h2, h3, rfl⟩ := key
  exact ⟨S, h1, h2, h3, e⟩
theorem llinks2_is {T : List (List Pn)} (hl : (T.map List.length).sum ≤ 10000) : ∃ S : List Lk, S.Nodup ∧ (∀ s, s ∈ S ↔ ∃ p ∈ T, s ∈ lks p) ∧ S.length ≤ 10000 ∧ F__law_links [.tup (T.map paD')] = .ok (.lst ((S.map lkD).mergeSort leD)) := by
  have key : ∃ d, F__law_links [.tup (T.map paD')] = .ok d ∧ ∃ S : List Lk, S.Nodup ∧ (∀ s, s ∈ S ↔ ∃ p ∈ T, s ∈ lks p) ∧ S.length ≤ 10000 ∧ d = .lst ((S.map lkD).mergeSort leD) := by
    refine runP_ex ?_
    unfold B__law_links
    walk_at "r"
    refine path_loop T [] [] _ _ _ (by simp) (by simp; omega) fun S' vs' o2 o3 o4 n1 n2 n3 => ?_
    walk_at "r"
    refine sortD_e lkE ?_
    exact ⟨_, rfl, S', n1, fun s => by rw [n2]; simp, by simp at n3; omega, rfl⟩
  obtain ⟨d, e, S, h1, h2, h3, rfl⟩ := key
  exact ⟨S, h1, h2, h3, e⟩
/-- sorted(set(..)) of corners is what sorted tells of the keys -/
theorem set_same {l S : List Pn} (h : l.length ≤ 2040) (hS : S.Nodup) (hm : ∀ c, c ∈ S ↔ c ∈ l) : CLS.sortSetG [.lst (l.map pnD)] = some ((S.map pnD).mergeSort leD) := by
  obtain ⟨K, e1, k1, k2, k3⟩ := CLO.sorted_pn hS
  have pw : (K.map pnI).Pairwise fun a b => leI a b = true := by
    have p := sort_pairwise CLK.leD_total (S.map pnD)
    rw [e1] at p
    exact List.pairwise_map.mpr ((List.pairwise_map.mp p).imp fun {a b} h => h)
  have nd : (K.map pnI).Nodup := List.Pairwise.map _ (fun a b n h => n (pnI_inj h)) k1
  have e2 : K.map pnI = sortSet (l.map pnI) := by
    refine sortSet_is nd (fun a => ?_) pw
    simp only [List.mem_map]
    constructor
    · rintro ⟨c, hc, rfl⟩; exact ⟨c, (hm c).mp ((k2 c).mp hc), rfl⟩
    · rintro ⟨c, hc, rfl⟩; exact ⟨c, (k2 c).mpr ((hm c).mpr hc), rfl⟩
  have few : CLS.Few (l.map pnI) := Nat.le_trans CLI.dups_key.1 (by simpa using h)
  rw [e1]
  unfold CLS.sortSetG
  simp only [CLS.seqD, allI_pn, Option.bind_some]
  rw [if_pos (by simp [few, pnI]), ← e2]
  simp [tIs, pnI, pnD, pt]
theorem cat_pn : ∀ {T : List (List Pn)}, catL (T.map fun p => .lst (p.map pnD)) = some (T.flatten.map pnD)
  | [] => rfl
  | p :: T => by
    simp only [List.map_cons, catL]
    rw [cat_pn (T := T)]
    simp
theorem find_congr {α : Type} {f g : α → Bool} : ∀ {l : List α}, (∀ a ∈ l, f a = g a) → l.find? f = l.find? g
  | [], _ => rfl
  | a :: l, h => by
    have h1 := h a (by simp)
    have h2 := find_congr (l := l) fun b hb => h b (by simp [hb])
    cases e : g a with
    | true => rw [List.find?_cons_of_pos (by rw [h1, e]), List.find?_cons_of_pos e]
    | false => rw [List.find?_cons_of_neg (by simp [h1, e]), List.find?_cons_of_neg (by simp [e]), h2]
theorem resOn_congr {f g : Pn → Lk → Bool} {L : List Lk} : ∀ {K : List Pn}, (∀ c ∈ K, ∀ l ∈ L, f c l = g c l) → resOn f K L = resOn g K L
  | [], _ => rfl
  | c :: K, h => by
    unfold resOn
    rw [find_congr (fun l hl => h c (by simp) l hl), resOn_congr (K := K) fun x hx => h x (by simp [hx])]
theorem resOn_none {f : Pn → Lk → Bool} {L : List Lk} : ∀ {K : List Pn}, resOn f K L = none → ∀ c ∈ K, ∀ l ∈ L, f c l = false
  | [], _, c, hc, _, _ => by simp at hc
  | c :: K, h, x, hx, l, hl => by
    unfold resOn at h
    cases e : L.find? (f c) with
    | some m => rw [e] at h; cases h
    | none =>
      rw [e] at h
      rcases List.mem_cons.mp hx with rfl | hx
      · simpa using List.find?_eq_none.mp e l hl
      · exact resOn_none h x hx l hl
theorem resCr_congr {f g : Lk → Lk → Bool} : ∀ {L : List Lk}, L.Nodup → (∀ l ∈ L, ∀ m ∈ L, l ≠ m → f l m = g l m) → resCr f L = resCr g L
  | [], _, _ => rfl
  | l :: r, hn, h => by
    obtain ⟨n1, n2⟩ := List.nodup_cons.mp hn
    unfold resCr
    rw [find_congr (fun m hm => h l (by simp) m (by simp [hm]) (fun e => n1 (e ▸ hm))), resCr_congr n2 fun a ha b hb => h a (by simp [ha]) b (by simp [hb])]
theorem lks_in : ∀ {p : List Pn} {s : Lk}, s ∈ lks p → s.1 ∈ p ∧ s.2 ∈ p
  | [], s, h => by simp [lks] at h
  | [a], s, h => by simp [lks] at h
  | a :: b :: p, s, h => by
    simp only [lks, List.mem_cons] at h
    rcases h with rfl | h
    · rcases lnk_or (a := a) (b := b) with e | e <;> rw [e] <;> simp
    · obtain ⟨h1, h2⟩ := lks_in (p := b :: p) h
      exact ⟨List.mem_cons_of_mem _ h1, List.mem_cons_of_mem _ h2⟩
theorem lks_lt : ∀ {p : List Pn} {s : Lk}, p.Nodup → s ∈ lks p → s.1.lt s.2 = true
  | [], s, _, h => by simp [lks] at h
  | [a], s, _, h => by simp [lks] at h
  | a :: b :: p, s, hn, h => by
    obtain ⟨n1, n2⟩ := List.nodup_cons.mp hn
    simp only [lks, List.mem_cons] at h
    rcases h with rfl | h
    · have hab : a ≠ b := fun e => n1 (by rw [e]; simp)
      show (pmin a b).lt (pmax a b) = true
      rcases lt_tri hab with q | q
      · have e1 : pmin a b = a := by unfold pmin; rw [lt_asym q]; rfl
        have e2 : pmax a b = b := by unfold pmax; rw [q]; rfl
        rw [e1, e2]; exact q
      · have e1 : pmin a b = b := by unfold pmin; rw [q]; rfl
        have e2 : pmax a b = a := by unfold pmax; rw [lt_asym q]; rfl
        rw [e1, e2]; exact q
    · exact lks_lt n2 h
/-- a drawing: paths -/
structure Dr (T : List (List Pn)) : Prop where
  nd : ∀ p ∈ T, p.Nodup
  bd : ∀ p ∈ T, ∀ c ∈ p, Pb c
  len : (T.map List.length).sum ≤ 2000
/-- of the same corners and links -/
structure Same (T U : List (List Pn)) : Prop where
  k : ∀ c, (∃ p ∈ U, c ∈ p) ↔ ∃ p ∈ T, c ∈ p
  l : ∀ s, (∃ p ∈ U, s ∈ lks p) ↔ ∃ p ∈ T, s ∈ lks p
theorem res_same {K : List Pn} {L : List Lk} (hn : L.Nodup) (hl : ∀ l ∈ L, l.1.lt l.2 = true ∧ l.1 ∈ K ∧ l.2 ∈ K) : resD (fun c l => onL c l.1 l.2) (fun l m => crL l.1 l.2 m.1 m.2) K L = resD (fun c l => onP c l.1 l.2) (fun l m => crP l.1 l.2 m.1 m.2) K L := by
  have e1 : resOn (fun c l => onL c l.1 l.2) K L = resOn (fun c l => onP c l.1 l.2) K L := resOn_congr fun c _ l hl' => (on_eq (lt_ne (hl l hl').1)).symm
  unfold resD
  rw [e1]
  cases h : resOn (fun c l => onP c l.1 l.2) K L with
  | some d => rfl
  | none =>
    have no : ∀ c ∈ K, ∀ l ∈ L, ¬ On c l.1 l.2 := fun c hc l hl' z => by
      rw [← e1] at h
      have := resOn_none h c hc l hl'
      rw [onL_iff.mpr z] at this
      cases this
    simp only
    rw [resCr_congr hn fun l hl1 m hm hne => by
      obtain ⟨a1, a2, a3⟩ := hl l hl1
      obtain ⟨b1, b2, b3⟩ := hl m hm
      exact cross_eq a1 b1 (fun e => hne (by rw [← Prod.eta l, ← Prod.eta m]; exact e)) (no _ b2 l hl1) (no _ b3 l hl1) (no _ a2 m hm) (no _ a3 m hm)]
theorem nodup_e {α : Type} [DecidableEq α] {f : α → D} (E : KEnc f) {S L : List α} (hS : S.Nodup) (e : (S.map f).mergeSort leD = L.map f) : L.Nodup := by
  have h1 : (S.map f).Nodup := List.Pairwise.map _ (fun a b n h => n (f_inj E h)) hS
  have h2 : ((S.map f).mergeSort leD).Nodup := (List.mergeSort_perm _ _).nodup_iff.mpr h1
  rw [e] at h2
  exact (List.pairwise_map.mp h2).imp fun h e => h (by rw [e])
theorem len_e {α : Type} {f : α → D} {S L : List α} (e : (S.map f).mergeSort leD = L.map f) : L.length = S.length := by
  have := congrArg List.length e
  simpa using this.symm
set_option maxHeartbeats 0 in
/-- the program: the first trouble -/
theorem trouble_is {T : List (List Pn)} {K : List Pn} {L : List Lk} (hlen : (T.map List.length).sum ≤ 10000) (eK : F_corners_on [.tup (T.map paD')] = .ok (.tup (K.map pnD))) (eL : linksF [.tup (T.map paD')] = .ok (.tup (L.map lkD)))
    (hK : ∀ c ∈ K, Pb c) (hL : ∀ l ∈ L, Pb l.1 ∧ Pb l.2) (hl : L.length ≤ 10000) : F_trouble_of [.tup (T.map paD')] = .ok (resD (fun c l => onP c l.1 l.2) (fun l m => crP l.1 l.2 m.1 m.2) K L) := by
  refine runP_of ?_
  unfold B_trouble_of
  walk_at "r"
  refine on_all (F := F_lies_on) (f := fun c l => onP c l.1 l.2) (L := L) rfl K _ _ (fun c hc l hl => lieson_is (hK c hc) (hL l hl).1 (hL l hl).2) (fun d hd ρ => ?_) (fun hn o2 o3 => ?_)
  · refine Kq_ret.mpr ?_
    unfold resD
    rw [hd]
  have er : resD (fun c l => onP c l.1 l.2) (fun l m => crP l.1 l.2 m.1 m.2) K L = match resCr (fun l m => crP l.1 l.2 m.1 m.2) L with | some d => d | none => .non := by
    unfold resD
    simp only [hn] <;> rfl
  rw [er]
  walk_at "r"
  refine crP_all [] L _ _ _ rfl (fun l hl m hm => docross_is (hL l hl).1 (hL l hl).2 (hL m hm).1 (hL m hm).2) (fun d hd ρ => ?_) (fun hn2 o3 o4 o5 => ?_)
  · refine Kq_ret.mpr ?_
    rw [hd]
  · rw [hn2]
    walk_at "r"
    rfl
set_option maxHeartbeats 0 in
theorem ltrouble_is {T : List (List Pn)} {K : List Pn} {L : List Lk} (hlen : (T.map List.length).sum ≤ 2000) (eK : CLS.sortSetG [.lst (T.flatten.map pnD)] = some (K.map pnD)) (eL : F__law_links [.tup (T.map paD')] = .ok (.lst (L.map lkD)))
    (hK : ∀ c ∈ K, Pb c) (hL : ∀ l ∈ L, Pb l.1 ∧ Pb l.2) (hl : L.length ≤ 10000) : F__law_trouble [.tup (T.map paD')] = .ok (resD (fun c l => onL c l.1 l.2) (fun l m => crL l.1 l.2 m.1 m.2) K L) := by
  have hfl : T.flatten.length ≤ 2000 := by rw [List.length_flatten]; exact hlen
  have hml : (L.map lkD).length ≤ 10000 := by rw [List.length_map]; exact hl
  have SL : sumL [.lst (T.map fun p => .lst (p.map pnD)), .lst []] = some (.lst (T.flatten.map pnD)) := by
    simp only [sumL, cat_pn, Option.bind_some]
    rw [if_pos (by rw [List.length_map]; omega)]
  refine runP_of ?_
  unfold B__law_trouble
  walk_at "r"
  refine X_compM (xs := T) (g := paD') (h := fun p => .lst (p.map pnD)) (fun p hp => ⟨_, rfl, ?_⟩) ?_
  · walk_at "r"
    exact ⟨rfl, rfl⟩
  walk_at "r"
  refine on_all (F := F__law_is_on) (f := fun c l => onL c l.1 l.2) (L := L) rfl K _ _ (fun c hc l hl => lison_is (hK c hc) (hL l hl).1 (hL l hl).2) (fun d hd ρ => ?_) (fun hn o2 o3 => ?_)
  · refine Kq_ret.mpr ?_
    unfold resD
    rw [hd]
  have er : resD (fun c l => onL c l.1 l.2) (fun l m => crL l.1 l.2 m.1 m.2) K L = match resCr (fun l m => crL l.1 l.2 m.1 m.2) L with | some d => d | none => .non := by
    unfold resD
    simp only [hn] <;> rfl
  rw [er]
  have R1 : range1 [.int (((L.map lkD).length : Nat) : Int)] = some ((List.range L.length).map fun (i : Nat) => D.int ((([] : List Lk).length + i : Nat) : Int)) := by
    rw [List.length_map]
    show (if _ then some (rangeL 0 _) else none) = _
    rw [if_pos (by omega)]
    unfold rangeL
    congr 1
  iterate 12 walk_at "s"
  refine ⟨_, R1, ?_⟩
  refine crL_all hl [] L _ _ rfl (fun l hl m hm => ldocross_is (hL l hl).1 (hL l hl).2 (hL m hm).1 (hL m hm).2) (fun d hd ρ => ?_) (fun hn2 o4 o5 => ?_)
  · refine Kq_ret.mpr ?_
    rw [hd]
  · rw [hn2]
    walk_at "r"
    rfl
end CLTR
namespace CLTR
open PySem PySem.Spec L2 CL CLG CLX CLE CLN CLSD PySem.W
theorem resOn_some {f : Pn → Lk → Bool} {L : List Lk} {d : D} : ∀ {K : List Pn}, resOn f K L = some d → ∃ c ∈ K, ∃ l ∈ L, d = .tup [.str "on", pnD c, lkD l]
  | [], h => by simp [resOn] at h
  | c :: K, h => by
    unfold resOn at h
    cases e : L.find? (f c) with
    | some m => rw [e] at h; exact ⟨c, by simp, m, List.mem_of_find?_eq_some e, by injection h with h; exact h.symm⟩
    | none =>
      rw [e] at h
      obtain ⟨x, hx, l, hl, rfl⟩ := resOn_some h
      exact ⟨x, by simp [hx], l, hl, rfl⟩
theorem resCr_some {g : Lk → Lk → Bool} {d : D} : ∀ {L : List Lk}, resCr g L = some d → ∃ l ∈ L, ∃ m ∈ L, d = .tup [.str "cross", lkD l, lkD m]
  | [], h => by simp [resCr] at h
  | c :: K, h => by
    unfold resCr at h
    cases e : K.find? (g c) with
    | some m => rw [e] at h; exact ⟨c, by simp, m, List.mem_cons_of_mem _ (List.mem_of_find?_eq_some e), by injection h with h; exact h.symm⟩
    | none =>
      rw [e] at h
      obtain ⟨x, hx, l, hl, rfl⟩ := resCr_some h
      exact ⟨x, by simp [hx], l, by simp [hl], rfl⟩
theorem pb26 {c : Pn} (h : Pb c) : c.x.natAbs < 2 ^ 26 ∧ c.y.natAbs < 2 ^ 26 := by
  obtain ⟨h1, h2⟩ := h
  exact ⟨by omega, by omega⟩
theorem t_on : (reprText (Str.ofString "on")).length ≤ 9 := by decide +kernel
theorem t_cross : (reprText (Str.ofString "cross")).length ≤ 9 := by decide +kernel
theorem repr_res {f : Pn → Lk → Bool} {g : Lk → Lk → Bool} {K : List Pn} {L : List Lk} (hK : ∀ c ∈ K, Pb c) (hL : ∀ l ∈ L, Pb l.1 ∧ Pb l.2) : ∃ z, bReprF [resD f g K L] = some (.str z) := by
  have no : ∃ z, bReprF [.non] = some (.str z) := ⟨_, reprF_small (n := 1) rfl (by decide) (by decide)⟩
  have gp : ∀ {c : Pn} {n : Nat}, Pb c → D.gd 26 (n + 1) (pnD c) = true := fun {c n} h => by
    obtain ⟨h1, h2⟩ := pb26 h
    simp only [pnD, pt, D.gd, D.gdL, Bool.and_true, Bool.and_eq_true, decide_eq_true_eq]
    exact ⟨h1, h2⟩
  have gl : ∀ {l : Lk}, Pb l.1 ∧ Pb l.2 → D.gd 26 2 (lkD l) = true := fun {l} h => by
    show D.gdL 26 1 [pnD l.1, pnD l.2] = true
    exact gdL_iff.mpr fun x hx => by
      rcases List.mem_cons.mp hx with rfl | hx
      · exact gp h.1
      · rw [List.mem_singleton.mp hx]; exact gp h.2
  unfold resD
  cases e : resOn f K L with
  | some d =>
    obtain ⟨c, hc, l, hl, rfl⟩ := resOn_some e
    refine ⟨_, reprF_small (n := 3) ?_ (by decide) ?_⟩
    · show D.gdL 26 2 _ = true
      exact gdL_iff.mpr fun x hx => by
        rcases List.mem_cons.mp hx with rfl | hx
        · decide +kernel
        rcases List.mem_cons.mp hx with rfl | hx
        · exact gp (hK c hc)
        · rw [List.mem_singleton.mp hx]; exact gl (hL l hl)
    · have := t_on
      simp only [D.wtE, D.wtEL, pnD, lkD, pt]
      omega
  | none =>
    cases e2 : resCr g L with
    | none => exact no
    | some d =>
      obtain ⟨c, hc, l, hl, rfl⟩ := resCr_some e2
      refine ⟨_, reprF_small (n := 3) ?_ (by decide) ?_⟩
      · show D.gdL 26 2 _ = true
        exact gdL_iff.mpr fun x hx => by
          rcases List.mem_cons.mp hx with rfl | hx
          · decide +kernel
          rcases List.mem_cons.mp hx with rfl | hx
          · exact gl (hL c hc)
          · rw [List.mem_singleton.mp hx]; exact gl (hL l hl)
      · have := t_cross
        simp only [D.wtE, D.wtEL, pnD, lkD, pt]
        omega
theorem trouble_all {T : List (List Pn)} (h : Dr T) : ∃ r z, F__law_trouble [.tup (T.map paD')] = .ok r ∧ bReprF [r] = some (.str z) ∧
    ∀ U : List (List Pn), Same T U → (U.map List.length).sum ≤ 10000 → F_trouble_of [.tup (U.map paD')] = .ok r := by
  have hs := h.len
  obtain ⟨SL, l1, l2, l3, l4⟩ := llinks2_is (T := T) (by omega)
  obtain ⟨L, eL, mL⟩ := sorted_e lkE (S := SL)
  obtain ⟨SK, k1, k2, k3, k4⟩ := corners_is (T := T) (by omega)
  obtain ⟨K, eK, nK, mK, lenK⟩ := CLO.sorted_pn k1
  have nL := nodup_e lkE l1 eL
  have lenL := len_e eL
  have bK : ∀ c ∈ K, Pb c := fun c hc => by
    obtain ⟨p, hp, hc⟩ := (k2 c).mp ((mK c).mp hc)
    exact h.bd p hp c hc
  have inK : ∀ l ∈ L, l.1.lt l.2 = true ∧ l.1 ∈ K ∧ l.2 ∈ K := fun l hl => by
    obtain ⟨p, hp, hc⟩ := (l2 l).mp ((mL l).mp hl)
    obtain ⟨a1, a2⟩ := lks_in hc
    exact ⟨lks_lt (h.nd p hp) hc, (mK _).mpr ((k2 _).mpr ⟨p, hp, a1⟩), (mK _).mpr ((k2 _).mpr ⟨p, hp, a2⟩)⟩
  have bL : ∀ l ∈ L, Pb l.1 ∧ Pb l.2 := fun l hl => ⟨bK _ (inK l hl).2.1, bK _ (inK l hl).2.2⟩
  have hfl : T.flatten.length ≤ 2000 := by rw [List.length_flatten]; exact hs
  have e1 : CLS.sortSetG [.lst (T.flatten.map pnD)] = some (K.map pnD) := by
    rw [← eK]
    refine set_same (by omega) k1 fun c => ?_
    rw [k2 c, List.mem_flatten]
  obtain ⟨z, hz⟩ := repr_res (f := fun c l => onL c l.1 l.2) (g := fun l m => crL l.1 l.2 m.1 m.2) bK bL
  refine ⟨_, z, ltrouble_is hs e1 (by rw [l4, eL]) bK bL (by omega), hz, fun U hU hu => ?_⟩
  obtain ⟨SL', l1', l2', l3', l4'⟩ := links_is (T := U) hu
  obtain ⟨SK', k1', k2', k3', k4'⟩ := corners_is (T := U) hu
  have e2 : (SL'.map lkD).mergeSort leD = L.map lkD := by
    rw [← eL]
    exact e_sort lkE l1' l1 fun s => by rw [l2', l2, hU.l]
  have e3 : (SK'.map pnD).mergeSort leD = K.map pnD := by
    rw [← eK]
    exact e_sort cnE k1' k1 fun s => by rw [k2', k2, hU.k]
  rw [e2] at l4'
  rw [e3] at k4'
  rw [trouble_is hu k4' l4' bK bL (by omega), res_same nL inK]
end CLTR
namespace LW
open PySem PySem.Spec L2 CL
def topS (i : Nat) : Stmt := PySem.Challenge.pw_cornerlines_k28_trouble_of_any_paths.main.body.getD i (.Pass ⟨0, 0, 0, 0⟩)
section
variable [Tb] {P : Program} {w : World} {K : PySem.W.Frag} {mg : Str → Option Value} {base : Heap}
abbrev s_links_of : Stmt := topS 1
theorem sc_links_of : FnScope ["paths", "found", "path", "here", "there"] ["paths"] (defScope s_links_of) := ⟨rfl, rfl, rfl, by decide +kernel, rfl, by decide +kernel, by decide +kernel⟩
def B_links_of : MS := (sSeq (sAsg (pN 1) (mC (.kdc [] []))) (sSeq (sFor (pN 2) (mIt (mV 0)) (sFor (pT 2 (psC (pN 3) (psC (pN 4) psN))) (mItN zip2 (mCons (mSl (mV 2) none (some (m1 bNeg (mC (.int 1))))) (mCons (mSl (mV 2) (some (mC (.int 1))) none) mNil))) (sStoK 1 (mN bTup (mCons (mN bMin2D (mCons (mV 3) (mCons (mV 4) mNil))) (mCons (mN bMax2D (mCons (mV 3) (mCons (mV 4) mNil))) mNil))) (mC (.bl true))))) (sFz 1 (sRet (mN bTuple (mCons (mL sortDK (mCons (mV 1) mNil)) mNil))))))
def F_links_of : List D → Res D := runP 4 B_links_of
theorem ok_links_of (t : TxF K mg "links_of" s_links_of ["paths"]) (hm_max : mg "max" = none) (hm_min : mg "min" = none) (hm_sorted : mg "sorted" = none) (hm_tuple : mg "tuple" = none) (hm_zip : mg "zip" = none) : CalP P w K mg base 1 "links_of" 1 (.sh) F_links_of := by
  obtain ⟨f, fd, Fu, bd, hm⟩ := t
  refine ⟨f, fd, _, ok_p (n := 1) (nl := 4) (F := ⟨fun i => if i = 1 then .od else .sh, fun i => false, .sh⟩) (b := B_links_of) Fu sc_links_of (sh_ok _ _ (by decide)) rfl rfl (.inl rfl) ?_, Fu.kp, bd, hm⟩
  intro cdv A outer s H E hr hg hcd
  exact (ss_cons (s_setO 1 sc_links_of.nd e_kd0)
    (ss_cons (s_for (i_any (e_v 0)) (g_n 2 sc_links_of.nd)
    (ss_one (s_for (i_zip2 (as_cons (e_sl (e_v 2) po_n (po_s (e_1 u_neg e_int))) (as_cons (e_sl (e_v 2) (po_s e_int) po_n) as_nil)) (hm := hm_zip)) (g_t (gs_cons (g_n 3 sc_links_of.nd) (gs_cons (g_n 4 sc_links_of.nd) gs_nil)))
    (ss_one (s_stoK 1 hr.units e_bl (e_tup (as_cons (e_callB (c_min2D rfl hr.units65) (a_cons (e_v 3) (a_cons (e_v 4) a_nil)) (hm := hm_min)) (as_cons (e_callB (c_max2D rfl hr.units65) (a_cons (e_v 3) (a_cons (e_v 4) a_nil)) (hm := hm_max)) as_nil))))))))
    (ss_fz 1 rfl (ss_one (s_ret (e_callTy c_tuple (a_cons (e_sh (e_callBO (c_sortedK rfl hr.units65) (a_cons (e_v 1) a_nil) (hm := hm_sorted))) a_nil) (hm := hm_tuple)))))))
abbrev s_corners_on : Stmt := topS 2
theorem sc_corners_on : FnScope ["paths", "found", "path", "corner"] ["paths"] (defScope s_corners_on) := ⟨rfl, rfl, rfl, by decide +kernel, rfl, by decide +kernel, by decide +kernel⟩
def B_corners_on : MS := (sSeq (sAsg (pN 1) (mC (.kdc [] []))) (sSeq (sFor (pN 2) (mIt (mV 0)) (sFor (pN 3) (mIt (mV 2)) (sStoK 1 (mV 3) (mC (.bl true))))) (sFz 1 (sRet (mN bTuple (mCons (mL sortDK (mCons (mV 1) mNil)) mNil))))))
def F_corners_on : List D → Res D := runP 3 B_corners_on
theorem ok_corners_on (t : TxF K mg "corners_on" s_corners_on ["paths"]) (hm_sorted : mg "sorted" = none) (hm_tuple : mg "tuple" = none) : CalP P w K mg base 1 "corners_on" 1 (.sh) F_corners_on := by
  obtain ⟨f, fd, Fu, bd, hm⟩ := t
  refine ⟨f, fd, _, ok_p (n := 1) (nl := 3) (F := ⟨fun i => if i = 1 then .od else .sh, fun i => false, .sh⟩) (b := B_corners_on) Fu sc_corners_on (sh_ok _ _ (by decide)) rfl rfl (.inl rfl) ?_, Fu.kp, bd, hm⟩
  intro cdv A outer s H E hr hg hcd
  exact (ss_cons (s_setO 1 sc_corners_on.nd e_kd0)
    (ss_cons (s_for (i_any (e_v 0)) (g_n 2 sc_corners_on.nd)
    (ss_one (s_for (i_any (e_v 2)) (g_n 3 sc_corners_on.nd)
    (ss_one (s_stoK 1 hr.units e_bl (e_v 3))))))
    (ss_fz 1 rfl (ss_one (s_ret (e_callTy c_tuple (a_cons (e_sh (e_callBO (c_sortedK rfl hr.units65) (a_cons (e_v 1) a_nil) (hm := hm_sorted))) a_nil) (hm := hm_tuple)))))))
abbrev s_side_of : Stmt := topS 4
theorem sc_side_of : FnScope ["one", "other", "third", "ahead"] ["one", "other", "third"] (defScope s_side_of) := ⟨rfl, rfl, rfl, by decide +kernel, rfl, by decide +kernel, by decide +kernel⟩
def B_side_of : MS := (sSeq (sAsg (pN 3) (m2 bMul (m2 bSub (m2 bIx (mV 1) (mC (.int 0))) (m2 bIx (mV 0) (mC (.int 0)))) (m2 bSub (m2 bIx (mV 2) (mC (.int 1))) (m2 bIx (mV 0) (mC (.int 1)))))) (sRet (m2 bSub (mV 3) (m2 bMul (m2 bSub (m2 bIx (mV 1) (mC (.int 1))) (m2 bIx (mV 0) (mC (.int 1)))) (m2 bSub (m2 bIx (mV 2) (mC (.int 0))) (m2 bIx (mV 0) (mC (.int 0))))))))
def F_side_of : List D → Res D := runP 1 B_side_of
theorem ok_side_of (t : TxF K mg "side_of" s_side_of ["one", "other", "third"]) : CalP P w K mg base 1 "side_of" 3 (.sh) F_side_of := by
  obtain ⟨f, fd, Fu, bd, hm⟩ := t
  refine ⟨f, fd, _, ok_p (n := 3) (nl := 1) (F := ⟨fun i => .sh, fun i => false, .sh⟩) (b := B_side_of) Fu sc_side_of (sh_ok _ _ (by decide)) rfl rfl (.inl rfl) ?_, Fu.kp, bd, hm⟩
  intro cdv A outer s H E hr hg hcd
  exact (ss_cons (s_set 3 sc_side_of.nd (e_2 o_mul (e_2 o_sub (e_ix x_ix (e_v 1) e_int) (e_ix x_ix (e_v 0) e_int)) (e_2 o_sub (e_ix x_ix (e_v 2) e_int) (e_ix x_ix (e_v 0) e_int))))
    (ss_one (s_ret (e_2 o_sub (e_v 3) (e_2 o_mul (e_2 o_sub (e_ix x_ix (e_v 1) e_int) (e_ix x_ix (e_v 0) e_int)) (e_2 o_sub (e_ix x_ix (e_v 2) e_int) (e_ix x_ix (e_v 0) e_int)))))))
abbrev s_lies_between : Stmt := topS 5
theorem sc_lies_between : FnScope ["one", "other", "third", "k"] ["one", "other", "third"] (defScope s_lies_between) := ⟨rfl, rfl, rfl, by decide +kernel, rfl, by decide +kernel, by decide +kernel⟩
def B_lies_between : MS := (sSeq (sFor (pN 3) (mIt (mN bTup (mCons (mC (.int 0)) (mCons (mC (.int 1)) mNil)))) (sIf (m1 bNot (mChain bLe bLe (mN bMin2 (mCons (m2 bIx (mV 0) (mV 3)) (mCons (m2 bIx (mV 1) (mV 3)) mNil))) (m2 bIx (mV 2) (mV 3)) (mN bMax2 (mCons (m2 bIx (mV 0) (mV 3)) (mCons (m2 bIx (mV 1) (mV 3)) mNil))))) (sRet (mC (.bl false))) (sK .nx))) (sRet (mC (.bl true))))
def F_lies_between : List D → Res D := runP 1 B_lies_between
theorem ok_lies_between (t : TxF K mg "lies_between" s_lies_between ["one", "other", "third"]) (hm_max : mg "max" = none) (hm_min : mg "min" = none) : CalP P w K mg base 1 "lies_between" 3 (.sh) F_lies_between := by
  obtain ⟨f, fd, Fu, bd, hm⟩ := t
  refine ⟨f, fd, _, ok_p (n := 3) (nl := 1) (F := ⟨fun i => .sh, fun i => false, .sh⟩) (b := B_lies_between) Fu sc_lies_between (sh_ok _ _ (by decide)) rfl rfl (.inl rfl) ?_, Fu.kp, bd, hm⟩
  intro cdv A outer s H E hr hg hcd
  exact (ss_cons (s_for (i_any (e_tup (as_cons e_int (as_cons e_int as_nil)))) (g_n 3 sc_lies_between.nd)
    (ss_one (s_if (t_not (t_chain o_le o_le (e_callB (c_min2 rfl) (a_cons (e_ix x_ix (e_v 0) (e_v 3)) (a_cons (e_ix x_ix (e_v 1) (e_v 3)) a_nil)) (hm := hm_min)) (e_ix x_ix (e_v 2) (e_v 3)) (e_callB (c_max2 rfl) (a_cons (e_ix x_ix (e_v 0) (e_v 3)) (a_cons (e_ix x_ix (e_v 1) (e_v 3)) a_nil)) (hm := hm_max))))
    (ss_one (s_ret e_bl))
    ss_nil)))
    (ss_one (s_ret e_bl)))
abbrev s_lies_on : Stmt := topS 7
theorem sc_lies_on : FnScope ["corner", "link", "one", "other"] ["corner", "link"] (defScope s_lies_on) := ⟨rfl, rfl, rfl, by decide +kernel, rfl, by decide +kernel, by decide +kernel⟩
def B_lies_on : MS := (sSeq (sAsg (pT 2 (psC (pN 2) (psC (pN 3) psN))) (mV 1)) (sSeq (sIf (mOr (m2 bInB (mV 0) (mV 1)) (m1 bNot (mCallP F_lies_between (mCons (mV 2) (mCons (mV 3) (mCons (mV 0) mNil)))))) (sRet (mC (.bl false))) (sK .nx)) (sRet (m2 bEq (mCallP F_side_of (mCons (mV 2) (mCons (mV 3) (mCons (mV 0) mNil)))) (mC (.int 0))))))
def F_lies_on : List D → Res D := runP 2 B_lies_on
theorem ok_lies_on (t : TxF K mg "lies_on" s_lies_on ["corner", "link"]) (h_side_of : CalP P w K mg base 1 "side_of" 3 (.sh) F_side_of) (h_lies_between : CalP P w K mg base 1 "lies_between" 3 (.sh) F_lies_between) : CalP P w K mg base 2 "lies_on" 2 (.sh) F_lies_on := by
  obtain ⟨f, fd, Fu, bd, hm⟩ := t
  refine ⟨f, fd, _, ok_p (n := 2) (nl := 2) (F := ⟨fun i => .sh, fun i => false, .sh⟩) (b := B_lies_on) Fu sc_lies_on (sh_ok _ _ (by decide)) rfl rfl (.inl rfl) ?_, Fu.kp, bd, hm⟩
  intro cdv A outer s H E hr hg hcd
  exact (ss_cons (s_asg (e_v 1) (g_t (gs_cons (g_n 2 sc_lies_on.nd) (gs_cons (g_n 3 sc_lies_on.nd) gs_nil))))
    (ss_cons (s_if (w_or (t_cmp (o_inB hr.units65) (e_v 0) (e_v 1)) (w_or1 (t_not (t_val (e_c h_lies_between hr hg (as_cons (e_v 2) (as_cons (e_v 3) (as_cons (e_v 0) as_nil))) (len_cons (len_cons (len_cons len_nil)))))))).pt
    (ss_one (s_ret e_bl))
    ss_nil)
    (ss_one (s_ret (e_cmp (o_eq hr.units) (e_c h_side_of hr hg (as_cons (e_v 2) (as_cons (e_v 3) (as_cons (e_v 0) as_nil))) (len_cons (len_cons (len_cons len_nil)))) e_int)))))
abbrev s_are_apart : Stmt := topS 8
theorem sc_are_apart : FnScope ["link", "other", "axis"] ["link", "other"] (defScope s_are_apart) := ⟨rfl, rfl, rfl, by decide +kernel, rfl, by decide +kernel, by decide +kernel⟩
def B_are_apart : MS := (sSeq (sFor (pN 2) (mIt (mN bTup (mCons (mC (.int 0)) (mCons (mC (.int 1)) mNil)))) (sSeq (sIf (m2 bLt (mN bMax2 (mCons (m2 bIx (m2 bIx (mV 0) (mC (.int 0))) (mV 2)) (mCons (m2 bIx (m2 bIx (mV 0) (mC (.int 1))) (mV 2)) mNil))) (mN bMin2 (mCons (m2 bIx (m2 bIx (mV 1) (mC (.int 0))) (mV 2)) (mCons (m2 bIx (m2 bIx (mV 1) (mC (.int 1))) (mV 2)) mNil)))) (sRet (mC (.bl true))) (sK .nx)) (sIf (m2 bLt (mN bMax2 (mCons (m2 bIx (m2 bIx (mV 1) (mC (.int 0))) (mV 2)) (mCons (m2 bIx (m2 bIx (mV 1) (mC (.int 1))) (mV 2)) mNil))) (mN bMin2 (mCons (m2 bIx (m2 bIx (mV 0) (mC (.int 0))) (mV 2)) (mCons (m2 bIx (m2 bIx (mV 0) (mC (.int 1))) (mV 2)) mNil)))) (sRet (mC (.bl true))) (sK .nx)))) (sRet (mC (.bl false))))
def F_are_apart : List D → Res D := runP 1 B_are_apart
theorem ok_are_apart (t : TxF K mg "are_apart" s_are_apart ["link", "other"]) (hm_max : mg "max" = none) (hm_min : mg "min" = none) : CalP P w K mg base 1 "are_apart" 2 (.sh) F_are_apart := by
  obtain ⟨f, fd, Fu, bd, hm⟩ := t
  refine ⟨f, fd, _, ok_p (n := 2) (nl := 1) (F := ⟨fun i => .sh, fun i => false, .sh⟩) (b := B_are_apart) Fu sc_are_apart (sh_ok _ _ (by decide)) rfl rfl (.inl rfl) ?_, Fu.kp, bd, hm⟩
  intro cdv A outer s H E hr hg hcd
  exact (ss_cons (s_for (i_any (e_tup (as_cons e_int (as_cons e_int as_nil)))) (g_n 2 sc_are_apart.nd)
    (ss_cons (s_if (t_cmp o_lt (e_callB (c_max2 rfl) (a_cons (e_ix x_ix (e_ix x_ix (e_v 0) e_int) (e_v 2)) (a_cons (e_ix x_ix (e_ix x_ix (e_v 0) e_int) (e_v 2)) a_nil)) (hm := hm_max)) (e_callB (c_min2 rfl) (a_cons (e_ix x_ix (e_ix x_ix (e_v 1) e_int) (e_v 2)) (a_cons (e_ix x_ix (e_ix x_ix (e_v 1) e_int) (e_v 2)) a_nil)) (hm := hm_min)))
    (ss_one (s_ret e_bl))
    ss_nil)
    (ss_one (s_if (t_cmp o_lt (e_callB (c_max2 rfl) (a_cons (e_ix x_ix (e_ix x_ix (e_v 1) e_int) (e_v 2)) (a_cons (e_ix x_ix (e_ix x_ix (e_v 1) e_int) (e_v 2)) a_nil)) (hm := hm_max)) (e_callB (c_min2 rfl) (a_cons (e_ix x_ix (e_ix x_ix (e_v 0) e_int) (e_v 2)) (a_cons (e_ix x_ix (e_ix x_ix (e_v 0) e_int) (e_v 2)) a_nil)) (hm := hm_min)))
    (ss_one (s_ret e_bl))
    ss_nil))))
    (ss_one (s_ret e_bl)))
abbrev s_are_parted : Stmt := topS 9
theorem sc_are_parted : FnScope ["one", "other"] ["one", "other"] (defScope s_are_parted) := ⟨rfl, rfl, rfl, by decide +kernel, rfl, by decide +kernel, by decide +kernel⟩
def B_are_parted : MS := (sRet (mOr (mChain bLt bLt (mV 0) (mC (.int 0)) (mV 1)) (mChain bLt bLt (mV 1) (mC (.int 0)) (mV 0))))
def F_are_parted : List D → Res D := runP 0 B_are_parted
theorem ok_are_parted (t : TxF K mg "are_parted" s_are_parted ["one", "other"]) : CalP P w K mg base 1 "are_parted" 2 (.sh) F_are_parted := by
  obtain ⟨f, fd, Fu, bd, hm⟩ := t
  refine ⟨f, fd, _, ok_p (n := 2) (nl := 0) (F := ⟨fun i => .sh, fun i => false, .sh⟩) (b := B_are_parted) Fu sc_are_parted (sh_ok _ _ (by decide)) rfl rfl (.inl rfl) ?_, Fu.kp, bd, hm⟩
  intro cdv A outer s H E hr hg hcd
  exact (ss_one (s_ret (e_or (e_chain o_lt o_lt (e_v 0) e_int (e_v 1)) (e_one (e_chain o_lt o_lt (e_v 1) e_int (e_v 0))))))
abbrev s_do_cross : Stmt := topS 10
theorem sc_do_cross : FnScope ["link", "other", "a", "b", "c", "d"] ["link", "other"] (defScope s_do_cross) := ⟨rfl, rfl, rfl, by decide +kernel, rfl, by decide +kernel, by decide +kernel⟩
def B_do_cross : MS := (sSeq (sIf (mCallP F_are_apart (mCons (mV 0) (mCons (mV 1) mNil))) (sRet (mC (.bl false))) (sK .nx)) (sSeq (sAsg (pT 2 (psC (pN 2) (psC (pN 3) psN))) (mV 0)) (sSeq (sAsg (pT 2 (psC (pN 4) (psC (pN 5) psN))) (mV 1)) (sSeq (sIf (m1 bNot (mCallP F_are_parted (mCons (mCallP F_side_of (mCons (mV 2) (mCons (mV 3) (mCons (mV 4) mNil)))) (mCons (mCallP F_side_of (mCons (mV 2) (mCons (mV 3) (mCons (mV 5) mNil)))) mNil)))) (sRet (mC (.bl false))) (sK .nx)) (sRet (mCallP F_are_parted (mCons (mCallP F_side_of (mCons (mV 4) (mCons (mV 5) (mCons (mV 2) mNil)))) (mCons (mCallP F_side_of (mCons (mV 4) (mCons (mV 5) (mCons (mV 3) mNil)))) mNil))))))))
def F_do_cross : List D → Res D := runP 4 B_do_cross
theorem ok_do_cross (t : TxF K mg "do_cross" s_do_cross ["link", "other"]) (h_are_apart : CalP P w K mg base 1 "are_apart" 2 (.sh) F_are_apart) (h_are_parted : CalP P w K mg base 1 "are_parted" 2 (.sh) F_are_parted) (h_side_of : CalP P w K mg base 1 "side_of" 3 (.sh) F_side_of) : CalP P w K mg base 2 "do_cross" 2 (.sh) F_do_cross := by
  obtain ⟨f, fd, Fu, bd, hm⟩ := t
  refine ⟨f, fd, _, ok_p (n := 2) (nl := 4) (F := ⟨fun i => .sh, fun i => false, .sh⟩) (b := B_do_cross) Fu sc_do_cross (sh_ok _ _ (by decide)) rfl rfl (.inl rfl) ?_, Fu.kp, bd, hm⟩
  intro cdv A outer s H E hr hg hcd
  exact (ss_cons (s_if (t_val (e_c h_are_apart hr hg (as_cons (e_v 0) (as_cons (e_v 1) as_nil)) (len_cons (len_cons len_nil))))
    (ss_one (s_ret e_bl))
    ss_nil)
    (ss_cons (s_asg (e_v 0) (g_t (gs_cons (g_n 2 sc_do_cross.nd) (gs_cons (g_n 3 sc_do_cross.nd) gs_nil))))
    (ss_cons (s_asg (e_v 1) (g_t (gs_cons (g_n 4 sc_do_cross.nd) (gs_cons (g_n 5 sc_do_cross.nd) gs_nil))))
    (ss_cons (s_if (t_not (t_val (e_c h_are_parted hr hg (as_cons (e_c h_side_of hr hg (as_cons (e_v 2) (as_cons (e_v 3) (as_cons (e_v 4) as_nil))) (len_cons (len_cons (len_cons len_nil)))) (as_cons (e_c h_side_of hr hg (as_cons (e_v 2) (as_cons (e_v 3) (as_cons (e_v 5) as_nil))) (len_cons (len_cons (len_cons len_nil)))) as_nil)) (len_cons (len_cons len_nil)))))
    (ss_one (s_ret e_bl))
    ss_nil)
    (ss_one (s_ret (e_c h_are_parted hr hg (as_cons (e_c h_side_of hr hg (as_cons (e_v 4) (as_cons (e_v 5) (as_cons (e_v 2) as_nil))) (len_cons (len_cons (len_cons len_nil)))) (as_cons (e_c h_side_of hr hg (as_cons (e_v 4) (as_cons (e_v 5) (as_cons (e_v 3) as_nil))) (len_cons (len_cons (len_cons len_nil)))) as_nil)) (len_cons (len_cons len_nil)))))))))
abbrev s_trouble_of : Stmt := topS 11
theorem sc_trouble_of : FnScope ["paths", "links", "corner", "link", "at", "other"] ["paths"] (defScope s_trouble_of) := ⟨rfl, rfl, rfl, by decide +kernel, rfl, by decide +kernel, by decide +kernel⟩
def B_trouble_of : MS := (sSeq (sAsg (pN 1) (mCallP F_links_of (mCons (mV 0) mNil))) (sSeq (sFor (pN 2) (mIt (mCallP F_corners_on (mCons (mV 0) mNil))) (sFor (pN 3) (mIt (mV 1)) (sIf (mCallP F_lies_on (mCons (mV 2) (mCons (mV 3) mNil))) (sRet (mN bTup (mCons (mC (.str "on")) (mCons (mV 2) (mCons (mV 3) mNil))))) (sK .nx)))) (sSeq (sFor (pT 2 (psC (pN 4) (psC (pN 3) psN))) (mItN enumL (mCons (mV 1) mNil)) (sFor (pN 5) (mIt (mSl (mV 1) (some (m2 bAdd (mV 4) (mC (.int 1)))) none)) (sIf (mCallP F_do_cross (mCons (mV 3) (mCons (mV 5) mNil))) (sRet (mN bTup (mCons (mC (.str "cross")) (mCons (mV 3) (mCons (mV 5) mNil))))) (sK .nx)))) (sRet (mC .non)))))
def F_trouble_of : List D → Res D := runP 5 B_trouble_of
theorem ok_trouble_of (t : TxF K mg "trouble_of" s_trouble_of ["paths"]) (h_links_of : CalP P w K mg base 1 "links_of" 1 (.sh) F_links_of) (h_corners_on : CalP P w K mg base 1 "corners_on" 1 (.sh) F_corners_on) (h_lies_on : CalP P w K mg base 2 "lies_on" 2 (.sh) F_lies_on) (h_do_cross : CalP P w K mg base 2 "do_cross" 2 (.sh) F_do_cross) (hm_enumerate : mg "enumerate" = none) : CalP P w K mg base 3 "trouble_of" 1 (.sh) F_trouble_of := by
  obtain ⟨f, fd, Fu, bd, hm⟩ := t
  refine ⟨f, fd, _, ok_p (n := 1) (nl := 5) (F := ⟨fun i => .sh, fun i => false, .sh⟩) (b := B_trouble_of) Fu sc_trouble_of (sh_ok _ _ (by decide)) rfl rfl (.inl rfl) ?_, Fu.kp, bd, hm⟩
  intro cdv A outer s H E hr hg hcd
  exact (ss_cons (s_set 1 sc_trouble_of.nd (e_c h_links_of hr hg (as_cons (e_v 0) as_nil) (len_cons len_nil)))
    (ss_cons (s_for (i_any (e_c h_corners_on hr hg (as_cons (e_v 0) as_nil) (len_cons len_nil))) (g_n 2 sc_trouble_of.nd)
    (ss_one (s_for (i_any (e_v 1)) (g_n 3 sc_trouble_of.nd)
    (ss_one (s_if (t_val (e_c h_lies_on hr hg (as_cons (e_v 2) (as_cons (e_v 3) as_nil)) (len_cons (len_cons len_nil))))
    (ss_one (s_ret (e_tup (as_cons e_str (as_cons (e_v 2) (as_cons (e_v 3) as_nil))))))
    ss_nil)))))
    (ss_cons (s_for (i_enum (as_cons (e_v 1) as_nil) (hm := hm_enumerate)) (g_t (gs_cons (g_n 4 sc_trouble_of.nd) (gs_cons (g_n 3 sc_trouble_of.nd) gs_nil)))
    (ss_one (s_for (i_any (e_sl (e_v 1) (po_s (e_2 o_add (e_v 4) e_int)) po_n)) (g_n 5 sc_trouble_of.nd)
    (ss_one (s_if (t_val (e_c h_do_cross hr hg (as_cons (e_v 3) (as_cons (e_v 5) as_nil)) (len_cons (len_cons len_nil))))
    (ss_one (s_ret (e_tup (as_cons e_str (as_cons (e_v 3) (as_cons (e_v 5) as_nil))))))
    ss_nil)))))
    (ss_one (s_ret e_non)))))
abbrev s__law_deck : Stmt := topS 13
theorem sc__law_deck : FnScope ["_law_script", "_law_cell"] ["_law_script"] (defScope s__law_deck) := ⟨rfl, rfl, rfl, by decide +kernel, rfl, by decide +kernel, by decide +kernel⟩
def B__law_deck : MS := (sRet (mN bLst (mCons (m1 bRev (mL listOfD (mCons (mSl (mV 0) none (some (mC (.int 63)))) mNil))) (mCons (m2 bAdd (mN bSum (mCons (mComp [1] (pN 1) (mIt (mSl (mV 0) none (some (mC (.int 63))))) mYes (m2 bMod (mV 1) (mC (.int 1000003)))) mNil)) (m2 bMul (mC (.int 7919)) (mN bLen (mCons (mSl (mV 0) none (some (mC (.int 63)))) mNil)))) (mCons (mC (.int 0)) mNil)))))
def F__law_deck : List D → Res D := runP 1 B__law_deck
theorem ok__law_deck (t : TxF K mg "_law_deck" s__law_deck ["_law_script"]) (hm_len : mg "len" = none) (hm_list : mg "list" = none) (hm_sum : mg "sum" = none) : CalP P w K mg base 1 "_law_deck" 1 (.ol (.ol .sh .sh) .sh) F__law_deck := by
  obtain ⟨f, fd, Fu, bd, hm⟩ := t
  refine ⟨f, fd, _, ok_p (n := 1) (nl := 1) (F := ⟨fun i => .sh, fun i => false, .ol (.ol .sh .sh) .sh⟩) (b := B__law_deck) Fu sc__law_deck (sh_ok _ _ (by decide)) rfl rfl (.inr (fun ds ρ => (NoNx.ret : NoNx B__law_deck) _ ρ)) ?_, Fu.kp, bd, hm⟩
  intro cdv A outer s H E hr hg hcd
  exact (ss_one (s_ret (e_lstH (e_revO (e_sh (e_callTyO c_list (a_cons (e_sl (e_v 0) po_n (po_s e_int)) a_nil) (hm := hm_list)))) (as_cons (e_2 o_add (e_callB (c_sum rfl) (a_cons (e_sh (e_lcO (own' := [("_law_cell", 1)]) (vs := [1]) sc__law_deck.nd (blkOk_by (by kernel_rfl)) (i_any (e_sl (e_v 0) po_n (po_s e_int))) (fun _ _ _ _ _ => (g_n 1 sc__law_deck.nd)) (fun _ _ _ _ _ => ts_nil) (fun _ _ _ _ _ => (e_2 o_mod (e_v 1) e_int)))) a_nil) (hm := hm_sum)) (e_2 o_mul e_int (e_callB c_len (a_cons (e_sl (e_v 0) po_n (po_s e_int)) a_nil) (hm := hm_len)))) (as_cons e_int as_nil)))))
abbrev s__law_draw : Stmt := topS 14
theorem sc__law_draw : FnScope ["_law_deck_here", "_law_most", "_law_cell", "_law_number"] ["_law_deck_here", "_law_most"] (defScope s__law_draw) := ⟨rfl, rfl, rfl, by decide +kernel, rfl, by decide +kernel, by decide +kernel⟩
def B__law_draw : MS := (sSeq (sSto 0 1 (m2 bAdd (mIxS 0 1) (mC (.int 1)))) (sSeq (sAsg (pN 2) (mIxS 0 0)) (sSeq (sIf (m2 bNe (mIx0 0) (mN bLst mNil)) (sSeq (sAsg (pN 2) (mPop0 0)) (sIf (m2 bGe (mV 2) (m2 bPow (mC (.int 10)) (mC (.int 18)))) (sSeq (sExp (mApp0 0 (m2 bDiv (mV 2) (mV 1)))) (sRet (m2 bMod (mV 2) (mV 1)))) (sK .nx))) (sK .nx)) (sSeq (sAsg (pN 3) (m2 bMod (m2 bMul (m2 bAdd (m2 bAdd (m2 bMod (mV 2) (mC (.int 2147483629))) (m2 bMul (mC (.int 65537)) (mIxS 0 1))) (mC (.int 3))) (mC (.int 48271))) (mC (.int 2147483647)))) (sSeq (sAsg (pN 3) (m2 bMod (m2 bAdd (m2 bAdd (m2 bMul (mV 3) (mV 3)) (m2 bMul (mC (.int 69621)) (mIxS 0 1))) (mC (.int 17))) (mC (.int 2147483587)))) (sRet (m2 bMod (m2 bDiv (m2 bMod (m2 bAdd (m2 bMul (mV 3) (mV 3)) (mC (.int 39373))) (mC (.int 2147483563))) (mC (.int 64))) (mV 1))))))))
def F__law_draw : Fn := runF [.ol (.ol .sh .sh) .sh, .sh] 2 B__law_draw
theorem ok__law_draw (t : TxF K mg "_law_draw" s__law_draw ["_law_deck_here", "_law_most"]) : CalF P w K mg base 1 "_law_draw" [.ol (.ol .sh .sh) .sh, .sh] (.sh) F__law_draw := by
  obtain ⟨f, fd, Fu, bd, hm⟩ := t
  refine ⟨f, fd, _, ok_d (ts := [.ol (.ol .sh .sh) .sh, .sh]) (nl := 2) (F := ⟨fun i => if i = 0 then .ol (.ol .sh .sh) .sh else .sh, fun i => i == 0, .sh⟩) (b := B__law_draw) Fu sc__law_draw (τs_ok _ _ (by decide)) (fx_ok _ _ (by decide)) rfl rfl (.inl rfl) ?_, Fu.kp, bd, hm⟩
  intro cdv A outer s H E hr hg hcd
  exact (ss_cons (s_sto 0 1 (e_2 o_add (e_ixS 0 1) e_int))
    (ss_cons (s_set 2 sc__law_draw.nd (e_ixS 0 0))
    (ss_cons (s_if (t_cmp (o_ne hr.units) (e_ix0 0) (e_sh (e_lstO as_nil)))
    (ss_cons (s_set 2 sc__law_draw.nd (e_pop0 0))
    (ss_one (s_if (t_cmp o_ge (e_v 2) (e_2 o_pow e_int e_int))
    (ss_cons (s_exp (e_pk (e_app0 0 (as_cons (e_2 o_div (e_v 2) (e_v 1)) as_nil))))
    (ss_one (s_ret (e_2 o_mod (e_v 2) (e_v 1)))))
    ss_nil)))
    ss_nil)
    (ss_cons (s_set 3 sc__law_draw.nd (e_2 o_mod (e_2 o_mul (e_2 o_add (e_2 o_add (e_2 o_mod (e_v 2) e_int) (e_2 o_mul e_int (e_ixS 0 1))) e_int) e_int) e_int))
    (ss_cons (s_set 3 sc__law_draw.nd (e_2 o_mod (e_2 o_add (e_2 o_add (e_2 o_mul (e_v 3) (e_v 3)) (e_2 o_mul e_int (e_ixS 0 1))) e_int) e_int))
    (ss_one (s_ret (e_2 o_mod (e_2 o_div (e_2 o_mod (e_2 o_add (e_2 o_mul (e_v 3) (e_v 3)) e_int) e_int) e_int) (e_v 1)))))))))
abbrev s__law_turn : Stmt := topS 15
theorem sc__law_turn : FnScope ["_law_one", "_law_other"] ["_law_one", "_law_other"] (defScope s__law_turn) := ⟨rfl, rfl, rfl, by decide +kernel, rfl, by decide +kernel, by decide +kernel⟩
def B__law_turn : MS := (sRet (m2 bSub (m2 bMul (m2 bIx (mV 0) (mC (.int 0))) (m2 bIx (mV 1) (mC (.int 1)))) (m2 bMul (m2 bIx (mV 0) (mC (.int 1))) (m2 bIx (mV 1) (mC (.int 0))))))
def F__law_turn : List D → Res D := runP 0 B__law_turn
theorem ok__law_turn (t : TxF K mg "_law_turn" s__law_turn ["_law_one", "_law_other"]) : CalP P w K mg base 1 "_law_turn" 2 (.sh) F__law_turn := by
  obtain ⟨f, fd, Fu, bd, hm⟩ := t
  refine ⟨f, fd, _, ok_p (n := 2) (nl := 0) (F := ⟨fun i => .sh, fun i => false, .sh⟩) (b := B__law_turn) Fu sc__law_turn (sh_ok _ _ (by decide)) rfl rfl (.inl rfl) ?_, Fu.kp, bd, hm⟩
  intro cdv A outer s H E hr hg hcd
  exact (ss_one (s_ret (e_2 o_sub (e_2 o_mul (e_ix x_ix (e_v 0) e_int) (e_ix x_ix (e_v 1) e_int)) (e_2 o_mul (e_ix x_ix (e_v 0) e_int) (e_ix x_ix (e_v 1) e_int)))))
abbrev s__law_less : Stmt := topS 16
theorem sc__law_less : FnScope ["_law_one", "_law_other"] ["_law_one", "_law_other"] (defScope s__law_less) := ⟨rfl, rfl, rfl, by decide +kernel, rfl, by decide +kernel, by decide +kernel⟩
def B__law_less : MS := (sRet (mN bTup (mCons (m2 bSub (m2 bIx (mV 0) (mC (.int 0))) (m2 bIx (mV 1) (mC (.int 0)))) (mCons (m2 bSub (m2 bIx (mV 0) (mC (.int 1))) (m2 bIx (mV 1) (mC (.int 1)))) mNil))))
def F__law_less : List D → Res D := runP 0 B__law_less
theorem ok__law_less (t : TxF K mg "_law_less" s__law_less ["_law_one", "_law_other"]) : CalP P w K mg base 1 "_law_less" 2 (.sh) F__law_less := by
  obtain ⟨f, fd, Fu, bd, hm⟩ := t
  refine ⟨f, fd, _, ok_p (n := 2) (nl := 0) (F := ⟨fun i => .sh, fun i => false, .sh⟩) (b := B__law_less) Fu sc__law_less (sh_ok _ _ (by decide)) rfl rfl (.inl rfl) ?_, Fu.kp, bd, hm⟩
  intro cdv A outer s H E hr hg hcd
  exact (ss_one (s_ret (e_tup (as_cons (e_2 o_sub (e_ix x_ix (e_v 0) e_int) (e_ix x_ix (e_v 1) e_int)) (as_cons (e_2 o_sub (e_ix x_ix (e_v 0) e_int) (e_ix x_ix (e_v 1) e_int)) as_nil)))))
abbrev s__law_common : Stmt := topS 17
theorem sc__law_common : FnScope ["_law_one", "_law_other", "_law_a", "_law_b", "_law_c", "_law_e", "_law_way", "_law_there", "_law_far", "_law_whole", "_law_first", "_law_last", "_law_sign", "_law_share", "_law_point"] ["_law_one", "_law_other"] (defScope s__law_common) := ⟨rfl, rfl, rfl, by decide +kernel, rfl, by decide +kernel, by decide +kernel⟩
def B__law_common : MS := (sSeq (sAsg (pT 2 (psC (pT 2 (psC (pN 2) (psC (pN 3) psN))) (psC (pT 2 (psC (pN 4) (psC (pN 5) psN))) psN))) (mN bTup (mCons (mV 0) (mCons (mV 1) mNil)))) (sSeq (sPar3 6 7 8 (mCons (mCallP F__law_less (mCons (mV 3) (mCons (mV 2) mNil))) (mCons (mCallP F__law_less (mCons (mV 5) (mCons (mV 4) mNil))) (mCons (mCallP F__law_less (mCons (mV 4) (mCons (mV 2) mNil))) mNil)))) (sSeq (sAsg (pN 9) (mCallP F__law_turn (mCons (mV 6) (mCons (mV 7) mNil)))) (sSeq (sIf (m2 bEq (mV 9) (mC (.int 0))) (sSeq (sIf (m2 bNe (mCallP F__law_turn (mCons (mV 8) (mCons (mV 6) mNil))) (mC (.int 0))) (sRet (mN bLst mNil)) (sK .nx)) (sSeq (sAsg (pN 10) (mN bMax2D (mCons (mN bMin2D (mCons (mV 2) (mCons (mV 3) mNil))) (mCons (mN bMin2D (mCons (mV 4) (mCons (mV 5) mNil))) mNil)))) (sSeq (sAsg (pN 11) (mN bMin2D (mCons (mN bMax2D (mCons (mV 2) (mCons (mV 3) mNil))) (mCons (mN bMax2D (mCons (mV 4) (mCons (mV 5) mNil))) mNil)))) (sRet (mComp [14] (pN 14) (mIt (mSl (mN bLst (mCons (mV 10) (mCons (mV 11) mNil))) (some (mN bInt (mCons (m2 bEq (mV 10) (mV 11)) mNil))) none)) (m2 bLeD (mV 10) (mV 11)) (m2 bAdd (mV 14) (mN bTup (mCons (mC (.int 1)) mNil)))))))) (sK .nx)) (sSeq (sAsg (pN 12) (m2 bIx (mN bLst (mCons (m1 bNeg (mC (.int 1))) (mCons (mC (.int 1)) mNil))) (mN bInt (mCons (m2 bGt (mV 9) (mC (.int 0))) mNil)))) (sSeq (sAsg (pN 9) (m2 bMul (mV 9) (mV 12))) (sSeq (sAsg (pN 13) (m2 bMul (mCallP F__law_turn (mCons (mV 8) (mCons (mV 7) mNil))) (mV 12))) (sSeq (sIf (mOr (m1 bNot (mChain bLe bLe (mC (.int 0)) (mV 13) (mV 9))) (m1 bNot (mChain bLe bLe (mC (.int 0)) (m2 bMul (mCallP F__law_turn (mCons (mV 8) (mCons (mV 6) mNil))) (mV 12)) (mV 9)))) (sRet (mN bLst mNil)) (sK .nx)) (sRet (mN bLst (mCons (mN bTup (mCons (m2 bAdd (m2 bMul (m2 bIx (mV 2) (mC (.int 0))) (mV 9)) (m2 bMul (m2 bIx (mV 6) (mC (.int 0))) (mV 13))) (mCons (m2 bAdd (m2 bMul (m2 bIx (mV 2) (mC (.int 1))) (mV 9)) (m2 bMul (m2 bIx (mV 6) (mC (.int 1))) (mV 13))) (mCons (mV 9) mNil)))) mNil)))))))))))
def F__law_common : List D → Res D := runP 13 B__law_common
theorem ok__law_common (t : TxF K mg "_law_common" s__law_common ["_law_one", "_law_other"]) (h__law_turn : CalP P w K mg base 1 "_law_turn" 2 (.sh) F__law_turn) (h__law_less : CalP P w K mg base 1 "_law_less" 2 (.sh) F__law_less) (hm_int : mg "int" = none) (hm_max : mg "max" = none) (hm_min : mg "min" = none) : CalP P w K mg base 2 "_law_common" 2 (.sh) F__law_common := by
  obtain ⟨f, fd, Fu, bd, hm⟩ := t
  refine ⟨f, fd, _, ok_p (n := 2) (nl := 13) (F := ⟨fun i => .sh, fun i => false, .sh⟩) (b := B__law_common) Fu sc__law_common (sh_ok _ _ (by decide)) rfl rfl (.inl rfl) ?_, Fu.kp, bd, hm⟩
  intro cdv A outer s H E hr hg hcd
  exact (ss_cons (s_asg (e_tup (as_cons (e_v 0) (as_cons (e_v 1) as_nil))) (g_t (gs_cons (g_t (gs_cons (g_n 2 sc__law_common.nd) (gs_cons (g_n 3 sc__law_common.nd) gs_nil))) (gs_cons (g_t (gs_cons (g_n 4 sc__law_common.nd) (gs_cons (g_n 5 sc__law_common.nd) gs_nil))) gs_nil))))
    (ss_cons (s_par3 6 7 8 sc__law_common.nd (as_cons (e_c h__law_less hr hg (as_cons (e_v 3) (as_cons (e_v 2) as_nil)) (len_cons (len_cons len_nil))) (as_cons (e_c h__law_less hr hg (as_cons (e_v 5) (as_cons (e_v 4) as_nil)) (len_cons (len_cons len_nil))) (as_cons (e_c h__law_less hr hg (as_cons (e_v 4) (as_cons (e_v 2) as_nil)) (len_cons (len_cons len_nil))) as_nil))))
    (ss_cons (s_set 9 sc__law_common.nd (e_c h__law_turn hr hg (as_cons (e_v 6) (as_cons (e_v 7) as_nil)) (len_cons (len_cons len_nil))))
    (ss_cons (s_if (t_cmp (o_eq hr.units) (e_v 9) e_int)
    (ss_cons (s_if (t_cmp (o_ne hr.units) (e_c h__law_turn hr hg (as_cons (e_v 8) (as_cons (e_v 6) as_nil)) (len_cons (len_cons len_nil))) e_int)
    (ss_one (s_ret (e_sh (e_lstO as_nil))))
    ss_nil)
    (ss_cons (s_set 10 sc__law_common.nd (e_callB (c_max2D rfl hr.units65) (a_cons (e_callB (c_min2D rfl hr.units65) (a_cons (e_v 2) (a_cons (e_v 3) a_nil)) (hm := hm_min)) (a_cons (e_callB (c_min2D rfl hr.units65) (a_cons (e_v 4) (a_cons (e_v 5) a_nil)) (hm := hm_min)) a_nil)) (hm := hm_max)))
    (ss_cons (s_set 11 sc__law_common.nd (e_callB (c_min2D rfl hr.units65) (a_cons (e_callB (c_max2D rfl hr.units65) (a_cons (e_v 2) (a_cons (e_v 3) a_nil)) (hm := hm_max)) (a_cons (e_callB (c_max2D rfl hr.units65) (a_cons (e_v 4) (a_cons (e_v 5) a_nil)) (hm := hm_max)) a_nil)) (hm := hm_min)))
    (ss_one (s_ret (e_sh (e_lcO (own' := [("_law_point", 14)]) (vs := [14]) sc__law_common.nd (blkOk_by (by kernel_rfl)) (i_any (e_sl (e_sh (e_lstO (as_cons (e_v 10) (as_cons (e_v 11) as_nil)))) (po_s (e_callTy c_int (a_cons (e_cmp (o_eq hr.units) (e_v 10) (e_v 11)) a_nil) (hm := hm_int))) po_n)) (fun _ _ _ _ _ => (g_n 14 sc__law_common.nd)) (fun _ _ _ _ _ => (ts_one (t_cmp (o_leD hr.units) (e_v 10) (e_v 11)))) (fun _ _ _ _ _ => (e_2 o_add (e_v 14) (e_tup (as_cons e_int as_nil)))))))))))
    ss_nil)
    (ss_cons (s_set 12 sc__law_common.nd (e_ix x_ix (e_sh (e_lstO (as_cons (e_1 u_neg e_int) (as_cons e_int as_nil)))) (e_callTy c_int (a_cons (e_cmp o_gt (e_v 9) e_int) a_nil) (hm := hm_int))))
    (ss_cons (s_set 9 sc__law_common.nd (e_2 o_mul (e_v 9) (e_v 12)))
    (ss_cons (s_set 13 sc__law_common.nd (e_2 o_mul (e_c h__law_turn hr hg (as_cons (e_v 8) (as_cons (e_v 7) as_nil)) (len_cons (len_cons len_nil))) (e_v 12)))
    (ss_cons (s_if (w_or (t_not (t_chain o_le o_le e_int (e_v 13) (e_v 9))) (w_or1 (t_not (t_chain o_le o_le e_int (e_2 o_mul (e_c h__law_turn hr hg (as_cons (e_v 8) (as_cons (e_v 6) as_nil)) (len_cons (len_cons len_nil))) (e_v 12)) (e_v 9))))).pt
    (ss_one (s_ret (e_sh (e_lstO as_nil))))
    ss_nil)
    (ss_one (s_ret (e_sh (e_lstO (as_cons (e_tup (as_cons (e_2 o_add (e_2 o_mul (e_ix x_ix (e_v 2) e_int) (e_v 9)) (e_2 o_mul (e_ix x_ix (e_v 6) e_int) (e_v 13))) (as_cons (e_2 o_add (e_2 o_mul (e_ix x_ix (e_v 2) e_int) (e_v 9)) (e_2 o_mul (e_ix x_ix (e_v 6) e_int) (e_v 13))) (as_cons (e_v 9) as_nil)))) as_nil)))))))))))))
abbrev s__law_row : Stmt := topS 18
theorem sc__law_row : FnScope ["_law_deck_here", "_law_lots", "_law_wide", "_law_found", "_law_k"] ["_law_deck_here", "_law_lots", "_law_wide"] (defScope s__law_row) := ⟨rfl, rfl, rfl, by decide +kernel, rfl, by decide +kernel, by decide +kernel⟩
def B__law_row : MS := (sSeq (sAsg (pN 3) (mC (.kdc [] []))) (sSeq (sFor (pN 4) (mItN range1 (mCons (mV 1) mNil)) (sStoK 3 (mN bTup (mCons (mCall F__law_draw (.io 0 :: (.e (mV 2) :: []))) (mCons (mCall F__law_draw (.io 0 :: (.e (mV 2) :: []))) mNil))) (mC (.bl true)))) (sFz 3 (sRet (mN bTupleK (mCons (mV 3) mNil))))))
def F__law_row : Fn := runF [.ol (.ol .sh .sh) .sh, .sh, .sh] 2 B__law_row
theorem ok__law_row (t : TxF K mg "_law_row" s__law_row ["_law_deck_here", "_law_lots", "_law_wide"]) (h__law_draw : CalF P w K mg base 1 "_law_draw" [.ol (.ol .sh .sh) .sh, .sh] (.sh) F__law_draw) (hm_range : mg "range" = none) (hm_tuple : mg "tuple" = none) : CalF P w K mg base 2 "_law_row" [.ol (.ol .sh .sh) .sh, .sh, .sh] (.sh) F__law_row := by
  obtain ⟨f, fd, Fu, bd, hm⟩ := t
  refine ⟨f, fd, _, ok_d (ts := [.ol (.ol .sh .sh) .sh, .sh, .sh]) (nl := 2) (F := ⟨fun i => if i = 0 then .ol (.ol .sh .sh) .sh else if i = 3 then .od else .sh, fun i => i == 0, .sh⟩) (b := B__law_row) Fu sc__law_row (τs_ok _ _ (by decide)) (fx_ok _ _ (by decide)) rfl rfl (.inl rfl) ?_, Fu.kp, bd, hm⟩
  intro cdv A outer s H E hr hg hcd
  exact (ss_cons (s_setO 3 sc__law_row.nd e_kd0)
    (ss_cons (s_for (i_range1 (a_cons (e_v 1) a_nil) (hm := hm_range)) (g_n 4 sc__law_row.nd)
    (ss_one (s_stoK 3 hr.units e_bl (e_tup (as_cons (e_cF h__law_draw hr hg (ag_io 0 (ag_e (e_v 2) ag_nil))) (as_cons (e_cF h__law_draw hr hg (ag_io 0 (ag_e (e_v 2) ag_nil))) as_nil))))))
    (ss_fz 3 rfl (ss_one (s_ret (e_callTy (c_tupleK rfl) (a_cons (e_v 3) a_nil) (hm := hm_tuple)))))))
abbrev s__law_links : Stmt := topS 19
theorem sc__law_links : FnScope ["_law_paths_here", "_law_found", "_law_path", "_law_one", "_law_other"] ["_law_paths_here"] (defScope s__law_links) := ⟨rfl, rfl, rfl, by decide +kernel, rfl, by decide +kernel, by decide +kernel⟩
def B__law_links : MS := (sSeq (sAsg (pN 1) (mC (.kdc [] []))) (sSeq (sFor (pN 2) (mIt (mV 0)) (sFor (pT 2 (psC (pN 3) (psC (pN 4) psN))) (mItN zip2 (mCons (mSl (mV 2) none (some (m1 bNeg (mC (.int 1))))) (mCons (mSl (mV 2) (some (mC (.int 1))) none) mNil))) (sStoK 1 (mN bTup (mCons (mN bMin2D (mCons (mV 3) (mCons (mV 4) mNil))) (mCons (mN bMax2D (mCons (mV 3) (mCons (mV 4) mNil))) mNil))) (mC (.bl true))))) (sFz 1 (sRet (mL sortDD (mCons (mL listKD (mCons (mV 1) mNil)) mNil))))))
def F__law_links : List D → Res D := runP 4 B__law_links
theorem ok__law_links (t : TxF K mg "_law_links" s__law_links ["_law_paths_here"]) (hm_list : mg "list" = none) (hm_max : mg "max" = none) (hm_min : mg "min" = none) (hm_sorted : mg "sorted" = none) (hm_zip : mg "zip" = none) : CalP P w K mg base 1 "_law_links" 1 (.sh) F__law_links := by
  obtain ⟨f, fd, Fu, bd, hm⟩ := t
  refine ⟨f, fd, _, ok_p (n := 1) (nl := 4) (F := ⟨fun i => if i = 1 then .od else .sh, fun i => false, .sh⟩) (b := B__law_links) Fu sc__law_links (sh_ok _ _ (by decide)) rfl rfl (.inl rfl) ?_, Fu.kp, bd, hm⟩
  intro cdv A outer s H E hr hg hcd
  exact (ss_cons (s_setO 1 sc__law_links.nd e_kd0)
    (ss_cons (s_for (i_any (e_v 0)) (g_n 2 sc__law_links.nd)
    (ss_one (s_for (i_zip2 (as_cons (e_sl (e_v 2) po_n (po_s (e_1 u_neg e_int))) (as_cons (e_sl (e_v 2) (po_s e_int) po_n) as_nil)) (hm := hm_zip)) (g_t (gs_cons (g_n 3 sc__law_links.nd) (gs_cons (g_n 4 sc__law_links.nd) gs_nil)))
    (ss_one (s_stoK 1 hr.units e_bl (e_tup (as_cons (e_callB (c_min2D rfl hr.units65) (a_cons (e_v 3) (a_cons (e_v 4) a_nil)) (hm := hm_min)) (as_cons (e_callB (c_max2D rfl hr.units65) (a_cons (e_v 3) (a_cons (e_v 4) a_nil)) (hm := hm_max)) as_nil))))))))
    (ss_fz 1 rfl (ss_one (s_ret (e_sh (e_callBO (c_sortedD rfl hr.units65) (a_cons (e_sh (e_callTyO (c_listK rfl) (a_cons (e_v 1) a_nil) (hm := hm_list))) a_nil) (hm := hm_sorted))))))))
abbrev s__law_is_on : Stmt := topS 20
theorem sc__law_is_on : FnScope ["_law_corner", "_law_link", "_law_one", "_law_other"] ["_law_corner", "_law_link"] (defScope s__law_is_on) := ⟨rfl, rfl, rfl, by decide +kernel, rfl, by decide +kernel, by decide +kernel⟩
def B__law_is_on : MS := (sSeq (sPar 2 3 (mCons (mCallP F__law_less (mCons (m2 bIx (mV 1) (mC (.int 0))) (mCons (mV 0) mNil))) (mCons (mCallP F__law_less (mCons (m2 bIx (mV 1) (mC (.int 1))) (mCons (mV 0) mNil))) mNil))) (sRet (mAnd (m2 bEq (mCallP F__law_turn (mCons (mV 2) (mCons (mV 3) mNil))) (mC (.int 0))) (m2 bLt (m2 bAdd (m2 bMul (m2 bIx (mV 2) (mC (.int 0))) (m2 bIx (mV 3) (mC (.int 0)))) (m2 bMul (m2 bIx (mV 2) (mC (.int 1))) (m2 bIx (mV 3) (mC (.int 1))))) (mC (.int 0))))))
def F__law_is_on : List D → Res D := runP 2 B__law_is_on
theorem ok__law_is_on (t : TxF K mg "_law_is_on" s__law_is_on ["_law_corner", "_law_link"]) (h__law_less : CalP P w K mg base 1 "_law_less" 2 (.sh) F__law_less) (h__law_turn : CalP P w K mg base 1 "_law_turn" 2 (.sh) F__law_turn) : CalP P w K mg base 2 "_law_is_on" 2 (.sh) F__law_is_on := by
  obtain ⟨f, fd, Fu, bd, hm⟩ := t
  refine ⟨f, fd, _, ok_p (n := 2) (nl := 2) (F := ⟨fun i => .sh, fun i => false, .sh⟩) (b := B__law_is_on) Fu sc__law_is_on (sh_ok _ _ (by decide)) rfl rfl (.inl rfl) ?_, Fu.kp, bd, hm⟩
  intro cdv A outer s H E hr hg hcd
  exact (ss_cons (s_par 2 3 sc__law_is_on.nd (as_cons (e_c h__law_less hr hg (as_cons (e_ix x_ix (e_v 1) e_int) (as_cons (e_v 0) as_nil)) (len_cons (len_cons len_nil))) (as_cons (e_c h__law_less hr hg (as_cons (e_ix x_ix (e_v 1) e_int) (as_cons (e_v 0) as_nil)) (len_cons (len_cons len_nil))) as_nil)))
    (ss_one (s_ret (e_and (e_cmp (o_eq hr.units) (e_c h__law_turn hr hg (as_cons (e_v 2) (as_cons (e_v 3) as_nil)) (len_cons (len_cons len_nil))) e_int) (e_one (e_cmp o_lt (e_2 o_add (e_2 o_mul (e_ix x_ix (e_v 2) e_int) (e_ix x_ix (e_v 3) e_int)) (e_2 o_mul (e_ix x_ix (e_v 2) e_int) (e_ix x_ix (e_v 3) e_int))) e_int))))))
abbrev s__law_do_cross : Stmt := topS 21
theorem sc__law_do_cross : FnScope ["_law_link", "_law_other", "_law_some", "_law_n", "_law_m", "_law_d", "_law_end"] ["_law_link", "_law_other"] (defScope s__law_do_cross) := ⟨rfl, rfl, rfl, by decide +kernel, rfl, by decide +kernel, by decide +kernel⟩
def B__law_do_cross : MS := (sSeq (sAsg (pN 2) (mCallP F__law_common (mCons (mV 0) (mCons (mV 1) mNil)))) (sSeq (sIf (m2 bEq (mN bLen (mCons (mV 2) mNil)) (mC (.int 1))) (sSeq (sAsg (pT 3 (psC (pN 3) (psC (pN 4) (psC (pN 5) psN)))) (m2 bIx (mV 2) (mC (.int 0)))) (sRet (m2 bEq (mComp [6] (pN 6) (mIt (mV 0)) (mAnd (m2 bInB (mV 6) (mV 1)) (m2 bEq (mN bTup (mCons (m2 bMul (m2 bIx (mV 6) (mC (.int 0))) (mV 5)) (mCons (m2 bMul (m2 bIx (mV 6) (mC (.int 1))) (mV 5)) mNil))) (mN bTup (mCons (mV 3) (mCons (mV 4) mNil))))) (mV 6)) (mN bLst mNil)))) (sK .nx)) (sRet (m2 bNe (mV 2) (mN bLst mNil)))))
def F__law_do_cross : List D → Res D := runP 5 B__law_do_cross
theorem ok__law_do_cross (t : TxF K mg "_law_do_cross" s__law_do_cross ["_law_link", "_law_other"]) (h__law_common : CalP P w K mg base 2 "_law_common" 2 (.sh) F__law_common) (hm_len : mg "len" = none) : CalP P w K mg base 3 "_law_do_cross" 2 (.sh) F__law_do_cross := by
  obtain ⟨f, fd, Fu, bd, hm⟩ := t
  refine ⟨f, fd, _, ok_p (n := 2) (nl := 5) (F := ⟨fun i => .sh, fun i => false, .sh⟩) (b := B__law_do_cross) Fu sc__law_do_cross (sh_ok _ _ (by decide)) rfl rfl (.inl rfl) ?_, Fu.kp, bd, hm⟩
  intro cdv A outer s H E hr hg hcd
  exact (ss_cons (s_set 2 sc__law_do_cross.nd (e_c h__law_common hr hg (as_cons (e_v 0) (as_cons (e_v 1) as_nil)) (len_cons (len_cons len_nil))))
    (ss_cons (s_if (t_cmp (o_eq hr.units) (e_callB c_len (a_cons (e_v 2) a_nil) (hm := hm_len)) e_int)
    (ss_cons (s_asg (e_ix x_ix (e_v 2) e_int) (g_t (gs_cons (g_n 3 sc__law_do_cross.nd) (gs_cons (g_n 4 sc__law_do_cross.nd) (gs_cons (g_n 5 sc__law_do_cross.nd) gs_nil)))))
    (ss_one (s_ret (e_cmp (o_eq hr.units) (e_sh (e_lcO (own' := [("_law_end", 6)]) (vs := [6]) sc__law_do_cross.nd (blkOk_by (by kernel_rfl)) (i_any (e_v 0)) (fun _ _ _ _ _ => (g_n 6 sc__law_do_cross.nd)) (fun _ _ _ _ _ => (ts_one (w_and (t_cmp (o_inB hr.units65) (e_v 6) (e_v 1)) (w_and1 (t_cmp (o_eq hr.units) (e_tup (as_cons (e_2 o_mul (e_ix x_ix (e_v 6) e_int) (e_v 5)) (as_cons (e_2 o_mul (e_ix x_ix (e_v 6) e_int) (e_v 5)) as_nil))) (e_tup (as_cons (e_v 3) (as_cons (e_v 4) as_nil)))))).pt)) (fun _ _ _ _ _ => (e_v 6)))) (e_sh (e_lstO as_nil))))))
    ss_nil)
    (ss_one (s_ret (e_cmp (o_ne hr.units) (e_v 2) (e_sh (e_lstO as_nil)))))))
abbrev s__law_trouble : Stmt := topS 22
theorem sc__law_trouble : FnScope ["_law_paths_here", "_law_links_here", "_law_corner", "_law_link", "_law_k", "_law_other", "_law_path"] ["_law_paths_here"] (defScope s__law_trouble) := ⟨rfl, rfl, rfl, by decide +kernel, rfl, by decide +kernel, by decide +kernel⟩
def B__law_trouble : MS := (sSeq (sAsg (pN 1) (mCallP F__law_links (mCons (mV 0) mNil))) (sSeq (sFor (pN 2) (mIt (mL CLS.sortSetG (mCons (mN sumL (mCons (mComp [6] (pN 6) (mIt (mV 0)) mYes (mL listOfD (mCons (mV 6) mNil))) (mCons (mN bLst mNil) mNil))) mNil))) (sFor (pN 3) (mIt (mV 1)) (sIf (mCallP F__law_is_on (mCons (mV 2) (mCons (mV 3) mNil))) (sRet (mN bTup (mCons (mC (.str "on")) (mCons (mV 2) (mCons (mV 3) mNil))))) (sK .nx)))) (sSeq (sFor (pN 4) (mItN range1 (mCons (mN bLen (mCons (mV 1) mNil)) mNil)) (sFor (pN 5) (mIt (mSl (mV 1) (some (m2 bAdd (mV 4) (mC (.int 1)))) none)) (sIf (mCallP F__law_do_cross (mCons (m2 bIx (mV 1) (mV 4)) (mCons (mV 5) mNil))) (sRet (mN bTup (mCons (mC (.str "cross")) (mCons (m2 bIx (mV 1) (mV 4)) (mCons (mV 5) mNil))))) (sK .nx)))) (sRet (mC .non)))))
def F__law_trouble : List D → Res D := runP 6 B__law_trouble
theorem ok__law_trouble (t : TxF K mg "_law_trouble" s__law_trouble ["_law_paths_here"]) (h__law_links : CalP P w K mg base 1 "_law_links" 1 (.sh) F__law_links) (h__law_is_on : CalP P w K mg base 2 "_law_is_on" 2 (.sh) F__law_is_on) (h__law_do_cross : CalP P w K mg base 3 "_law_do_cross" 2 (.sh) F__law_do_cross) (hm_len : mg "len" = none) (hm_list : mg "list" = none) (hm_range : mg "range" = none) (hm_set : mg "set" = none) (hm_sorted : mg "sorted" = none) (hm_sum : mg "sum" = none) : CalP P w K mg base 4 "_law_trouble" 1 (.sh) F__law_trouble := by
  obtain ⟨f, fd, Fu, bd, hm⟩ := t
  refine ⟨f, fd, _, ok_p (n := 1) (nl := 6) (F := ⟨fun i => .sh, fun i => false, .sh⟩) (b := B__law_trouble) Fu sc__law_trouble (sh_ok _ _ (by decide)) rfl rfl (.inl rfl) ?_, Fu.kp, bd, hm⟩
  intro cdv A outer s H E hr hg hcd
  exact (ss_cons (s_set 1 sc__law_trouble.nd (e_c h__law_links hr hg (as_cons (e_v 0) as_nil) (len_cons len_nil)))
    (ss_cons (s_for (i_any (e_sh (CLS.e_sortSetG (a_cons (e_callBS (c_sumL rfl) (as_cons (e_sh (e_lcO (own' := [("_law_path", 6)]) (vs := [6]) sc__law_trouble.nd (blkOk_by (by kernel_rfl)) (i_any (e_v 0)) (fun _ _ _ _ _ => (g_n 6 sc__law_trouble.nd)) (fun _ _ _ _ _ => ts_nil) (fun _ _ _ _ _ => (e_sh (e_callTyO c_list (a_cons (e_v 6) a_nil) (hm := hm_list)))))) (as_cons (e_sh (e_lstO as_nil)) as_nil))) a_nil) rfl hr.units65 hm_sorted hm_set))) (g_n 2 sc__law_trouble.nd)
    (ss_one (s_for (i_any (e_v 1)) (g_n 3 sc__law_trouble.nd)
    (ss_one (s_if (t_val (e_c h__law_is_on hr hg (as_cons (e_v 2) (as_cons (e_v 3) as_nil)) (len_cons (len_cons len_nil))))
    (ss_one (s_ret (e_tup (as_cons e_str (as_cons (e_v 2) (as_cons (e_v 3) as_nil))))))
    ss_nil)))))
    (ss_cons (s_for (i_range1 (a_cons (e_callB c_len (a_cons (e_v 1) a_nil) (hm := hm_len)) a_nil) (hm := hm_range)) (g_n 4 sc__law_trouble.nd)
    (ss_one (s_for (i_any (e_sl (e_v 1) (po_s (e_2 o_add (e_v 4) e_int)) po_n)) (g_n 5 sc__law_trouble.nd)
    (ss_one (s_if (t_val (e_c h__law_do_cross hr hg (as_cons (e_ix x_ix (e_v 1) (e_v 4)) (as_cons (e_v 5) as_nil)) (len_cons (len_cons len_nil))))
    (ss_one (s_ret (e_tup (as_cons e_str (as_cons (e_ix x_ix (e_v 1) (e_v 4)) (as_cons (e_v 5) as_nil))))))
    ss_nil)))))
    (ss_one (s_ret e_non)))))
abbrev s__law_paths : Stmt := topS 23
theorem sc__law_paths : FnScope ["_law_deck_here", "_law_wide", "_law_found", "_law_k", "_law_lots", "_law_path", "_law_far", "_law_i", "_law_j", "_law_x", "_law_y"] ["_law_deck_here"] (defScope s__law_paths) := ⟨rfl, rfl, rfl, by decide +kernel, rfl, by decide +kernel, by decide +kernel⟩
def B__law_paths : MS := (sSeq (sAsg (pN 1) (m2 bAdd (mC (.int 2)) (mCall F__law_draw (.io 0 :: (.e (mC (.int 5)) :: []))))) (sSeq (sAsg (pN 2) (mN bLst mNil)) (sSeq (sFor (pN 3) (mItN range1 (mCons (mCall F__law_draw (.io 0 :: (.e (mC (.int 5)) :: []))) mNil)) (sSeq (sAsg (pN 4) (m2 bIx (mN bLst (mCons (m2 bAdd (mC (.int 1)) (mCall F__law_draw (.io 0 :: (.e (mC (.int 4)) :: [])))) (mCons (mC (.int 12)) mNil))) (mN bInt (mCons (m2 bEq (mCall F__law_draw (.io 0 :: (.e (mC (.int 8)) :: []))) (mC (.int 5))) mNil)))) (sSeq (sAsg (pN 5) (mCall F__law_row (.io 0 :: (.e (mV 4) :: (.e (mV 1) :: []))))) (sSeq (sIf (mAnd (m2 bNe (mV 2) (mN bLst mNil)) (m2 bEq (mCall F__law_draw (.io 0 :: (.e (mC (.int 6)) :: []))) (mC (.int 1)))) (sAsg (pN 5) (mStep2 (m2 bIx (mV 2) (m1 bNeg (mC (.int 1)))) (m2 bIx (mN bLst (mCons (mC (.int 1)) (mCons (m1 bNeg (mC (.int 1))) mNil))) (mCall F__law_draw (.io 0 :: (.e (mC (.int 2)) :: [])))))) (sK .nx)) (sExp (mApp 2 (mV 5))))))) (sSeq (sAsg (pN 6) (mCall F__law_draw (.io 0 :: (.e (mC (.int 3)) :: [])))) (sSeq (sAsg (pN 7) (m2 bIx (mN bLst (mCons (mC (.int 0)) (mCons (m2 bSub (mCall F__law_draw (.io 0 :: (.e (mC (.int 1999001)) :: []))) (m2 bPow (mC (.int 10)) (mC (.int 6)))) (mCons (mC (.int 0)) mNil)))) (mV 6))) (sSeq (sAsg (pN 8) (m2 bIx (mN bLst (mCons (mC (.int 0)) (mCons (mC (.int 0)) (mCons (m2 bSub (mCall F__law_draw (.io 0 :: (.e (mC (.int 1999001)) :: []))) (m2 bPow (mC (.int 10)) (mC (.int 6)))) mNil)))) (mV 6))) (sFz 2 (sRet (mN bTuple (mCons (mComp [5] (pN 5) (mIt (mV 2)) mYes (mN bTuple (mCons (mComp [9, 10] (pT 2 (psC (pN 9) (psC (pN 10) psN))) (mIt (mV 5)) mYes (mN bTup (mCons (m2 bAdd (mV 9) (mV 7)) (mCons (m2 bAdd (mV 10) (mV 8)) mNil)))) mNil))) mNil))))))))))
def F__law_paths : Fn := runF [.ol (.ol .sh .sh) .sh] 10 B__law_paths
theorem ok__law_paths (t : TxF K mg "_law_paths" s__law_paths ["_law_deck_here"]) (h__law_draw : CalF P w K mg base 1 "_law_draw" [.ol (.ol .sh .sh) .sh, .sh] (.sh) F__law_draw) (h__law_row : CalF P w K mg base 2 "_law_row" [.ol (.ol .sh .sh) .sh, .sh, .sh] (.sh) F__law_row) (hm_int : mg "int" = none) (hm_range : mg "range" = none) (hm_tuple : mg "tuple" = none) : CalF P w K mg base 3 "_law_paths" [.ol (.ol .sh .sh) .sh] (.sh) F__law_paths := by
  obtain ⟨f, fd, Fu, bd, hm⟩ := t
  refine ⟨f, fd, _, ok_d (ts := [.ol (.ol .sh .sh) .sh]) (nl := 10) (F := ⟨fun i => if i = 0 then .ol (.ol .sh .sh) .sh else if i = 2 then .ol .sh .sh else .sh, fun i => i == 0, .sh⟩) (b := B__law_paths) Fu sc__law_paths (τs_ok _ _ (by decide)) (fx_ok _ _ (by decide)) rfl rfl (.inl rfl) ?_, Fu.kp, bd, hm⟩
  intro cdv A outer s H E hr hg hcd
  exact (ss_cons (s_set 1 sc__law_paths.nd (e_2 o_add e_int (e_cF h__law_draw hr hg (ag_io 0 (ag_e e_int ag_nil)))))
    (ss_cons (s_setO 2 sc__law_paths.nd (e_lstO as_nil))
    (ss_cons (s_for (i_range1 (a_cons (e_cF h__law_draw hr hg (ag_io 0 (ag_e e_int ag_nil))) a_nil) (hm := hm_range)) (g_n 3 sc__law_paths.nd)
    (ss_cons (s_set 4 sc__law_paths.nd (e_ix x_ix (e_sh (e_lstO (as_cons (e_2 o_add e_int (e_cF h__law_draw hr hg (ag_io 0 (ag_e e_int ag_nil)))) (as_cons e_int as_nil)))) (e_callTy c_int (a_cons (e_cmp (o_eq hr.units) (e_cF h__law_draw hr hg (ag_io 0 (ag_e e_int ag_nil))) e_int) a_nil) (hm := hm_int))))
    (ss_cons (s_set 5 sc__law_paths.nd (e_cF h__law_row hr hg (ag_io 0 (ag_e (e_v 4) (ag_e (e_v 1) ag_nil)))))
    (ss_cons (s_if (w_and (t_cmp (o_ne hr.units) (e_vp 2) (e_sh (e_lstO as_nil))) (w_and1 (t_cmp (o_eq hr.units) (e_cF h__law_draw hr hg (ag_io 0 (ag_e e_int ag_nil))) e_int))).pt
    (ss_one (s_set 5 sc__law_paths.nd (e_step2C (e_ix x_ix (e_vp 2) (e_1 u_neg e_int)) (po_sC (e_ix x_ix (e_sh (e_lstO (as_cons e_int (as_cons (e_1 u_neg e_int) as_nil)))) (e_cF h__law_draw hr hg (ag_io 0 (ag_e e_int ag_nil))))))))
    ss_nil)
    (ss_one (s_exp (e_pk (e_app 2 (as_cons (e_v 5) as_nil)))))))))
    (ss_cons (s_set 6 sc__law_paths.nd (e_cF h__law_draw hr hg (ag_io 0 (ag_e e_int ag_nil))))
    (ss_cons (s_set 7 sc__law_paths.nd (e_ix x_ix (e_sh (e_lstO (as_cons e_int (as_cons (e_2 o_sub (e_cF h__law_draw hr hg (ag_io 0 (ag_e e_int ag_nil))) (e_2 o_pow e_int e_int)) (as_cons e_int as_nil))))) (e_v 6)))
    (ss_cons (s_set 8 sc__law_paths.nd (e_ix x_ix (e_sh (e_lstO (as_cons e_int (as_cons e_int (as_cons (e_2 o_sub (e_cF h__law_draw hr hg (ag_io 0 (ag_e e_int ag_nil))) (e_2 o_pow e_int e_int)) as_nil))))) (e_v 6)))
    (ss_fz 2 rfl (ss_one (s_ret (e_callTy c_tuple (a_cons (e_sh (e_lcO (own' := [("_law_path", 5)]) (vs := [5]) sc__law_paths.nd (blkOk_by (by kernel_rfl)) (i_any (e_v 2)) (fun _ _ _ _ _ => (g_n 5 sc__law_paths.nd)) (fun _ _ _ _ _ => ts_nil) (fun _ _ _ _ _ => (e_callTy c_tuple (a_cons (e_sh (e_lcO (own' := [("_law_x", 9), ("_law_y", 10)]) (vs := [9, 10]) sc__law_paths.nd (blkOk_by (by kernel_rfl)) (i_any (e_v 5)) (fun _ _ _ _ _ => (g_t (gs_cons (g_n 9 sc__law_paths.nd) (gs_cons (g_n 10 sc__law_paths.nd) gs_nil)))) (fun _ _ _ _ _ => ts_nil) (fun _ _ _ _ _ => (e_tup (as_cons (e_2 o_add (e_v 9) (e_v 7)) (as_cons (e_2 o_add (e_v 10) (e_v 8)) as_nil)))))) a_nil) (hm := hm_tuple))))) a_nil) (hm := hm_tuple)))))))))))
abbrev s__law_right : Stmt := topS 24
theorem sc__law_right : FnScope ["_law_paths_here", "_law_due"] ["_law_paths_here", "_law_due"] (defScope s__law_right) := ⟨rfl, rfl, rfl, by decide +kernel, rfl, by decide +kernel, by decide +kernel⟩
def B__law_right : MS := (sRet (m2 bEq (mN bReprF (mCons (mCallP F_trouble_of (mCons (mV 0) mNil)) mNil)) (mN bReprF (mCons (mV 1) mNil))))
def F__law_right : List D → Res D := runP 0 B__law_right
theorem ok__law_right (t : TxF K mg "_law_right" s__law_right ["_law_paths_here", "_law_due"]) (h_trouble_of : CalP P w K mg base 3 "trouble_of" 1 (.sh) F_trouble_of) (hm_repr : mg "repr" = none) : CalP P w K mg base 4 "_law_right" 2 (.sh) F__law_right := by
  obtain ⟨f, fd, Fu, bd, hm⟩ := t
  refine ⟨f, fd, _, ok_p (n := 2) (nl := 0) (F := ⟨fun i => .sh, fun i => false, .sh⟩) (b := B__law_right) Fu sc__law_right (sh_ok _ _ (by decide)) rfl rfl (.inl rfl) ?_, Fu.kp, bd, hm⟩
  intro cdv A outer s H E hr hg hcd
  exact (ss_one (s_ret (e_cmp (o_eq hr.units) (e_callB (c_reprF hr.units hg) (a_cons (e_c h_trouble_of hr hg (as_cons (e_v 0) as_nil) (len_cons len_nil)) a_nil) (hm := hm_repr)) (e_callB (c_reprF hr.units hg) (a_cons (e_v 1) a_nil) (hm := hm_repr)))))
abbrev s_law : Stmt := topS 25
theorem sc_law : FnScope ["_law_script", "_law_deck_here", "_law_turn_here", "_law_paths_here", "_law_due", "_law_path"] ["_law_script"] (defScope s_law) := ⟨rfl, rfl, rfl, by decide +kernel, rfl, by decide +kernel, by decide +kernel⟩
def B_law : MS := (sSeq (sAsg (pN 1) (mCallP F__law_deck (mCons (mV 0) mNil))) (sSeq (sFor (pN 2) (mItN range1 (mCons (mC (.int 3)) mNil)) (sSeq (sAsg (pN 3) (mCall F__law_paths (.io 1 :: []))) (sSeq (sAsg (pN 4) (mCallP F__law_trouble (mCons (mV 3) mNil))) (sSeq (sIf (mOr (m1 bNot (mCallP F__law_right (mCons (mV 3) (mCons (mV 4) mNil)))) (m1 bNot (mCallP F__law_right (mCons (m1 bRevT (mV 3)) (mCons (mV 4) mNil))))) (sRet (mC (.bl false))) (sK .nx)) (sSeq (sIf (mOr (m1 bNot (mCallP F__law_right (mCons (mN bTuple (mCons (mComp [5] (pN 5) (mIt (mV 3)) mYes (m1 bRevT (mV 5))) mNil)) (mCons (mV 4) mNil)))) (m1 bNot (mCallP F__law_right (mCons (m2 bAdd (mV 3) (mSl (mV 3) none (some (mC (.int 1))))) (mCons (mV 4) mNil))))) (sRet (mC (.bl false))) (sK .nx)) (sIf (m1 bNot (mCallP F__law_right (mCons (mV 3) (mCons (mV 4) mNil)))) (sRet (mC (.bl false))) (sK .nx))))))) (sRet (m2 bIsN (mCallP F_trouble_of (mCons (mN bTup mNil) mNil)) (mC .non)))))
def F_law : List D → Res D := runP 5 B_law
theorem ok_law {f : Addr} {fd : FuncData} (Fu : Fun K "law" "law" s_law f fd) (h__law_deck : CalP P w K mg base 1 "_law_deck" 1 (.ol (.ol .sh .sh) .sh) F__law_deck) (h__law_paths : CalF P w K mg base 3 "_law_paths" [.ol (.ol .sh .sh) .sh] (.sh) F__law_paths) (h__law_trouble : CalP P w K mg base 4 "_law_trouble" 1 (.sh) F__law_trouble) (h_trouble_of : CalP P w K mg base 3 "trouble_of" 1 (.sh) F_trouble_of) (h__law_right : CalP P w K mg base 4 "_law_right" 2 (.sh) F__law_right) (hm_range : mg "range" = none) (hm_tuple : mg "tuple" = none) : FnG P w K mg base 5 f fd ["_law_script"] (spP K 1 .sh F_law) := by
  refine ok_p (n := 1) (nl := 5) (F := ⟨fun i => if i = 1 then .ol (.ol .sh .sh) .sh else .sh, fun i => false, .sh⟩) (b := B_law) Fu sc_law (sh_ok _ _ (by decide)) rfl rfl (.inl rfl) ?_
  intro cdv A outer s H E hr hg hcd
  exact (ss_cons (s_setO 1 sc_law.nd (e_c h__law_deck hr hg (as_cons (e_v 0) as_nil) (len_cons len_nil)))
    (ss_cons (s_for (i_range1 (a_cons e_int a_nil) (hm := hm_range)) (g_n 2 sc_law.nd)
    (ss_cons (s_set 3 sc_law.nd (e_cF h__law_paths hr hg (ag_io 1 ag_nil)))
    (ss_cons (s_set 4 sc_law.nd (e_c h__law_trouble hr hg (as_cons (e_v 3) as_nil) (len_cons len_nil)))
    (ss_cons (s_if (w_or (t_not (t_val (e_c h__law_right hr hg (as_cons (e_v 3) (as_cons (e_v 4) as_nil)) (len_cons (len_cons len_nil))))) (w_or1 (t_not (t_val (e_c h__law_right hr hg (as_cons (e_revT (e_v 3)) (as_cons (e_v 4) as_nil)) (len_cons (len_cons len_nil))))))).pt
    (ss_one (s_ret e_bl))
    ss_nil)
    (ss_cons (s_if (w_or (t_not (t_val (e_c h__law_right hr hg (as_cons (e_callTy c_tuple (a_cons (e_sh (e_lcO (own' := [("_law_path", 5)]) (vs := [5]) sc_law.nd (blkOk_by (by kernel_rfl)) (i_any (e_v 3)) (fun _ _ _ _ _ => (g_n 5 sc_law.nd)) (fun _ _ _ _ _ => ts_nil) (fun _ _ _ _ _ => (e_revT (e_v 5))))) a_nil) (hm := hm_tuple)) (as_cons (e_v 4) as_nil)) (len_cons (len_cons len_nil))))) (w_or1 (t_not (t_val (e_c h__law_right hr hg (as_cons (e_2 o_add (e_v 3) (e_sl (e_v 3) po_n (po_s e_int))) (as_cons (e_v 4) as_nil)) (len_cons (len_cons len_nil))))))).pt
    (ss_one (s_ret e_bl))
    ss_nil)
    (ss_one (s_if (t_not (t_val (e_c h__law_right hr hg (as_cons (e_v 3) (as_cons (e_v 4) as_nil)) (len_cons (len_cons len_nil)))))
    (ss_one (s_ret e_bl))
    ss_nil)))))))
    (ss_one (s_ret (e_cmp o_is (e_c h_trouble_of hr hg (as_cons (e_tup as_nil) as_nil) (len_cons len_nil)) e_non)))))
end
set_option maxHeartbeats 0 in
theorem all_mk {P : Program} {w : World} {K : PySem.W.Frag} {h : Heap} {mg : Str → Option Value} {fa : Addr} (X : K.In h) (G : h.Ns mainGlobals mg) (hfa : mg "law" = some (.ref fa))
    {od0 an0 : Option Addr} {sl0 : Array (Option Value)} {oc0 kV0 dc0 pm0 cd0 ct0 : Value} {f0 : Addr} (a0 : PySem.W.nsIn K mainGlobals "links_of" = some (some (.ref f0))) (l0 : K.lookup f0 = some ⟨oc0, od0, .func (PySem.W.fnOf "links_of" "links_of" (defArgs s_links_of) (defBody s_links_of) (defScope s_links_of) .none kV0 dc0 pm0 an0 cd0 ct0), sl0⟩) (c0 : PySem.W.codeIn K cd0 "links_of" = true) (k0 : PySem.W.keepIn K (.ref f0) = true)
    {od1 an1 : Option Addr} {sl1 : Array (Option Value)} {oc1 kV1 dc1 pm1 cd1 ct1 : Value} {f1 : Addr} (a1 : PySem.W.nsIn K mainGlobals "corners_on" = some (some (.ref f1))) (l1 : K.lookup f1 = some ⟨oc1, od1, .func (PySem.W.fnOf "corners_on" "corners_on" (defArgs s_corners_on) (defBody s_corners_on) (defScope s_corners_on) .none kV1 dc1 pm1 an1 cd1 ct1), sl1⟩) (c1 : PySem.W.codeIn K cd1 "corners_on" = true) (k1 : PySem.W.keepIn K (.ref f1) = true)
    {od2 an2 : Option Addr} {sl2 : Array (Option Value)} {oc2 kV2 dc2 pm2 cd2 ct2 : Value} {f2 : Addr} (a2 : PySem.W.nsIn K mainGlobals "side_of" = some (some (.ref f2))) (l2 : K.lookup f2 = some ⟨oc2, od2, .func (PySem.W.fnOf "side_of" "side_of" (defArgs s_side_of) (defBody s_side_of) (defScope s_side_of) .none kV2 dc2 pm2 an2 cd2 ct2), sl2⟩) (c2 : PySem.W.codeIn K cd2 "side_of" = true) (k2 : PySem.W.keepIn K (.ref f2) = true)
    {od3 an3 : Option Addr} {sl3 : Array (Option Value)} {oc3 kV3 dc3 pm3 cd3 ct3 : Value} {f3 : Addr} (a3 : PySem.W.nsIn K mainGlobals "lies_between" = some (some (.ref f3))) (l3 : K.lookup f3 = some ⟨oc3, od3, .func (PySem.W.fnOf "lies_between" "lies_between" (defArgs s_lies_between) (defBody s_lies_between) (defScope s_lies_between) .none kV3 dc3 pm3 an3 cd3 ct3), sl3⟩) (c3 : PySem.W.codeIn K cd3 "lies_between" = true) (k3 : PySem.W.keepIn K (.ref f3) = true)
    {od4 an4 : Option Addr} {sl4 : Array (Option Value)} {oc4 kV4 dc4 pm4 cd4 ct4 : Value} {f4 : Addr} (a4 : PySem.W.nsIn K mainGlobals "lies_on" = some (some (.ref f4))) (l4 : K.lookup f4 = some ⟨oc4, od4, .func (PySem.W.fnOf "lies_on" "lies_on" (defArgs s_lies_on) (defBody s_lies_on) (defScope s_lies_on) .none kV4 dc4 pm4 an4 cd4 ct4), sl4⟩) (c4 : PySem.W.codeIn K cd4 "lies_on" = true) (k4 : PySem.W.keepIn K (.ref f4) = true)
    {od5 an5 : Option Addr} {sl5 : Array (Option Value)} {oc5 kV5 dc5 pm5 cd5 ct5 : Value} {f5 : Addr} (a5 : PySem.W.nsIn K mainGlobals "are_apart" = some (some (.ref f5))) (l5 : K.lookup f5 = some ⟨oc5, od5, .func (PySem.W.fnOf "are_apart" "are_apart" (defArgs s_are_apart) (defBody s_are_apart) (defScope s_are_apart) .none kV5 dc5 pm5 an5 cd5 ct5), sl5⟩) (c5 : PySem.W.codeIn K cd5 "are_apart" = true) (k5 : PySem.W.keepIn K (.ref f5) = true)
    {od6 an6 : Option Addr} {sl6 : Array (Option Value)} {oc6 kV6 dc6 pm6 cd6 ct6 : Value} {f6 : Addr} (a6 : PySem.W.nsIn K mainGlobals "are_parted" = some (some (.ref f6))) (l6 : K.lookup f6 = some ⟨oc6, od6, .func (PySem.W.fnOf "are_parted" "are_parted" (defArgs s_are_parted) (defBody s_are_parted) (defScope s_are_parted) .none kV6 dc6 pm6 an6 cd6 ct6), sl6⟩) (c6 : PySem.W.codeIn K cd6 "are_parted" = true) (k6 : PySem.W.keepIn K (.ref f6) = true)
    {od7 an7 : Option Addr} {sl7 : Array (Option Value)} {oc7 kV7 dc7 pm7 cd7 ct7 : Value} {f7 : Addr} (a7 : PySem.W.nsIn K mainGlobals "do_cross" = some (some (.ref f7))) (l7 : K.lookup f7 = some ⟨oc7, od7, .func (PySem.W.fnOf "do_cross" "do_cross" (defArgs s_do_cross) (defBody s_do_cross) (defScope s_do_cross) .none kV7 dc7 pm7 an7 cd7 ct7), sl7⟩) (c7 : PySem.W.codeIn K cd7 "do_cross" = true) (k7 : PySem.W.keepIn K (.ref f7) = true)
    {od8 an8 : Option Addr} {sl8 : Array (Option Value)} {oc8 kV8 dc8 pm8 cd8 ct8 : Value} {f8 : Addr} (a8 : PySem.W.nsIn K mainGlobals "trouble_of" = some (some (.ref f8))) (l8 : K.lookup f8 = some ⟨oc8, od8, .func (PySem.W.fnOf "trouble_of" "trouble_of" (defArgs s_trouble_of) (defBody s_trouble_of) (defScope s_trouble_of) .none kV8 dc8 pm8 an8 cd8 ct8), sl8⟩) (c8 : PySem.W.codeIn K cd8 "trouble_of" = true) (k8 : PySem.W.keepIn K (.ref f8) = true)
    {od9 an9 : Option Addr} {sl9 : Array (Option Value)} {oc9 kV9 dc9 pm9 cd9 ct9 : Value} {f9 : Addr} (a9 : PySem.W.nsIn K mainGlobals "_law_deck" = some (some (.ref f9))) (l9 : K.lookup f9 = some ⟨oc9, od9, .func (PySem.W.fnOf "_law_deck" "_law_deck" (defArgs s__law_deck) (defBody s__law_deck) (defScope s__law_deck) .none kV9 dc9 pm9 an9 cd9 ct9), sl9⟩) (c9 : PySem.W.codeIn K cd9 "_law_deck" = true) (k9 : PySem.W.keepIn K (.ref f9) = true)
    {od10 an10 : Option Addr} {sl10 : Array (Option Value)} {oc10 kV10 dc10 pm10 cd10 ct10 : Value} {f10 : Addr} (a10 : PySem.W.nsIn K mainGlobals "_law_draw" = some (some (.ref f10))) (l10 : K.lookup f10 = some ⟨oc10, od10, .func (PySem.W.fnOf "_law_draw" "_law_draw" (defArgs s__law_draw) (defBody s__law_draw) (defScope s__law_draw) .none kV10 dc10 pm10 an10 cd10 ct10), sl10⟩) (c10 : PySem.W.codeIn K cd10 "_law_draw" = true) (k10 : PySem.W.keepIn K (.ref f10) = true)
    {od11 an11 : Option Addr} {sl11 : Array (Option Value)} {oc11 kV11 dc11 pm11 cd11 ct11 : Value} {f11 : Addr} (a11 : PySem.W.nsIn K mainGlobals "_law_turn" = some (some (.ref f11))) (l11 : K.lookup f11 = some ⟨oc11, od11, .func (PySem.W.fnOf "_law_turn" "_law_turn" (defArgs s__law_turn) (defBody s__law_turn) (defScope s__law_turn) .none kV11 dc11 pm11 an11 cd11 ct11), sl11⟩) (c11 : PySem.W.codeIn K cd11 "_law_turn" = true) (k11 : PySem.W.keepIn K (.ref f11) = true)
    {od12 an12 : Option Addr} {sl12 : Array (Option Value)} {oc12 kV12 dc12 pm12 cd12 ct12 : Value} {f12 : Addr} (a12 : PySem.W.nsIn K mainGlobals "_law_less" = some (some (.ref f12))) (l12 : K.lookup f12 = some ⟨oc12, od12, .func (PySem.W.fnOf "_law_less" "_law_less" (defArgs s__law_less) (defBody s__law_less) (defScope s__law_less) .none kV12 dc12 pm12 an12 cd12 ct12), sl12⟩) (c12 : PySem.W.codeIn K cd12 "_law_less" = true) (k12 : PySem.W.keepIn K (.ref f12) = true)
    {od13 an13 : Option Addr} {sl13 : Array (Option Value)} {oc13 kV13 dc13 pm13 cd13 ct13 : Value} {f13 : Addr} (a13 : PySem.W.nsIn K mainGlobals "_law_common" = some (some (.ref f13))) (l13 : K.lookup f13 = some ⟨oc13, od13, .func (PySem.W.fnOf "_law_common" "_law_common" (defArgs s__law_common) (defBody s__law_common) (defScope s__law_common) .none kV13 dc13 pm13 an13 cd13 ct13), sl13⟩) (c13 : PySem.W.codeIn K cd13 "_law_common" = true) (k13 : PySem.W.keepIn K (.ref f13) = true)
    {od14 an14 : Option Addr} {sl14 : Array (Option Value)} {oc14 kV14 dc14 pm14 cd14 ct14 : Value} {f14 : Addr} (a14 : PySem.W.nsIn K mainGlobals "_law_row" = some (some (.ref f14))) (l14 : K.lookup f14 = some ⟨oc14, od14, .func (PySem.W.fnOf "_law_row" "_law_row" (defArgs s__law_row) (defBody s__law_row) (defScope s__law_row) .none kV14 dc14 pm14 an14 cd14 ct14), sl14⟩) (c14 : PySem.W.codeIn K cd14 "_law_row" = true) (k14 : PySem.W.keepIn K (.ref f14) = true)
    {od15 an15 : Option Addr} {sl15 : Array (Option Value)} {oc15 kV15 dc15 pm15 cd15 ct15 : Value} {f15 : Addr} (a15 : PySem.W.nsIn K mainGlobals "_law_links" = some (some (.ref f15))) (l15 : K.lookup f15 = some ⟨oc15, od15, .func (PySem.W.fnOf "_law_links" "_law_links" (defArgs s__law_links) (defBody s__law_links) (defScope s__law_links) .none kV15 dc15 pm15 an15 cd15 ct15), sl15⟩) (c15 : PySem.W.codeIn K cd15 "_law_links" = true) (k15 : PySem.W.keepIn K (.ref f15) = true)
    {od16 an16 : Option Addr} {sl16 : Array (Option Value)} {oc16 kV16 dc16 pm16 cd16 ct16 : Value} {f16 : Addr} (a16 : PySem.W.nsIn K mainGlobals "_law_is_on" = some (some (.ref f16))) (l16 : K.lookup f16 = some ⟨oc16, od16, .func (PySem.W.fnOf "_law_is_on" "_law_is_on" (defArgs s__law_is_on) (defBody s__law_is_on) (defScope s__law_is_on) .none kV16 dc16 pm16 an16 cd16 ct16), sl16⟩) (c16 : PySem.W.codeIn K cd16 "_law_is_on" = true) (k16 : PySem.W.keepIn K (.ref f16) = true)
    {od17 an17 : Option Addr} {sl17 : Array (Option Value)} {oc17 kV17 dc17 pm17 cd17 ct17 : Value} {f17 : Addr} (a17 : PySem.W.nsIn K mainGlobals "_law_do_cross" = some (some (.ref f17))) (l17 : K.lookup f17 = some ⟨oc17, od17, .func (PySem.W.fnOf "_law_do_cross" "_law_do_cross" (defArgs s__law_do_cross) (defBody s__law_do_cross) (defScope s__law_do_cross) .none kV17 dc17 pm17 an17 cd17 ct17), sl17⟩) (c17 : PySem.W.codeIn K cd17 "_law_do_cross" = true) (k17 : PySem.W.keepIn K (.ref f17) = true)
    {od18 an18 : Option Addr} {sl18 : Array (Option Value)} {oc18 kV18 dc18 pm18 cd18 ct18 : Value} {f18 : Addr} (a18 : PySem.W.nsIn K mainGlobals "_law_trouble" = some (some (.ref f18))) (l18 : K.lookup f18 = some ⟨oc18, od18, .func (PySem.W.fnOf "_law_trouble" "_law_trouble" (defArgs s__law_trouble) (defBody s__law_trouble) (defScope s__law_trouble) .none kV18 dc18 pm18 an18 cd18 ct18), sl18⟩) (c18 : PySem.W.codeIn K cd18 "_law_trouble" = true) (k18 : PySem.W.keepIn K (.ref f18) = true)
    {od19 an19 : Option Addr} {sl19 : Array (Option Value)} {oc19 kV19 dc19 pm19 cd19 ct19 : Value} {f19 : Addr} (a19 : PySem.W.nsIn K mainGlobals "_law_paths" = some (some (.ref f19))) (l19 : K.lookup f19 = some ⟨oc19, od19, .func (PySem.W.fnOf "_law_paths" "_law_paths" (defArgs s__law_paths) (defBody s__law_paths) (defScope s__law_paths) .none kV19 dc19 pm19 an19 cd19 ct19), sl19⟩) (c19 : PySem.W.codeIn K cd19 "_law_paths" = true) (k19 : PySem.W.keepIn K (.ref f19) = true)
    {od20 an20 : Option Addr} {sl20 : Array (Option Value)} {oc20 kV20 dc20 pm20 cd20 ct20 : Value} {f20 : Addr} (a20 : PySem.W.nsIn K mainGlobals "_law_right" = some (some (.ref f20))) (l20 : K.lookup f20 = some ⟨oc20, od20, .func (PySem.W.fnOf "_law_right" "_law_right" (defArgs s__law_right) (defBody s__law_right) (defScope s__law_right) .none kV20 dc20 pm20 an20 cd20 ct20), sl20⟩) (c20 : PySem.W.codeIn K cd20 "_law_right" = true) (k20 : PySem.W.keepIn K (.ref f20) = true)
    {od21 an21 : Option Addr} {sl21 : Array (Option Value)} {oc21 kV21 dc21 pm21 cd21 ct21 : Value} {f21 : Addr} (a21 : PySem.W.nsIn K mainGlobals "law" = some (some (.ref f21))) (l21 : K.lookup f21 = some ⟨oc21, od21, .func (PySem.W.fnOf "law" "law" (defArgs s_law) (defBody s_law) (defScope s_law) .none kV21 dc21 pm21 an21 cd21 ct21), sl21⟩) (c21 : PySem.W.codeIn K cd21 "law" = true) (k21 : PySem.W.keepIn K (.ref f21) = true)
    (z_enumerate : PySem.W.nsIn K mainGlobals "enumerate" = some none) (z_int : PySem.W.nsIn K mainGlobals "int" = some none) (z_len : PySem.W.nsIn K mainGlobals "len" = some none) (z_list : PySem.W.nsIn K mainGlobals "list" = some none) (z_max : PySem.W.nsIn K mainGlobals "max" = some none) (z_min : PySem.W.nsIn K mainGlobals "min" = some none) (z_range : PySem.W.nsIn K mainGlobals "range" = some none) (z_repr : PySem.W.nsIn K mainGlobals "repr" = some none) (z_set : PySem.W.nsIn K mainGlobals "set" = some none) (z_sorted : PySem.W.nsIn K mainGlobals "sorted" = some none) (z_sum : PySem.W.nsIn K mainGlobals "sum" = some none) (z_tuple : PySem.W.nsIn K mainGlobals "tuple" = some none) (z_zip : PySem.W.nsIn K mainGlobals "zip" = some none)  :
    ∃ (cs : List (Addr × Addr × Str)) (fd : FuncData), (∀ c ∈ cs, h.get? c.2.1 = some { cls := .none, data := .fields #[] }) ∧ (∀ c ∈ cs, K.lookup c.2.1 = none) ∧ (∀ c ∈ cs, PySem.W.CodeHd h c.1 c.2.1) ∧ (∀ (s : Shared) (v : Value), BindsTo s fd ⟨[v], []⟩ [("_law_script", v)]) ∧ ∀ base : Heap, K.In base → base.Ns mainGlobals mg → (∀ c ∈ cs, LamX.TabB base mg c.1 c.2.1) → FnG P w K mg base 5 fa fd ["_law_script"] (@spP (tbOf cs) K 1 .sh F_law) := by
  letI : Tb := tbOf []
  have e := hfa.symm.trans (PySem.W.mg_of X G a21)
  cases e
  have T0 : TxF K mg "links_of" s_links_of ["paths"] := ⟨_, _, fun_mk (st := s_links_of) l0 c0 k0, (fun_mk (st := s_links_of) l0 c0 k0).binds (ps := ["paths"]) fun _ _ _ _ _ _ us hl => match us, hl with | [_], _ => rfl, PySem.W.mg_of X G a0⟩
  have T1 : TxF K mg "corners_on" s_corners_on ["paths"] := ⟨_, _, fun_mk (st := s_corners_on) l1 c1 k1, (fun_mk (st := s_corners_on) l1 c1 k1).binds (ps := ["paths"]) fun _ _ _ _ _ _ us hl => match us, hl with | [_], _ => rfl, PySem.W.mg_of X G a1⟩
  have T2 : TxF K mg "side_of" s_side_of ["one", "other", "third"] := ⟨_, _, fun_mk (st := s_side_of) l2 c2 k2, (fun_mk (st := s_side_of) l2 c2 k2).binds (ps := ["one", "other", "third"]) fun _ _ _ _ _ _ us hl => match us, hl with | [_, _, _], _ => rfl, PySem.W.mg_of X G a2⟩
  have T3 : TxF K mg "lies_between" s_lies_between ["one", "other", "third"] := ⟨_, _, fun_mk (st := s_lies_between) l3 c3 k3, (fun_mk (st := s_lies_between) l3 c3 k3).binds (ps := ["one", "other", "third"]) fun _ _ _ _ _ _ us hl => match us, hl with | [_, _, _], _ => rfl, PySem.W.mg_of X G a3⟩
  have T4 : TxF K mg "lies_on" s_lies_on ["corner", "link"] := ⟨_, _, fun_mk (st := s_lies_on) l4 c4 k4, (fun_mk (st := s_lies_on) l4 c4 k4).binds (ps := ["corner", "link"]) fun _ _ _ _ _ _ us hl => match us, hl with | [_, _], _ => rfl, PySem.W.mg_of X G a4⟩
  have T5 : TxF K mg "are_apart" s_are_apart ["link", "other"] := ⟨_, _, fun_mk (st := s_are_apart) l5 c5 k5, (fun_mk (st := s_are_apart) l5 c5 k5).binds (ps := ["link", "other"]) fun _ _ _ _ _ _ us hl => match us, hl with | [_, _], _ => rfl, PySem.W.mg_of X G a5⟩
  have T6 : TxF K mg "are_parted" s_are_parted ["one", "other"] := ⟨_, _, fun_mk (st := s_are_parted) l6 c6 k6, (fun_mk (st := s_are_parted) l6 c6 k6).binds (ps := ["one", "other"]) fun _ _ _ _ _ _ us hl => match us, hl with | [_, _], _ => rfl, PySem.W.mg_of X G a6⟩
  have T7 : TxF K mg "do_cross" s_do_cross ["link", "other"] := ⟨_, _, fun_mk (st := s_do_cross) l7 c7 k7, (fun_mk (st := s_do_cross) l7 c7 k7).binds (ps := ["link", "other"]) fun _ _ _ _ _ _ us hl => match us, hl with | [_, _], _ => rfl, PySem.W.mg_of X G a7⟩
  have T8 : TxF K mg "trouble_of" s_trouble_of ["paths"] := ⟨_, _, fun_mk (st := s_trouble_of) l8 c8 k8, (fun_mk (st := s_trouble_of) l8 c8 k8).binds (ps := ["paths"]) fun _ _ _ _ _ _ us hl => match us, hl with | [_], _ => rfl, PySem.W.mg_of X G a8⟩
  have T9 : TxF K mg "_law_deck" s__law_deck ["_law_script"] := ⟨_, _, fun_mk (st := s__law_deck) l9 c9 k9, (fun_mk (st := s__law_deck) l9 c9 k9).binds (ps := ["_law_script"]) fun _ _ _ _ _ _ us hl => match us, hl with | [_], _ => rfl, PySem.W.mg_of X G a9⟩
  have T10 : TxF K mg "_law_draw" s__law_draw ["_law_deck_here", "_law_most"] := ⟨_, _, fun_mk (st := s__law_draw) l10 c10 k10, (fun_mk (st := s__law_draw) l10 c10 k10).binds (ps := ["_law_deck_here", "_law_most"]) fun _ _ _ _ _ _ us hl => match us, hl with | [_, _], _ => rfl, PySem.W.mg_of X G a10⟩
  have T11 : TxF K mg "_law_turn" s__law_turn ["_law_one", "_law_other"] := ⟨_, _, fun_mk (st := s__law_turn) l11 c11 k11, (fun_mk (st := s__law_turn) l11 c11 k11).binds (ps := ["_law_one", "_law_other"]) fun _ _ _ _ _ _ us hl => match us, hl with | [_, _], _ => rfl, PySem.W.mg_of X G a11⟩
  have T12 : TxF K mg "_law_less" s__law_less ["_law_one", "_law_other"] := ⟨_, _, fun_mk (st := s__law_less) l12 c12 k12, (fun_mk (st := s__law_less) l12 c12 k12).binds (ps := ["_law_one", "_law_other"]) fun _ _ _ _ _ _ us hl => match us, hl with | [_, _], _ => rfl, PySem.W.mg_of X G a12⟩
  have T13 : TxF K mg "_law_common" s__law_common ["_law_one", "_law_other"] := ⟨_, _, fun_mk (st := s__law_common) l13 c13 k13, (fun_mk (st := s__law_common) l13 c13 k13).binds (ps := ["_law_one", "_law_other"]) fun _ _ _ _ _ _ us hl => match us, hl with | [_, _], _ => rfl, PySem.W.mg_of X G a13⟩
  have T14 : TxF K mg "_law_row" s__law_row ["_law_deck_here", "_law_lots", "_law_wide"] := ⟨_, _, fun_mk (st := s__law_row) l14 c14 k14, (fun_mk (st := s__law_row) l14 c14 k14).binds (ps := ["_law_deck_here", "_law_lots", "_law_wide"]) fun _ _ _ _ _ _ us hl => match us, hl with | [_, _, _], _ => rfl, PySem.W.mg_of X G a14⟩
  have T15 : TxF K mg "_law_links" s__law_links ["_law_paths_here"] := ⟨_, _, fun_mk (st := s__law_links) l15 c15 k15, (fun_mk (st := s__law_links) l15 c15 k15).binds (ps := ["_law_paths_here"]) fun _ _ _ _ _ _ us hl => match us, hl with | [_], _ => rfl, PySem.W.mg_of X G a15⟩
  have T16 : TxF K mg "_law_is_on" s__law_is_on ["_law_corner", "_law_link"] := ⟨_, _, fun_mk (st := s__law_is_on) l16 c16 k16, (fun_mk (st := s__law_is_on) l16 c16 k16).binds (ps := ["_law_corner", "_law_link"]) fun _ _ _ _ _ _ us hl => match us, hl with | [_, _], _ => rfl, PySem.W.mg_of X G a16⟩
  have T17 : TxF K mg "_law_do_cross" s__law_do_cross ["_law_link", "_law_other"] := ⟨_, _, fun_mk (st := s__law_do_cross) l17 c17 k17, (fun_mk (st := s__law_do_cross) l17 c17 k17).binds (ps := ["_law_link", "_law_other"]) fun _ _ _ _ _ _ us hl => match us, hl with | [_, _], _ => rfl, PySem.W.mg_of X G a17⟩
  have T18 : TxF K mg "_law_trouble" s__law_trouble ["_law_paths_here"] := ⟨_, _, fun_mk (st := s__law_trouble) l18 c18 k18, (fun_mk (st := s__law_trouble) l18 c18 k18).binds (ps := ["_law_paths_here"]) fun _ _ _ _ _ _ us hl => match us, hl with | [_], _ => rfl, PySem.W.mg_of X G a18⟩
  have T19 : TxF K mg "_law_paths" s__law_paths ["_law_deck_here"] := ⟨_, _, fun_mk (st := s__law_paths) l19 c19 k19, (fun_mk (st := s__law_paths) l19 c19 k19).binds (ps := ["_law_deck_here"]) fun _ _ _ _ _ _ us hl => match us, hl with | [_], _ => rfl, PySem.W.mg_of X G a19⟩
  have T20 : TxF K mg "_law_right" s__law_right ["_law_paths_here", "_law_due"] := ⟨_, _, fun_mk (st := s__law_right) l20 c20 k20, (fun_mk (st := s__law_right) l20 c20 k20).binds (ps := ["_law_paths_here", "_law_due"]) fun _ _ _ _ _ _ us hl => match us, hl with | [_, _], _ => rfl, PySem.W.mg_of X G a20⟩
  have T21 : TxF K mg "law" s_law ["_law_script"] := ⟨_, _, fun_mk (st := s_law) l21 c21 k21, (fun_mk (st := s_law) l21 c21 k21).binds (ps := ["_law_script"]) fun _ _ _ _ _ _ us hl => match us, hl with | [_], _ => rfl, PySem.W.mg_of X G a21⟩
  refine ⟨[], PySem.W.fnOf "law" "law" (defArgs s_law) (defBody s_law) (defScope s_law) .none kV21 dc21 pm21 an21 cd21 ct21, (fun c hc => by
    cases hc), (fun c hc => by
    cases hc), (fun c hc => by
    cases hc), fun s v => .of_eq rfl, fun base _ _ hTB => ?_⟩
  have H_links_of : CalP P w K mg base 1 "links_of" 1 (.sh) F_links_of := ok_links_of (P := P) (w := w) (base := base) T0 (PySem.W.mg_none_of X G z_max) (PySem.W.mg_none_of X G z_min) (PySem.W.mg_none_of X G z_sorted) (PySem.W.mg_none_of X G z_tuple) (PySem.W.mg_none_of X G z_zip)
  have H_corners_on : CalP P w K mg base 1 "corners_on" 1 (.sh) F_corners_on := ok_corners_on (P := P) (w := w) (base := base) T1 (PySem.W.mg_none_of X G z_sorted) (PySem.W.mg_none_of X G z_tuple)
  have H_side_of : CalP P w K mg base 1 "side_of" 3 (.sh) F_side_of := ok_side_of (P := P) (w := w) (base := base) T2
  have H_lies_between : CalP P w K mg base 1 "lies_between" 3 (.sh) F_lies_between := ok_lies_between (P := P) (w := w) (base := base) T3 (PySem.W.mg_none_of X G z_max) (PySem.W.mg_none_of X G z_min)
  have H_lies_on : CalP P w K mg base 2 "lies_on" 2 (.sh) F_lies_on := ok_lies_on (P := P) (w := w) (base := base) T4 H_side_of H_lies_between
  have H_are_apart : CalP P w K mg base 1 "are_apart" 2 (.sh) F_are_apart := ok_are_apart (P := P) (w := w) (base := base) T5 (PySem.W.mg_none_of X G z_max) (PySem.W.mg_none_of X G z_min)
  have H_are_parted : CalP P w K mg base 1 "are_parted" 2 (.sh) F_are_parted := ok_are_parted (P := P) (w := w) (base := base) T6
  have H_do_cross : CalP P w K mg base 2 "do_cross" 2 (.sh) F_do_cross := ok_do_cross (P := P) (w := w) (base := base) T7 H_are_apart H_are_parted H_side_of
  have H_trouble_of : CalP P w K mg base 3 "trouble_of" 1 (.sh) F_trouble_of := ok_trouble_of (P := P) (w := w) (base := base) T8 H_links_of H_corners_on H_lies_on H_do_cross (PySem.W.mg_none_of X G z_enumerate)
  have H__law_deck : CalP P w K mg base 1 "_law_deck" 1 (.ol (.ol .sh .sh) .sh) F__law_deck := ok__law_deck (P := P) (w := w) (base := base) T9 (PySem.W.mg_none_of X G z_len) (PySem.W.mg_none_of X G z_list) (PySem.W.mg_none_of X G z_sum)
  have H__law_draw : CalF P w K mg base 1 "_law_draw" [.ol (.ol .sh .sh) .sh, .sh] (.sh) F__law_draw := ok__law_draw (P := P) (w := w) (base := base) T10
  have H__law_turn : CalP P w K mg base 1 "_law_turn" 2 (.sh) F__law_turn := ok__law_turn (P := P) (w := w) (base := base) T11
  have H__law_less : CalP P w K mg base 1 "_law_less" 2 (.sh) F__law_less := ok__law_less (P := P) (w := w) (base := base) T12
  have H__law_common : CalP P w K mg base 2 "_law_common" 2 (.sh) F__law_common := ok__law_common (P := P) (w := w) (base := base) T13 H__law_turn H__law_less (PySem.W.mg_none_of X G z_int) (PySem.W.mg_none_of X G z_max) (PySem.W.mg_none_of X G z_min)
  have H__law_row : CalF P w K mg base 2 "_law_row" [.ol (.ol .sh .sh) .sh, .sh, .sh] (.sh) F__law_row := ok__law_row (P := P) (w := w) (base := base) T14 H__law_draw (PySem.W.mg_none_of X G z_range) (PySem.W.mg_none_of X G z_tuple)
  have H__law_links : CalP P w K mg base 1 "_law_links" 1 (.sh) F__law_links := ok__law_links (P := P) (w := w) (base := base) T15 (PySem.W.mg_none_of X G z_list) (PySem.W.mg_none_of X G z_max) (PySem.W.mg_none_of X G z_min) (PySem.W.mg_none_of X G z_sorted) (PySem.W.mg_none_of X G z_zip)
  have H__law_is_on : CalP P w K mg base 2 "_law_is_on" 2 (.sh) F__law_is_on := ok__law_is_on (P := P) (w := w) (base := base) T16 H__law_less H__law_turn
  have H__law_do_cross : CalP P w K mg base 3 "_law_do_cross" 2 (.sh) F__law_do_cross := ok__law_do_cross (P := P) (w := w) (base := base) T17 H__law_common (PySem.W.mg_none_of X G z_len)
  have H__law_trouble : CalP P w K mg base 4 "_law_trouble" 1 (.sh) F__law_trouble := ok__law_trouble (P := P) (w := w) (base := base) T18 H__law_links H__law_is_on H__law_do_cross (PySem.W.mg_none_of X G z_len) (PySem.W.mg_none_of X G z_list) (PySem.W.mg_none_of X G z_range) (PySem.W.mg_none_of X G z_set) (PySem.W.mg_none_of X G z_sorted) (PySem.W.mg_none_of X G z_sum)
  have H__law_paths : CalF P w K mg base 3 "_law_paths" [.ol (.ol .sh .sh) .sh] (.sh) F__law_paths := ok__law_paths (P := P) (w := w) (base := base) T19 H__law_draw H__law_row (PySem.W.mg_none_of X G z_int) (PySem.W.mg_none_of X G z_range) (PySem.W.mg_none_of X G z_tuple)
  have H__law_right : CalP P w K mg base 4 "_law_right" 2 (.sh) F__law_right := ok__law_right (P := P) (w := w) (base := base) T20 H_trouble_of (PySem.W.mg_none_of X G z_repr)
  exact ok_law (fun_mk (st := s_law) l21 c21 k21) H__law_deck H__law_paths H__law_trouble H_trouble_of H__law_right (PySem.W.mg_none_of X G z_range) (PySem.W.mg_none_of X G z_tuple)
end LW

namespace LW
open PySem PySem.Spec L2 CL CLG CLX CLE CLTR
theorem k28_draw : F__law_draw = drawF := rfl
theorem k28_row : F__law_row = CLE.rowF := rfl
theorem k28_deck : F__law_deck = runP 1 deckB := rfl
theorem k28_tr : F_trouble_of = CLTR.F_trouble_of := rfl
theorem k28_ltr : F__law_trouble = CLTR.F__law_trouble := rfl
local macro_rules | `(tactic| walk_at "o") => `(tactic| ((try simp only [backA, List.set_cons_zero, List.set_cons_succ, wipeD, List.map_cons, List.map_nil, List.cons_append, List.nil_append, List.replicate_succ, List.replicate_zero]); first | done | rfl))
local macro_rules | `(tactic| walk_at "b") => `(tactic| first
  | with_reducible exact Nb.lit
  | ((with_reducible apply Nb.mul) <;> walk_at "b")
  | ((with_reducible apply Nb.add) <;> walk_at "b")
  | ((with_reducible apply Nb.sub) <;> walk_at "b")
  | ((with_reducible apply Nb.neg) <;> walk_at "b")
  | ((with_reducible apply Nb.fdiv) <;> walk_at "b")
  | ((with_reducible apply Nb.fmod); (· walk_at "z"); (· walk_at "b"))
  | ((with_reducible apply Nb.max) <;> walk_at "b")
  | ((with_reducible apply Nb.min) <;> walk_at "b")
  | ((with_reducible apply Nb.ite) <;> walk_at "b")
  | with_reducible assumption
  | with_reducible exact Nb.le (by assumption)
  | with_reducible exact Nb.nle (by assumption)
  | with_reducible exact Nb.lt (by assumption)
  | ((with_reducible apply Nb.rng (by assumption) (by assumption)) <;> walk_at "b")
  | ((with_reducible apply Nb.rngE (by assumption) (by assumption)) <;> walk_at "b")
  | with_reducible exact Nb.self _)
local macro_rules | `(tactic| walk_at "z") => `(tactic| first | decide | with_reducible assumption | omega | exact fmod_nn (by omega) | exact fmod_lt (by omega))
local macro_rules | `(tactic| walk_at "e") => `(tactic| first
  | ((with_reducible refine is_ev ?_); first
    | ((with_reducible apply mul_st); (· walk_at "b"); (· walk_at "b"); (· rfl))
    | ((with_reducible apply mul_s1); (· walk_at "b"); (· rfl))
    | ((with_reducible apply mul_s2); (· walk_at "b"); (· rfl))
    | ((with_reducible apply div_st); (· walk_at "z"); (· walk_at "b"); (· rfl))
    | ((with_reducible apply mod_st); (· walk_at "z"))
    | with_reducible apply tup_pt
    | with_reducible apply tup_ln
    | ((with_reducible apply tup_st); (· rfl))
    | ((with_reducible apply lst_st); (· rfl))
    | with_reducible apply eqi_st
    | with_reducible apply nei_st
    | with_reducible apply eqp_st
    | with_reducible apply nep_st
    | with_reducible apply eqp_st'
    | with_reducible apply nep_st'
    | with_reducible apply eqb_st
    | with_reducible apply neb_st
    | with_reducible apply isb_st
    | with_reducible apply eqs_st
    | with_reducible apply nes_st
    | with_reducible refine ixl0 ?_
    | with_reducible refine ixl1 ?_
    | with_reducible refine ix2bi (fun _ _ _ => ?_)
    | ((with_reducible refine ix4i ?_ ?_ (fun _ _ _ => ?_)); (· walk_at "z"); (· walk_at "z"))
    | ((with_reducible refine ix2i ?_ ?_ (fun _ _ _ => ?_)); (· walk_at "z"); (· walk_at "z"))
    | ((with_reducible refine ix3i ?_ ?_ (fun _ _ _ => ?_)); (· walk_at "z"); (· walk_at "z"))
    | refine ⟨_, rfl, ?_⟩)
  | ((with_reducible refine fill_st ?_); refine ⟨_, rfl, ?_⟩; (try dsimp only))
  | ((with_reducible apply and_go rfl); (· (intro _; (repeat walk_at "s"); with_reducible exact ⟨rfl, rfl⟩)))
  | ((with_reducible refine is_chain ?_); (apply chain_go rfl); (· (intro _; (repeat walk_at "s"); exact ⟨rfl, rfl⟩)))
  | ((with_reducible refine draw_step (by assumption) ?_ ?_ (fun _ _ _ _ _ => ?_)); (· walk_at "z"); (· walk_at "z"))
  | ((with_reducible refine CLY.draw_step (by assumption) ?_ ?_ (fun _ _ _ _ _ => ?_)); (· walk_at "z"); (· walk_at "z"))
  | ((with_reducible refine is_evA ?_); refine ⟨_, rfl, ?_⟩)
  | ((with_reducible refine is_evL ?_); refine ⟨_, rfl, ?_⟩)
  | ((with_reducible refine is_evI ?_); refine ⟨_, rfl, ?_⟩)
  | ((with_reducible refine is_evR ?_); refine ⟨_, rfl, ?_⟩))
local macro_rules | `(tactic| walk_at "f") => `(tactic| first
  | with_reducible refine W_mV.mpr ?_
  | with_reducible refine W_mCons.mpr ?_
  | with_reducible refine W_m2.mpr ?_
  | with_reducible refine W_mC.mpr ?_
  | with_reducible refine W_mNil.mpr ?_
  | with_reducible refine W_mN.mpr ?_
  | with_reducible refine W_sSeq.mpr ?_
  | with_reducible refine W_sAsg.mpr ?_
  | with_reducible refine W_m1.mpr ?_
  | with_reducible refine W_mCallP.mpr ?_
  | with_reducible refine W_mCall.mpr ?_
  | with_reducible refine X_evI.mpr ?_
  | with_reducible refine X_evE.mpr ?_
  | with_reducible refine X_evN.mpr ?_
  | with_reducible refine X_if ?_
  | with_reducible refine W_sRet.mpr ?_
  | with_reducible refine W_sK.mpr ?_
  | with_reducible refine X_and ?_
  | with_reducible refine X_or ?_
  | with_reducible refine W_sPar.mpr ?_
  | with_reducible refine W_mSl.mpr ?_
  | with_reducible refine W_mPtN.mpr ?_
  | with_reducible refine W_mPtS.mpr ?_
  | with_reducible refine W_mIt.mpr ?_
  | with_reducible refine W_mItN.mpr ?_
  | with_reducible refine W_mComp.mpr ?_
  | ((with_reducible refine is_comp ?_); first | (apply X_compN; (· walk_at "o")) | ((with_reducible apply X_compY); (· walk_at "o"); (· rfl)))
  | with_reducible refine W_sFor.mpr ?_
  | ((with_reducible refine is_for ?_); refine W_forNil.mpr ?_)
  | with_reducible refine X_chain ?_
  | with_reducible refine W_sExp.mpr ?_
  | with_reducible refine W_mL.mpr ?_
  | with_reducible refine X_mif ?_
  | with_reducible refine W_mIxS.mpr ?_
  | with_reducible refine W_mYes.mpr ?_
  | with_reducible refine W_sPar3.mpr ?_
  | with_reducible refine W_mApp.mpr ?_
  | with_reducible refine W_mBor.mpr ?_
  | with_reducible refine CLX.W_sFz.mpr ?_)
local macro_rules | `(tactic| walk_at "s") => `(tactic| first
  | ((with_reducible refine is_W ?_); walk_at "f")
  | ((with_reducible refine is_ex ?_); first
    | ((with_reducible refine is_evS ?_); refine ⟨_, rfl, ?_⟩)
    | ((with_reducible apply call_st); (· with_reducible assumption))
    | with_reducible refine ⟨_, by with_reducible assumption, ?_⟩
    | walk_at "e")
  | ((with_reducible apply X_nx); (· walk_at "o"))
  | with_reducible refine Kq_ret.mpr ?_
  | with_reducible refine Kq_brk.mpr ?_
  | with_reducible refine Kq_cnt.mpr ?_
  | ((with_reducible apply X_fnx); (· walk_at "o"))
  | ((with_reducible apply X_fcnt); (· walk_at "o"))
  | with_reducible refine X_fbrk ?_
  | with_reducible refine X_fret ?_
  | ((with_reducible refine is_ltA ?_); refine ⟨?_, ?_⟩; (· first | decide | omega | (simp; omega) | (simp; done)))
  | with_reducible refine parW_mk.mpr ?_
  | with_reducible refine par3W_mk.mpr ?_)
local macro_rules | `(tactic| walk_at "r") => `(tactic| repeat walk_at "s")
local macro_rules | `(tactic| walk_at "u") => `(tactic| first | ((apply X_forC); (· walk_at "o"); (· rfl)) | ((apply X_compY); (· walk_at "o"); (· rfl)) | ((apply X_compC); (· walk_at "o"); (· rfl)))
local macro_rules | `(tactic| walk_at "g") => `(tactic| repeat first | walk_at "s" | (with_reducible refine go_ifF (rfl : _ = false) ?_) | (with_reducible refine go_ifT (rfl : _ = true) ?_) | (refine go_ifF (rfl : _ = false) ?_) | (refine go_ifT (rfl : _ = true) ?_) | walk_at "u")
theorem nrow_loop {o1 : Option D} {g : Int} (g0 : 0 < g) (g1 : g ≤ 1000) {Q : Fl → Sl → Prop} : ∀ (xs : List D) (dk : D) (S : List Pn) (vs : List D) (o4 : Option D), Deck dk → (S.Nodup ∧ ∀ c ∈ S, 0 ≤ c.x ∧ c.x < 1000 ∧ 0 ≤ c.y ∧ c.y < 1000) → S.length + xs.length ≤ 1000 →
    (∀ dk' (S' : List Pn) (vs' : List D) (o4' : Option D), Deck dk' → (S'.Nodup ∧ ∀ c ∈ S', 0 ≤ c.x ∧ c.x < 1000 ∧ 0 ≤ c.y ∧ c.y < 1000) → S'.length ≤ S.length + xs.length → Q .nx [some dk', o1, some (.int g), some (.kdc (S'.map pnD) vs'), o4']) →
    W (forL (pN 4) (sStoK 3 (mN bTup (mCons (mCall drawF (.io 0 :: (.e (mV 2) :: []))) (mCons (mCall drawF (.io 0 :: (.e (mV 2) :: []))) mNil))) (mC (.bl true))) xs) [some dk, o1, some (.int g), some (.kdc (S.map pnD) vs), o4] Q
  | [], dk, S, vs, o4, hd, hS, _, k => W_forNil.mpr (k dk S vs o4 hd hS (by simp))
  | x :: xs, dk, S, vs, o4, hd, hS, hl, k => by
    simp only [List.length_cons] at hl
    refine W_forCons.mpr ⟨[some dk, o1, some (.int g), some (.kdc (S.map pnD) vs), some x], rfl, sto_e cnE (W_mC.mpr ⟨_, rfl, ?_⟩)⟩
    walk_at "r"
    rename_i a dk1 a0 a1 _ b dk2 b0 b1 hd2
    refine ⟨S, vs, ⟨a, b⟩, rfl, rfl, by omega, fun vs' => .inl ⟨.inl rfl, ?_⟩⟩
    have h1 := CLE.len_ins (S := S) (s := (⟨a, b⟩ : Pn))
    refine nrow_loop g0 g1 xs dk2 (CLE.ins S ⟨a, b⟩) vs' _ hd2 ⟨CLE.nodup_ins hS.1, fun c hc => ?_⟩ (by omega) fun dk' S' vs2 o4' n1 n2 n3 => k dk' S' vs2 o4' n1 n2 (by simp only [List.length_cons]; omega)
    rcases CLE.mem_ins.mp hc with hc | rfl
    · exact hS.2 c hc
    · exact ⟨a0, by show a < 1000; omega, b0, by show b < 1000; omega⟩
theorem nrow_step {dk : D} {g n : Int} {Q : D → List D → Prop} (hd : Deck dk) (g0 : 0 < g) (g1 : g ≤ 1000) (n0 : 0 ≤ n) (n1 : n ≤ 100) (k : ∀ (S : List Pn) dk', S.Nodup → (∀ c ∈ S, 0 ≤ c.x ∧ c.x < 1000 ∧ 0 ≤ c.y ∧ c.y < 1000) → (S.length : Int) ≤ n → Deck dk' → Q (.tup (S.map pnD)) [dk', .int n, .int g]) : ∃ r out, rowF [dk, .int n, .int g] = .ok (r, out) ∧ Q r out := by
  refine runF_ex ?_
  unfold CLE.rowB
  refine W_sSeq.mpr ?_
  walk_at "r"
  have hr : range1 [.int n] = some (rangeL 0 n) := by simp [range1]; omega
  refine ⟨_, hr, ?_⟩
  have hlen : ((rangeL 0 n).length : Int) = n := by simp [rangeL]; omega
  refine nrow_loop g0 g1 _ dk [] [] _ hd ⟨by simp, by simp⟩ (by simp; omega) fun dk' S' vs' o4' a b c => ?_
  walk_at "r"
  exact ⟨_, _, rfl, rfl, k S' dk' b.1 b.2 (by simp at c; omega) a⟩
theorem nd_rev {p : List Pn} (h : p.Nodup) : p.reverse.Nodup := (List.pairwise_reverse.mpr (h.imp fun h e => h e.symm))
/-- drawn rows -/
def K28R (p : List Pn) : Prop := p.Nodup ∧ p.length ≤ 12 ∧ ∀ c ∈ p, 0 ≤ c.x ∧ c.x < 1000 ∧ 0 ≤ c.y ∧ c.y < 1000
theorem k28rw_back {p : List Pn} (h : K28R p) : K28R p.reverse := ⟨nd_rev h.1, by simpa using h.2.1, fun c hc => h.2.2 c (List.mem_reverse.mp hc)⟩
def K28I (w : Int) (k : Nat) (ρ : Sl) : Prop := ∃ (dk : D) (T : List (List Pn)) (o3 o4 o5 : Option D), ρ = [some dk, some (.int w), some (.lst (T.map paD')), o3, o4, o5, none, none, none, none, none] ∧ Deck dk ∧ (∀ p ∈ T, K28R p) ∧ T.length + k ≤ 4
theorem range1_len {n : Int} (n0 : 0 ≤ n) (n1 : n ≤ 100000) : range1 [.int n] = some (rangeL 0 n) ∧ ((rangeL 0 n).length : Int) = n := ⟨by simp [range1]; omega, by simp [rangeL]; omega⟩
theorem ix_end {T : List (List Pn)} {t : List Pn} : bIx (.lst ((T ++ [t]).map paD')) (.int (-1)) = some (paD' t) := by
  simp only [bIx, List.map_append, List.map_cons, List.map_nil]
  exact CLN.at_end
theorem mv_inj {xi xj : Int} : ∀ {a b : Pn}, (⟨a.x + xi, a.y + xj⟩ : Pn) = ⟨b.x + xi, b.y + xj⟩ → a = b
  | ⟨a, b⟩, ⟨c, d⟩, h => by
    simp only [Pn.mk.injEq] at h ⊢
    omega
theorem paths_step {dk : D} {Q : D → List D → Prop} (hd : Deck dk) (k : ∀ (T : List (List Pn)) dk', T.length ≤ 4 → (∀ p ∈ T, p.length ≤ 12 ∧ p.Nodup ∧ ∀ c ∈ p, Pb c) → Deck dk' → Q (.tup (T.map paD')) [dk']) : ∃ r out, F__law_paths [dk] = .ok (r, out) ∧ Q r out := by
  refine runF_ex ?_
  unfold B__law_paths
  rw [k28_draw, k28_row]
  refine W_sSeq.mpr ?_
  walk_at "r"
  rename_i wd _ w0 w1 _ many dk1 m0 m1 hd1
  obtain ⟨hr, hlen⟩ := range1_len m0 (by omega)
  refine ⟨_, hr, ?_⟩
  refine W_forLen (K28I (2 + wd)) (fun x hx n ρ hn hρ => ?_) ⟨dk1, [], none, none, none, rfl, hd1, by simp, by simp; omega⟩ fun ρ' hρ' => ?_
  · obtain ⟨dk2, T, o3, o4, o5, rfl, hd2, hT, hl⟩ := hρ
    refine ⟨_, rfl, ?_⟩
    walk_at "r"
    rename_i l0 _ l00 l01 _ l8 dk3 _ _ hd3 lots el _
    have hlots : 0 ≤ lots ∧ lots ≤ 12 := by rw [el]; split <;> omega
    clear el
    refine nrow_step hd3 (by omega) (by omega) hlots.1 (by omega) fun S dk4 hnd hS hlS hd4 => ?_
    iterate 3 (walk_at "s")
    refine X_if (X_andC ?_)
    walk_at "r"
    have hS' : K28R S := ⟨hnd, by omega, hS⟩
    have fin : ∀ (t : List Pn) (dk5 : D), Deck dk5 → K28R t → K28I (2 + wd) n [some dk5, some (.int (2 + wd)), some (.lst (T.map paD' ++ [paD' t])), some x, some (.int lots), some (paD' t), none, none, none, none, none] := fun t dk5 hd5 ht => by
      refine ⟨dk5, T ++ [t], some x, some (.int lots), some (paD' t), by simp, hd5, fun p hp => ?_, by simp; omega⟩
      rcases List.mem_append.mp hp with hp | hp
      · exact hT p hp
      · rw [List.mem_singleton.mp hp]; exact ht
    refine go_if (fun hne => ?_) fun _ => ?_
    · walk_at "r"
      rename_i r dk5 _ _ hd5
      refine go_if (fun h2 => ?_) fun _ => ?_
      · obtain ⟨T0, t, rfl⟩ : ∃ T0 t, T = T0 ++ [t] := by
          rcases List.eq_nil_or_concat T with rfl | ⟨T0, t, rfl⟩
          · simp at hne
          · exact ⟨T0, t, by simp⟩
        have ht : K28R t := hT t (by simp)
        have hl0 := hl
        simp only [List.length_append, List.length_cons, List.length_nil] at hl0
        have XE := ix_end (T := T0) (t := t)
        walk_at "r"
        refine W_mStep2.mpr ?_
        walk_at "r"
        rename_i v hv _
        rcases hv with rfl | rfl
        · refine ⟨paD' t, by simp [bStep2, paD'], ?_⟩
          walk_at "r"
          exact ⟨.inl rfl, fin t _ (by assumption) ht⟩
        · refine ⟨paD' t.reverse, by simp [bStep2, paD'], ?_⟩
          walk_at "r"
          exact ⟨.inl rfl, fin t.reverse _ (by assumption) (k28rw_back ht)⟩
      · walk_at "r"
        exact ⟨.inl rfl, fin S dk5 hd5 hS'⟩
    · refine go_ifF rfl ?_
      walk_at "r"
      exact ⟨.inl rfl, fin S dk4 hd4 hS'⟩
  · obtain ⟨dk2, T, o3, o4, o5, rfl, hd2, hT, hl⟩ := hρ'
    walk_at "r"
    rename_i fr _ _ _ _ da _ a0 a1 _ xi hxi _ db dk3 b0 b1 hd3 xj hxj _
    have p1 : (10 : Int) ^ Int.toNat 6 = 1000000 := by decide
    have bxi : -1000000 ≤ xi ∧ xi ≤ 1000000 := by rcases hxi with rfl | rfl | rfl <;> omega
    have bxj : -1000000 ≤ xj ∧ xj ≤ 1000000 := by rcases hxj with rfl | rfl | rfl <;> omega
    clear hxi hxj
    refine X_compM (h := fun t : List Pn => paD' (t.map fun c => ⟨c.x + xi, c.y + xj⟩)) (fun t ht => ⟨_, rfl, ?_⟩) ?_
    · walk_at "r"
      refine X_compM (h := fun c : Pn => pnD ⟨c.x + xi, c.y + xj⟩) (fun c hc => ⟨_, rfl, ?_⟩) ?_
      · walk_at "r"
        exact ⟨rfl, rfl⟩
      · walk_at "r"
        refine ⟨?_, rfl⟩
        simp [paD']
    · walk_at "r"
      refine ⟨_, _, rfl, rfl, ?_⟩
      have e : (T.map fun t => paD' (t.map fun c => (⟨c.x + xi, c.y + xj⟩ : Pn))) = (T.map fun t => t.map fun c => (⟨c.x + xi, c.y + xj⟩ : Pn)).map paD' := by simp
      rw [e]
      refine k _ dk3 (by simpa using hl) (fun p hp => ?_) hd3
      obtain ⟨t, ht, rfl⟩ := List.mem_map.mp hp
      obtain ⟨g0, g1, g2⟩ := hT t ht
      refine ⟨by simpa using g1, List.Pairwise.map _ (fun a b h e => h (mv_inj e)) g0, fun c hc => ?_⟩
      obtain ⟨c0, hc0, rfl⟩ := List.mem_map.mp hc
      obtain ⟨a1, a2, a3, a4⟩ := g2 c0 hc0
      exact ⟨by show (c0.x + xi).natAbs ≤ 5000000; omega, by show (c0.y + xj).natAbs ≤ 5000000; omega⟩
theorem right_is {P r : D} {z : Str} (h : CLTR.F_trouble_of [P] = .ok r) (hz : bReprF [r] = some (.str z)) : F__law_right [P, r] = .ok (.bl true) := by
  refine runP_of ?_
  unfold B__law_right
  rw [k28_tr]
  walk_at "r"
  simp
theorem lks_take {T : List (List Pn)} {s : Lk} : (∃ p ∈ T ++ T.take 1, s ∈ lks p) ↔ ∃ p ∈ T, s ∈ lks p := by
  constructor
  · rintro ⟨p, hp, h⟩
    rcases List.mem_append.mp hp with hp | hp
    · exact ⟨p, hp, h⟩
    · exact ⟨p, List.mem_of_mem_take hp, h⟩
  · rintro ⟨p, hp, h⟩
    exact ⟨p, List.mem_append_left _ hp, h⟩
theorem cut_map' {α : Type} {f : α → D} {l : List α} {b : Nat} : cutD (l.map f) none (some (b : Int)) = (l.take b).map f := by
  unfold cutD
  have h0 : HT.sIx (l.map f).length 0 none = 0 := rfl
  have h1 : HT.sIx (l.map f).length (l.map f).length (some (b : Int)) = min b (l.map f).length := by
    simp only [HT.sIx]
    rw [if_neg (by omega)]
    omega
  rw [h0, h1, List.drop_zero, Nat.sub_zero, ← List.map_take]
  congr 1
  rw [List.length_map]
  by_cases h : b ≤ l.length
  · rw [Nat.min_eq_left h]
  · rw [Nat.min_eq_right (by omega), List.take_of_length_le (Nat.le_refl _), List.take_of_length_le (by omega)]
theorem nil_ok : CLTR.F_trouble_of [.tup []] = .ok .non := by
  obtain ⟨SL, l1, l2, l3, l4⟩ := links_is (T := []) (by simp)
  obtain ⟨SK, k1, k2, k3, k4⟩ := corners_is (T := []) (by simp)
  have e1 : SL = [] := List.eq_nil_iff_forall_not_mem.mpr fun s hs => by simpa using (l2 s).mp hs
  have e2 : SK = [] := List.eq_nil_iff_forall_not_mem.mpr fun s hs => by simpa using (k2 s).mp hs
  subst e1 e2
  have := trouble_is (T := []) (K := []) (L := []) (by simp) (by simpa using k4) (by simpa using l4) (by simp) (by simp) (by simp)
  exact this
def S1 (ρ : Sl) : Prop := ∃ o0 dk o2 o3 o4, ρ = [o0, some dk, o2, o3, o4, none] ∧ Deck dk
set_option maxHeartbeats 0 in
theorem law_true : ∀ ns : List Int, ns.length ≤ 63 → (∀ z ∈ ns, Builtin.Int.intBits z ≤ 1048576) → F_law [.scr ns] = .ok (.bl true) := by
  intro ns hl _
  obtain ⟨dk, h1, h2⟩ := deck_ok hl
  refine runP_of ?_
  unfold B_law
  rw [k28_tr, k28_ltr]
  walk_at "r"
  refine ⟨_, h1, ?_⟩
  walk_at "r"
  refine W_forInv S1 (fun p hp ρ hρ => ?_) ⟨_, _, _, _, _, rfl, h2⟩ fun ρ' h' => ?_
  · obtain ⟨o0, dk, o2, o3, o4, rfl, hd⟩ := hρ
    refine ⟨_, rfl, ?_⟩
    walk_at "r"
    refine paths_step hd fun T dk1 hl hT hd1 => ?_
    have hs : (T.map List.length).sum ≤ 48 := Nat.le_trans (sum_le fun p hp => (hT p hp).1) (by omega)
    obtain ⟨r, z, E1, Ez, E2⟩ := trouble_all (T := T) ⟨fun p hp => (hT p hp).2.1, fun p hp => (hT p hp).2.2, by omega⟩
    have R1 : F__law_right [.tup (T.map paD'), r] = .ok (.bl true) := right_is (E2 T ⟨fun _ => Iff.rfl, fun _ => Iff.rfl⟩ (by omega)) Ez
    have R2 : F__law_right [.tup (T.reverse.map paD'), r] = .ok (.bl true) := right_is (E2 T.reverse ⟨fun s => by simp, fun s => by simp⟩ (by simpa using (by omega : (T.map List.length).sum ≤ 10000))) Ez
    have R3 : F__law_right [.tup ((T.map List.reverse).map paD'), r] = .ok (.bl true) := right_is (E2 (T.map List.reverse) ⟨fun s => by
      constructor
      · rintro ⟨p, hp, h⟩
        obtain ⟨q, hq, rfl⟩ := List.mem_map.mp hp
        exact ⟨q, hq, List.mem_reverse.mp h⟩
      · rintro ⟨q, hq, h⟩
        exact ⟨q.reverse, List.mem_map_of_mem hq, List.mem_reverse.mpr h⟩, fun s => by
      constructor
      · rintro ⟨p, hp, h⟩
        obtain ⟨q, hq, rfl⟩ := List.mem_map.mp hp
        exact ⟨q, hq, lks_rev.mp h⟩
      · rintro ⟨q, hq, h⟩
        exact ⟨q.reverse, List.mem_map_of_mem hq, lks_rev.mpr h⟩⟩ (by simpa [Function.comp_def] using (by omega : (T.map List.length).sum ≤ 10000))) Ez
    have R4 : F__law_right [.tup ((T ++ T.take 1).map paD'), r] = .ok (.bl true) := right_is (E2 (T ++ T.take 1) ⟨fun s => by
      constructor
      · rintro ⟨p, hp, h⟩
        rcases List.mem_append.mp hp with hp | hp
        · exact ⟨p, hp, h⟩
        · exact ⟨p, List.mem_of_mem_take hp, h⟩
      · rintro ⟨p, hp, h⟩
        exact ⟨p, List.mem_append_left _ hp, h⟩, fun s => lks_take⟩ (by
        refine Nat.le_trans (sum_le (n := 12) fun p hp => ?_) (by simp; omega)
        rcases List.mem_append.mp hp with hp | hp
        · exact (hT p hp).1
        · exact (hT p (List.mem_of_mem_take hp)).1)) Ez
    rw [List.map_reverse] at R2
    walk_at "r"
    refine go_ifF rfl ?_
    iterate 3 walk_at "s"
    refine X_if (X_orC ?_)
    walk_at "r"
    refine X_compM (h := fun t => paD' t.reverse) (fun t ht => ⟨_, rfl, ?_⟩) ?_
    · walk_at "r"
      exact ⟨by simp [paD'], rfl⟩
    have e3 : (T.map fun t => paD' t.reverse) = (T.map List.reverse).map paD' := by simp
    rw [e3]
    walk_at "r"
    refine go_ifF rfl ?_
    walk_at "r"
    have eA : bAdd (.tup (T.map paD')) (.tup (cutD (T.map paD') none (some 1))) = some (.tup ((T ++ T.take 1).map paD')) := by
      have e4 := cut_map' (f := paD') (l := T) (b := 1)
      have e5 : cutD (T.map paD') none (some 1) = (T.take 1).map paD' := e4
      rw [e5]
      simp only [bAdd]
      rw [if_pos (by simp; omega), List.map_append]
    refine ⟨_, eA, ?_⟩
    walk_at "r"
    refine go_ifF rfl ?_
    walk_at "r"
    refine go_ifF rfl ?_
    walk_at "r"
    exact ⟨.inl rfl, _, _, _, _, _, rfl, hd1⟩
  · obtain ⟨o0, dk, o2, o3, o4, rfl, hd⟩ := h'
    have E := nil_ok
    walk_at "r"
    rfl
end LW

open PySem PySem.W PyProof.Rows
set_option maxHeartbeats 0 in
theorem PySem.Challenge.cw_cornerlines_k28_trouble_of_any_paths_holds : PySem.Challenge.rw_cornerlines_k28_trouble_of_any_paths.Holds := by
  w_on; o_law; k_head; (case hw => w_witness2)
  k_fill
  refine CL.walk_cl (l := PySem.Challenge.rw_cornerlines_k28_trouble_of_any_paths) (n := 63) (k := 5) (x := "_law_script") (G := LW.F_law) rfl (by decide) rfl ⟨rfl, by decide, by decide⟩ (fun w h Y => PySem.W.kIn_of Y) ?F LW.law_true
  case F =>
    intro w mg fa h Y KX G hmg
    refine' LW.all_mk KX G hmg ?a0 ?l0 ?c0 ?k0 ?a1 ?l1 ?c1 ?k1 ?a2 ?l2 ?c2 ?k2 ?a3 ?l3 ?c3 ?k3 ?a4 ?l4 ?c4 ?k4 ?a5 ?l5 ?c5 ?k5 ?a6 ?l6 ?c6 ?k6 ?a7 ?l7 ?c7 ?k7 ?a8 ?l8 ?c8 ?k8 ?a9 ?l9 ?c9 ?k9 ?a10 ?l10 ?c10 ?k10 ?a11 ?l11 ?c11 ?k11 ?a12 ?l12 ?c12 ?k12 ?a13 ?l13 ?c13 ?k13 ?a14 ?l14 ?c14 ?k14 ?a15 ?l15 ?c15 ?k15 ?a16 ?l16 ?c16 ?k16 ?a17 ?l17 ?c17 ?k17 ?a18 ?l18 ?c18 ?k18 ?a19 ?l19 ?c19 ?k19 ?a20 ?l20 ?c20 ?k20 ?a21 ?l21 ?c21 ?k21 ?z_enumerate ?z_int ?z_len ?z_list ?z_max ?z_min ?z_range ?z_repr ?z_set ?z_sorted ?z_sum ?z_tuple ?z_zip
    (case a0 => k_is); (case l0 => k_is); (case c0 => k_is); (case k0 => k_is); (case a1 => k_is); (case l1 => k_is); (case c1 => k_is); (case k1 => k_is); (case a2 => k_is); (case l2 => k_is); (case c2 => k_is); (case k2 => k_is); (case a3 => k_is); (case l3 => k_is); (case c3 => k_is); (case k3 => k_is); (case a4 => k_is); (case l4 => k_is); (case c4 => k_is); (case k4 => k_is); (case a5 => k_is); (case l5 => k_is); (case c5 => k_is); (case k5 => k_is); (case a6 => k_is); (case l6 => k_is); (case c6 => k_is); (case k6 => k_is); (case a7 => k_is); (case l7 => k_is); (case c7 => k_is); (case k7 => k_is); (case a8 => k_is); (case l8 => k_is); (case c8 => k_is); (case k8 => k_is); (case a9 => k_is); (case l9 => k_is); (case c9 => k_is); (case k9 => k_is); (case a10 => k_is); (case l10 => k_is); (case c10 => k_is); (case k10 => k_is); (case a11 => k_is); (case l11 => k_is); (case c11 => k_is); (case k11 => k_is); (case a12 => k_is); (case l12 => k_is); (case c12 => k_is); (case k12 => k_is); (case a13 => k_is); (case l13 => k_is); (case c13 => k_is); (case k13 => k_is); (case a14 => k_is); (case l14 => k_is); (case c14 => k_is); (case k14 => k_is); (case a15 => k_is); (case l15 => k_is); (case c15 => k_is); (case k15 => k_is); (case a16 => k_is); (case l16 => k_is); (case c16 => k_is); (case k16 => k_is); (case a17 => k_is); (case l17 => k_is); (case c17 => k_is); (case k17 => k_is); (case a18 => k_is); (case l18 => k_is); (case c18 => k_is); (case k18 => k_is); (case a19 => k_is); (case l19 => k_is); (case c19 => k_is); (case k19 => k_is); (case a20 => k_is); (case l20 => k_is); (case c20 => k_is); (case k20 => k_is); (case a21 => k_is); (case l21 => k_is); (case c21 => k_is); (case k21 => k_is); (case z_enumerate => k_is); (case z_int => k_is); (case z_len => k_is); (case z_list => k_is); (case z_max => k_is); (case z_min => k_is); (case z_range => k_is); (case z_repr => k_is); (case z_set => k_is); (case z_sorted => k_is); (case z_sum => k_is); (case z_tuple => k_is); (case z_zip => k_is)

