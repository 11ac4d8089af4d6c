import PyProof.Rows.All
import HandS.ForMost
import HandS.Wide
import HandS.Walk
import HandS.Zip
import HandS.Style
import HandS.TupAny
import HandS.IsInst
import HandS.Deep
import HandS.Conv
import HandS.Flow
import KE.KDictKeyed
import HandS.Lambda
import HandS.NoneIn
import KE.DatumIndex
import PyProof.ReprRoads
import HandS.EndBits
import KE.GoesEnum
import KE.GoesMore
import HandS.RaiseMore
import KE.GoesZip
import HandS.SortInts
import KE.DataMinMax
import KE.SortUse
import HandS.TupSets
import PyProof.Rows.IntBool
import PyProof.CallStr
import PyProof.StrLawsRepr
import PyProof.Rows.ReprOcc
import HandS.TupLen
import KE.KDictSum
import KE.SortKeyHeap
import PySem.Challenge.RW_cornerlines_k05_lines_written_and_read
set_option Elab.async false
set_option linter.all false
set_option maxRecDepth 100000
namespace CL
open PySem PySem.Spec L2
set_option autoImplicit false
inductive D where
  | non | bl (b : Bool) | int (i : Int) | str (x : Str) | tup (l : List D) | lst (l : List D) | dct (ks vs : List D) | kdc (ks vs : List D) | ins (c : Str) (ns : List Str) (fs : List D) | scr (l : List Int)
inductive Res (α : Type) where
  | ok (a : α) | exc (d : D) | bad
abbrev Sl := List (Option D)
abbrev M (α : Type) := Sl → Res (α × Sl)
inductive OT where
  | sh | ol (t0 t : OT) | od | dv (t : OT) | dk (t : OT) | oi (t : Nat → OT) | ot (t : Nat → OT)
inductive Md where
  | pk | ow (t : OT)
abbrev Md.sh : Md := .ow .sh
mutual
def D.nk : D → Option NestedKey
  | .int i => some (.num i)
  | .tup l => (D.nkL l).map .tup
  | _ => none
def D.nkL : List D → Option (List NestedKey)
  | [] => some []
  | d :: ds => match D.nk d, D.nkL ds with | some k, some ks => some (k :: ks) | _, _ => none
end
mutual
def hashK : NestedKey → Int
  | .none => 0
  | .num i => hashInt i
  | .text _ => 0
  | .tup ks => reduceHash (Builtin.Tuple.tupleHashOf (hashKs ks))
def hashKs : List NestedKey → List Int
  | [] => []
  | k :: ks => hashK k :: hashKs ks
end
/-- a key that may stand in a dict -/
def kOk : NestedKey → Bool
  | .tup ks => decide ((NestedKey.tup ks).depth ≤ 8)
  | _ => false
def ents : List (NestedKey × Addr × V) → List Value → List DictEntry
  | x :: xs, u :: us => ⟨hashK x.1, .ref x.2.1, u⟩ :: ents xs us
  | _, _ => []
/-- a dict with such keys: keys, where they stand, values -/
def KdO (a : Addr) (xs : List (NestedKey × Addr × V)) (o : Obj) : HO := .ext fun h => xs.length ≤ sizeLine ∧ (a == sysModules) = false ∧ (xs.map (·.1)).Nodup ∧ (xs.all fun x => kOk x.1) = true ∧
  ∃ us : List Value, Vals (xs.map (·.2.2)) us ∧ ∃ es ep, h.get? a = some o ∧ o.ExactDict ∧ o.data = .dict es ep ∧ es.toList = ents xs us
/-- no table -/
def NT : HO → Prop
  | .tbl _ => False
  | _ => True
/-- what may change -/
def Mut : HO → Prop
  | .lst _ => True
  | .dK _ => True
  | .dT _ => True
  | .ins _ _ _ => True
  | .ext φ => ∃ a xs o, HO.ext φ = KdO a xs o
  | _ => False
theorem Mut.nt {o : HO} (h : Mut o) : NT o := by cases o <;> simp_all [Mut, NT]
/-- a code object never changes -/
theorem codeO_fix {c : Addr} {q : Str} : ¬ Mut (LamX.CodeO c q) := by
  rintro ⟨a, xs, o0, e⟩
  unfold KdO at e
  have e := HO.ext.inj e
  obtain ⟨ob, hob⟩ : ∃ ob : Obj, ob = { cls := .none, data := .fields #[.none, .str q default] } := ⟨_, rfl⟩
  obtain ⟨h, hh⟩ : ∃ h : Heap, h = { objs := Array.replicate ((a : Nat) + c + 1) ob } := ⟨_, rfl⟩
  have g : ∀ b : Nat, b ≤ (a : Nat) + c → h.get? b = some ob := fun b hb => by
    subst hh
    unfold Heap.get?
    have : (Array.replicate ((a : Nat) + c + 1) ob)[b]? = some ob := by
      rw [Array.getElem?_replicate, if_pos (Nat.lt_succ_of_le hb)]
    simp only [this]
    subst hob
    rfl
  have p := congrFun e h
  have p1 : ∃ (oc : Obj) (vs : Array Value) (t : Tok), h.get? c = some oc ∧ oc.data = .fields vs ∧ vs[1]? = some (.str q t) := ⟨ob, _, _, g c (Nat.le_add_left _ _), by rw [hob], rfl⟩
  rw [show _ = _ from p] at p1
  obtain ⟨_, _, _, _, us, _, es, ep, e1, _, e3, _⟩ := p1
  rw [g a (Nat.le_add_right _ _)] at e1
  cases e1
  rw [hob] at e3
  cases e3
/-- what a table tells -/
def TabE (H : Hp) (ps : Array Value) (q : Str) : Prop := TriplesOk ps.toList ∧ ∀ (pos : Pos) (cv : Value), codeAmong pos ps.toList = some cv → ∃ c, cv = .ref c ∧ H c = some (LamX.CodeO c q)
/-- the tables that a law has -/
class Tb where
  l : List (Addr × Str)
/-- a tuple is told with its object, which has no names of its own -/
def Tup0 : HO → Prop
  | .tup _ => False
  | .frz o (.tup _) => o.dict = none
  | _ => True
theorem Mut.tup0 {o : HO} (h : Mut o) : Tup0 o := by cases o <;> first | exact True.intro | exact h.elim
/-- the module's own tuples have no names of their own -/
def kNd (K : PySem.W.Frag) : Bool := K.all fun p => match p.2.cls, p.2.dict with
  | .type t, some _ => t != "tuple"
  | _, _ => true
abbrev KNd (K : PySem.W.Frag) : Prop := kNd K = true
def TbOk [Tb] (K : PySem.W.Frag) (H : Hp) : Prop := ((∀ p ∈ Tb.l, ∃ ps, H p.1 = some (.tbl ps) ∧ TabE H ps p.2) ∧ ∀ a o, H a = some o → Tup0 o) ∧ KNd K
/-- tables stay tables -/
def TK [Tb] (H H' : Hp) : Prop := ∀ K, TbOk K H → TbOk K H'
theorem TK.refl [Tb] {H : Hp} : TK H H := fun _ t => t
theorem TK.trans [Tb] {H H1 H2 : Hp} (a : TK H H1) (b : TK H1 H2) : TK H H2 := fun K t => b K (a K t)
theorem TK.of [Tb] {H H' : Hp} (h : ∀ a o, H a = some o → ¬ Mut o → H' a = some o) (n : ∀ a o, H' a = some o → H a = some o ∨ Tup0 o) : TK H H' := fun K t => ⟨⟨fun p hp => by
  obtain ⟨ps, e, t⟩ := t.1.1 p hp
  refine ⟨ps, h _ _ e (fun m => m), t.1, fun pos cv hc => ?_⟩
  obtain ⟨c, e1, e2⟩ := t.2 pos cv hc
  exact ⟨c, e1, h _ _ e2 codeO_fix⟩, fun a o e => (n a o e).elim (t.1.2 a o) id⟩, t.2⟩
theorem TK.ok [Tb] {K : PySem.W.Frag} {H H' : Hp} (h : TK H H') (t : TbOk K H) : TbOk K H' := h K t
/-- one thing is laid -/
theorem TK.laid [Tb] {H : Hp} {p : Addr} {o : HO} (h : H p = none ∨ ∃ u, H p = some u ∧ Mut u) (ho : Tup0 o) : TK H (upd H p o) := .of (fun a u e m => by
  have ne : a ≠ p := by
    rintro rfl
    rcases h with h | ⟨w, h, hw⟩
    · rw [e] at h; cases h
    · rw [e] at h; cases h; exact m hw
  rw [upd_ne ne]; exact e) fun a u e => by
    by_cases ea : a = p
    · subst ea
      rw [upd_same] at e
      cases e
      exact .inr ho
    · rw [upd_ne ea] at e
      exact .inl e
/-- what never changes stands -/
abbrev NL (H H' : Hp) : Prop := ∀ a o, H a = some o → ¬ Mut o → NT o → H' a = some o
/-- a list of the module's own -/
def KL (K : PySem.W.Frag) (a : Addr) (xs : List V) : Prop := ∀ H : Hp, SqL K H a xs
/-- a key of a dict that is written once: a number, None -/
def lfK : D → Value → Prop
  | .int i, v => (∃ t, v = .int i t) ∨ ∃ b, v = .bool b ∧ (if b = true then 1 else 0) = i
  | .non, v => v = .none
  | _, _ => False
def lfH : D → Int
  | .int i => hashK (.num i)
  | _ => reduceHash 4238894112
/-- the entries of a dict that is written once: told as pairs of keys and texts -/
def LfE : List D → List DictEntry → Prop
  | [], es => es = []
  | .tup [k, .str x] :: ds, e :: es => lfK k e.key ∧ e.hash = lfH k ∧ (∃ t, e.val = .str x t) ∧ LfE ds es
  | _, _ => False
def LfOk (a : Addr) (o : Obj) (vs : List D) : Prop := (a == sysModules) = false ∧ vs.length ≤ 15 ∧ o.ExactDict ∧ ∃ es ep, o.data = .dict es ep ∧ LfE vs es.toList
section
variable (K : PySem.W.Frag) (Z : Addr → Prop) (H : Hp)
mutual
def RSh : D → V → Prop
  | .non, v => v = .non
  | .bl b, v => v = .bl b
  | .int i, v => v = .int i
  | .str x, v => v = .str x
  | .tup l, v => ∃ a xs, v = .ref a ∧ SqT K H a xs ∧ RShL l xs
  | .lst l, v => ∃ a xs, v = .ref a ∧ Z a ∧ H a = some (.lst xs) ∧ RShL l xs
  | .scr ns, v => ∃ a, v = .ref a ∧ (Z a ∨ KL K a (ns.map V.int)) ∧ SqL K H a (ns.map V.int)
  | .dct ks vs, v => ∃ a kvs, v = .ref a ∧ Z a ∧ H a = some (.dK kvs) ∧ RShL ks (kvs.map fun p => kV p.1) ∧ RShL vs (kvs.map (·.2))
  | .kdc ks vs, v => ∃ a xs, v = .ref a ∧ Z a ∧ (∃ o, H a = some (KdO a xs o)) ∧ D.nkL ks = some (xs.map (·.1)) ∧ RShL ks (xs.map fun x => .ref x.2.1) ∧ RShL vs (xs.map (·.2.2))
  | .ins c ns fs, v => (∃ C a dx xs, v = .ref a ∧ Z a ∧ PySem.W.nsIn K mainGlobals c = some (some (.ref C)) ∧ Cls K C ∧ (∀ f ∈ ns, NoAttr K C f) ∧ H a = some (.ins C dx (ns.zip xs)) ∧ ns.length = xs.length ∧ RShL fs xs) ∨ ∃ a o, v = .ref a ∧ c = "" ∧ ns = [] ∧ fs ≠ [] ∧ H a = some (.frz o (.own a)) ∧ LfOk a o fs
def RShL : List D → List V → Prop
  | [], vs => vs = []
  | d :: ds, vs => ∃ w ws, vs = w :: ws ∧ RSh d w ∧ RShL ds ws
end
def R : OT → D → V → (Addr → Prop) → Prop
  | .sh, d, v, _ => RSh K Z H d v
  | .ol t0 t, d, v, S => ∃ (l : List D) (a : Addr) (xs : List V) (ow : Addr → Option Nat), d = .lst l ∧ v = .ref a ∧ H a = some (.lst xs) ∧ S a ∧ ow a = none ∧ l.length = xs.length ∧
      (∀ d v, l[0]? = some d → xs[0]? = some v → R t0 d v (fun b => S b ∧ ow b = some 0)) ∧
      ∀ k d v, l[k + 1]? = some d → xs[k + 1]? = some v → R t d v (fun b => S b ∧ ow b = some (k + 1))
  | .od, d, v, S => ∃ ks vs a xs, d = .kdc ks vs ∧ v = .ref a ∧ (∃ o, H a = some (KdO a xs o)) ∧ S a ∧ D.nkL ks = some (xs.map (·.1)) ∧ RShL K Z H ks (xs.map fun x => .ref x.2.1) ∧ RShL K Z H vs (xs.map (·.2.2))
  | .dv t, d, v, S => ∃ (ks vs : List D) (a : Addr) (xs : List (NestedKey × Addr × V)) (ow : Addr → Option Nat), d = .kdc ks vs ∧ v = .ref a ∧ (∃ o, H a = some (KdO a xs o)) ∧ S a ∧ ow a = none ∧ D.nkL ks = some (xs.map (·.1)) ∧ RShL K Z H ks (xs.map fun x => .ref x.2.1) ∧ vs.length = xs.length ∧
      ∀ k d x, vs[k]? = some d → xs[k]? = some x → R t d x.2.2 (fun b => S b ∧ ow b = some k)
  | .dk t, d, v, S => ∃ (ks vs : List D) (a : Addr) (kvs : List (Key × V)) (ow : Addr → Option Nat), d = .dct ks vs ∧ v = .ref a ∧ H a = some (.dK kvs) ∧ S a ∧ ow a = none ∧ RShL K Z H ks (kvs.map fun p => kV p.1) ∧ vs.length = kvs.length ∧
      ∀ k d x, vs[k]? = some d → kvs[k]? = some x → R t d x.2 (fun b => S b ∧ ow b = some k)
  | .oi t, d, v, S => ∃ (c : Str) (ns : List Str) (fs : List D) (C a dx : Addr) (xs : List V) (ow : Addr → Option Nat), d = .ins c ns fs ∧ v = .ref a ∧ (PySem.W.nsIn K mainGlobals c = some (some (.ref C)) ∧ Cls K C ∧ ∀ f ∈ ns, NoAttr K C f) ∧ H a = some (.ins C dx (ns.zip xs)) ∧ S a ∧ ow a = none ∧ ns.length = xs.length ∧ fs.length = xs.length ∧
      ∀ (k : Nat) d x, fs[k]? = some d → xs[k]? = some x → R (t k) d x (fun b => S b ∧ ow b = some k)
  | .ot t, d, v, S => ∃ (l : List D) (a : Addr) (xs : List V) (ow : Addr → Option Nat), d = .tup l ∧ v = .ref a ∧ SqT K H a xs ∧ l.length = xs.length ∧
      ∀ (k : Nat) d x, l[k]? = some d → xs[k]? = some x → R (t k) d x (fun b => S b ∧ ow b = some k)
end
section
variable {K : PySem.W.Frag} {Z Z' : Addr → Prop} {H H' : Hp}
theorem RShL.len : ∀ {ds : List D} {vs : List V}, RShL K Z H ds vs → ds.length = vs.length
  | [], _, h => by simp only [RShL] at h; subst h; rfl
  | d :: ds, _, h => by
    simp only [RShL] at h
    obtain ⟨w, ws, rfl, _, h2⟩ := h
    simp [RShL.len h2]
theorem RShL.get : ∀ {ds : List D} {vs : List V} {i : Nat} {d : D}, RShL K Z H ds vs → ds[i]? = some d → ∃ v, vs[i]? = some v ∧ RSh K Z H d v
  | [], _, _, _, _, e => by simp at e
  | d :: ds, _, 0, d', h, e => by
    simp only [RShL] at h
    obtain ⟨w, ws, rfl, h1, h2⟩ := h
    simp at e; subst e
    exact ⟨w, by simp, h1⟩
  | d :: ds, _, i + 1, d', h, e => by
    simp only [RShL] at h
    obtain ⟨w, ws, rfl, h1, h2⟩ := h
    obtain ⟨v, e1, e2⟩ := RShL.get (i := i) h2 (by simpa using e)
    exact ⟨v, by simpa using e1, e2⟩
theorem RShL.of_get : ∀ {ds : List D} {vs : List V}, ds.length = vs.length → (∀ (i : Nat) d v, ds[i]? = some d → vs[i]? = some v → RSh K Z H d v) → RShL K Z H ds vs
  | [], vs, hl, _ => by
    simp only [RShL]
    exact List.eq_nil_of_length_eq_zero (by simpa using hl.symm)
  | d :: ds, [], hl, _ => by simp at hl
  | d :: ds, v :: vs, hl, h => by
    simp only [RShL]
    exact ⟨v, vs, rfl, h 0 d v (by simp) (by simp), RShL.of_get (by simpa using hl) fun i a b e1 e2 => h (i + 1) a b (by simpa using e1) (by simpa using e2)⟩
theorem RShL.append : ∀ {ds es : List D} {vs ws : List V}, RShL K Z H ds vs → RShL K Z H es ws → RShL K Z H (ds ++ es) (vs ++ ws)
  | [], _, _, _, h, g => by simp only [RShL] at h; subst h; simpa using g
  | d :: ds, es, _, ws, h, g => by
    simp only [RShL] at h
    obtain ⟨w, us, rfl, h1, h2⟩ := h
    simp only [List.cons_append, RShL]
    exact ⟨w, us ++ ws, rfl, h1, RShL.append h2 g⟩
theorem RShL.one {d : D} {v : V} (h : RSh K Z H d v) : RShL K Z H [d] [v] := by simp only [RShL]; exact ⟨v, [], rfl, h, rfl⟩
theorem RShL.take {ds : List D} {vs : List V} (n : Nat) (h : RShL K Z H ds vs) : RShL K Z H (ds.take n) (vs.take n) :=
  .of_get (by simp [h.len]) fun i d v e1 e2 => by
    rw [List.getElem?_take] at e1 e2
    split at e1
    · rename_i hi
      rw [if_pos hi] at e2
      obtain ⟨w, a, b⟩ := h.get e1
      rw [e2] at a; cases a; exact b
    · cases e1
theorem RShL.drop {ds : List D} {vs : List V} (n : Nat) (h : RShL K Z H ds vs) : RShL K Z H (ds.drop n) (vs.drop n) :=
  .of_get (by simp [h.len]) fun i d v e1 e2 => by
    rw [List.getElem?_drop] at e1 e2
    obtain ⟨w, a, b⟩ := h.get e1
    rw [e2] at a; cases a; exact b
theorem RShL.reverse {ds : List D} {vs : List V} (h : RShL K Z H ds vs) : RShL K Z H ds.reverse vs.reverse :=
  .of_get (by simp [h.len]) fun i d v e1 e2 => by
    have hl := h.len
    have hi : i < ds.length := by
      have := (List.getElem?_eq_some_iff.mp e1).1
      simpa using this
    rw [List.getElem?_reverse hi] at e1
    rw [List.getElem?_reverse (by omega)] at e2
    obtain ⟨w, a, b⟩ := h.get e1
    rw [← hl, a] at e2; cases e2; exact b
theorem sqL_keep {a : Addr} {xs : List V} (h : ∀ o, H a = some o → NT o → H' a = some o) (q : SqL K H a xs) : SqL K H' a xs := by
  rcases q with (q | ⟨o, q⟩) | q
  · exact .inl (.inl (h _ q True.intro))
  · exact .inl (.inr ⟨o, h _ q True.intro⟩)
  · exact .inr q
theorem NL.sqT (h : NL H H') {a : Addr} {xs : List V} (s : SqT K H a xs) : SqT K H' a xs := by
  rcases s with (s | ⟨o, s⟩) | s
  · exact .inl (.inl (h a _ s (by simp [Mut]) True.intro))
  · exact .inl (.inr ⟨o, h a _ s (by simp [Mut]) True.intro⟩)
  · exact .inr s
mutual
theorem RSh.pres (h1 : ∀ a, Z a → Z' a) (h2 : NL H H') (h3 : ∀ a o, Z a → H a = some o → NT o → H' a = some o) : ∀ (d : D) (v : V), RSh K Z H d v → RSh K Z' H' d v
  | .non, _, h => by simpa only [RSh] using h
  | .bl _, _, h => by simpa only [RSh] using h
  | .int _, _, h => by simpa only [RSh] using h
  | .str _, _, h => by simpa only [RSh] using h
  | .tup l, _, h => by
    simp only [RSh] at h ⊢
    obtain ⟨a, xs, e, q, r⟩ := h
    exact ⟨a, xs, e, NL.sqT h2 q, RShL.pres h1 h2 h3 l xs r⟩
  | .lst l, _, h => by
    simp only [RSh] at h ⊢
    obtain ⟨a, xs, e, z, q, r⟩ := h
    exact ⟨a, xs, e, h1 a z, h3 a _ z q True.intro, RShL.pres h1 h2 h3 l xs r⟩
  | .scr ns, _, h => by
    simp only [RSh] at h ⊢
    obtain ⟨a, e, z, q⟩ := h
    exact ⟨a, e, z.imp (h1 a) id, z.elim (fun z => sqL_keep (fun o e n => h3 a o z e n) q) (fun z => z H')⟩
  | .dct ks vs, _, h => by
    simp only [RSh] at h ⊢
    obtain ⟨a, kvs, e, z, q, r1, r2⟩ := h
    exact ⟨a, kvs, e, h1 a z, h3 a _ z q True.intro, RShL.pres h1 h2 h3 ks _ r1, RShL.pres h1 h2 h3 vs _ r2⟩
  | .kdc ks vs, _, h => by
    simp only [RSh] at h ⊢
    obtain ⟨a, xs, e, z, ⟨o, q⟩, n, r1, r2⟩ := h
    exact ⟨a, xs, e, h1 a z, ⟨o, h3 a _ z q True.intro⟩, n, RShL.pres h1 h2 h3 ks _ r1, RShL.pres h1 h2 h3 vs _ r2⟩
  | .ins c ns fs, _, h => by
    simp only [RSh] at h ⊢
    rcases h with ⟨C, a, dx, xs, e, z, k1, k2, k3, q, l, r⟩ | ⟨a, o, e, q0, q1, q2, q, r⟩
    · exact .inl ⟨C, a, dx, xs, e, h1 a z, k1, k2, k3, h3 a _ z q True.intro, l, RShL.pres h1 h2 h3 fs xs r⟩
    · exact .inr ⟨a, o, e, q0, q1, q2, h2 a _ q (fun m => m) True.intro, r⟩
theorem RShL.pres (h1 : ∀ a, Z a → Z' a) (h2 : NL H H') (h3 : ∀ a o, Z a → H a = some o → NT o → H' a = some o) : ∀ (ds : List D) (vs : List V), RShL K Z H ds vs → RShL K Z' H' ds vs
  | [], _, h => by simpa only [RShL] using h
  | d :: ds, _, h => by
    simp only [RShL] at h ⊢
    obtain ⟨w, ws, e, a, b⟩ := h
    exact ⟨w, ws, e, RSh.pres h1 h2 h3 d w a, RShL.pres h1 h2 h3 ds ws b⟩
end
theorem RSh.monoZ {d : D} {v : V} (h1 : ∀ a, Z a → Z' a) (h : RSh K Z H d v) : RSh K Z' H d v := RSh.pres h1 (fun _ _ q _ _ => q) (fun _ _ _ q _ => q) d v h
theorem RShL.monoZ {d : List D} {v : List V} (h1 : ∀ a, Z a → Z' a) (h : RShL K Z H d v) : RShL K Z' H d v := RShL.pres h1 (fun _ _ q _ _ => q) (fun _ _ _ q _ => q) d v h
theorem R.mono : ∀ {t : OT} {d : D} {v : V} {S S' : Addr → Prop}, R K Z H t d v S → (∀ a, S a → S' a) → R K Z H t d v S'
  | .sh, _, _, _, _, h, _ => h
  | .ol t0 t, _, _, _, _, h, m => by
    obtain ⟨l, a, xs, ow, e1, e2, e3, e4, e5, e6, e7, e8⟩ := h
    exact ⟨l, a, xs, ow, e1, e2, e3, m a e4, e5, e6, fun d v p q => R.mono (e7 d v p q) fun b hb => ⟨m b hb.1, hb.2⟩, fun k d v p q => R.mono (e8 k d v p q) fun b hb => ⟨m b hb.1, hb.2⟩⟩
  | .od, _, _, _, _, h, m => by
    obtain ⟨ks, vs, a, xs, e1, e2, e3, e4, e5⟩ := h
    exact ⟨ks, vs, a, xs, e1, e2, e3, m a e4, e5⟩
  | .dv t, _, _, _, _, h, m => by
    obtain ⟨ks, vs, a, xs, ow, e1, e2, e3, e4, e5, e6, e7, e8, e9⟩ := h
    exact ⟨ks, vs, a, xs, ow, e1, e2, e3, m a e4, e5, e6, e7, e8, fun k d x p q => R.mono (e9 k d x p q) fun b hb => ⟨m b hb.1, hb.2⟩⟩
  | .dk t, _, _, _, _, h, m => by
    obtain ⟨ks, vs, a, kvs, ow, e1, e2, e3, e4, e5, e7, e8, e9⟩ := h
    exact ⟨ks, vs, a, kvs, ow, e1, e2, e3, m a e4, e5, e7, e8, fun k d x p q => R.mono (e9 k d x p q) fun b hb => ⟨m b hb.1, hb.2⟩⟩
  | .oi t, _, _, _, _, h, m => by
    obtain ⟨c, ns, fs, C, a, dx, xs, ow, e1, e2, e3, e4, e5, e6, e7, e8, e9⟩ := h
    exact ⟨c, ns, fs, C, a, dx, xs, ow, e1, e2, e3, e4, m a e5, e6, e7, e8, fun k d x p q => R.mono (e9 k d x p q) fun b hb => ⟨m b hb.1, hb.2⟩⟩
  | .ot t, _, _, _, _, h, m => by
    obtain ⟨l, a, xs, ow, e1, e2, e3, e4, e5⟩ := h
    exact ⟨l, a, xs, ow, e1, e2, e3, e4, fun k d x p q => R.mono (e5 k d x p q) fun b hb => ⟨m b hb.1, hb.2⟩⟩
theorem R.pres (h1 : ∀ a, Z a → Z' a) (h2 : NL H H') (h3 : ∀ a o, Z a → H a = some o → NT o → H' a = some o) :
    ∀ {t : OT} {d : D} {v : V} {S : Addr → Prop}, (∀ a o, S a → H a = some o → NT o → H' a = some o) → R K Z H t d v S → R K Z' H' t d v S
  | .sh, d, v, _, _, h => RSh.pres h1 h2 h3 d v h
  | .ol t0 t, _, _, S, m, h => by
    obtain ⟨l, a, xs, ow, e1, e2, e3, e4, e5, e6, e7, e8⟩ := h
    exact ⟨l, a, xs, ow, e1, e2, m a _ e4 e3 True.intro, e4, e5, e6, fun d v p q => R.pres h1 h2 h3 (fun b ys hb e n => m b ys hb.1 e n) (e7 d v p q), fun k d v p q => R.pres h1 h2 h3 (fun b ys hb e n => m b ys hb.1 e n) (e8 k d v p q)⟩
  | .od, _, _, S, m, h => by
    obtain ⟨ks, vs, a, xs, e1, e2, ⟨o, e3⟩, e4, e5, e6, e7⟩ := h
    exact ⟨ks, vs, a, xs, e1, e2, ⟨o, m a _ e4 e3 True.intro⟩, e4, e5, RShL.pres h1 h2 h3 ks _ e6, RShL.pres h1 h2 h3 vs _ e7⟩
  | .dv t, _, _, S, m, h => by
    obtain ⟨ks, vs, a, xs, ow, e1, e2, ⟨o, e3⟩, e4, e5, e6, e7, e8, e9⟩ := h
    exact ⟨ks, vs, a, xs, ow, e1, e2, ⟨o, m a _ e4 e3 True.intro⟩, e4, e5, e6, RShL.pres h1 h2 h3 ks _ e7, e8, fun k d x p q => R.pres h1 h2 h3 (fun b ys hb e n => m b ys hb.1 e n) (e9 k d x p q)⟩
  | .dk t, _, _, S, m, h => by
    obtain ⟨ks, vs, a, kvs, ow, e1, e2, e3, e4, e5, e7, e8, e9⟩ := h
    exact ⟨ks, vs, a, kvs, ow, e1, e2, m a _ e4 e3 True.intro, e4, e5, RShL.pres h1 h2 h3 ks _ e7, e8, fun k d x p q => R.pres h1 h2 h3 (fun b ys hb e n => m b ys hb.1 e n) (e9 k d x p q)⟩
  | .oi t, _, _, S, m, h => by
    obtain ⟨c, ns, fs, C, a, dx, xs, ow, e1, e2, e3, e4, e5, e6, e7, e8, e9⟩ := h
    exact ⟨c, ns, fs, C, a, dx, xs, ow, e1, e2, e3, m a _ e5 e4 True.intro, e5, e6, e7, e8, fun k d x p q => R.pres h1 h2 h3 (fun b ys hb e n => m b ys hb.1 e n) (e9 k d x p q)⟩
  | .ot t, _, _, S, m, h => by
    obtain ⟨l, a, xs, ow, e1, e2, e3, e4, e5⟩ := h
    exact ⟨l, a, xs, ow, e1, e2, NL.sqT h2 e3, e4, fun k d x p q => R.pres h1 h2 h3 (fun b ys hb e n => m b ys hb.1 e n) (e5 k d x p q)⟩
/-- what is owned may be shared from now on -/
theorem R.freeze : ∀ {t : OT} {d : D} {v : V} {S : Addr → Prop}, R K Z H t d v S → RSh K (fun a => Z a ∨ S a) H d v
  | .sh, d, v, _, h => RSh.monoZ (fun _ z => .inl z) h
  | .ol t0 t, _, _, S, h => by
    obtain ⟨l, a, xs, ow, rfl, rfl, e3, e4, e5, e6, e7, e8⟩ := h
    simp only [RSh]
    refine ⟨a, xs, rfl, .inr e4, e3, .of_get e6 fun i d v p q => ?_⟩
    cases i with
    | zero => exact RSh.monoZ (fun b z => z.elim .inl fun z => .inr z.1) (R.freeze (e7 d v p q))
    | succ k => exact RSh.monoZ (fun b z => z.elim .inl fun z => .inr z.1) (R.freeze (e8 k d v p q))
  | .od, _, _, S, h => by
    obtain ⟨ks, vs, a, xs, rfl, rfl, e3, e4, e5, e6, e7⟩ := h
    simp only [RSh]
    exact ⟨a, xs, rfl, .inr e4, e3, e5, RShL.monoZ (fun _ z => .inl z) e6, RShL.monoZ (fun _ z => .inl z) e7⟩
  | .dv t, _, _, S, h => by
    obtain ⟨ks, vs, a, xs, ow, rfl, rfl, e3, e4, e5, e6, e7, e8, e9⟩ := h
    simp only [RSh]
    refine ⟨a, xs, rfl, .inr e4, e3, e6, RShL.monoZ (fun _ z => .inl z) e7, .of_get (by simpa using e8) fun k d v p q => ?_⟩
    rw [List.getElem?_map] at q
    obtain ⟨x, hx, e⟩ := Option.map_eq_some_iff.mp q
    subst e
    exact RSh.monoZ (fun b z => z.elim .inl fun z => .inr z.1) (R.freeze (e9 k d x p hx))
  | .dk t, _, _, S, h => by
    obtain ⟨ks, vs, a, kvs, ow, rfl, rfl, e3, e4, e5, e7, e8, e9⟩ := h
    simp only [RSh]
    refine ⟨a, kvs, rfl, .inr e4, e3, RShL.monoZ (fun _ z => .inl z) e7, .of_get (by simpa using e8) fun k d v p q => ?_⟩
    rw [List.getElem?_map] at q
    obtain ⟨x, hx, e⟩ := Option.map_eq_some_iff.mp q
    subst e
    exact RSh.monoZ (fun b z => z.elim .inl fun z => .inr z.1) (R.freeze (e9 k d x p hx))
  | .oi t, _, _, S, h => by
    obtain ⟨c, ns, fs, C, a, dx, xs, ow, rfl, rfl, ⟨k1, k2, k3⟩, e4, e5, e6, e7, e8, e9⟩ := h
    simp only [RSh]
    exact .inl ⟨C, a, dx, xs, rfl, .inr e5, k1, k2, k3, e4, e7, .of_get e8 fun k d v p q => RSh.monoZ (fun b z => z.elim .inl fun z => .inr z.1) (R.freeze (e9 k d v p q))⟩
  | .ot t, _, _, S, h => by
    obtain ⟨l, a, xs, ow, rfl, rfl, e3, e4, e5⟩ := h
    simp only [RSh]
    exact ⟨a, xs, rfl, e3, .of_get e4 fun k d v p q => RSh.monoZ (fun b z => z.elim .inl fun z => .inr z.1) (R.freeze (e5 k d v p q))⟩
end
structure RS [Tb] (K : PySem.W.Frag) (τ : Nat → OT) (Z : Addr → Prop) (own : Addr → Option Nat) (H : Hp) (ρ : Sl) (σ : St) : Prop where
  sl : ∀ i d, ρ[i]? = some (some d) → ∃ v, σ[i]? = some (some v) ∧ R K Z H (τ i) d v (fun a => own a = some i)
  ls : ∀ a i, own a = some i → ∃ o, H a = some o ∧ Mut o
  dz : ∀ a i, own a = some i → ¬ Z a
  zt : ∀ a, Z a → H a ≠ none
  len : ρ.length ≤ σ.length
  tb : TbOk K H
/-- a step: what was shared is shared, what stood stands but for what is owned; fx tells the slots that may not be given up -/
structure ExtF [Tb] (fx : Nat → Bool) (q : Bool) (Z : Addr → Prop) (own : Addr → Option Nat) (H : Hp) (Z' : Addr → Prop) (own' : Addr → Option Nat) (H' : Hp) : Prop where
  z : ∀ a, Z a → Z' a
  zn : ∀ a, Z' a → Z a ∨ H a = none ∨ ∃ i, own a = some i ∧ fx i = false
  on : ∀ a i, own' a = some i → own a = some i ∨ H a = none
  keep : ∀ a o, H a = some o → (own a = none ∨ q = true) → (n : NT o := by first | exact True.intro | assumption | exact Mut.nt (by assumption)) → H' a = some o
  live : ∀ a, H a ≠ none → H' a ≠ none
  tk : TK H H'
abbrev fxT : Nat → Bool := fun _ => true
abbrev Ext [Tb] (q : Bool) (Z : Addr → Prop) (own : Addr → Option Nat) (H : Hp) (Z' : Addr → Prop) (own' : Addr → Option Nat) (H' : Hp) : Prop := ExtF fxT q Z own H Z' own' H'
section
variable [Tb] {K : PySem.W.Frag} {τ : Nat → OT} {Z Z1 Z2 : Addr → Prop} {own own1 own2 : Addr → Option Nat} {H H1 H2 : Hp} {ρ : Sl} {σ : St} {q q1 q2 : Bool} {fx : Nat → Bool}
theorem ExtF.kp (x : ExtF fx q Z own H Z1 own1 H1) : ∀ a o, H a = some o → (own a = none ∨ q = true) → NT o → H1 a = some o := fun a o e h n => x.keep a o e h n
theorem ExtF.refl : ExtF fx q Z own H Z own H := ⟨fun _ z => z, fun _ z => .inl z, fun _ _ z => .inl z, fun _ _ e _ _ => e, fun _ e => e, .refl⟩
theorem ExtF.back (a : ExtF fx q Z own H Z1 own1 H1) {c : Addr} (e : H1 c = none) : H c = none := Classical.byContradiction fun n => a.live c n e
theorem ExtF.trans (a : ExtF fx q1 Z own H Z1 own1 H1) (b : ExtF fx q2 Z1 own1 H1 Z2 own2 H2) : ExtF fx (q1 && q2) Z own H Z2 own2 H2 where
  z := fun c h => b.z c (a.z c h)
  zn := fun c h => by
    rcases b.zn c h with h | h | ⟨i, h, hf⟩
    · exact a.zn c h
    · exact .inr (.inl (a.back h))
    · exact (a.on c i h).elim (fun z => .inr (.inr ⟨i, z, hf⟩)) fun z => .inr (.inl z)
  on := fun c i h => (b.on c i h).elim (a.on c i) fun e => .inr (a.back e)
  keep := fun c o e h n => by
    rcases h with h | h
    · refine b.keep c o (a.keep c o e (.inl h)) (.inl (Classical.byContradiction fun n => ?_))
      cases ho : own1 c with
      | none => exact n ho
      | some i =>
        rcases a.on c i ho with z | z
        · rw [h] at z; cases z
        · rw [e] at z; cases z
    · simp only [Bool.and_eq_true] at h
      exact b.keep c o (a.keep c o e (.inr h.1)) (.inr h.2)
  live := fun c h => b.live c (a.live c h)
  tk := a.tk.trans b.tk
theorem ExtF.weak (a : ExtF fx q Z own H Z1 own1 H1) : ExtF fx false Z own H Z1 own1 H1 := ⟨a.z, a.zn, a.on, fun c o e h n => a.keep c o e (h.elim .inl fun z => nomatch z), a.live, a.tk⟩
theorem ExtF.transF (a : ExtF fx q1 Z own H Z1 own1 H1) (b : ExtF fx q2 Z1 own1 H1 Z2 own2 H2) : ExtF fx false Z own H Z2 own2 H2 := (a.trans b).weak
theorem ExtF.any (a : Ext q Z own H Z1 own1 H1) : ExtF fx q Z own H Z1 own1 H1 := ⟨a.z, fun c h => (a.zn c h).elim .inl (fun h => h.elim (fun z => .inr (.inl z)) (fun ⟨_, _, z⟩ => absurd z (by simp))), a.on, fun c o e h n => a.keep c o e h n, a.live, a.tk⟩
theorem RS.nl (h : RS K τ Z own H ρ σ) (e : ExtF fx q Z own H Z1 own1 H1) : NL H H1 := fun a u hu hn n => e.keep a u hu (.inl (by
    cases ho : own a with
    | none => rfl
    | some i =>
      obtain ⟨ys, hy, hm⟩ := h.ls a i ho
      rw [hu] at hy
      cases hy
      exact absurd hm hn))
theorem RS.kz (h : RS K τ Z own H ρ σ) (e : ExtF fx q Z own H Z1 own1 H1) {a : Addr} {u : HO} (z : Z a ∨ q = true) (hu : H a = some u) (n : NT u := by first | exact True.intro | assumption | exact Mut.nt (by assumption)) : H1 a = some u := e.keep a u hu (z.elim (fun z => .inl (by
    cases ho : own a with
    | none => rfl
    | some i => exact absurd z (h.dz a i ho))) .inr)
theorem RS.sh (h : RS K τ Z own H ρ σ) (e : ExtF fx q Z own H Z1 own1 H1) {d : D} {v : V} (r : RSh K Z H d v) : RSh K Z1 H1 d v :=
  RSh.pres e.z (h.nl e) (fun _ _ z s n => h.kz e (.inl z) s) d v r
theorem RS.shL (h : RS K τ Z own H ρ σ) (e : ExtF fx q Z own H Z1 own1 H1) {d : List D} {v : List V} (r : RShL K Z H d v) : RShL K Z1 H1 d v :=
  RShL.pres e.z (h.nl e) (fun _ _ z s n => h.kz e (.inl z) s) d v r
/-- a value that is owned by none of the slots -/
theorem RS.apart (h : RS K τ Z own H ρ σ) (e : ExtF fx q Z own H Z1 own1 H1) {t : OT} {d : D} {v : V} {S : Addr → Prop} (hS : ∀ a, S a → own a = none) (r : R K Z H t d v S) : R K Z1 H1 t d v S :=
  R.pres e.z (h.nl e) (fun _ _ z s n => h.kz e (.inl z) s) (fun a xs s hx n => e.keep a _ hx (.inl (hS a s))) r
end
/-- a value at hand: shared, or a list that a slot owns whose items are shared -/
def RPk (K : PySem.W.Frag) (Z : Addr → Prop) (own : Addr → Option Nat) (H : Hp) (d : D) (v : V) : Prop :=
  RSh K Z H d v ∨ ∃ l a xs, d = .lst l ∧ v = .ref a ∧ H a = some (.lst xs) ∧ own a ≠ none ∧ RShL K Z H l xs
/-- what is known of a value just told -/
def Rm (K : PySem.W.Frag) (Z : Addr → Prop) (own : Addr → Option Nat) (H : Hp) : Md → D → V → (Addr → Prop) → Prop
  | .pk, d, v, _ => RPk K Z own H d v
  | .ow t, d, v, S => R K Z H t d v S
/-- a region of new lists -/
def NewR (H : Hp) (Z' : Addr → Prop) (own' : Addr → Option Nat) (H' : Hp) (S : Addr → Prop) : Prop := ∀ a, S a → H a = none ∧ own' a = none ∧ ¬ Z' a ∧ ∃ o, H' a = some o ∧ Mut o
def tE [Tb] (K : PySem.W.Frag) (τ : Nat → OT) (q : Bool) (md : Md) (m : M D) : TE := fun σ H Q => ∃ Z own ρ d ρ', RS K τ Z own H ρ σ ∧ m ρ = .ok (d, ρ') ∧
  ∀ v Z' own' H' S, RS K τ Z' own' H' ρ' σ → Rm K Z' own' H' md d v S → NewR H Z' own' H' S → Ext q Z own H Z' own' H' → Q v H'
theorem _root_.L2.PE.mono {X : Cx} {e : Expr} {t t' : TE} (h : PE X e t) (f : ∀ σ H Q, t' σ H Q → t σ H Q) : PE X e t' := ⟨fun pins s σ H Q I hw => h.run pins s σ H Q I (f σ H Q hw)⟩
theorem _root_.L2.PT.mono {X : Cx} {e : Expr} {t t' : TT} (h : PT X e t) (f : ∀ σ H Q, t' σ H Q → t σ H Q) : PT X e t' := ⟨fun pins s σ H Q I hw => h.run pins s σ H Q I (f σ H Q hw)⟩
theorem _root_.L2.PA.mono {X : Cx} {e : List Expr} {t t' : TA} (h : PA X e t) (f : ∀ σ H Q, t' σ H Q → t σ H Q) : PA X e t' := ⟨fun pins n s σ H Q I hw => h.run pins n s σ H Q I (f σ H Q hw)⟩
theorem _root_.L2.PS.mono {X : Cx} {e : Stmt} {t t' : TS} (h : PS X e t) (f : ∀ D σ H, t' D σ H → t D σ H) : PS X e t' := ⟨fun pins s σ H Q I hw => h.run pins s σ H Q I (f Q σ H hw)⟩
theorem _root_.L2.PSs.mono {X : Cx} {e : List Stmt} {t t' : TS} (h : PSs X e t) (f : ∀ D σ H, t' D σ H → t D σ H) : PSs X e t' := ⟨fun pins s σ H Q I hw => h.run pins s σ H Q I (f Q σ H hw)⟩
theorem _root_.L2.PI.mono {X : Cx} {tg e : Expr} {t t' : TI} (h : PI X tg e t) (f : ∀ σ H Q, t' σ H Q → t σ H Q) : PI X tg e t' := ⟨fun pins s σ H Q I hw => h.run pins s σ H Q I (f σ H Q hw)⟩
end CL
namespace CL
open PySem PySem.Spec L2
set_option autoImplicit false
def bind {α β : Type} (m : M α) (f : α → M β) : M β := fun ρ => match m ρ with | .ok (a, ρ') => f a ρ' | .exc e => .exc e | .bad => .bad
def ofO (o : Option D) : M D := fun ρ => match o with | some d => .ok (d, ρ) | none => .bad
def mC (d : D) : M D := fun ρ => .ok (d, ρ)
def mV (i : Nat) : M D := fun ρ => match ρ[i]? with | some (some d) => .ok (d, ρ) | _ => .bad
def m1 (f : D → Option D) (a : M D) : M D := bind a fun x => ofO (f x)
def m2 (f : D → D → Option D) (a b : M D) : M D := bind a fun x => bind b fun y => ofO (f x y)
def mNil : M (List D) := fun ρ => .ok ([], ρ)
def mCons (a : M D) (r : M (List D)) : M (List D) := bind a fun x => bind r fun xs => fun ρ => .ok (x :: xs, ρ)
def mN (f : List D → Option D) (as : M (List D)) : M D := bind as fun xs => ofO (f xs)
theorem bind_ok {α β : Type} {m : M α} {f : α → M β} {ρ ρ'' : Sl} {b : β} (h : bind m f ρ = .ok (b, ρ'')) : ∃ a ρ', m ρ = .ok (a, ρ') ∧ f a ρ' = .ok (b, ρ'') := by
  unfold bind at h
  split at h
  · rename_i a ρ' e; exact ⟨a, ρ', e, h⟩
  · cases h
  · cases h
theorem bind_of {α β : Type} {m : M α} {f : α → M β} {ρ ρ' : Sl} {a : α} (h : m ρ = .ok (a, ρ')) : bind m f ρ = f a ρ' := by unfold bind; rw [h]
theorem ofO_ok {o : Option D} {ρ ρ' : Sl} {d : D} (h : ofO o ρ = .ok (d, ρ')) : o = some d ∧ ρ' = ρ := by
  unfold ofO at h
  split at h
  · cases h; exact ⟨rfl, rfl⟩
  · cases h
/-- a value at hand, whoever owns it -/
def Pk0 (K : PySem.W.Frag) (Z : Addr → Prop) (H : Hp) (d : D) (v : V) : Prop :=
  RSh K Z H d v ∨ ∃ l a xs, d = .lst l ∧ v = .ref a ∧ H a = some (.lst xs) ∧ RShL K Z H l xs
def Pk0L (K : PySem.W.Frag) (Z : Addr → Prop) (H : Hp) : List D → List V → Prop
  | [], vs => vs = []
  | d :: ds, vs => ∃ w ws, vs = w :: ws ∧ Pk0 K Z H d w ∧ Pk0L K Z H ds ws
structure Grow [Tb] (H H' : Hp) : Prop where
  at_ : ∀ a o, H a = some o → NT o → H' a = some o
  tk : TK H H'
  live : ∀ a, H a ≠ none → H' a ≠ none
theorem Grow.of [Tb] {H H' : Hp} (h : ∀ a o, H a = some o → H' a = some o) (t : ∀ a o, H' a = some o → H a = some o ∨ Tup0 o) : Grow H H' := ⟨fun a o e _ => h a o e, .of (fun a o e _ => h a o e) t, fun a n z => by
  cases e : H a with
  | none => exact n e
  | some o => rw [h a o e] at z; cases z⟩
def NewS (H H' : Hp) (S : Addr → Prop) : Prop := ∀ a, S a → H a = none ∧ ∃ o, H' a = some o ∧ Mut o
/-- a shared value, or a new list of shared ones -/
def RF (K : PySem.W.Frag) (Z : Addr → Prop) (H : Hp) (d : D) (v : V) (S : Addr → Prop) : Prop := RSh K Z H d v ∨ R K Z H (.ol .sh .sh) d v S
def rF2 [Tb] (K : PySem.W.Frag) (f : D → D → Option D) : R2 := fun x y H Q => ∃ Z a b d, Pk0 K Z H a x ∧ Pk0 K Z H b y ∧ f a b = some d ∧ ∀ v H' S, Grow H H' → RF K Z H' d v S → NewS H H' S → Q v H'
def rFn [Tb] (K : PySem.W.Frag) (f : List D → Option D) : List V → Hp → VK → Prop := fun xs H Q => ∃ Z ds d, Pk0L K Z H ds xs ∧ f ds = some d ∧ ∀ v H' S, Grow H H' → RF K Z H' d v S → NewS H H' S → Q v H'
theorem Grow.refl [Tb] {H : Hp} : Grow H H := ⟨fun _ _ e _ => e, .refl, fun _ e => e⟩
theorem Grow.new [Tb] {H : Hp} {p : Addr} {o : HO} (h : H p = none) (ho : Tup0 o := by first | exact True.intro | assumption | exact Mut.tup0 (by assumption)) : Grow H (upd H p o) := ⟨fun a u e _ => by rw [upd_ne (ne_of_none e h)]; exact e, .laid (.inl h) ho, fun a n z => by
  cases e : H a with
  | none => exact n e
  | some u => rw [upd_ne (ne_of_none e h), e] at z; cases z⟩
theorem NewS.none [Tb] {H H' : Hp} : NewS H H' fun _ => False := fun _ h => h.elim
theorem NewS.one [Tb] {H : Hp} {p : Addr} {o : HO} (hm : Mut o) (h : H p = .none) : NewS H (upd H p o) (fun a => a = p) := fun a e => by subst e; exact ⟨h, o, upd_same, hm⟩
section
variable [Tb] {K : PySem.W.Frag} {τ : Nat → OT} {Z Z1 Z2 : Addr → Prop} {own own1 own2 : Addr → Option Nat} {H H' H1 H2 : Hp} {ρ : Sl} {σ : St} {q q1 q2 : Bool} {S : Addr → Prop}
theorem Grow.sh (g : Grow H H') {d : D} {v : V} (h : RSh K Z H d v) : RSh K Z H' d v := RSh.pres (fun _ z => z) (fun a o e _ n => g.at_ a o e n) (fun a o _ e n => g.at_ a o e n) d v h
theorem Grow.shL (g : Grow H H') {d : List D} {v : List V} (h : RShL K Z H d v) : RShL K Z H' d v := RShL.pres (fun _ z => z) (fun a o e _ n => g.at_ a o e n) (fun a o _ e n => g.at_ a o e n) d v h
theorem Grow.r (g : Grow H H') {t : OT} {d : D} {v : V} (h : R K Z H t d v S) : R K Z H' t d v S := R.pres (fun _ z => z) (fun a o e _ n => g.at_ a o e n) (fun a o _ e n => g.at_ a o e n) (fun a xs _ e n => g.at_ a _ e n) h
theorem RF.freeze {d : D} {v : V} (h : RF K Z H d v S) : RSh K (fun a => Z a ∨ S a) H d v := h.elim (RSh.monoZ fun _ => .inl) R.freeze
theorem RF.list {l : List D} {p : Addr} {xs : List V} (h : RShL K Z H l xs) (e : H p = some (.lst xs)) : RF K Z H (.lst l) (.ref p) (fun a => a = p) :=
  .inr ⟨l, p, xs, fun a => if a = p then Option.none else some 0, rfl, rfl, e, rfl, by simp, h.len, fun d v e1 e2 => by
    obtain ⟨w, a, b⟩ := h.get e1
    rw [e2] at a; cases a; exact b, fun k d v e1 e2 => by
    obtain ⟨w, a, b⟩ := h.get e1
    rw [e2] at a; cases a; exact b⟩
theorem RF.tup {l : List D} {p : Addr} {xs : List V} (h : RShL K Z H l xs) (e : SqT K H p xs) : RF K Z H (.tup l) (.ref p) (fun _ => False) := .inl (by simp only [RSh]; exact ⟨p, xs, rfl, e, h⟩)
theorem RPk.pk0 {d : D} {v : V} (h : RPk K Z own H d v) : Pk0 K Z H d v := h.elim .inl fun ⟨l, a, xs, e1, e2, e3, _, e5⟩ => .inr ⟨l, a, xs, e1, e2, e3, e5⟩
theorem RS.grow (h : RS K τ Z own H ρ σ) (g : Grow H H') (n : NewS H H' S) : RS K τ (fun a => Z a ∨ S a) own H' ρ σ where
  sl := fun i d e => by
    obtain ⟨v, e1, e2⟩ := h.sl i d e
    exact ⟨v, e1, R.pres (fun _ z => .inl z) (fun a o e _ n => g.at_ a o e n) (fun a o _ e n => g.at_ a o e n) (fun a xs _ e n => g.at_ a _ e n) e2⟩
  ls := fun a i e => by
    obtain ⟨xs, hx, hm⟩ := h.ls a i e
    exact ⟨xs, g.at_ a _ hx hm.nt, hm⟩
  dz := fun a i e z => by
    rcases z with z | z
    · exact h.dz a i e z
    · obtain ⟨xs, hx, _⟩ := h.ls a i e
      rw [(n a z).1] at hx; cases hx
  zt := fun a z => z.elim (fun z e => g.live a (h.zt a z) e) fun z e => by obtain ⟨xs, hx, _⟩ := (n a z).2; rw [hx] at e; cases e
  len := h.len
  tb := g.tk.ok h.tb
theorem ExtF.grow {fx : Nat → Bool} (g : Grow H H') (n : NewS H H' S) : ExtF fx q Z own H (fun a => Z a ∨ S a) own H' :=
  ⟨fun _ z => .inl z, fun a z => z.elim .inl fun z => .inr (.inl (n a z).1), fun _ _ z => .inl z, fun a o e _ n => g.at_ a o e n, fun a e z => g.live a e z, g.tk⟩
theorem ExtF.growO {fx : Nat → Bool} (g : Grow H H') : ExtF fx q Z own H Z own H' :=
  ⟨fun _ z => z, fun a z => .inl z, fun _ _ z => .inl z, fun a o e _ n => g.at_ a o e n, fun a e z => g.live a e z, g.tk⟩
theorem RS.growO (h : RS K τ Z own H ρ σ) (g : Grow H H') : RS K τ Z own H' ρ σ where
  sl := fun i d e => by
    obtain ⟨v, e1, e2⟩ := h.sl i d e
    exact ⟨v, e1, R.pres (fun _ z => z) (fun a o e _ n => g.at_ a o e n) (fun a o _ e n => g.at_ a o e n) (fun a xs _ e n => g.at_ a _ e n) e2⟩
  ls := fun a i e => by
    obtain ⟨xs, hx, hm⟩ := h.ls a i e
    exact ⟨xs, g.at_ a _ hx hm.nt, hm⟩
  dz := h.dz
  zt := fun a z e => by
    exact g.live a (h.zt a z) e
  len := h.len
  tb := g.tk.ok h.tb
/-- what is at hand stays at hand -/
def Hand : Md → Prop
  | .pk => True
  | .ow .sh => True
  | .ow (.ol _ _) => False
  | .ow .od => False
  | .ow (.dv _) => False
  | .ow (.dk _) => False
  | .ow (.oi _) => False
  | .ow (.ot _) => False
theorem Rm.pk0 {md : Md} {d : D} {v : V} (hm : Hand md) (h : Rm K Z own H md d v S) : Pk0 K Z H d v := by
  cases md with
  | pk => exact RPk.pk0 h
  | ow t =>
    cases t with
    | sh => exact .inl h
    | ol _ _ => exact hm.elim
    | od => exact hm.elim
    | dv _ => exact hm.elim
    | dk _ => exact hm.elim
    | oi _ => exact hm.elim
    | ot _ => exact hm.elim
/-- at hand, behind another step -/
theorem RS.pk0 {fx : Nat → Bool} (h : RS K τ Z own H ρ σ) (e : ExtF fx q Z own H Z1 own1 H1) {md : Md} {d : D} {v : V} (hm : Hand md) (hq : md = .sh ∨ q = true) (r : Rm K Z own H md d v S) : Pk0 K Z1 H1 d v := by
  cases md with
  | pk =>
    rcases r with r | ⟨l, a, xs, e1, e2, e3, e4, e5⟩
    · exact .inl (h.sh e r)
    · exact .inr ⟨l, a, xs, e1, e2, e.keep a _ e3 (.inr (hq.elim (fun z => nomatch z) fun z => z)), h.shL e e5⟩
  | ow t =>
    cases t with
    | sh => exact .inl (h.sh e r)
    | ol _ _ => exact hm.elim
    | od => exact hm.elim
    | dv _ => exact hm.elim
    | dk _ => exact hm.elim
    | oi _ => exact hm.elim
    | ot _ => exact hm.elim
end
/-- arguments from the left -/
def tA [Tb] (K : PySem.W.Frag) (τ : Nat → OT) (q : Bool) (m : M (List D)) : TA := fun σ H Q => ∃ Z own ρ ds ρ', RS K τ Z own H ρ σ ∧ m ρ = .ok (ds, ρ') ∧
  ∀ vs Z' own' H', RS K τ Z' own' H' ρ' σ → Pk0L K Z' H' ds vs → Ext q Z own H Z' own' H' → Q vs H'
/-- .. all of them shared -/
def tAs [Tb] (K : PySem.W.Frag) (τ : Nat → OT) (q : Bool) (m : M (List D)) : TA := fun σ H Q => ∃ Z own ρ ds ρ', RS K τ Z own H ρ σ ∧ m ρ = .ok (ds, ρ') ∧
  ∀ vs Z' own' H', RS K τ Z' own' H' ρ' σ → RShL K Z' H' ds vs → Ext q Z own H Z' own' H' → Q vs H'
section
variable [Tb] {X : Cx} {τ : Nat → OT} {q q1 q2 : Bool} {md md1 md2 : Md} {a b c e : Expr} {es : List Expr} {ma mb : M D} {ms : M (List D)} {pos : Pos}
/-- shared, so at hand -/
theorem e_pk (h : PE X a (tE X.K τ q .sh ma)) : PE X a (tE X.K τ q .pk ma) := h.mono fun σ H Q ⟨Z, own, ρ, d, ρ', rs, e, k⟩ =>
  ⟨Z, own, ρ, d, ρ', rs, e, fun v Z' own' H' S r1 r2 r3 r4 => k v Z' own' H' S r1 (.inl r2) r3 r4⟩
/-- a new list, from now on shared -/
theorem e_sh {t : OT} (h : PE X a (tE X.K τ q (.ow t) ma)) : PE X a (tE X.K τ q .sh ma) := h.mono fun σ H Q ⟨Z, own, ρ, d, ρ', rs, e, k⟩ =>
  ⟨Z, own, ρ, d, ρ', rs, e, fun v Z' own' H' S r1 r2 r3 r4 => by
    refine k v (fun a => Z' a ∨ S a) own' H' (fun _ => False) ⟨fun i d e => ?_, r1.ls, fun a i e z => ?_, fun a z => z.elim (r1.zt a) (fun z e => by obtain ⟨xs, hx, _⟩ := (r3 a z).2.2.2; rw [hx] at e; cases e), r1.len, r1.tb⟩ (R.freeze r2) (fun _ z => z.elim) ⟨fun a z => .inl (r4.z a z), fun a z => z.elim (r4.zn a) fun z => .inr (.inl (r3 a z).1), r4.on, r4.kp, r4.live, r4.tk⟩
    · obtain ⟨v, e1, e2⟩ := r1.sl i d e
      exact ⟨v, e1, R.pres (fun _ z => .inl z) (fun _ _ s _ _ => s) (fun _ _ _ s _ => s) (fun _ _ _ e _ => e) e2⟩
    · rcases z with z | z
      · exact r1.dz a i e z
      · rw [(r3 a z).2.1] at e; cases e⟩
/-- the end of an operation: shared -/
theorem fin_sh {K : PySem.W.Frag} {Z Z1 : Addr → Prop} {own own1 : Addr → Option Nat} {H H1 H2 : Hp} {ρ1 : Sl} {σ : St} {d : D} {v : V} {S : Addr → Prop} {Q : VK} (rs : RS K τ Z1 own1 H1 ρ1 σ) (x : Ext q Z own H Z1 own1 H1) (g : Grow H1 H2) (r : RF K Z1 H2 d v S) (n : NewS H1 H2 S)
    (k : ∀ v Z' own' H' S, RS K τ Z' own' H' ρ1 σ → Rm K Z' own' H' .sh d v S → NewR H Z' own' H' S → Ext q Z own H Z' own' H' → Q v H') : Q v H2 :=
  k v _ own1 H2 (fun _ => False) (rs.grow g n) r.freeze (fun _ z => z.elim) (by have := x.trans (ExtF.grow (q := q) (Z := Z1) (own := own1) g n); rwa [Bool.and_self] at this)
/-- .. a new list of one's own -/
theorem fin_ol {K : PySem.W.Frag} {Z Z1 : Addr → Prop} {own own1 : Addr → Option Nat} {H H1 : Hp} {ρ1 : Sl} {σ : St} {l : List D} {vs : List V} {p : Addr} {Q : VK} (rs : RS K τ Z1 own1 H1 ρ1 σ) (x : Ext q Z own H Z1 own1 H1) (hp : H1 p = none) (rl : RShL K Z1 (upd H1 p (.lst vs)) l vs)
    (k : ∀ v Z' own' H' S, RS K τ Z' own' H' ρ1 σ → Rm K Z' own' H' (.ow (.ol .sh .sh)) (.lst l) v S → NewR H Z' own' H' S → Ext q Z own H Z' own' H' → Q v H') : Q (.ref p) (upd H1 p (.lst vs)) := by
  have g : Grow H1 (upd H1 p (.lst vs)) := Grow.new hp
  have nl : H p = none := Classical.byContradiction fun n => x.live p n hp
  refine k _ Z1 own1 _ (fun a => a = p) (rs.growO g) ?_ (fun a e => ?_) (by have := x.trans (ExtF.growO (q := q) (Z := Z1) (own := own1) g); rwa [Bool.and_self] at this)
  · refine ⟨l, p, vs, fun a => if a = p then Option.none else some 0, rfl, rfl, upd_same, rfl, by simp, rl.len, fun d v e1 e2 => ?_, fun k d v e1 e2 => ?_⟩
    · obtain ⟨w, a, b⟩ := rl.get e1
      rw [e2] at a; cases a; exact b
    · obtain ⟨w, a, b⟩ := rl.get e1
      rw [e2] at a; cases a; exact b
  · subst e
    refine ⟨nl, Classical.byContradiction fun n => ?_, fun z => rs.zt a z hp, _, upd_same, trivial⟩
    cases ho : own1 a with
    | none => exact n ho
    | some i => obtain ⟨ys, hy, _⟩ := rs.ls a i ho; rw [hp] at hy; cases hy
theorem two {f : D → D → Option D} (hm1 : Hand md1) (hm2 : Hand md2) (hq : md1 = .sh ∨ q2 = true) : ∀ σ H Q, tE X.K τ (q1 && q2) .sh (m2 f ma mb) σ H Q → tOp (rF2 X.K f) (tE X.K τ q1 md1 ma) (tE X.K τ q2 md2 mb) σ H Q := fun σ H Q ⟨Z, own, ρ, d, ρ', rs, e, k⟩ => by
  obtain ⟨x, ρ1, e1, e⟩ := bind_ok e
  obtain ⟨y, ρ2, e2, e⟩ := bind_ok e
  obtain ⟨e3, rfl⟩ := ofO_ok e
  exact ⟨Z, own, ρ, x, ρ1, rs, e1, fun v Z1 own1 H1 S1 rs1 rm1 _ x1 => ⟨Z1, own1, ρ1, y, ρ', rs1, e2, fun w Z2 own2 H2 S2 rs2 rm2 _ x2 =>
    ⟨Z2, x, y, d, rs1.pk0 x2 hm1 hq rm1, rm2.pk0 hm2, e3, fun u H3 S g r n => fin_sh rs2 (x1.trans x2) g r n k⟩⟩⟩
theorem e_2 {f : D → D → Option D} {op : Operator} (ho : OpR X (binaryOp op) (rF2 X.K f)) (ha : PE X a (tE X.K τ q1 md1 ma)) (hb : PE X b (tE X.K τ q2 md2 mb)) (hm1 : Hand md1 := by trivial) (hm2 : Hand md2 := by trivial) (hq : md1 = .sh ∨ q2 = true := by first | exact .inl rfl | exact .inr rfl) :
    PE X (.BinOp a op b pos) (tE X.K τ (q1 && q2) .sh (m2 f ma mb)) := (pe_op ho ha hb).mono (two hm1 hm2 hq)
theorem e_cmp {f : D → D → Option D} {op : CmpOp} (ho : OpR X (compareOp op) (rF2 X.K f)) (ha : PE X a (tE X.K τ q1 md1 ma)) (hb : PE X b (tE X.K τ q2 md2 mb)) (hm1 : Hand md1 := by trivial) (hm2 : Hand md2 := by trivial) (hq : md1 = .sh ∨ q2 = true := by first | exact .inl rfl | exact .inr rfl) (hm : behindInMarks op b = false := by first | exact nomark _ | rfl) :
    PE X (.Compare a [op] [b] pos) (tE X.K τ (q1 && q2) .sh (m2 f ma mb)) := (pe_cmpR ho ha hb hm).mono (two hm1 hm2 hq)
theorem e_ix {f : D → D → Option D} (hr : IxR X (rF2 X.K f)) (ha : PE X a (tE X.K τ q1 md1 ma)) (hb : PE X b (tE X.K τ q2 md2 mb)) (hm1 : Hand md1 := by trivial) (hm2 : Hand md2 := by trivial) (hq : md1 = .sh ∨ q2 = true := by first | exact .inl rfl | exact .inr rfl) (hs : PlainIx b := by exact fun _ _ => rfl) :
    PE X (.Subscript a b pos) (tE X.K τ (q1 && q2) .sh (m2 f ma mb)) := (pe_ix hr ha hb hs).mono (two hm1 hm2 hq)
theorem a_nil : PA X [] (tA X.K τ true mNil) := pa_nil.mono fun σ H Q ⟨Z, own, ρ, ds, ρ', rs, e, k⟩ => by
  have e := e
  unfold mNil at e
  cases e
  exact k [] Z own H rs rfl ExtF.refl
theorem a_cons (ha : PE X a (tE X.K τ q1 md1 ma)) (hr : PA X es (tA X.K τ q2 ms)) (hm1 : Hand md1 := by trivial) (hq : md1 = .sh ∨ q2 = true := by first | exact .inl rfl | exact .inr rfl) (hs : starEach (a :: es) X.env = (false, eval a X.env) :: starEach es X.env := by rfl) :
    PA X (a :: es) (tA X.K τ (q1 && q2) (mCons ma ms)) := (pa_cons ha hr hs).mono fun σ H Q ⟨Z, own, ρ, ds, ρ', rs, e, k⟩ => by
  obtain ⟨x, ρ1, e1, e⟩ := bind_ok e
  obtain ⟨xs, ρ2, e2, e⟩ := bind_ok e
  cases e
  exact ⟨Z, own, ρ, x, ρ1, rs, e1, fun v Z1 own1 H1 S1 rs1 rm1 _ x1 => ⟨Z1, own1, ρ1, xs, ρ', rs1, e2, fun ws Z2 own2 H2 rs2 rl x2 =>
    k (v :: ws) Z2 own2 H2 rs2 ⟨v, ws, rfl, rs1.pk0 x2 hm1 hq rm1, rl⟩ (x1.trans x2)⟩⟩
theorem as_nil : PA X [] (tAs X.K τ true mNil) := pa_nil.mono fun σ H Q ⟨Z, own, ρ, ds, ρ', rs, e, k⟩ => by
  have e := e
  unfold mNil at e
  cases e
  exact k [] Z own H rs (by simp only [RShL]) ExtF.refl
theorem as_cons (ha : PE X a (tE X.K τ q1 .sh ma)) (hr : PA X es (tAs X.K τ q2 ms)) (hs : starEach (a :: es) X.env = (false, eval a X.env) :: starEach es X.env := by rfl) :
    PA X (a :: es) (tAs X.K τ (q1 && q2) (mCons ma ms)) := (pa_cons ha hr hs).mono fun σ H Q ⟨Z, own, ρ, ds, ρ', rs, e, k⟩ => by
  obtain ⟨x, ρ1, e1, e⟩ := bind_ok e
  obtain ⟨xs, ρ2, e2, e⟩ := bind_ok e
  cases e
  exact ⟨Z, own, ρ, x, ρ1, rs, e1, fun v Z1 own1 H1 S1 rs1 rm1 _ x1 => ⟨Z1, own1, ρ1, xs, ρ', rs1, e2, fun ws Z2 own2 H2 rs2 rl x2 =>
    k (v :: ws) Z2 own2 H2 rs2 (by simp only [RShL]; exact ⟨v, ws, rfl, rs1.sh x2 rm1, rl⟩) (x1.trans x2)⟩⟩
theorem nary {f : List D → Option D} : ∀ σ H Q, tE X.K τ q .sh (mN f ms) σ H Q → tCB (rFn X.K f) (tA X.K τ q ms) σ H Q := fun σ H Q ⟨Z, own, ρ, d, ρ', rs, e, k⟩ => by
  obtain ⟨xs, ρ1, e1, e⟩ := bind_ok e
  obtain ⟨e3, rfl⟩ := ofO_ok e
  exact ⟨Z, own, ρ, xs, ρ', rs, e1, fun vs Z1 own1 H1 rs1 rl x1 => ⟨Z1, xs, d, rl, e3, fun u H3 S g r n => fin_sh rs1 x1 g r n k⟩⟩
theorem e_callB {f : List D → Option D} {x : Str} {id : String} {p : Pos} (hc : CallR X (.builtin id) (rFn X.K f)) (ha : PA X (e :: es) (tA X.K τ q ms)) (hg : Gl X x := by rfl) (hm : X.mg x = none := by assumption) (hv : bootBuiltins x = some (.builtin id) := by decide +kernel) (hn : x ≠ "__name__" := by decide) (hdb : (x == ("__debug__" : Str)) = false := by decide) (hst : starEach (e :: es) X.env = (false, eval e X.env) :: starEach es X.env := by rfl) (hpl : (backTo pos (starEach es X.env)).any (·.1) = false := by rfl) :
    PE X (.Call (.Name x p) (e :: es) [] pos) (tE X.K τ q .sh (mN f ms)) := (pe_callB hc hg hm hv ha hn hdb hst hpl).mono nary
theorem e_callTy {f : List D → Option D} {x : Str} {T : String} {p : Pos} (hc : CallR X (.type T) (rFn X.K f)) (ha : PA X (e :: es) (tA X.K τ q ms)) (hg : Gl X x := by rfl) (hm : X.mg x = none := by assumption) (hv : bootBuiltins x = some (.type T) := by decide +kernel) (hn : x ≠ "__name__" := by decide) (hdb : (x == ("__debug__" : Str)) = false := by decide) (hst : starEach (e :: es) X.env = (false, eval e X.env) :: starEach es X.env := by rfl) (hpl : (backTo pos (starEach es X.env)).any (·.1) = false := by rfl) :
    PE X (.Call (.Name x p) (e :: es) [] pos) (tE X.K τ q .sh (mN f ms)) := (pe_callTy hc hg hm hv ha hn hdb hst hpl).mono nary
theorem e_int {i : Int} {j : Nat} : PE X (.Constant (.int i) j pos) (tE X.K τ true .sh (mC (.int i))) := pe_int.mono fun σ H Q ⟨Z, own, ρ, d, ρ', rs, e, k⟩ => by
  unfold mC at e; cases e
  exact k _ Z own H (fun _ => False) rs (by simp only [Rm, R, RSh]) (fun _ z => z.elim) ExtF.refl
theorem e_bl {i : Bool} {j : Nat} : PE X (.Constant (.bool i) j pos) (tE X.K τ true .sh (mC (.bl i))) := pe_bl.mono fun σ H Q ⟨Z, own, ρ, d, ρ', rs, e, k⟩ => by
  unfold mC at e; cases e
  exact k _ Z own H (fun _ => False) rs (by simp only [Rm, R, RSh]) (fun _ z => z.elim) ExtF.refl
theorem e_str {i : Str} {j : Nat} : PE X (.Constant (.str i) j pos) (tE X.K τ true .sh (mC (.str i))) := pe_str.mono fun σ H Q ⟨Z, own, ρ, d, ρ', rs, e, k⟩ => by
  unfold mC at e; cases e
  exact k _ Z own H (fun _ => False) rs (by simp only [Rm, R, RSh]) (fun _ z => z.elim) ExtF.refl
omit [Tb] in
theorem mV_ok {i : Nat} {ρ ρ' : Sl} {d : D} (h : mV i ρ = .ok (d, ρ')) : ρ[i]? = some (some d) ∧ ρ' = ρ := by
  unfold mV at h
  split at h
  · rename_i e; cases h; exact ⟨e, rfl⟩
  · cases h
theorem e_v (i : Nat) {x : Str} (ht : τ i = .sh := by rfl) (hN : X.N[i]? = some x := by rfl) (hv : Vis X.env.scope x := by first | exact Or.inl rfl | exact Or.inr (Or.inl rfl) | exact Or.inr (Or.inr rfl)) (hd : (x == ("__debug__" : Str)) = false := by decide)
    (hcd : (x == ("__classdict__" : Str)) = false := by decide) : PE X (.Name x pos) (tE X.K τ true .sh (mV i)) := (pv i hN hv hd hcd).mono fun σ H Q ⟨Z, own, ρ, d, ρ', rs, e, k⟩ => by
  obtain ⟨e, rfl⟩ := mV_ok e
  obtain ⟨v, e1, e2⟩ := rs.sl i d e
  rw [ht] at e2
  exact ⟨v, e1, k v Z own H (fun _ => False) rs e2 (fun _ z => z.elim) ExtF.refl⟩
/-- a slot's own list, at hand -/
theorem e_vp (i : Nat) {x : Str} (ht : τ i = .ol .sh .sh := by rfl) (hN : X.N[i]? = some x := by rfl) (hv : Vis X.env.scope x := by first | exact Or.inl rfl | exact Or.inr (Or.inl rfl) | exact Or.inr (Or.inr rfl)) (hd : (x == ("__debug__" : Str)) = false := by decide)
    (hcd : (x == ("__classdict__" : Str)) = false := by decide) : PE X (.Name x pos) (tE X.K τ true .pk (mV i)) := (pv i hN hv hd hcd).mono fun σ H Q ⟨Z, own, ρ, d, ρ', rs, e, k⟩ => by
  obtain ⟨e, rfl⟩ := mV_ok e
  obtain ⟨v, e1, e2⟩ := rs.sl i d e
  rw [ht] at e2
  obtain ⟨l, a, xs, ow, e1', e2', e3, e4, e5, e6, e7, e8⟩ := e2
  exact ⟨v, e1, k v Z own H (fun _ => False) rs (.inr ⟨l, a, xs, e1', e2', e3, by rw [e4]; simp, .of_get e6 fun i d v p q => by
    cases i with
    | zero => exact e7 d v p q
    | succ n => exact e8 n d v p q⟩) (fun _ z => z.elim) ExtF.refl⟩
/-- a module's constant -/
theorem e_gl {x : Str} {v : V} {u : Value} {d : D} (hm : X.mg x = some u) (r : RelV v u) (hr : ∀ Z H, RSh X.K Z H d v) (hg : Gl X x := by rfl) (hd : (x == ("__debug__" : Str)) = false := by decide) : PE X (.Name x pos) (tE X.K τ true .sh (mC d)) :=
  (pe_glob hg hm r hd).mono fun σ H Q ⟨Z, own, ρ, d', ρ', rs, e, k⟩ => by
    unfold mC at e; cases e
    exact k _ Z own H (fun _ => False) rs (hr _ _) (fun _ z => z.elim) ExtF.refl
theorem szl {m n : Nat} (h : m ≤ 16777216) (e : m = n) : n ≤ sizeLine := by
  have : sizeLine = 16777216 := by decide
  omega
theorem SqT.ofF {K : PySem.W.Frag} {H : Hp} {a : Addr} {o : Obj} {xs : List V} (h : H a = some (.frz o (.tup xs))) : SqT K H a xs := .inl (.inr ⟨o, h⟩)
/-- a tuple is laid: it is told with its object -/
theorem laidT {X : Cx} {pins : List (Addr × Obj)} {σ : L2.St} {H : Hp} {s : Shared} {xs : List V} {its : List Value} {Q : VK} (I : Inv X pins σ H s) (tk : Nat) (r : Vals xs its) (z : xs.length ≤ sizeLine)
    (k : ∀ p o, H p = none → o.dict = none → Q (.ref p) (upd H p (.frz o (.tup xs)))) : EP X pins σ Q (.ref s.heap.objs.size) { s with heap := s.heap.push { cls := .type "tuple", data := .seq its.toArray }, toks := tk } :=
  ⟨.ref s.heap.objs.size, _, I.laid (o := .frz { cls := .type "tuple", data := .seq its.toArray } (.tup xs)) (t' := tk) (fun _ _ e => Heap.get?_push_of_some _ e) (Nat.le_refl _) ⟨Heap.get?_push_size _ rfl, z, its, r, PyProof.Rows.IsTup.new _ _⟩, rfl, k _ _ (I.hok.fresh (Nat.le_refl _)) rfl⟩
/-- what is told of a new tuple -/
def NewT (Q : VK) (H : Hp) (xs : List V) : Prop := ∀ p o, H p = none → o.dict = none → Q (.ref p) (upd H p (.frz o (.tup xs)))
def tTupF (t : TA) : TE := fun σ H Q => t σ H fun vs H1 => vs.length ≤ sizeLine ∧ NewT Q H1 vs
theorem pe_tupF {X : Cx} {es : List Expr} {t : TA} {x1} {pos : Pos} (h : PA X es t) : PE X (.Tuple es x1 pos) (tTupF t) := ⟨fun pins s σ H Q I hq =>
  wpAny_Tuple_spliced (thn (h.run pos pins s σ H _ I hq) fun us s1 ⟨xs, H1, I1, r, z, q⟩ => ⟨by have := r.length; omega, laidT I1 s1.toks r z q⟩)⟩
def bTup (l : List D) : Option D := if l.length ≤ 16777216 then some (.tup l) else none
def bLst (l : List D) : Option D := if l.length ≤ 16777216 then some (.lst l) else none
theorem e_tup {x1 : Nat} (h : PA X es (tAs X.K τ q ms)) : PE X (.Tuple es x1 pos) (tE X.K τ q .sh (mN bTup ms)) := (pe_tupF h).mono fun σ H Q ⟨Z, own, ρ, d, ρ', rs, e, k⟩ => by
  obtain ⟨xs, ρ1, e1, e⟩ := bind_ok e
  obtain ⟨e3, rfl⟩ := ofO_ok e
  unfold bTup at e3
  split at e3
  · rename_i hl
    cases e3
    refine ⟨Z, own, ρ, xs, ρ', rs, e1, fun vs Z1 own1 H1 rs1 rl x1 => ⟨szl hl rl.len, fun p o hp ho => ?_⟩⟩
    have g : Grow H1 (upd H1 p (.frz o (.tup vs))) := Grow.new hp
    exact fin_sh rs1 x1 g (RF.tup (g.shL rl) (SqT.ofF upd_same)) NewS.none k
  · cases e3
theorem e_lstO (h : PA X es (tAs X.K τ q ms)) : PE X (.List es pos) (tE X.K τ q (.ow (.ol .sh .sh)) (mN bLst ms)) := (pe_lst h).mono fun σ H Q ⟨Z, own, ρ, d, ρ', rs, e, k⟩ => by
  obtain ⟨xs, ρ1, e1, e⟩ := bind_ok e
  obtain ⟨e3, rfl⟩ := ofO_ok e
  unfold bLst at e3
  split at e3
  · rename_i hl
    cases e3
    refine ⟨Z, own, ρ, xs, ρ', rs, e1, fun vs Z1 own1 H1 rs1 rl x1 => ⟨szl hl rl.len, fun p hp => ?_⟩⟩
    have g : Grow H1 (upd H1 p (.lst vs)) := Grow.new hp
    exact fin_ol rs1 x1 hp (g.shL rl) k
  · cases e3
end
end CL
namespace CL
open PySem PySem.Spec L2
set_option autoImplicit false
def tT [Tb] (K : PySem.W.Frag) (τ : Nat → OT) (q : Bool) (m : M D) : TT := fun σ H Q => ∃ Z own ρ b ρ', RS K τ Z own H ρ σ ∧ m ρ = .ok (.bl b, ρ') ∧
  ∀ Z' own' H', RS K τ Z' own' H' ρ' σ → Ext q Z own H Z' own' H' → Q b H'
def mAnd (a b : M D) : M D := bind a fun x => match x with | .bl true => b | .bl false => mC (.bl false) | _ => fun _ => .bad
def mOr (a b : M D) : M D := bind a fun x => match x with | .bl true => mC (.bl true) | .bl false => b | _ => fun _ => .bad
def bNot : D → Option D
  | .bl b => some (.bl (!b))
  | _ => none
def mIf (c a b : M D) : M D := bind c fun x => match x with | .bl true => a | .bl false => b | _ => fun _ => .bad
def mChain (f g : D → D → Option D) (a b c : M D) : M D := bind a fun x => bind b fun y => bind (ofO (f x y)) fun z => match z with
  | .bl true => bind c fun w => ofO (g y w) | .bl false => mC (.bl false) | _ => fun _ => .bad
theorem Pk0.bl {K : PySem.W.Frag} {Z : Addr → Prop} {H : Hp} {b : Bool} {v : V} (h : Pk0 K Z H (.bl b) v) : v = .bl b := by
  rcases h with h | ⟨l, a, xs, e, _⟩
  · simpa only [RSh] using h
  · cases e
theorem Rm.bl {K : PySem.W.Frag} {Z : Addr → Prop} {own : Addr → Option Nat} {H : Hp} {S : Addr → Prop} {b : Bool} {v : V} (h : Rm K Z own H .sh (.bl b) v S) : v = .bl b := by simpa only [Rm, R, RSh] using h
section
variable [Tb] {X : Cx} {τ : Nat → OT} {q q1 q2 q3 : Bool} {md md1 md2 : Md} {a b c e : Expr} {es : List Expr} {ma mb mc : M D} {ms : M (List D)} {pos : Pos}
theorem tT_of : ∀ σ H Q, tT X.K τ q ma σ H Q → tTest (tE X.K τ q .sh ma) σ H Q := fun σ H Q ⟨Z, own, ρ, d, ρ', rs, e, k⟩ =>
  ⟨Z, own, ρ, .bl d, ρ', rs, e, fun v Z1 own1 H1 S1 rs1 rm1 _ x1 => ⟨d, rm1.bl, k Z1 own1 H1 rs1 x1⟩⟩
theorem t_val (h : PE X e (tE X.K τ q .sh ma)) (he : ∀ whole, isTrue e X.env whole = (do let v ← whole; standAt e.pos; holding [v] (truthy v)) := by intro _; rfl) : PT X e (tT X.K τ q ma) := (pt_val h he).mono tT_of
theorem t_cmp {f : D → D → Option D} {op : CmpOp} (ho : OpR X (compareOp op) (rF2 X.K f)) (ha : PE X a (tE X.K τ q1 md1 ma)) (hb : PE X b (tE X.K τ q2 md2 mb)) (hm1 : Hand md1 := by trivial) (hm2 : Hand md2 := by trivial) (hq : md1 = .sh ∨ q2 = true := by first | exact .inl rfl | exact .inr rfl) (hm : behindInMarks op b = false := by first | exact nomark _ | rfl) :
    PT X (.Compare a [op] [b] pos) (tT X.K τ (q1 && q2) (m2 f ma mb)) := (pt_cmpR ho ha hb hm).mono fun σ H Q h => two hm1 hm2 hq σ H _ (tT_of σ H Q h)
theorem t_not (ha : PT X a (tT X.K τ q ma)) : PT X (.UnaryOp .Not a pos) (tT X.K τ q (m1 bNot ma)) := (pt_not ha).mono fun σ H Q ⟨Z, own, ρ, d, ρ', rs, e, k⟩ => by
  obtain ⟨x, ρ1, e1, e⟩ := bind_ok e
  obtain ⟨e3, rfl⟩ := ofO_ok e
  cases x with
  | bl c =>
    cases e3
    exact ⟨Z, own, ρ, c, ρ', rs, e1, k⟩
  | _ => cases e3
theorem ExtF.trans' [Tb] {fx : Nat → Bool} {Z Z1 Z2 : Addr → Prop} {own own1 own2 : Addr → Option Nat} {H H1 H2 : Hp} {q q1 q2 : Bool} (hq : q = true → q1 = true ∧ q2 = true) (a : ExtF fx q1 Z own H Z1 own1 H1) (b : ExtF fx q2 Z1 own1 H1 Z2 own2 H2) : ExtF fx q Z own H Z2 own2 H2 := by
  have x := a.trans b
  exact ⟨x.z, x.zn, x.on, fun c o e h _ => x.keep c o e (h.elim .inl fun z => .inr (by have := hq z; simp [this.1, this.2])), x.live, x.tk⟩
theorem ExtF.of [Tb] {fx : Nat → Bool} {Z Z1 : Addr → Prop} {own own1 : Addr → Option Nat} {H H1 : Hp} {q q1 : Bool} (hq : q = true → q1 = true) (a : ExtF fx q1 Z own H Z1 own1 H1) : ExtF fx q Z own H Z1 own1 H1 :=
  ⟨a.z, a.zn, a.on, fun c o e h _ => a.keep c o e (h.elim .inl fun z => .inr (hq z)), a.live, a.tk⟩
theorem and1 {a b : Bool} (h : (a && b) = true) : a = true := by cases a <;> simp_all
theorem and2 {a b : Bool} (h : (a && b) = true) : a = true ∧ b = true := by cases a <;> simp_all
theorem tOr_of : ∀ σ H Q, tT X.K τ (q1 && q2) (mOr ma mb) σ H Q → tOr (tT X.K τ q1 ma) (tT X.K τ q2 mb) σ H Q := fun σ H Q ⟨Z, own, ρ, d, ρ', rs, e, k⟩ => by
  obtain ⟨x, ρ1, e1, e⟩ := bind_ok e
  match x, e1, e with
  | .bl false, e1, e => exact ⟨Z, own, ρ, false, ρ1, rs, e1, fun Z1 own1 H1 rs1 x1 => iteF ⟨Z1, own1, ρ1, d, ρ', rs1, e, fun Z2 own2 H2 rs2 x2 => k Z2 own2 H2 rs2 (x1.trans x2)⟩⟩
  | .bl true, e1, e =>
    unfold mC at e; cases e
    exact ⟨Z, own, ρ, true, _, rs, e1, fun Z1 own1 H1 rs1 x1 => iteT (k Z1 own1 H1 rs1 (x1.of and1))⟩
theorem _root_.L2.PW.mono {X : Cx} {e : Expr} {t t' : TT} (h : PW X e t) (f : ∀ σ H Q, t' σ H Q → t σ H Q) : PW X e t' := ⟨fun w pins s σ H Q I hw => h.run w pins s σ H Q I (f σ H Q hw)⟩
theorem w_or1 (ha : PT X a (tT X.K τ q ma)) : PW X (.BoolOp .Or [a] pos) (tT X.K τ q ma) := pw_or1 ha
theorem w_or (ha : PT X a (tT X.K τ q1 ma)) (hb : PW X (.BoolOp .Or (b :: es) pos) (tT X.K τ q2 mb)) : PW X (.BoolOp .Or (a :: b :: es) pos) (tT X.K τ (q1 && q2) (mOr ma mb)) := (pw_or ha hb).mono tOr_of
theorem e_one {op : BoolOp} (h : PE X a (tE X.K τ q md ma)) : PE X (.BoolOp op [a] pos) (tE X.K τ q md ma) := pe_one h
theorem e_and (ha : PE X a (tE X.K τ q1 .sh ma)) (hb : PE X (.BoolOp .And (b :: es) pos) (tE X.K τ q2 .sh mb)) : PE X (.BoolOp .And (a :: b :: es) pos) (tE X.K τ (q1 && q2) .sh (mAnd ma mb)) := (pe_and ha hb).mono fun σ H Q ⟨Z, own, ρ, d, ρ', rs, e, k⟩ => by
  obtain ⟨x, ρ1, e1, e⟩ := bind_ok e
  match x, e1, e with
  | .bl true, e1, e => exact ⟨Z, own, ρ, _, ρ1, rs, e1, fun v Z1 own1 H1 S1 rs1 rm1 _ x1 => ⟨true, rm1.bl, iteT ⟨Z1, own1, ρ1, d, ρ', rs1, e, fun v Z2 own2 H2 S2 rs2 rm2 n2 x2 => k v Z2 own2 H2 S2 rs2 rm2 (fun a z => ⟨Classical.byContradiction fun n => x1.live a n (n2 a z).1, (n2 a z).2⟩) (x1.trans x2)⟩⟩⟩
  | .bl false, e1, e =>
    unfold mC at e; cases e
    exact ⟨Z, own, ρ, _, _, rs, e1, fun v Z1 own1 H1 S1 rs1 rm1 n1 x1 => ⟨false, rm1.bl, iteF (k _ Z1 own1 H1 S1 rs1 (by simp only [Rm, R, RSh]) n1 (x1.of and1))⟩⟩
theorem e_or (ha : PE X a (tE X.K τ q1 .sh ma)) (hb : PE X (.BoolOp .Or (b :: es) pos) (tE X.K τ q2 .sh mb)) : PE X (.BoolOp .Or (a :: b :: es) pos) (tE X.K τ (q1 && q2) .sh (mOr ma mb)) := (pe_or ha hb).mono fun σ H Q ⟨Z, own, ρ, d, ρ', rs, e, k⟩ => by
  obtain ⟨x, ρ1, e1, e⟩ := bind_ok e
  match x, e1, e with
  | .bl false, e1, e => exact ⟨Z, own, ρ, _, ρ1, rs, e1, fun v Z1 own1 H1 S1 rs1 rm1 _ x1 => ⟨false, rm1.bl, iteF ⟨Z1, own1, ρ1, d, ρ', rs1, e, fun v Z2 own2 H2 S2 rs2 rm2 n2 x2 => k v Z2 own2 H2 S2 rs2 rm2 (fun a z => ⟨Classical.byContradiction fun n => x1.live a n (n2 a z).1, (n2 a z).2⟩) (x1.trans x2)⟩⟩⟩
  | .bl true, e1, e =>
    unfold mC at e; cases e
    exact ⟨Z, own, ρ, _, _, rs, e1, fun v Z1 own1 H1 S1 rs1 rm1 n1 x1 => ⟨true, rm1.bl, iteT (k _ Z1 own1 H1 S1 rs1 (by simp only [Rm, R, RSh]) n1 (x1.of and1))⟩⟩
theorem e_not (ha : PE X a (tE X.K τ q .sh ma)) : PE X (.UnaryOp .Not a pos) (tE X.K τ q .sh (m1 bNot ma)) := (pe_not ha).mono fun σ H Q ⟨Z, own, ρ, d, ρ', rs, e, k⟩ => by
  obtain ⟨x, ρ1, e1, e⟩ := bind_ok e
  obtain ⟨e3, rfl⟩ := ofO_ok e
  cases x with
  | bl c =>
    cases e3
    exact ⟨Z, own, ρ, _, ρ', rs, e1, fun v Z1 own1 H1 S1 rs1 rm1 n1 x1 => ⟨c, rm1.bl, k _ Z1 own1 H1 S1 rs1 (by simp only [Rm, R, RSh]) n1 x1⟩⟩
  | _ => cases e3
theorem chain_of {f g : D → D → Option D} : ∀ σ H Q, tE X.K τ (q1 && (q2 && q3)) .sh (mChain f g ma mb mc) σ H Q → tChain (rF2 X.K f) (rF2 X.K g) (tE X.K τ q1 .sh ma) (tE X.K τ q2 .sh mb) (tE X.K τ q3 .sh mc) σ H Q := fun σ H Q h => by
  obtain ⟨Z, own, ρ, d, ρ', rs, e, k⟩ := h
  obtain ⟨x, ρ1, e1, e⟩ := bind_ok e
  obtain ⟨y, ρ2, e2, e⟩ := bind_ok e
  obtain ⟨z, ρ3, e0, e⟩ := bind_ok e
  obtain ⟨e3, rfl⟩ := ofO_ok e0
  unfold tChain
  refine ⟨Z, own, ρ, x, ρ1, rs, e1, ?_⟩
  intro v Z1 own1 H1 S1 rs1 rm1 _ x1
  refine ⟨Z1, own1, ρ1, y, ρ3, rs1, e2, ?_⟩
  intro w Z2 own2 H2 S2 rs2 rm2 _ x2
  refine ⟨Z2, x, y, z, .inl (rs1.sh x2 rm1), .inl rm2, e3, ?_⟩
  intro u H3 S g3 r n3
  have rs3 := rs2.grow g3 n3
  have x3 : Ext true Z2 own2 H2 (fun a => Z2 a ∨ S a) own2 H3 := ExtF.grow g3 n3
  have x13 : Ext (q1 && (q2 && q3)) Z own H (fun a => Z2 a ∨ S a) own2 H3 := (x1.trans' (q := q1 && (q2 && q3)) (fun z => ⟨and1 z, and1 (and2 z).2⟩) x2).trans' (fun z => ⟨z, rfl⟩) x3
  cases z with
  | bl c =>
    have ru : u = .bl c := by have := r.freeze; simpa only [RSh] using this
    refine ⟨c, ru, ?_⟩
    cases c with
    | true =>
      obtain ⟨w3, ρ4, e4, e⟩ := bind_ok e
      obtain ⟨e5, rfl⟩ := ofO_ok e
      rw [if_pos rfl]
      refine ⟨_, own2, ρ3, w3, ρ', rs3, e4, ?_⟩
      intro v4 Z4 own4 H4 S4 rs4 rm4 _ x4
      refine ⟨Z4, y, w3, d, .inl (rs3.sh x4 (rs2.sh x3 rm2)), .inl rm4, e5, ?_⟩
      intro u H5 S5 g5 r5 n5
      exact fin_sh rs4 (x13.trans' (fun z => ⟨z, (and2 (and2 z).2).2⟩) x4) g5 r5 n5 k
    | false =>
      cases e
      rw [if_neg Bool.false_ne_true]
      exact k _ _ own2 H3 (fun _ => False) rs3 (by simp only [Rm, R, RSh]) (fun _ z => z.elim) x13
  | _ => cases e
theorem t_chain {f g : D → D → Option D} {op op' : CmpOp} (ho : OpR X (compareOp op) (rF2 X.K f)) (ho' : OpR X (compareOp op') (rF2 X.K g)) (ha : PE X a (tE X.K τ q1 .sh ma)) (hb : PE X b (tE X.K τ q2 .sh mb)) (hc : PE X c (tE X.K τ q3 .sh mc))
    (h1 : lastMarks [op, op'] [b, c] = false := by with_unfolding_all rfl) : PT X (.Compare a [op, op'] [b, c] pos) (tT X.K τ (q1 && (q2 && q3)) (mChain f g ma mb mc)) := (pt_chain ho ho' ha hb hc h1).mono fun σ H Q h => chain_of σ H _ (tT_of σ H Q h)
end
inductive Fl where
  | nx | ret (d : D) | brk | cnt
abbrev MS := M Fl
def Fix (fx : Nat → Bool) (σ σ' : St) : Prop := σ'.length = σ.length ∧ ∀ k, fx k = true → σ'[k]? = σ[k]?
theorem Fix.refl {fx : Nat → Bool} {σ : St} : Fix fx σ σ := ⟨rfl, fun _ _ => rfl⟩
theorem Fix.trans {fx : Nat → Bool} {σ σ1 σ2 : St} (a : Fix fx σ σ1) (b : Fix fx σ1 σ2) : Fix fx σ σ2 := ⟨b.1.trans a.1, fun k h => (b.2 k h).trans (a.2 k h)⟩
structure Fr where
  τ : Nat → OT
  fx : Nat → Bool
  rt : OT
/-- what is handed back: new, or given up by a slot -/
def GivR (fx : Nat → Bool) (own : Addr → Option Nat) (H : Hp) (Z' : Addr → Prop) (own' : Addr → Option Nat) (H' : Hp) (S : Addr → Prop) : Prop :=
  ∀ a, S a → (H a = none ∨ ∃ i, own a = some i ∧ fx i = false) ∧ own' a = none ∧ ¬ Z' a ∧ ∃ o, H' a = some o ∧ Mut o
def Out [Tb] (K : PySem.W.Frag) (F : Fr) (Z : Addr → Prop) (own : Addr → Option Nat) (H : Hp) (σ : St) (ρ' : Sl) (E : Ends) : Fl → Prop
  | .nx => ∀ σ' Z' own' H', RS K F.τ Z' own' H' ρ' σ' → Fix F.fx σ σ' → ExtF F.fx false Z own H Z' own' H' → E.nx σ' H'
  | .brk => ∀ σ' Z' own' H', RS K F.τ Z' own' H' ρ' σ' → Fix F.fx σ σ' → ExtF F.fx false Z own H Z' own' H' → E.bk σ' H'
  | .cnt => ∀ σ' Z' own' H', RS K F.τ Z' own' H' ρ' σ' → Fix F.fx σ σ' → ExtF F.fx false Z own H Z' own' H' → E.ct σ' H'
  | .ret d => ∀ v σ' Z' own' H' S, RS K F.τ Z' own' H' ρ' σ' → Fix F.fx σ σ' → R K Z' H' F.rt d v S → GivR F.fx own H Z' own' H' S → ExtF F.fx false Z own H Z' own' H' → E.rt v H'
def tS [Tb] (K : PySem.W.Frag) (F : Fr) (m : MS) : TS := fun E σ H => ∃ Z own ρ f ρ', RS K F.τ Z own H ρ σ ∧ m ρ = .ok (f, ρ') ∧ Out K F Z own H σ ρ' E f
def sK (f : Fl) : MS := fun ρ => .ok (f, ρ)
def sSeq (a b : MS) : MS := bind a fun f => match f with | .nx => b | f => sK f
def sIf (c : M D) (a b : MS) : MS := bind c fun x => match x with | .bl true => a | .bl false => b | _ => fun _ => .bad
def sRet (e : M D) : MS := bind e fun d => sK (.ret d)
def sExp (e : M D) : MS := bind e fun _ => sK .nx
abbrev Pt := D → Sl → Option Sl
def pN (i : Nat) : Pt := fun d ρ => some (ρ.set i (some d))
abbrev Pts := List D → Sl → Option Sl
def psN : Pts := fun l ρ => match l with | [] => some ρ | _ => none
def psC (p : Pt) (r : Pts) : Pts := fun l ρ => match l with | d :: ds => (p d ρ).bind (r ds) | [] => none
def pT (n : Nat) (ps : Pts) : Pt := fun d ρ => match d with | .tup l => if l.length = n then ps l ρ else none | .lst l => if l.length = n then ps l ρ else none | _ => none
def sAsg (p : Pt) (e : M D) : MS := bind e fun d => fun ρ => match p d ρ with | some ρ' => .ok (.nx, ρ') | none => .bad
def sPar (i j : Nat) (es : M (List D)) : MS := bind es fun vs => fun ρ => match vs with | [v, w] => .ok (.nx, (ρ.set i (some v)).set j (some w)) | _ => .bad
section
variable [Tb] {K : PySem.W.Frag} {τ : Nat → OT} {Z Z1 Z2 : Addr → Prop} {own own1 own2 : Addr → Option Nat} {H H1 H2 : Hp} {ρ : Sl} {σ : St} {S : Addr → Prop}
theorem NewR.giv {fx : Nat → Bool} (n : NewR H Z2 own2 H2 S) : GivR fx own H Z2 own2 H2 S := fun a z => ⟨.inl (n a z).1, (n a z).2⟩
theorem GivR.back {fx : Nat → Bool} {q : Bool} (x : ExtF fx q Z own H Z1 own1 H1) (n : GivR fx own1 H1 Z2 own2 H2 S) : GivR fx own H Z2 own2 H2 S := fun a z => by
  refine ⟨?_, (n a z).2⟩
  rcases (n a z).1 with h | ⟨i, h, hf⟩
  · exact .inl (x.back h)
  · exact (x.on a i h).elim (fun z => .inr ⟨i, z, hf⟩) .inl
theorem Out.back {F : Fr} {σ1 : St} {ρ' : Sl} {E : Ends} {q : Bool} (x : ExtF F.fx q Z own H Z1 own1 H1) (fx : Fix F.fx σ σ1) {f : Fl} (o : Out K F Z own H σ ρ' E f) : Out K F Z1 own1 H1 σ1 ρ' E f := by
  cases f with
  | nx => exact fun σ' Z' own' H' r1 r2 r3 => o σ' Z' own' H' r1 (fx.trans r2) (x.transF r3)
  | brk => exact fun σ' Z' own' H' r1 r2 r3 => o σ' Z' own' H' r1 (fx.trans r2) (x.transF r3)
  | cnt => exact fun σ' Z' own' H' r1 r2 r3 => o σ' Z' own' H' r1 (fx.trans r2) (x.transF r3)
  | ret d => exact fun v σ' Z' own' H' S r1 r2 r3 r4 r5 => o v σ' Z' own' H' S r1 (fx.trans r2) r3 (r4.back x) (x.transF r5)
/-- a slot's shared value -/
theorem RS.set (h : RS K τ Z own H ρ σ) {i : Nat} {d : D} {v : V} (ht : τ i = .sh) (r : RSh K Z H d v) : RS K τ Z own H (ρ.set i (some d)) (σ.set i (some v)) where
  sl := fun j d' e => by
    by_cases hij : i = j
    · subst hij
      rw [List.getElem?_set] at e
      split at e
      · split at e
        · rename_i hl
          cases e
          refine ⟨v, ?_, by rw [ht]; exact r⟩
          rw [List.getElem?_set]
          have := h.len
          simp; omega
        · cases e
      · rename_i n; exact absurd rfl n
    · rw [List.getElem?_set_ne hij] at e
      obtain ⟨w, e1, e2⟩ := h.sl j d' e
      exact ⟨w, by rw [List.getElem?_set_ne hij]; exact e1, e2⟩
  ls := h.ls
  dz := h.dz
  zt := h.zt
  len := by simpa using h.len
  tb := h.tb
/-- a slot's own new list -/
theorem RS.setO (h : RS K τ Z own H ρ σ) {i : Nat} {d : D} {v : V} {t1 : OT} (ht : τ i = t1) (r : R K Z H t1 d v S) (hS : ∀ a, S a → own a = none ∧ ¬ Z a ∧ ∃ o, H a = some o ∧ Mut o) :
    ∃ own', RS K τ Z own' H (ρ.set i (some d)) (σ.set i (some v)) ∧ ∀ a j, own' a = some j → own a = some j ∨ S a := by
  classical
  refine ⟨fun a => if S a then some i else if own a = some i then none else own a, ⟨fun j d' e => ?_, fun a j e => ?_, fun a j e => ?_, h.zt, by simpa using h.len, h.tb⟩, fun a j e => ?_⟩
  · by_cases hij : i = j
    · subst hij
      rw [List.getElem?_set] at e
      split at e
      · split at e
        · rename_i hl
          cases e
          refine ⟨v, ?_, by rw [ht]; exact R.mono r fun a s => if_pos s⟩
          rw [List.getElem?_set]
          have := h.len
          simp; omega
        · cases e
      · rename_i n; exact absurd rfl n
    · rw [List.getElem?_set_ne hij] at e
      obtain ⟨w, e1, e2⟩ := h.sl j d' e
      refine ⟨w, by rw [List.getElem?_set_ne hij]; exact e1, R.mono e2 fun a ha => ?_⟩
      have n1 : ¬ S a := fun s => by rw [(hS a s).1] at ha; cases ha
      have n2 : ¬ own a = some i := fun z => by rw [ha] at z; cases z; exact hij rfl
      show (if S a then some i else if own a = some i then none else own a) = some j
      rw [if_neg n1, if_neg n2]; exact ha
  · by_cases s : S a
    · exact (hS a s).2.2
    · rw [if_neg s] at e
      split at e
      · cases e
      · exact h.ls a j e
  · by_cases s : S a
    · exact (hS a s).2.1
    · rw [if_neg s] at e
      split at e
      · cases e
      · exact h.dz a j e
  · by_cases s : S a
    · exact .inr s
    · dsimp only at e
      rw [if_neg s] at e
      split at e
      · cases e
      · exact .inl e
end
/-- a target -/
def tG [Tb] (K : PySem.W.Frag) (τ : Nat → OT) (fx : Nat → Bool) (p : Pt) : TG := fun v σ H Q => ∃ Z own ρ d ρ', RS K τ Z own H ρ σ ∧ RSh K Z H d v ∧ p d ρ = some ρ' ∧ ∀ σ', RS K τ Z own H ρ' σ' → Fix fx σ σ' → Q σ' H
def tGs [Tb] (K : PySem.W.Frag) (τ : Nat → OT) (fx : Nat → Bool) (p : Pts) : TGs := fun vs σ H Q => ∃ Z own ρ ds ρ', RS K τ Z own H ρ σ ∧ RShL K Z H ds vs ∧ p ds ρ = some ρ' ∧ ∀ σ', RS K τ Z own H ρ' σ' → Fix fx σ σ' → Q σ' H
theorem _root_.L2.PG.mono {X : Cx} {tg : Expr} {t t' : TG} (h : PG X tg t) (f : ∀ v σ H Q, t' v σ H Q → t v σ H Q) : PG X tg t' := ⟨fun pins s σ H v u Q I r hw => h.run pins s σ H v u Q I r (f v σ H Q hw)⟩
theorem _root_.L2.PGs.mono {X : Cx} {tg : List Expr} {t t' : TGs} (h : PGs X tg t) (f : ∀ v σ H Q, t' v σ H Q → t v σ H Q) : PGs X tg t' := ⟨fun pins s σ H v u Q I r hw => h.run pins s σ H v u Q I r (f v σ H Q hw)⟩
theorem Fix.set {fx : Nat → Bool} {σ : St} {i : Nat} {v : Option V} (h : fx i = false) : Fix fx σ (σ.set i v) := ⟨by simp, fun k hk => by
  rw [List.getElem?_set_ne]
  rintro rfl
  rw [h] at hk; cases hk⟩
section
variable [Tb] {X : Cx} {τ : Nat → OT} {fx : Nat → Bool} {tg e : Expr} {tgs : List Expr} {pos : Pos} {p : Pt} {ps : Pts}
theorem g_n (i : Nat) {x : Str} (hN : X.N.Nodup) (ht : τ i = .sh := by rfl) (hfx : fx i = false := by rfl) (hi : X.N[i]? = some x := by rfl) (hx : Loc X.env.scope x := by first | exact Or.inl rfl | exact Or.inr rfl) (hf : X.fn x = true ∨ X.env.scope.names.lookup x = some .local := by first | exact .inl rfl | exact .inr rfl | assumption) :
    PG X (.Name x pos) (tG X.K τ fx (pN i)) := (pg_name hN hi hx hf).mono fun v σ H Q ⟨Z, own, ρ, d, ρ', rs, r, e, k⟩ => by
  unfold pN at e; cases e
  exact k _ (rs.set ht r) (.set hfx)
theorem gs_nil : PGs X [] (tGs X.K τ fx psN) := pgs_nil.mono fun vs σ H Q ⟨Z, own, ρ, ds, ρ', rs, r, e, k⟩ => by
  cases ds with
  | nil => simp only [RShL] at r; unfold psN at e; cases e; exact ⟨r, k σ rs Fix.refl⟩
  | cons _ _ => unfold psN at e; cases e
theorem tGs_cons : ∀ v σ H Q, tGs X.K τ fx (psC p ps) v σ H Q → gCons (tG X.K τ fx p) (tGs X.K τ fx ps) v σ H Q := fun vs σ H Q ⟨Z, own, ρ, ds, ρ', rs, r, e, k⟩ => by
  cases ds with
  | nil => unfold psC at e; cases e
  | cons d ds =>
    simp only [RShL] at r
    obtain ⟨w, ws, rfl, r1, r2⟩ := r
    have e : (p d ρ).bind (ps ds) = some ρ' := e
    obtain ⟨ρ1, e1, e2⟩ := Option.bind_eq_some_iff.mp e
    exact ⟨w, ws, rfl, Z, own, ρ, d, ρ1, rs, r1, e1, fun σ1 rs1 f1 => ⟨Z, own, ρ1, ds, ρ', rs1, r2, e2, fun σ2 rs2 f2 => k σ2 rs2 (f1.trans f2)⟩⟩
end
end CL
namespace CL
open PySem PySem.Spec L2
set_option autoImplicit false
section
variable [Tb] {X : Cx} {F : Fr} {q q1 q2 q3 : Bool} {md md1 md2 : Md} {a b c e tg : Expr} {es tgs : List Expr} {ma mb mc : M D} {ms : M (List D)} {pos : Pos} {st : Stmt} {sts sts2 : List Stmt} {sa sb : MS} {p : Pt} {ps : Pts} {τ : Nat → OT} {fx : Nat → Bool}
theorem gs_cons (h1 : PG X e (tG X.K τ fx p)) (h2 : PGs X es (tGs X.K τ fx ps)) (hs : (assignEach (e :: es) X.env).map (·.2) = assign e X.env :: (assignEach es X.env).map (·.2) := by rfl) : PGs X (e :: es) (tGs X.K τ fx (psC p ps)) := (pgs_cons h1 h2 hs).mono tGs_cons
theorem g_t {n k : Nat} (h : PGs X es (tGs X.K τ fx ps)) (hc : X.calm = true := by rfl) (hn : (assignEach es X.env).length = n := by rfl) (hst : (assignEach es X.env).findIdx? (·.1) = none := by rfl) : PG X (.Tuple es k pos) (tG X.K τ fx (pT n ps)) := by
  refine ⟨fun pins s σ H v u Q I rv ⟨Z, own, ρ, d, ρ', rs, r, e, k⟩ => ?_⟩
  cases d with
  | tup l =>
    have e : (if l.length = n then ps l ρ else none) = some ρ' := e
    split at e
    · rename_i hl
      simp only [RSh] at r
      obtain ⟨a, xs, rfl, s1, rl⟩ := r
      exact (pg_tup hc h hn hst).run pins s σ H _ u Q I rv ⟨a, xs, rfl, s1, by rw [← rl.len]; exact hl, Z, own, ρ, l, ρ', rs, rl, e, k⟩
    · cases e
  | lst l =>
    have e : (if l.length = n then ps l ρ else none) = some ρ' := e
    split at e
    · rename_i hl
      simp only [RSh] at r
      obtain ⟨a, xs, rfl, z, s1, rl⟩ := r
      exact (pg_unl hc h hn hst).run pins s σ H _ u Q I rv ⟨a, xs, rfl, SqL.of s1, by rw [← rl.len]; exact hl, Z, own, ρ, l, ρ', rs, rl, e, k⟩
    · cases e
  | _ => cases e
theorem ss_nil : PSs X [] (tS X.K F (sK .nx)) := pss_nil.mono fun E σ H ⟨Z, own, ρ, f, ρ', rs, e, o⟩ => by
  unfold sK at e; cases e
  exact o σ Z own H rs Fix.refl ExtF.refl
theorem ss_one (h : PS X st (tS X.K F sa)) : PSs X [st] (tS X.K F sa) := pss_one h
theorem ss_cons (h : PS X st (tS X.K F sa)) (hr : PSs X sts (tS X.K F sb)) : PSs X (st :: sts) (tS X.K F (sSeq sa sb)) := (pss_cons h hr).mono fun E σ H ⟨Z, own, ρ, f, ρ', rs, e, o⟩ => by
  obtain ⟨f1, ρ1, e1, e⟩ := bind_ok e
  cases f1 with
  | nx => exact ⟨Z, own, ρ, .nx, ρ1, rs, e1, fun σ1 Z1 own1 H1 rs1 f1 x1 => ⟨Z1, own1, ρ1, f, ρ', rs1, e, o.back x1 f1⟩⟩
  | ret d => cases e; exact ⟨Z, own, ρ, _, _, rs, e1, o⟩
  | brk => cases e; exact ⟨Z, own, ρ, _, _, rs, e1, o⟩
  | cnt => cases e; exact ⟨Z, own, ρ, _, _, rs, e1, o⟩
theorem s_if (hc : PT X c (tT X.K F.τ q mc)) (ha : PSs X sts (tS X.K F sa)) (hb : PSs X sts2 (tS X.K F sb)) : PS X (.If c sts sts2 pos) (tS X.K F (sIf mc sa sb)) := (ps_if hc ha hb).mono fun E σ H ⟨Z, own, ρ, f, ρ', rs, e, o⟩ => by
  obtain ⟨x, ρ1, e1, e⟩ := bind_ok e
  cases x with
  | bl b =>
    cases b with
    | true => exact ⟨Z, own, ρ, true, ρ1, rs, e1, fun Z1 own1 H1 rs1 x1 => iteT ⟨Z1, own1, ρ1, f, ρ', rs1, e, o.back x1.any Fix.refl⟩⟩
    | false => exact ⟨Z, own, ρ, false, ρ1, rs, e1, fun Z1 own1 H1 rs1 x1 => iteF ⟨Z1, own1, ρ1, f, ρ', rs1, e, o.back x1.any Fix.refl⟩⟩
  | _ => cases e
theorem s_ret (he : PE X e (tE X.K F.τ q (.ow F.rt) ma)) : PS X (.Return (some e) pos) (tS X.K F (sRet ma)) := (ps_ret he).mono fun E σ H ⟨Z, own, ρ, f, ρ', rs, e, o⟩ => by
  obtain ⟨x, ρ1, e1, e⟩ := bind_ok e
  cases e
  exact ⟨Z, own, ρ, x, _, rs, e1, fun v Z1 own1 H1 S rs1 rm n x1 => o v σ Z1 own1 H1 S rs1 Fix.refl rm n.giv x1.weak.any⟩
theorem s_exp (he : PE X e (tE X.K F.τ q .pk ma)) (hs : swapsWith e none pos.line X.env = pure false := by rfl) : PS X (.Expr e pos) (tS X.K F (sExp ma)) := (ps_expr he hs).mono fun E σ H ⟨Z, own, ρ, f, ρ', rs, e, o⟩ => by
  obtain ⟨x, ρ1, e1, e⟩ := bind_ok e
  cases e
  exact ⟨Z, own, ρ, x, _, rs, e1, fun v Z1 own1 H1 S rs1 rm n x1 => o σ Z1 own1 H1 rs1 Fix.refl x1.weak.any⟩
theorem name_of {i : Nat} (ht : F.τ i = .sh) (hfx : F.fx i = false) : ∀ E σ H, tS X.K F (sAsg (pN i) ma) E σ H → tAsg (tE X.K F.τ q .sh ma) (gName i) E σ H := fun E σ H ⟨Z, own, ρ, f, ρ', rs, e, o⟩ => by
  obtain ⟨x, ρ1, e1, e⟩ := bind_ok e
  cases e
  exact ⟨Z, own, ρ, x, ρ1, rs, e1, fun v Z1 own1 H1 S rs1 rm n x1 => o _ Z1 own1 H1 (rs1.set ht rm) (.set hfx) x1.weak.any⟩
theorem nameO_of {i : Nat} {t1 : OT} (ht : F.τ i = t1) (hfx : F.fx i = false) : ∀ E σ H, tS X.K F (sAsg (pN i) ma) E σ H → tAsg (tE X.K F.τ q (.ow t1) ma) (gName i) E σ H := fun E σ H ⟨Z, own, ρ, f, ρ', rs, e, o⟩ => by
  obtain ⟨x, ρ1, e1, e⟩ := bind_ok e
  cases e
  refine ⟨Z, own, ρ, x, ρ1, rs, e1, fun v Z1 own1 H1 S rs1 rm n x1 => ?_⟩
  obtain ⟨own2, rs2, h2⟩ := rs1.setO ht rm fun a s => (n a s).2
  refine o _ Z1 own2 H1 rs2 (.set hfx) ⟨x1.z, fun a z => (ExtF.any (fx := F.fx) x1).zn a z, fun a j e => ?_, fun a o e h n => x1.weak.keep a o e h n, x1.live, x1.tk⟩
  rcases h2 a j e with h | h
  · exact x1.on a j h
  · exact .inr (n a h).1
/-- name = e -/
theorem s_set (i : Nat) {x : Str} {pos' : Pos} (hN : X.N.Nodup) (he : PE X e (tE X.K F.τ q .sh ma)) (ht : F.τ i = .sh := by rfl) (hfx : F.fx i = false := by rfl) (hi : X.N[i]? = some x := by rfl) (hx : Loc X.env.scope x := by first | exact Or.inl rfl | exact Or.inr rfl) (hs : swapsWith e (some (.Name x pos')) pos.line X.env = pure false := by rfl)
    (hf : X.fn x = true ∨ X.env.scope.names.lookup x = some .local := by first | exact .inl rfl | exact .inr rfl | assumption) : PS X (.Assign [.Name x pos'] e pos) (tS X.K F (sAsg (pN i) ma)) := (ps_set hN hi hx he hs hf).mono (name_of ht hfx)
/-- name = a new list of its own -/
theorem s_setO (i : Nat) {t1 : OT} {x : Str} {pos' : Pos} (hN : X.N.Nodup) (he : PE X e (tE X.K F.τ q (.ow t1) ma)) (ht : F.τ i = t1 := by rfl) (hfx : F.fx i = false := by rfl) (hi : X.N[i]? = some x := by rfl) (hx : Loc X.env.scope x := by first | exact Or.inl rfl | exact Or.inr rfl) (hs : swapsWith e (some (.Name x pos')) pos.line X.env = pure false := by rfl)
    (hf : X.fn x = true ∨ X.env.scope.names.lookup x = some .local := by first | exact .inl rfl | exact .inr rfl | assumption) : PS X (.Assign [.Name x pos'] e pos) (tS X.K F (sAsg (pN i) ma)) := (ps_set hN hi hx he hs hf).mono (nameO_of ht hfx)
/-- a, b = e1, e2 -/
theorem s_par (i j : Nat) {x y : Str} {px py pt pt2 : Pos} {kt k2 : Nat} (hN : X.N.Nodup) (ha : PA X [a, b] (tAs X.K F.τ q ms)) (hti : F.τ i = .sh := by rfl) (htj : F.τ j = .sh := by rfl) (hfi : F.fx i = false := by rfl) (hfj : F.fx j = false := by rfl) (hi : X.N[i]? = some x := by rfl) (hj : X.N[j]? = some y := by rfl) (hij : i ≠ j := by decide)
    (hx : X.env.scope.names.lookup x = some .local := by rfl) (hy : X.env.scope.names.lookup y = some .local := by rfl) (hc : X.calm = true := by rfl)
    (hw : swappedStores [.Tuple [.Name x px, .Name y py] kt pt] (.Tuple [a, b] k2 pt2) X.env = pure (some [x, y]) := by rfl)
    (hs : swapsWithSole [.Tuple [.Name x px, .Name y py] kt pt] (.Tuple [a, b] k2 pt2) pos.line X.env = pure false := by rfl) :
    PS X (.Assign [.Tuple [.Name x px, .Name y py] kt pt] (.Tuple [a, b] k2 pt2) pos) (tS X.K F (sPar i j ms)) := (ps_par hc hN hi hj hij hx hy ha hw hs).mono fun E σ H ⟨Z, own, ρ, f, ρ', rs, e, o⟩ => by
  obtain ⟨xs, ρ1, e1, e⟩ := bind_ok e
  match xs, e1, e with
  | [v, w], e1, e =>
    cases e
    refine ⟨Z, own, ρ, _, ρ1, rs, e1, fun vs Z1 own1 H1 rs1 rl x1 => ?_⟩
    simp only [RShL] at rl
    obtain ⟨v1, w1, rfl, r1, v2, w2, rfl, r2, rfl⟩ := rl
    exact ⟨v1, v2, rfl, o _ Z1 own1 H1 ((rs1.set hti r1).set htj r2) ((Fix.set hfi).trans (Fix.set hfj)) x1.weak.any⟩
def sFz (i : Nat) (m : MS) : MS := fun ρ => match m ρ with | .ok (f, ρ') => .ok (f, ρ'.set i none) | .exc e => .exc e | .bad => .bad
def Fr.fz (F : Fr) (i : Nat) : Fr := { F with τ := fun j => if j = i then .sh else F.τ j }
theorem RS.forget {K : PySem.W.Frag} {τ τ' : Nat → OT} {Z : Addr → Prop} {own : Addr → Option Nat} {H : Hp} {ρ : Sl} {σ : St} {i : Nat} (h : RS K τ Z own H ρ σ) (ht : ∀ j, j ≠ i → τ' j = τ j) : RS K τ' Z own H (ρ.set i none) σ where
  sl := fun j d e => by
    by_cases hij : i = j
    · subst hij
      rw [List.getElem?_set] at e
      split at e
      · split at e <;> cases e
      · rename_i n; exact absurd rfl n
    · rw [List.getElem?_set_ne hij] at e
      obtain ⟨w, e1, e2⟩ := h.sl j d e
      exact ⟨w, e1, by rw [ht j (Ne.symm hij)]; exact e2⟩
  ls := h.ls
  dz := h.dz
  zt := h.zt
  len := by simpa using h.len
  tb := h.tb
theorem ss_fz (i : Nat) (hfx : F.fx i = false := by rfl) (hr : PSs X sts (tS X.K (F.fz i) sa)) : PSs X sts (tS X.K F (sFz i sa)) := hr.mono fun E σ H ⟨Z, own, ρ, f, ρ', rs, e, o⟩ => by
  unfold sFz at e
  split at e
  · rename_i f1 ρ1 e1
    cases e
    classical
    have rs' : RS X.K (F.fz i).τ (fun a => Z a ∨ own a = some i) (fun a => if own a = some i then none else own a) H ρ σ := by
      refine ⟨fun j d e => ?_, fun a j e => ?_, fun a j e z => ?_, fun a z => z.elim (rs.zt a) fun z e => ?_, rs.len, rs.tb⟩
      · obtain ⟨v, h1, h2⟩ := rs.sl j d e
        refine ⟨v, h1, ?_⟩
        show R X.K _ H (if j = i then .sh else F.τ j) d v _
        by_cases hij : j = i
        · rw [if_pos hij]; subst hij; exact R.freeze h2
        · rw [if_neg hij]
          refine R.pres (fun _ z => .inl z) (fun _ _ s _ _ => s) (fun _ _ _ s _ => s) (fun _ _ _ e _ => e) (R.mono h2 fun a ha => ?_)
          show (if own a = some i then none else own a) = some j
          rw [if_neg (fun z => by rw [ha] at z; cases z; exact hij rfl)]; exact ha
      · split at e
        · cases e
        · exact rs.ls a j e
      · split at e
        · cases e
        · rename_i n
          rcases z with z | z
          · exact rs.dz a j e z
          · exact n z
      · obtain ⟨xs, hx, _⟩ := rs.ls a i z
        rw [hx] at e; cases e
    have x0 : ExtF F.fx true Z own H (fun a => Z a ∨ own a = some i) (fun a => if own a = some i then none else own a) H :=
      ⟨fun _ z => .inl z, fun a z => z.elim .inl fun z => .inr (.inr ⟨i, z, hfx⟩), fun a j e => by
        split at e
        · cases e
        · exact .inl e, fun _ _ e _ _ => e, fun _ e => e, .refl⟩
    have ht : ∀ j, j ≠ i → F.τ j = (F.fz i).τ j := fun j hj => (if_neg hj).symm
    refine ⟨_, _, ρ, f, ρ1, rs', e1, ?_⟩
    cases f with
    | nx => exact fun σ' Z' own' H' r1 r2 r3 => o σ' Z' own' H' (r1.forget ht) r2 (x0.transF r3)
    | brk => exact fun σ' Z' own' H' r1 r2 r3 => o σ' Z' own' H' (r1.forget ht) r2 (x0.transF r3)
    | cnt => exact fun σ' Z' own' H' r1 r2 r3 => o σ' Z' own' H' (r1.forget ht) r2 (x0.transF r3)
    | ret d => exact fun v σ' Z' own' H' S r1 r2 r3 r4 r5 => o v σ' Z' own' H' S (r1.forget ht) r2 r3 (r4.back x0) (x0.transF r5)
  · cases e
  · cases e
end
def LaterH [Tb] (K : PySem.W.Frag) (Z : Addr → Prop) (H : Hp) (Z1 : Addr → Prop) (H1 : Hp) : Prop := (∀ a, Z a → Z1 a) ∧ NL H H1 ∧ (∀ a o, Z a → H a = some o → NT o → H1 a = some o)
structure WalkD [Tb] (K : PySem.W.Frag) (Z : Addr → Prop) (H : Hp) (J : It) (ds : List D) : Prop where
  go : ∀ Z1 H1, LaterH K Z H Z1 H1 → ∀ i, i < ds.length → J.go i H1
  yl : ∀ Z1 H1, LaterH K Z H Z1 H1 → ∀ i d, ds[i]? = some d → ∀ x H2, J.yld i H1 x H2 → Grow H1 H2 ∧ RSh K Z1 H2 d x
  st : ∀ Z1 H1, LaterH K Z H Z1 H1 → J.stop ds.length H1
  sz : ds.length ≤ sizeLine
def tI [Tb] (K : PySem.W.Frag) (τ : Nat → OT) (q : Bool) (m : M (List D)) : TI := fun σ H R => ∃ Z own ρ ds ρ', RS K τ Z own H ρ σ ∧ m ρ = .ok (ds, ρ') ∧
  ∀ J Z' own' H', RS K τ Z' own' H' ρ' σ → WalkD K Z' H' J ds → Ext q Z own H Z' own' H' → R J H'
theorem RS.later [Tb] {K : PySem.W.Frag} {τ : Nat → OT} {Z Z1 : Addr → Prop} {own own1 : Addr → Option Nat} {H H1 : Hp} {ρ : Sl} {σ : St} {q : Bool} {fx : Nat → Bool} (h : RS K τ Z own H ρ σ) (e : ExtF fx q Z own H Z1 own1 H1) : LaterH K Z H Z1 H1 := ⟨e.z, h.nl e, fun _ _ z s n => h.kz e (.inl z) s⟩
def forL (p : Pt) (b : MS) : List D → MS
  | [] => sK .nx
  | x :: xs => fun ρ => match p x ρ with
    | none => .bad
    | some ρ1 => match b ρ1 with
      | .ok (.nx, ρ2) => forL p b xs ρ2
      | .ok (.cnt, ρ2) => forL p b xs ρ2
      | .ok (.brk, ρ2) => .ok (.nx, ρ2)
      | .ok (.ret d, ρ2) => .ok (.ret d, ρ2)
      | .exc e => .exc e
      | .bad => .bad
def sFor (p : Pt) (it : M (List D)) (b : MS) : MS := bind it fun xs => forL p b xs
section
variable [Tb] {X : Cx} {F : Fr} {q q1 q2 q3 : Bool} {c iter tg : Expr} {mc : M D} {mi : M (List D)} {pos : Pos} {sts : List Stmt} {sb : MS} {p : Pt}
theorem s_for (hi : PI X tg iter (tI X.K F.τ q mi)) (hg : PG X tg (tG X.K F.τ F.fx p)) (hb : PSs X sts (tS X.K F sb)) (hp : PassesOwn (model X.prog X.w) X.A X.env X.xe := by exact PassesOwn.never) (hc : X.calm = true := by rfl)
    (hs : ∀ x, foldedSetIterable iter X.env x = pure x := by intro _; rfl) : PS X (.For tg iter sts [] pos) (tS X.K F (sFor p mi sb)) := (ps_for hp hc hi hg hb hs).mono fun E σ H ⟨Z, own, ρ, f, ρ', rs, e, o⟩ => by
  obtain ⟨ds, ρ0, e0, e⟩ := bind_ok e
  refine ⟨Z, own, ρ, ds, ρ0, rs, e0, fun J Z1 own1 H1 rs1 w x1 => ?_⟩
  refine ⟨fun i m σ' H' => m = ds.length - i ∧ i ≤ ds.length ∧ ∃ Z2 own2 ρ2, RS X.K F.τ Z2 own2 H' ρ2 σ' ∧ Fix F.fx σ σ' ∧ ExtF F.fx false Z1 own1 H1 Z2 own2 H' ∧ forL p sb (ds.drop i) ρ2 = .ok (f, ρ'),
    ⟨ds.length, by simp, Nat.zero_le _, Z1, own1, ρ0, rs1, Fix.refl, ExtF.refl, by simpa using e⟩, ?_⟩
  rintro i m σ2 H2 ⟨rfl, hi, Z2, own2, ρ2, rs2, f2, x2, e2⟩
  have lt := rs1.later x2
  by_cases hlt : i < ds.length
  · refine .inr ⟨w.go Z2 H2 lt i hlt, fun σ' H' => ∃ Z3 own3 ρ3, RS X.K F.τ Z3 own3 H' ρ3 σ' ∧ Fix F.fx σ σ' ∧ ExtF F.fx false Z1 own1 H1 Z3 own3 H' ∧ forL p sb (ds.drop (i + 1)) ρ3 = .ok (f, ρ'),
      fun σ' H' h => ⟨ds.length - (i + 1), by omega, rfl, hlt, h⟩, fun x H3 y => ?_⟩
    obtain ⟨d, hd⟩ : ∃ d, ds[i]? = some d := ⟨ds[i], by simp [hlt]⟩
    obtain ⟨g, r⟩ := w.yl Z2 H2 lt i d hd x H3 y
    have ed : ds.drop i = d :: ds.drop (i + 1) := by
      rw [List.drop_eq_getElem_cons hlt]
      have : ds[i] = d := by
        have := List.getElem?_eq_getElem hlt
        rw [hd] at this; exact (Option.some.inj this).symm
      rw [this]
    rw [ed] at e2
    unfold forL at e2
    split at e2
    · cases e2
    · rename_i ρ4 e4
      have rs3 := rs2.growO g
      have x3 : ExtF F.fx false Z1 own1 H1 Z2 own2 H3 := x2.transF (ExtF.growO (q := false) g)
      refine ⟨Z2, own2, ρ2, d, ρ4, rs3, r, e4, fun σ4 rs4 f4 => ?_⟩
      split at e2
      · rename_i ρ5 e5
        exact ⟨Z2, own2, ρ4, .nx, ρ5, rs4, e5, fun σ5 Z5 own5 H5 rs5 f5 x5 => ⟨Z5, own5, ρ5, rs5, (f2.trans f4).trans f5, x3.transF x5, e2⟩⟩
      · rename_i ρ5 e5
        exact ⟨Z2, own2, ρ4, .cnt, ρ5, rs4, e5, fun σ5 Z5 own5 H5 rs5 f5 x5 => ⟨Z5, own5, ρ5, rs5, (f2.trans f4).trans f5, x3.transF x5, e2⟩⟩
      · rename_i ρ5 e5
        cases e2
        exact ⟨Z2, own2, ρ4, .brk, _, rs4, e5, fun σ5 Z5 own5 H5 rs5 f5 x5 => o σ5 Z5 own5 H5 rs5 ((f2.trans f4).trans f5) ((x1.any).transF (x3.transF x5))⟩
      · rename_i d' ρ5 e5
        cases e2
        exact ⟨Z2, own2, ρ4, .ret d', _, rs4, e5, (o.back (x1.any) Fix.refl).back (x3) (f2.trans f4)⟩
      · cases e2
      · cases e2
  · have ei : i = ds.length := by omega
    subst ei
    refine .inl ⟨w.st Z2 H2 lt, ?_⟩
    rw [List.drop_length] at e2
    unfold forL sK at e2
    cases e2
    exact o σ2 Z2 own2 H2 rs2 f2 ((x1.any).transF x2)
end
end CL
namespace CL
open PySem PySem.Spec L2
set_option autoImplicit false
theorem ints_rel {K : PySem.W.Frag} {Z : Addr → Prop} {H : Hp} : ∀ ns : List Int, RShL K Z H (ns.map D.int) (ns.map V.int)
  | [] => by simp only [List.map_nil, RShL]
  | n :: ns => by simp only [List.map_cons, RShL]; exact ⟨_, _, rfl, by simp only [RSh], ints_rel ns⟩
def signs (z : Str) : List D := z.cps.toList.map fun c => .str ⟨#[c]⟩
def itemsOf : D → Option (List D)
  | .tup l => some l
  | .lst l => some l
  | .scr ns => some (ns.map D.int)
  | .str z => if z.cps.size ≤ 16777216 then some (signs z) else none
  | _ => none
def ofL (o : Option (List D)) : M (List D) := fun ρ => match o with | some d => .ok (d, ρ) | none => .bad
theorem ofL_ok {o : Option (List D)} {ρ ρ' : Sl} {d : List D} (h : ofL o ρ = .ok (d, ρ')) : o = some d ∧ ρ' = ρ := by
  unfold ofL at h
  split at h
  · cases h; exact ⟨rfl, rfl⟩
  · cases h
def mIt (m : M D) : M (List D) := bind m fun d => ofL (itemsOf d)
def rangeL (a b : Int) : List D := (List.range (b - a).toNat).map fun i => .int (a + (i : Nat))
def range1 : List D → Option (List D)
  | [.int b] => if b ≤ 16777216 ∧ -(2 ^ 62) ≤ b then some (rangeL 0 b) else none
  | _ => none
def mItN (f : List D → Option (List D)) (m : M (List D)) : M (List D) := bind m fun ds => ofL (f ds)
theorem szL : sizeLine = 16777216 := by decide
section
variable [Tb] {X : Cx} {τ : Nat → OT} {q : Bool} {tg e a b : Expr} {es : List Expr} {m : M D} {ms : M (List D)} {pos : Pos}
/-- a list, a tuple or a text that is walked -/
theorem pi_any {te : TE} (he : PE X e te) : PI X tg e (fun σ H Rk => te σ H fun x H1 => (∃ l xs, x = .ref l ∧ SqL X.K H1 l xs ∧ (xs.length ≤ sizeLine → Rk (Itl X.K l) H1)) ∨
    (∃ l xs, x = .ref l ∧ SqT X.K H1 l xs ∧ (xs.length ≤ sizeLine → Rk (Itt X.K l) H1)) ∨ ∃ z, x = .str z ∧ Rk (Its z) H1) := by
  constructor
  intro pins s0 σ H Rk I0 hw
  apply thn (he.run pins s0 σ H _ I0 hw)
  rintro val s2 ⟨x, H2, I2, rel, hx⟩
  rcases hx with ⟨l, xs, rfl, hs, k⟩ | ⟨l, xs, rfl, hs, k⟩ | ⟨z, rfl, k⟩
  · cases rel
    obtain ⟨vals, rvs, pl, sz⟩ := I2.list hs
    exact wpAny_pyIter_list pl.isList (pi_one (tk := s2.toks) I2 _ (turn_list l _) ⟨_, Heap.get?_push_size _ rfl, rfl, rfl⟩ (k sz))
  · cases rel
    obtain ⟨vals, rvs, pl, sz⟩ := I2.tuple hs
    exact wpAny_pyIter_tuple (show s2.heap.IsTuple l vals.toArray from pl) (pi_one (tk := s2.toks) I2 _ (turn_tuple l _) ⟨_, Heap.get?_push_size _ rfl, rfl, rfl⟩ (k sz))
  · obtain ⟨tok, rfl⟩ := rel
    cases hall : z.cps.all (· < 128) with
    | false => exact wpAny_pyIter_wide hall (pi_one (tk := s2.toks) I2 _ (turn_str _ z tok "str_iterator" (Or.inr rfl)) ⟨_, Heap.get?_push_size _ rfl, rfl, rfl⟩ k)
    | true => exact wpAny_pyIter_ascii hall (pi_one (tk := s2.toks) I2 _ (turn_str _ z tok "str_ascii_iterator" (Or.inl rfl)) ⟨_, Heap.get?_push_size _ rfl, rfl, rfl⟩ k)
theorem WalkD.list {K : PySem.W.Frag} {Z : Addr → Prop} {H : Hp} {l : Addr} {ds : List D} {xs : List V} (z : Z l ∨ KL K l xs) (s : SqL K H l xs) (r : RShL K Z H ds xs) (sz : xs.length ≤ sizeLine) : WalkD K Z H (Itl K l) ds where
  go := fun Z1 H1 lt i hi => ⟨xs, xs[i]'(by rw [← r.len]; exact hi), z.elim (fun z => sqL_keep (fun o => lt.2.2 l o z) s) (fun z => z _), List.getElem?_eq_getElem _⟩
  yl := fun Z1 H1 lt i d hd x H2 y => by
    obtain ⟨v, hv, rv⟩ := r.get hd
    obtain ⟨rfl, hy⟩ := y
    have := hy xs (z.elim (fun z => sqL_keep (fun o => lt.2.2 l o z) s) (fun z => z _))
    rw [hv] at this; cases this
    exact ⟨Grow.refl, RSh.pres lt.1 lt.2.1 lt.2.2 d _ rv⟩
  st := fun Z1 H1 lt => ⟨xs, z.elim (fun z => sqL_keep (fun o => lt.2.2 l o z) s) (fun z => z _), by rw [r.len]; exact Nat.le_refl _⟩
  sz := by rw [r.len]; exact sz
theorem WalkD.tuple {K : PySem.W.Frag} {Z : Addr → Prop} {H : Hp} {l : Addr} {ds : List D} {xs : List V} (s : SqT K H l xs) (r : RShL K Z H ds xs) (sz : xs.length ≤ sizeLine) : WalkD K Z H (Itt K l) ds where
  go := fun Z1 H1 lt i hi => ⟨xs, xs[i]'(by rw [← r.len]; exact hi), NL.sqT lt.2.1 s, List.getElem?_eq_getElem _⟩
  yl := fun Z1 H1 lt i d hd x H2 y => by
    obtain ⟨v, hv, rv⟩ := r.get hd
    obtain ⟨rfl, hy⟩ := y
    have := hy xs (NL.sqT lt.2.1 s)
    rw [hv] at this; cases this
    exact ⟨Grow.refl, RSh.pres lt.1 lt.2.1 lt.2.2 d _ rv⟩
  st := fun Z1 H1 lt => ⟨xs, NL.sqT lt.2.1 s, by rw [r.len]; exact Nat.le_refl _⟩
  sz := by rw [r.len]; exact sz
theorem i_any (he : PE X e (tE X.K τ q .sh m)) : PI X tg e (tI X.K τ q (mIt m)) := (pi_any he).mono fun σ H Rk ⟨Z, own, ρ, ds, ρ', rs, e, k⟩ => by
  obtain ⟨d, ρ1, e1, e⟩ := bind_ok e
  obtain ⟨e3, rfl⟩ := ofL_ok e
  refine ⟨Z, own, ρ, d, ρ', rs, e1, fun v Z1 own1 H1 S rs1 rm n x1 => ?_⟩
  cases d with
  | tup l =>
    cases e3
    simp only [Rm, R, RSh] at rm
    obtain ⟨a, xs, rfl, s, rl⟩ := rm
    exact .inr (.inl ⟨a, xs, rfl, s, fun sz => k _ Z1 own1 H1 rs1 (.tuple s rl sz) x1⟩)
  | lst l =>
    cases e3
    simp only [Rm, R, RSh] at rm
    obtain ⟨a, xs, rfl, z, s, rl⟩ := rm
    exact .inl ⟨a, xs, rfl, SqL.of s, fun sz => k _ Z1 own1 H1 rs1 (.list (.inl z) (SqL.of s) rl sz) x1⟩
  | scr ns =>
    cases e3
    simp only [Rm, R, RSh] at rm
    obtain ⟨a, rfl, z, s⟩ := rm
    exact .inl ⟨a, _, rfl, s, fun sz => k _ Z1 own1 H1 rs1 (.list z s (ints_rel ns) sz) x1⟩
  | str z =>
    simp only [itemsOf] at e3
    split at e3
    · rename_i hz
      cases e3
      simp only [Rm, R, RSh] at rm
      subst rm
      refine .inr (.inr ⟨z, rfl, k _ Z1 own1 H1 rs1 ⟨fun Z2 H2 lt i hi => ?_, fun Z2 H2 lt i d hd x H3 y => ?_, fun Z2 H2 lt => ?_, ?_⟩ x1⟩)
      · show i < z.cps.size
        simpa [signs] using hi
      · obtain ⟨rfl, c, hc, rfl⟩ := y
        refine ⟨Grow.refl, ?_⟩
        simp only [signs, List.getElem?_map, Array.getElem?_toList] at hd
        rw [hc] at hd
        cases hd
        simp only [RSh]
      · show z.cps.size ≤ (signs z).length
        simp [signs]
      · rw [szL]; simpa [signs] using hz
    · cases e3
  | _ => cases e3
theorem WalkD.range {K : PySem.W.Frag} {Z : Addr → Prop} {H : Hp} {a b : Int} (h : b - a ≤ 16777216) : WalkD K Z H (Itr a (b - a).toNat) (rangeL a b) where
  go := fun Z1 H1 lt i hi => by show i < (b - a).toNat; simpa [rangeL] using hi
  yl := fun Z1 H1 lt i d hd x H2 y => by
    obtain ⟨rfl, rfl⟩ := y
    refine ⟨Grow.refl, ?_⟩
    simp only [rangeL, List.getElem?_map] at hd
    obtain ⟨j, hj, rfl⟩ := Option.map_eq_some_iff.mp hd
    rw [List.getElem?_range (by
      have := (List.getElem?_eq_some_iff.mp hj).1
      simpa using this)] at hj
    cases hj
    simp only [RSh]
  st := fun Z1 H1 lt => by show (b - a).toNat ≤ _; simp [rangeL]
  sz := by rw [szL]; simp [rangeL]; omega
theorem Pk0.int {K : PySem.W.Frag} {Z : Addr → Prop} {H : Hp} {i : Int} {v : V} (h : Pk0 K Z H (.int i) v) : v = .int i := by
  rcases h with h | ⟨l, a, xs, e, _⟩
  · simpa only [RSh] using h
  · cases e
theorem i_range1 {p : Pos} (ha : PA X [a] (tA X.K τ q ms)) (hg : Gl X "range" := by rfl) (hm : X.mg "range" = none := by assumption) (hs : starEach [a] X.env = [(false, eval a X.env)] := by rfl) : PI X tg (.Call (.Name "range" p) [a] [] pos) (tI X.K τ q (mItN range1 ms)) := (pi_range1 hg hm ha hs).mono fun σ H Rk ⟨Z, own, ρ, ds, ρ', rs, e, k⟩ => by
  obtain ⟨d, ρ1, e1, e⟩ := bind_ok e
  obtain ⟨e3, rfl⟩ := ofL_ok e
  refine ⟨Z, own, ρ, d, ρ', rs, e1, fun vs Z1 own1 H1 rs1 rl x1 => ?_⟩
  unfold range1 at e3
  split at e3
  · rename_i b
    split at e3
    · rename_i hb
      cases e3
      obtain ⟨w, ws, rfl, r1, r2⟩ := rl
      have r2 : ws = [] := r2
      subst r2
      rw [r1.int]
      refine ⟨b, rfl, hb.2, by omega, ?_⟩
      have := k (Itr 0 (b - 0).toNat) Z1 own1 H1 rs1 (.range (by omega)) x1
      simpa using this
    · cases e3
  · cases e3
end
def wipeD (ρ : Sl) : List Nat → Sl
  | [] => ρ
  | v :: vs => (wipeD ρ vs).set v none
def compL (vs : List Nat) (p : Pt) (c e : M D) : List D → M (List D)
  | [] => fun ρ => .ok ([], ρ)
  | x :: xs => fun ρ => match p x ρ with
    | none => .bad
    | some ρ1 => match c ρ1 with
      | .ok (.bl true, ρ2) => (match e ρ2 with
        | .ok (d, ρ3) => (match compL vs p c e xs (wipeD ρ3 vs) with
          | .ok (ds, ρ4) => .ok (d :: ds, ρ4)
          | .exc x => .exc x
          | .bad => .bad)
        | .exc x => .exc x
        | .bad => .bad)
      | .ok (.bl false, ρ2) => compL vs p c e xs (wipeD ρ2 vs)
      | .exc x => .exc x
      | _ => .bad
def mComp (vs : List Nat) (p : Pt) (it : M (List D)) (c e : M D) : M D := bind it fun xs => fun ρ => match compL vs p c e xs (wipeD ρ vs) with
  | .ok (ds, ρ') => .ok (.lst ds, ρ')
  | .exc x => .exc x
  | .bad => .bad
def gxOf (vs : List Nat) : Nat → Bool := fun k => !vs.contains k
theorem wipeD_some {ρ : Sl} {i : Nat} {x : D} : ∀ {vs : List Nat}, (wipeD ρ vs)[i]? = some (some x) → ρ[i]? = some (some x) ∧ i ∉ vs
  | [], h => ⟨h, by simp⟩
  | v :: vs, h => by
    unfold wipeD at h
    by_cases hi : v = i
    · subst hi
      rw [List.getElem?_set] at h
      split at h
      · split at h <;> cases h
      · rename_i n; exact absurd rfl n
    · rw [List.getElem?_set_ne hi] at h
      obtain ⟨a1, a2⟩ := wipeD_some h
      exact ⟨a1, by simp only [List.mem_cons, not_or]; exact ⟨fun e => hi e.symm, a2⟩⟩
theorem wipeD_len (ρ : Sl) : ∀ vs : List Nat, (wipeD ρ vs).length = ρ.length
  | [] => rfl
  | v :: vs => by unfold wipeD; rw [List.length_set]; exact wipeD_len ρ vs
theorem wipe_at (σ : St) (k : Nat) : ∀ vs : List Nat, (wipe σ vs)[k]? = if k ∈ vs then (if k < σ.length then some none else none) else σ[k]?
  | [] => by simp [wipe]
  | v :: vs => by
    unfold wipe
    by_cases hi : v = k
    · subst hi
      rw [List.getElem?_set, wipe_length]
      simp
    · rw [List.getElem?_set_ne hi, wipe_at σ k vs]
      have : (k ∈ v :: vs) ↔ k ∈ vs := by simp [List.mem_cons, Ne.symm hi]
      simp only [this]
theorem wipe_fix {σ σ2 : St} {vs : List Nat} (h : Fix (gxOf vs) (wipe σ vs) σ2) : wipe σ2 vs = wipe σ vs := by
  apply List.ext_getElem?
  intro k
  rw [wipe_at, wipe_at]
  have hl : σ2.length = σ.length := by rw [h.1, wipe_length]
  rw [hl]
  by_cases hk : k ∈ vs
  · rw [if_pos hk, if_pos hk]
  · rw [if_neg hk, if_neg hk]
    have := h.2 k (by simp [gxOf, hk])
    rw [this, wipe_at, if_neg hk]
section
variable [Tb] {K : PySem.W.Frag} {τ : Nat → OT} {Z Z1 : Addr → Prop} {own own1 : Addr → Option Nat} {H H1 : Hp} {ρ : Sl} {σ : St} {q : Bool}
theorem RS.wipe (h : RS K τ Z own H ρ σ) (vs : List Nat) : RS K τ Z own H (wipeD ρ vs) (L2.wipe σ vs) where
  sl := fun i d e => by
    obtain ⟨e1, n⟩ := wipeD_some e
    obtain ⟨v, a1, a2⟩ := h.sl i d e1
    exact ⟨v, by rw [wipe_at, if_neg n]; exact a1, a2⟩
  ls := h.ls
  dz := h.dz
  zt := h.zt
  len := by rw [wipeD_len, wipe_length]; exact h.len
  tb := h.tb
theorem RS.unwipe {vs : List Nat} (h : RS K τ Z own H ρ (L2.wipe σ vs)) : RS K τ Z own H ρ σ where
  sl := fun i d e => by
    obtain ⟨v, a1, a2⟩ := h.sl i d e
    exact ⟨v, (wipe_some a1).1, a2⟩
  ls := h.ls
  dz := h.dz
  zt := h.zt
  len := by have := h.len; rwa [wipe_length] at this
  tb := h.tb
/-- a list that nothing owns and nothing shares is changed -/
theorem upd_nl {H : Hp} {p : Addr} {o o' : HO} (hp : H p = some o) (hm : Mut o) : NL H (upd H p o') := fun a u hu hn _ => by
  rw [upd_ne (fun e => by subst e; rw [hp] at hu; cases hu; exact hn hm)]; exact hu
theorem upd_tk [Tb] {H : Hp} {p : Addr} {o o' : HO} (hp : H p = some o) (hm : Mut o) (ho : Tup0 o' := by first | exact True.intro | assumption | exact Mut.tup0 (by assumption)) : TK H (upd H p o') := .laid (.inr ⟨o, hp, hm⟩) ho
theorem RS.updD {p : Addr} {xs ys : List V} (h : RS K τ Z own H ρ σ) (hp : H p = some (.lst xs)) (ho : own p = none) (hz : ¬ Z p) : RS K τ Z own (upd H p (.lst ys)) ρ σ := by
  have ht : NL H (upd H p (.lst ys)) := upd_nl hp trivial
  have hl : ∀ a o, Z a → H a = some o → NT o → upd H p (.lst ys) a = some o := fun a o z s _ => by
    rw [upd_ne (fun e => by subst e; exact hz z)]; exact s
  refine ⟨fun i d e => ?_, fun a i e => ?_, h.dz, fun a z e => ?_, h.len, (upd_tk hp trivial).ok h.tb⟩
  · obtain ⟨v, a1, a2⟩ := h.sl i d e
    refine ⟨v, a1, R.pres (fun _ z => z) ht hl (fun a zs s e _ => ?_) a2⟩
    rw [upd_ne (fun z => by subst z; rw [ho] at s; cases s)]; exact e
  · obtain ⟨zs, hx, hm⟩ := h.ls a i e
    exact ⟨zs, by rw [upd_ne (fun z => by subst z; rw [ho] at e; cases e)]; exact hx, hm⟩
  · rw [upd_ne (fun w => by subst w; exact hz z)] at e
    exact h.zt a z e
theorem RS.updShL {p : Addr} {xs ys : List V} {ds : List D} {vs : List V} (hp : H p = some (.lst xs)) (hz : ¬ Z p) (r : RShL K Z H ds vs) : RShL K Z (upd H p (.lst ys)) ds vs := by
  refine RShL.pres (fun _ z => z) (upd_nl hp trivial) (fun a zs z s _ => ?_) ds vs r
  rw [upd_ne (fun e => by subst e; exact hz z)]; exact s
theorem ExtF.updN [Tb] {fx : Nat → Bool} {p : Addr} {o o1 : HO} (x : ExtF fx q Z own H Z1 own1 H1) (hp : H p = none) (h1 : H1 p = some o1) (hm : Mut o1) (ho : Tup0 o := by first | exact True.intro | assumption | exact Mut.tup0 (by assumption)) : ExtF fx q Z own H Z1 own1 (upd H1 p o) :=
  ⟨x.z, x.zn, x.on, fun a u e h n => by rw [upd_ne (ne_of_none e hp)]; exact x.keep a u e h, fun a e n => by
    have ne : a ≠ p := fun z => by subst z; exact e hp
    rw [upd_ne ne] at n; exact x.live a e n, x.tk.trans (upd_tk h1 hm)⟩
end
def mYes : M D := mC (.bl true)
theorem _root_.L2.PTs.mono {X : Cx} {ifs : List Expr} {t t' : TT} (h : PTs X ifs t) (f : ∀ σ H Q, t' σ H Q → t σ H Q) : PTs X ifs t' := ⟨fun pins s σ H Q I hw => h.run pins s σ H Q I (f σ H Q hw)⟩
section
variable [Tb] {X : Cx} {τ : Nat → OT} {q q1 q2 : Bool} {elt tg iter c : Expr} {ifs : List Expr} {pos : Pos} {mi : M (List D)} {mc me : M D} {p : Pt}
theorem ts_nil : PTs X [] (tT X.K τ true mYes) := pts_nil.mono fun σ H Q ⟨Z, own, ρ, b, ρ', rs, e, k⟩ => by
  unfold mYes mC at e; cases e
  exact k Z own H rs ExtF.refl
theorem ts_one (h : PT X c (tT X.K τ q mc)) : PTs X [c] (tT X.K τ q mc) := pts_one h
/-- [elt for tg in iter if ..] -/
theorem lc_of {own' : List (Str × Nat)} {vs : List Nat} {qi : Bool} (hv : own'.map (·.2) = vs) : ∀ σ H Q, tE X.K τ (qi && (q1 && q2)) (.ow (.ol .sh .sh)) (mComp vs p mi mc me) σ H Q →
    tLc (tI X.K τ qi mi) (tG X.K τ (gxOf vs) p) (tT X.K τ q1 mc) (tE X.K τ q2 .sh me) (own'.map (·.2)) σ H Q := fun σ H Q ⟨Z, own, ρ, d, ρ', rs, e, k⟩ => by
  rw [hv]
  obtain ⟨ds, ρ0, e0, e⟩ := bind_ok e
  split at e
  case h_2 => cases e
  case h_3 => cases e
  rename_i out ρe ee
  cases e
  refine ⟨Z, own, ρ, ds, ρ0, rs, e0, fun J Z1 own1 H1 rs1 w x1 L hL => ?_⟩
  have hLo : own1 L = none := by
    cases ho : own1 L with
    | none => rfl
    | some i => obtain ⟨ys, hy, _⟩ := rs1.ls L i ho; rw [hL] at hy; cases hy
  have hLz : ¬ Z1 L := fun z => rs1.zt L z hL
  refine ⟨fun i m H' => m = ds.length - i ∧ i ≤ ds.length ∧ ∃ Z2 own2 ρ2 acc dacc rest, RS X.K τ Z2 own2 H' ρ2 (wipe σ vs) ∧ Ext (q1 && q2) Z1 own1 H1 Z2 own2 H' ∧ H' L = some (.lst acc) ∧ own2 L = none ∧ ¬ Z2 L ∧ RShL X.K Z2 H' dacc acc ∧ acc.length ≤ i ∧
      compL vs p mc me (ds.drop i) ρ2 = .ok (rest, ρ') ∧ dacc ++ rest = out,
    ⟨ds.length, by simp, Nat.zero_le _, Z1, own1, wipeD ρ0 vs, [], [], out, (rs1.growO (Grow.new hL)).wipe vs, ExtF.growO (Grow.new hL), upd_same, hLo, hLz, by simp only [RShL], Nat.zero_le _, by simpa using ee, rfl⟩, ?_⟩
  rintro i m H2 ⟨rfl, hi, Z2, own2, ρ2, acc, dacc, rest, rs2, x2, hacc, ho2, hz2, rl, hal, ec, eo⟩
  have lt := rs1.later x2
  by_cases hlt : i < ds.length
  · refine .inr ⟨w.go Z2 H2 lt i hlt, fun H' => ∃ Z3 own3 ρ3 acc3 dacc3 rest3, RS X.K τ Z3 own3 H' ρ3 (wipe σ vs) ∧ Ext (q1 && q2) Z1 own1 H1 Z3 own3 H' ∧ H' L = some (.lst acc3) ∧ own3 L = none ∧ ¬ Z3 L ∧ RShL X.K Z3 H' dacc3 acc3 ∧ acc3.length ≤ i + 1 ∧
      compL vs p mc me (ds.drop (i + 1)) ρ3 = .ok (rest3, ρ') ∧ dacc3 ++ rest3 = out, fun H' h => ⟨ds.length - (i + 1), by omega, rfl, hlt, h⟩, fun x H3 y => ?_⟩
    obtain ⟨d, hd⟩ : ∃ d, ds[i]? = some d := ⟨ds[i], by simp [hlt]⟩
    obtain ⟨g, r⟩ := w.yl Z2 H2 lt i d hd x H3 y
    have ed : ds.drop i = d :: ds.drop (i + 1) := by
      rw [List.drop_eq_getElem_cons hlt]
      have : ds[i] = d := by
        have := List.getElem?_eq_getElem hlt
        rw [hd] at this; exact (Option.some.inj this).symm
      rw [this]
    rw [ed] at ec
    unfold compL at ec
    split at ec
    · cases ec
    · rename_i ρ4 e4
      have rs3 : RS X.K τ Z2 own2 H3 ρ2 (wipe σ vs) := rs2.growO g
      have x3 : Ext (q1 && q2) Z1 own1 H1 Z2 own2 H3 := by have := x2.trans (ExtF.growO (q := q1 && q2) (Z := Z2) (own := own2) g); rwa [Bool.and_self] at this
      have hacc3 := g.at_ L _ hacc True.intro
      have rl3 := g.shL rl
      refine ⟨Z2, own2, ρ2, d, ρ4, rs3, r, e4, fun σ4 rs4 f4 => ⟨wipe_fix f4, ?_⟩⟩
      have hw := wipe_fix f4
      split at ec
      · rename_i ρ5 e5
        refine ⟨Z2, own2, ρ4, true, ρ5, rs4, e5, fun Z5 own5 H5 rs5 x5 => iteT ?_⟩
        split at ec
        · rename_i d6 ρ6 e6
          split at ec
          · rename_i ds7 ρ7 e7
            cases ec
            refine ⟨Z5, own5, ρ5, d6, ρ6, rs5, e6, fun v Z6 own6 H6 S6 rs6 rm6 n6 x6 => ?_⟩
            have x56 : ExtF fxT false Z2 own2 H3 Z6 own6 H6 := x5.transF x6
            have hL6 : H6 L = some (.lst acc) := x56.keep L _ hacc3 (.inl ho2)
            have ho6 : own6 L = none := by
              cases h : own6 L with
              | none => rfl
              | some j =>
                rcases x56.on L j h with z | z
                · rw [ho2] at z; cases z
                · rw [hacc3] at z; cases z
            have hz6 : ¬ Z6 L := fun z => by
              rcases x56.zn L z with z | z | ⟨j, z, _⟩
              · exact hz2 z
              · rw [hacc3] at z; cases z
              · rw [ho2] at z; cases z
            have rl6 : RShL X.K Z6 H6 dacc acc := rs4.shL x56 rl3
            refine ⟨acc, hL6, by have := w.sz; omega, Z6, own6, wipeD ρ6 vs, acc ++ [v], dacc ++ [d6], ds7, ?_, ?_, upd_same, ho6, hz6, ?_, by simp; omega, e7, by rw [← eo]; simp⟩
            · have := (rs6.updD (ys := acc ++ [v]) hL6 ho6 hz6).wipe vs
              rwa [hw] at this
            · have x : Ext (q1 && q2) Z1 own1 H1 Z6 own6 H6 := x3.trans' (fun z => ⟨z, z⟩) (x5.trans x6)
              exact x.updN hL hL6 trivial
            · exact RS.updShL hL6 hz6 (rl6.append (.one rm6))
          · cases ec
          · cases ec
        · cases ec
        · cases ec
      · rename_i ρ5 e5
        refine ⟨Z2, own2, ρ4, false, ρ5, rs4, e5, fun Z5 own5 H5 rs5 x5 => iteF ?_⟩
        have hL6 : H5 L = some (.lst acc) := x5.keep L _ hacc3 (.inl ho2)
        have ho6 : own5 L = none := by
          cases h : own5 L with
          | none => rfl
          | some j =>
            rcases x5.on L j h with z | z
            · rw [ho2] at z; cases z
            · rw [hacc3] at z; cases z
        have hz6 : ¬ Z5 L := fun z => by
          rcases x5.zn L z with z | z | ⟨j, z, _⟩
          · exact hz2 z
          · rw [hacc3] at z; cases z
          · rw [ho2] at z; cases z
        refine ⟨Z5, own5, wipeD ρ5 vs, acc, dacc, rest, ?_, x3.trans' (fun z => ⟨z, and1 z⟩) x5, hL6, ho6, hz6, rs4.shL x5 rl3, by omega, ec, eo⟩
        have := rs5.wipe vs
        rwa [hw] at this
      · cases ec
      · cases ec
  · have ei : i = ds.length := by omega
    subst ei
    refine .inl ⟨w.st Z2 H2 lt, ?_⟩
    rw [List.drop_length] at ec
    unfold compL at ec
    cases ec
    have eo' : dacc = out := by simpa using eo
    subst eo'
    refine k _ Z2 own2 H2 (fun a => a = L) rs2.unwipe ?_ (fun a e => ?_) (x1.trans x2)
    · refine ⟨dacc, L, acc, fun a => if a = L then none else some 0, rfl, rfl, hacc, rfl, by simp, rl.len, fun d v e1 e2 => ?_, fun k d v e1 e2 => ?_⟩
      · obtain ⟨w, a, b⟩ := rl.get e1
        rw [e2] at a; cases a; exact b
      · obtain ⟨w, a, b⟩ := rl.get e1
        rw [e2] at a; cases a; exact b
    · subst e
      exact ⟨x1.back hL, ho2, hz2, _, hacc, trivial⟩
end
end CL
namespace CL
open PySem PySem.Spec L2
set_option autoImplicit false
section
variable [Tb] {X : Cx} {τ : Nat → OT} {q q1 q2 : Bool} {elt tg iter c : Expr} {ifs : List Expr} {pos : Pos} {mi : M (List D)} {mc me : M D} {p : Pt}
theorem e_lcO {own' : List (Str × Nat)} {vs : List Nat} {qi : Bool} {scope : Scope} (hN : X.N.Nodup) (ok : BlkOk X.N X.env.scope scope own') (hi : PI X tg iter (tI X.K τ qi mi))
    (hg : ∀ (s : Shared) (H : Hp) (C : Addr) (cl : List (Str × Addr)) (fp : List Addr), PG (X.blk s H scope (compEnvC scope cl C X.env) fp) tg (tG X.K τ (gxOf vs) p)) (ht : ∀ (s : Shared) (H : Hp) (C : Addr) (cl : List (Str × Addr)) (fp : List Addr), PTs (X.blk s H scope (compEnvC scope cl C X.env) fp) ifs (tT X.K τ q1 mc))
    (he : ∀ (s : Shared) (H : Hp) (C : Addr) (cl : List (Str × Addr)) (fp : List Addr), PE (X.blk s H scope (compEnvC scope cl C X.env) fp) elt (tE X.K τ q2 .sh me)) (hv : own'.map (·.2) = vs := by rfl) (hc : X.calm = true := by rfl) (hs : ∀ x, foldedSetIterable iter X.env x = pure x := by intro _; rfl) :
    PE X (.ListComp elt [⟨tg, iter, ifs, 0⟩] scope pos) (tE X.K τ (qi && (q1 && q2)) (.ow (.ol .sh .sh)) (mComp vs p mi mc me)) := (pe_lc hc hN hi ok hg ht he hs).mono (lc_of hv)
end
/-- a def keeps its promise where no repr is under way -/
structure FnG (P : Program) (w : World) (K : PySem.W.Frag) (mg : Str → Option Value) (base : Heap) (k : Nat) (f : Addr) (fd : FuncData) (ps : List Str) (sp : Sp) : Prop where
  len : ∀ vs H Q E, sp vs H Q E → vs.length = ps.length
  run : ∀ (A : Around) (outer : List Env) (s0 : Shared) (H : Hp) (ar : Args) (us : List Value) (vs : List V) (Q : VK) (E : XK), Room k A → A.guards = some [] → Env0 P w K mg base A outer s0 H → BindsTo s0 fd ar (ps.zip us) → Vals vs us → sp vs H Q E →
    codeAny (model P w) A (.call (.ref f) ar) (CR CX0 outer P w H s0 Q E) s0
theorem FnG.mono {P : Program} {w : World} {K : PySem.W.Frag} {mg : Str → Option Value} {base : Heap} {j k : Nat} {f : Addr} {fd : FuncData} {ps : List Str} {sp : Sp} (F : FnG P w K mg base j f fd ps sp) (h : j ≤ k) : FnG P w K mg base k f fd ps sp := ⟨F.len, fun A o s0 H ar us vs Q E r => F.run A o s0 H ar us vs Q E (r.mono h)⟩
section
variable [Tb] {P : Program} {w : World} {K : PySem.W.Frag} {mg : Str → Option Value} {base : Heap}
theorem fng_ok {x qual : Str} {st : Stmt} {f : Addr} {fd : FuncData} {N ps : List Str} {k : Nat} {sp : Sp} (Fu : Fun K x qual st f fd) (Sc : FnScope N ps (defScope st)) (len : ∀ vs H Q E, sp vs H Q E → vs.length = ps.length)
    (hbody : ∀ (cdv : Value) (A : Around) (outer : List Env) (s0 : Shared) (H : Hp) (vs : List V) (Q : VK) (E : XK), Room k (A.deeper (PyProof.Rows.envOfC qual (defScope st) s0.heap.objs.size f cdv)) → A.guards = some [] → fd.code = cdv → sp vs H Q E →
      ∃ t, PSs (cxOf CX0 P w K mg base N qual (defScope st) f cdv A outer s0 H E).nox (defBody st) t ∧ t { nx := fun _ H' => Q .non H', rt := Q } (L2.start N vs) H) : FnG P w K mg base (k + 1) f fd ps sp := by
  obtain ⟨oc, od, kV, doc, pm, an, cdv, ct, osl, rfl, lk, hcd⟩ := Fu.ex
  constructor
  · exact len
  intro A outer s0 H ar us vs Q E room hgu e0 hbd rel hsp
  have KIn : K.In s0.heap := e0.mod.kin.keeps fun c ob ec => (e0.bs c ob ec).1
  have limit : s0.heap.NoLimit := e0.mod.nolimit.keeps fun c ob ec => (e0.bs c ob ec).1
  apply codeAny_call_function room.depth (KIn _ _ lk) rfl Sc.co Sc.gen rfl (PySem.W.codeRec_of KIn hcd)
  apply hbd
  apply wpAny_newFunctionEnv_cells Sc.kind
  · rintro ⟨nm, vl⟩ hm
    rcases Sc.par nm (List.of_mem_zip hm).1 with lc | lc
    · exact Or.inl lc
    · exact Or.inr ⟨lc, PySem.W.cellsFrom_some _ _ _ (Or.inl lc)⟩
  · intro env he s1 ic
    subst he
    refine ⟨limit.keeps ic.toInCall.keep, codeAny_func ?_⟩
    obtain ⟨t, ht, hq⟩ := hbody cdv A outer s0 H vs Q E (room.deeper _) hgu rfl hsp
    have I0 : Inv (cxOf CX0 P w K mg base N qual (defScope st) f cdv A outer s0 H E) [] (L2.start N vs) H s1 := inv_start Sc room.hd e0 (len _ _ _ _ hsp) rel ic
    apply wpAny_mono (ht.nox.run [] s1 (L2.start N vs) H _ I0 hq)
    · intro fl s2 hs
      cases fl with
      | ret u =>
        obtain ⟨v, σ2, H2, J, rv, hv⟩ := hs
        exact ⟨v, H2, J.os, J.bare, J.base, J.hok, rv, hv⟩
      | next =>
        obtain ⟨σ2, H2, J, hv⟩ := hs
        exact ⟨V.non, H2, J.os, J.bare, J.base, J.hok, rfl, hv⟩
      | brk => obtain ⟨_, _, _, hv⟩ := hs; exact hv.elim
      | cont => obtain ⟨_, _, _, hv⟩ := hs; exact hv.elim
    · exact fun _ _ hs => hs
end
section
variable [Tb] {X : Cx} {k : Nat} {f : Addr} {fd : FuncData} {ps : List Str} {sp : Sp} {x : Str} {p pos : Pos} {e : Expr} {es : List Expr} {t : TA}
theorem pe_callG (F : FnG X.prog X.w X.K X.mg X.base k f fd ps sp) (hr : Room k X.A) (hgu : X.A.guards = some []) (hg : Gl X x) (hm : X.mg x = some (.ref f)) (hk : PySem.W.keepIn X.K (.ref f) = true) (hb : Binds X.K fd ps [])
    (ha : PA X (e :: es) t) (hdb : (x == ("__debug__" : Str)) = false := by decide) (he : starEach (e :: es) X.env = (false, eval e X.env) :: starEach es X.env := by rfl) (hpl : (backTo pos (starEach es X.env)).any (·.1) = false := by rfl) :
    PE X (.Call (.Name x p) (e :: es) [] pos) (fun σ H Q => t σ H fun vs H1 => sp vs H1 Q E0) := by
  constructor
  intro pins s0 σ H Q I0 hw
  apply wpAny_Call_Name_kw (ld_glob I0 hg hm _ hdb)
  apply PySem.W.callWith_K (h₀ := X.base) I0.ok.mod.kin hk _ he hpl
  apply thn (ha.run pos pins s0 σ H _ I0 hw)
  rintro us s1 ⟨vs, H1, I1, rel, hsp⟩
  refine ⟨I1.kIn, ?_⟩
  have hl : (us ++ []).length = ps.length := by rw [List.append_nil, ← rel.length]; exact F.len _ _ _ _ hsp
  have hbd := hb s1 us I1.kIn hl
  rw [List.append_nil] at hbd
  apply wpAny_call
  apply codeAny_mono (F.run X.A X.stack s1 H1 ⟨us, []⟩ us vs Q E0 hr hgu I1.env0 hbd rel hsp)
  intro res s2 hres
  cases res with
  | error er => exact hres.elim
  | ok fl =>
    cases fl with
    | ret u => exact I1.after hres
    | next => exact hres.elim
    | brk => exact hres.elim
    | cont => exact hres.elim
end
abbrev Fn := List D → Res (D × List D)
inductive Ag where
  | e (m : M D) | io (i : Nat)
def evA : List Ag → M (List D)
  | [] => mNil
  | .e m :: r => mCons m (evA r)
  | .io i :: r => mCons (mV i) (evA r)
def fillA : List Ag → List D → Sl → Option (List D)
  | [], [], _ => some []
  | .e _ :: r, d :: ds, ρ => (fillA r ds ρ).map (d :: ·)
  | .io i :: r, _ :: ds, ρ => match ρ[i]? with | some (some d) => (fillA r ds ρ).map (d :: ·) | _ => none
  | _, _, _ => none
def backA : List Ag → List D → Sl → Sl
  | .io i :: r, d :: ds, ρ => backA r ds (ρ.set i (some d))
  | .e _ :: r, _ :: ds, ρ => backA r ds ρ
  | _, _, ρ => ρ
def mCall (F : Fn) (as : List Ag) : M D := bind (evA as) fun ds => fun ρ => match fillA as ds ρ with
  | none => .bad
  | some full => match F full with
    | .ok (d, out) => .ok (d, backA as out ρ)
    | .exc e => .exc e
    | .bad => .bad
def mCallP (F : List D → Res D) (ms : M (List D)) : M D := bind ms fun ds => fun ρ => match F ds with
  | .ok d => .ok (d, ρ)
  | .exc e => .exc e
  | .bad => .bad
/-- what a def that changes nothing promises -/
def spP [Tb] (K : PySem.W.Frag) (n : Nat) (rt : OT) (F : List D → Res D) : Sp := fun vs H Q _ => ∃ Z ds d, vs.length = n ∧ RShL K Z H ds vs ∧ (∀ a, Z a → H a ≠ none) ∧ TbOk K H ∧ F ds = .ok d ∧
  ∀ v Z' H' S, (∀ a, Z a → Z' a) → (∀ a, Z' a → Z a ∨ H a = none) → (∀ a, Z' a → H' a ≠ none) → Grow H H' → R K Z' H' rt d v S → (∀ a, S a → H a = none ∧ ¬ Z' a ∧ ∃ o, H' a = some o ∧ Mut o) → Q v H'
def runP (nl : Nat) (b : MS) : List D → Res D := fun ds => match b (ds.map some ++ List.replicate nl none) with
  | .ok (.ret d, _) => .ok d
  | .ok (.nx, _) => .ok .non
  | .exc e => .exc e
  | _ => .bad
def ioOf (ts : List OT) : Nat → Bool := fun k => match ts[k]? with | some (.ol _ _) => true | some .od => true | some (.dv _) => true | some (.dk _) => true | some (.oi _) => true | some (.ot _) => true | _ => false
def τOf (ts : List OT) : Nat → OT := fun k => (ts[k]?).getD .sh
/-- what a def promises that may change the lists that are handed in -/
def spD [Tb] (K : PySem.W.Frag) (ts : List OT) (rt : OT) (F : Fn) : Sp := fun vs H Q _ => ∃ Z own ds d out, vs.length = ts.length ∧ ds.length = ts.length ∧ RS K (τOf ts) Z own H (ds.map some) (vs.map some) ∧ (∀ a i, own a = some i → ioOf ts i = true) ∧ F ds = .ok (d, out) ∧
  ∀ v Z' own' H' S, RS K (τOf ts) Z' own' H' (out.map some) (vs.map some) → (∀ a i, own' a = some i → ioOf ts i = true) → R K Z' H' rt d v S → NewR H Z' own' H' S → Ext false Z own H Z' own' H' → Q v H'
/-- the lists that were handed in, as they are now -/
def outs : List OT → List D → Sl → Option (List D)
  | [], [], _ => some []
  | .sh :: ts, d :: ds, ρ => (outs ts ds ρ.tail).map (d :: ·)
  | .ol _ _ :: ts, _ :: ds, ρ => match ρ.head? with | some (some d) => (outs ts ds ρ.tail).map (d :: ·) | _ => none
  | .od :: ts, _ :: ds, ρ => match ρ.head? with | some (some d) => (outs ts ds ρ.tail).map (d :: ·) | _ => none
  | .dv _ :: ts, _ :: ds, ρ => match ρ.head? with | some (some d) => (outs ts ds ρ.tail).map (d :: ·) | _ => none
  | .dk _ :: ts, _ :: ds, ρ => match ρ.head? with | some (some d) => (outs ts ds ρ.tail).map (d :: ·) | _ => none
  | .oi _ :: ts, _ :: ds, ρ => match ρ.head? with | some (some d) => (outs ts ds ρ.tail).map (d :: ·) | _ => none
  | .ot _ :: ts, _ :: ds, ρ => match ρ.head? with | some (some d) => (outs ts ds ρ.tail).map (d :: ·) | _ => none
  | _, _, _ => none
def runF (ts : List OT) (nl : Nat) (b : MS) : Fn := fun ds => match b (ds.map some ++ List.replicate nl none) with
  | .ok (.ret d, ρ) => (match outs ts ds ρ with | some out => .ok (d, out) | none => .bad)
  | .ok (.nx, ρ) => (match outs ts ds ρ with | some out => .ok (.non, out) | none => .bad)
  | .exc e => .exc e
  | _ => .bad
theorem getElem?_app {ds : List D} {nl i : Nat} {d : D} (h : (ds.map some ++ List.replicate nl none : Sl)[i]? = some (some d)) : ds[i]? = some d := by
  rw [List.getElem?_append] at h
  split at h
  · rw [List.getElem?_map] at h
    obtain ⟨x, hx, e⟩ := Option.map_eq_some_iff.mp h
    cases e; exact hx
  · rw [List.getElem?_replicate] at h
    split at h <;> cases h
theorem start_get {N : List Str} {vs : List V} {i : Nat} {v : V} (h : vs[i]? = some v) : (L2.start N vs)[i]? = some (some v) := by
  unfold L2.start
  rw [List.getElem?_append_left (by
    have := (List.getElem?_eq_some_iff.mp h).1
    simpa using this), List.getElem?_map, h]
  rfl
theorem start_len {N : List Str} {vs : List V} (h : vs.length ≤ N.length) : (L2.start N vs).length = N.length := by
  unfold L2.start
  simp; omega
section
variable [Tb] {P : Program} {w : World} {K : PySem.W.Frag} {mg : Str → Option Value} {base : Heap}
/-- a def that changes nothing keeps its promise -/
theorem ok_p {x qual : Str} {st : Stmt} {f : Addr} {fd : FuncData} {N ps : List Str} {k n nl : Nat} {F : Fr} {b : MS} (Fu : Fun K x qual st f fd) (S : FnScope N ps (defScope st)) (hF : ∀ i, i < n → F.τ i = .sh) (hn : ps.length = n) (hl : n + nl = N.length) (hrt : F.rt = .sh ∨ ∀ (ds : List D) (ρ : Sl), b (ds.map some ++ List.replicate nl none) ≠ .ok (.nx, ρ))
    (hb : ∀ (cdv : Value) (A : Around) (outer : List Env) (s : Shared) (H : Hp) (E : XK), Room k (A.deeper (PyProof.Rows.envOfC qual (defScope st) s.heap.objs.size f cdv)) → A.guards = some [] → fd.code = cdv → PSs (cxOf CX0 P w K mg base N qual (defScope st) f cdv A outer s H E).nox (defBody st) (tS K F b)) :
    FnG P w K mg base (k + 1) f fd ps (spP K n F.rt (runP nl b)) := by
  refine fng_ok Fu S (fun vs H Q E h => ?_) (fun cdv A outer s H vs Q E hr hgu hcd h => ?_)
  · obtain ⟨Z, ds, d, h1, _⟩ := h
    rw [h1, hn]
  · obtain ⟨Z, ds, d, h1, rl, zt, tb, e, kk⟩ := h
    refine ⟨_, hb cdv A outer s H E hr hgu hcd, ?_⟩
    have hlen := rl.len
    have hvl : vs.length ≤ N.length := by omega
    have rs : RS K F.τ Z (fun _ => none) H (ds.map some ++ List.replicate nl none) (L2.start N vs) := by
      refine ⟨fun i d e => ?_, fun a i e => (by cases e), fun a i e => (by cases e), zt, by rw [start_len hvl]; simp; omega, tb⟩
      have e := getElem?_app e
      obtain ⟨v, hv, r⟩ := rl.get e
      refine ⟨v, start_get hv, ?_⟩
      rw [hF i (by have := (List.getElem?_eq_some_iff.mp e).1; omega)]
      exact r
    unfold runP at e
    split at e
    · rename_i d' ρ' e'
      cases e
      refine ⟨Z, fun _ => none, _, _, ρ', rs, e', fun v σ' Z' own' H' S rs' fx r gv x => kk v Z' H' S x.z (fun a z => ?_) rs'.zt ⟨fun a o e n => x.keep a o e (.inl rfl), x.tk, x.live⟩ r fun a s => ?_⟩
      · rcases x.zn a z with z | z | ⟨i, z, _⟩
        · exact .inl z
        · exact .inr z
        · cases z
      · obtain ⟨g1, g2, g3, g4⟩ := gv a s
        refine ⟨?_, g3, g4⟩
        rcases g1 with g | ⟨i, g, _⟩
        · exact g
        · cases g
    · rename_i ρ' e'
      cases e
      rcases hrt with hrt | hrt
      · refine ⟨Z, fun _ => none, _, _, ρ', rs, e', fun σ' Z' own' H' rs' fx x => kk .non Z' H' (fun _ => False) x.z (fun a z => ?_) rs'.zt ⟨fun a o e n => x.keep a o e (.inl rfl), x.tk, x.live⟩ (by rw [hrt]; simp only [R, RSh]) fun a s => s.elim⟩
        rcases x.zn a z with z | z | ⟨i, z, _⟩
        · exact .inl z
        · exact .inr z
        · cases z
      · exact absurd e' (hrt ds ρ')
    · cases e
    · cases e
end
section
variable [Tb] {X : Cx} {τ : Nat → OT} {q : Bool} {CX : CXT} {k : Nat} {f : Addr} {fd : FuncData} {ps : List Str} {x : Str} {p pos : Pos} {e : Expr} {es : List Expr} {ms : M (List D)} {rt : OT} {n : Nat} {G : List D → Res D}
theorem callP_of : ∀ σ H Q, tE X.K τ q (.ow rt) (mCallP G ms) σ H Q → (∀ ds (d : D) ρ ρ', ms ρ = .ok (ds, ρ') → ds.length = n) → tAs X.K τ q ms σ H fun vs H1 => spP X.K n rt G vs H1 Q E0 := fun σ H Q ⟨Z, own, ρ, d, ρ', rs, e, kk⟩ hn => by
  obtain ⟨ds, ρ1, e1, e⟩ := bind_ok e
  split at e
  · rename_i d' e2
    cases e
    refine ⟨Z, own, ρ, ds, _, rs, e1, fun vs Z1 own1 H1 rs1 rl x1 => ?_⟩
    refine ⟨Z1, ds, _, by rw [← rl.len]; exact hn ds d ρ _ e1, rl, rs1.zt, rs1.tb, e2, fun v Z2 H2 S h1 h2 h3 g r hS => ?_⟩
    have ow : ∀ a, H1 a = none → own1 a = none := fun a e => by
      cases ho : own1 a with
      | none => rfl
      | some i => obtain ⟨ys, hy, _⟩ := rs1.ls a i ho; rw [e] at hy; cases hy
    refine kk v Z2 own1 H2 S ⟨fun i d e => ?_, fun a i e => ?_, fun a i e z => ?_, h3, rs1.len, g.tk.ok rs1.tb⟩ r (fun a s => ⟨x1.back (hS a s).1, ow a (hS a s).1, (hS a s).2⟩)
      (x1.trans' (fun z => ⟨z, rfl⟩) (⟨h1, fun a z => (h2 a z).elim .inl fun z => .inr (.inl z), fun a i z => .inl z, fun a o e _ n => g.at_ a o e n, g.live, g.tk⟩ : ExtF fxT true Z1 own1 H1 Z2 own1 H2))
    · obtain ⟨w, a1, a2⟩ := rs1.sl i d e
      exact ⟨w, a1, R.pres h1 (fun a o e _ n => g.at_ a o e n) (fun a o _ e n => g.at_ a o e n) (fun a xs _ e n => g.at_ a _ e n) a2⟩
    · obtain ⟨xs, hx, hm⟩ := rs1.ls a i e
      exact ⟨xs, g.at_ a _ hx hm.nt, hm⟩
    · rcases h2 a z with z | z
      · exact rs1.dz a i e z
      · obtain ⟨xs, hx, _⟩ := rs1.ls a i e
        rw [z] at hx; cases hx
  · cases e
  · cases e
theorem e_call (Fu : FnG X.prog X.w X.K X.mg X.base k f fd ps (spP X.K n rt G)) (hk : PySem.W.keepIn X.K (.ref f) = true) (hb : Binds X.K fd ps []) (hr : Room k X.A) (hgu : X.A.guards = some []) (hm : X.mg x = some (.ref f)) (ha : PA X (e :: es) (tAs X.K τ q ms)) (hn : ∀ ds (d : D) ρ ρ', ms ρ = .ok (ds, ρ') → ds.length = n) (hg : Gl X x := by rfl)
    (hdb : (x == ("__debug__" : Str)) = false := by decide) (he : starEach (e :: es) X.env = (false, eval e X.env) :: starEach es X.env := by rfl) (hpl : (backTo pos (starEach es X.env)).any (·.1) = false := by rfl) :
    PE X (.Call (.Name x p) (e :: es) [] pos) (tE X.K τ q (.ow rt) (mCallP G ms)) := (pe_callG Fu hr hgu hg hm hk hb ha hdb he hpl).mono fun σ H Q h => callP_of σ H Q h hn
end
theorem len_nil : ∀ ds (d : D) ρ ρ', mNil ρ = .ok (ds, ρ') → ds.length = 0 := fun ds d ρ ρ' e => by unfold mNil at e; cases e; rfl
theorem len_cons {m : M D} {ms : M (List D)} {n : Nat} (h : ∀ ds (d : D) ρ ρ', ms ρ = .ok (ds, ρ') → ds.length = n) : ∀ ds (d : D) ρ ρ', mCons m ms ρ = .ok (ds, ρ') → ds.length = n + 1 := fun ds d ρ ρ' e => by
  obtain ⟨x, ρ1, e1, e⟩ := bind_ok e
  obtain ⟨xs, ρ2, e2, e⟩ := bind_ok e
  cases e
  simp [h xs d _ _ e2]
end CL
namespace CL
open PySem PySem.Spec L2
set_option autoImplicit false
theorem outs_get : ∀ {ts : List OT} {ds : List D} {ρ : Sl} {out : List D}, outs ts ds ρ = some out → out.length = ts.length ∧ ∀ (k : Nat) (t : OT), ts[k]? = some t → (t = OT.sh → out[k]? = ds[k]?) ∧ (t ≠ OT.sh → ∃ d, ρ[k]? = some (some d) ∧ out[k]? = some d)
  | [], [], ρ, out, h => by simp only [outs] at h; cases h; exact ⟨rfl, fun k t e => by simp at e⟩
  | [], _ :: _, ρ, out, h => by simp [outs] at h
  | .sh :: ts, [], ρ, out, h => by simp [outs] at h
  | .ol _ _ :: ts, [], ρ, out, h => by simp [outs] at h
  | .od :: ts, [], ρ, out, h => by simp [outs] at h
  | .dv _ :: ts, [], ρ, out, h => by simp [outs] at h
  | .dk _ :: ts, [], ρ, out, h => by simp [outs] at h
  | .oi _ :: ts, [], ρ, out, h => by simp [outs] at h
  | .ot _ :: ts, [], ρ, out, h => by simp [outs] at h
  | .sh :: ts, d :: ds, ρ, out, h => by
    simp only [outs] at h
    obtain ⟨o, ho, rfl⟩ := Option.map_eq_some_iff.mp h
    obtain ⟨h1, h2⟩ := outs_get ho
    refine ⟨by simp [h1], fun k t e => ?_⟩
    cases k with
    | zero => simp at e; subst e; exact ⟨fun _ => by simp, fun n => absurd rfl n⟩
    | succ k =>
      have e' : ts[k]? = some t := by simpa using e
      obtain ⟨a, b⟩ := h2 k t e'
      refine ⟨fun z => by simpa using a z, fun z => ?_⟩
      obtain ⟨d', b1, b2⟩ := b z
      exact ⟨d', by simpa using b1, by simpa using b2⟩
  | .ol t0 t1 :: ts, d :: ds, ρ, out, h => by
    simp only [outs] at h
    split at h
    · rename_i d' hd
      obtain ⟨o, ho, rfl⟩ := Option.map_eq_some_iff.mp h
      obtain ⟨h1, h2⟩ := outs_get ho
      refine ⟨by simp [h1], fun k t e => ?_⟩
      cases k with
      | zero =>
        simp at e; subst e
        refine ⟨fun z => (by cases z), fun _ => ⟨d', ?_, by simp⟩⟩
        cases ρ with
        | nil => simp at hd
        | cons x r => simpa using hd
      | succ k =>
        have e' : ts[k]? = some t := by simpa using e
        obtain ⟨a, b⟩ := h2 k t e'
        refine ⟨fun z => by simpa using a z, fun z => ?_⟩
        obtain ⟨d'', b1, b2⟩ := b z
        exact ⟨d'', by simpa using b1, by simpa using b2⟩
    · cases h
  | .od :: ts, d :: ds, ρ, out, h => by
    simp only [outs] at h
    split at h
    · rename_i d' hd
      obtain ⟨o, ho, rfl⟩ := Option.map_eq_some_iff.mp h
      obtain ⟨h1, h2⟩ := outs_get ho
      refine ⟨by simp [h1], fun k t e => ?_⟩
      cases k with
      | zero =>
        simp at e; subst e
        refine ⟨fun z => (by cases z), fun _ => ⟨d', ?_, by simp⟩⟩
        cases ρ with
        | nil => simp at hd
        | cons x r => simpa using hd
      | succ k =>
        have e' : ts[k]? = some t := by simpa using e
        obtain ⟨a, b⟩ := h2 k t e'
        refine ⟨fun z => by simpa using a z, fun z => ?_⟩
        obtain ⟨d'', b1, b2⟩ := b z
        exact ⟨d'', by simpa using b1, by simpa using b2⟩
    · cases h
  | .dv _ :: ts, d :: ds, ρ, out, h => by
    simp only [outs] at h
    split at h
    · rename_i d' hd
      obtain ⟨o, ho, rfl⟩ := Option.map_eq_some_iff.mp h
      obtain ⟨h1, h2⟩ := outs_get ho
      refine ⟨by simp [h1], fun k t e => ?_⟩
      cases k with
      | zero =>
        simp at e; subst e
        refine ⟨fun z => (by cases z), fun _ => ⟨d', ?_, by simp⟩⟩
        cases ρ with
        | nil => simp at hd
        | cons x r => simpa using hd
      | succ k =>
        have e' : ts[k]? = some t := by simpa using e
        obtain ⟨a, b⟩ := h2 k t e'
        refine ⟨fun z => by simpa using a z, fun z => ?_⟩
        obtain ⟨d'', b1, b2⟩ := b z
        exact ⟨d'', by simpa using b1, by simpa using b2⟩
    · cases h
  | .dk _ :: ts, d :: ds, ρ, out, h => by
    simp only [outs] at h
    split at h
    · rename_i d' hd
      obtain ⟨o, ho, rfl⟩ := Option.map_eq_some_iff.mp h
      obtain ⟨h1, h2⟩ := outs_get ho
      refine ⟨by simp [h1], fun k t e => ?_⟩
      cases k with
      | zero =>
        simp at e; subst e
        refine ⟨fun z => (by cases z), fun _ => ⟨d', ?_, by simp⟩⟩
        cases ρ with
        | nil => simp at hd
        | cons x r => simpa using hd
      | succ k =>
        have e' : ts[k]? = some t := by simpa using e
        obtain ⟨a, b⟩ := h2 k t e'
        refine ⟨fun z => by simpa using a z, fun z => ?_⟩
        obtain ⟨d'', b1, b2⟩ := b z
        exact ⟨d'', by simpa using b1, by simpa using b2⟩
    · cases h
  | .oi _ :: ts, d :: ds, ρ, out, h => by
    simp only [outs] at h
    split at h
    · rename_i d' hd
      obtain ⟨o, ho, rfl⟩ := Option.map_eq_some_iff.mp h
      obtain ⟨h1, h2⟩ := outs_get ho
      refine ⟨by simp [h1], fun k t e => ?_⟩
      cases k with
      | zero =>
        simp at e; subst e
        refine ⟨fun z => (by cases z), fun _ => ⟨d', ?_, by simp⟩⟩
        cases ρ with
        | nil => simp at hd
        | cons x r => simpa using hd
      | succ k =>
        have e' : ts[k]? = some t := by simpa using e
        obtain ⟨a, b⟩ := h2 k t e'
        refine ⟨fun z => by simpa using a z, fun z => ?_⟩
        obtain ⟨d'', b1, b2⟩ := b z
        exact ⟨d'', by simpa using b1, by simpa using b2⟩
    · cases h
  | .ot _ :: ts, d :: ds, ρ, out, h => by
    simp only [outs] at h
    split at h
    · rename_i d' hd
      obtain ⟨o, ho, rfl⟩ := Option.map_eq_some_iff.mp h
      obtain ⟨h1, h2⟩ := outs_get ho
      refine ⟨by simp [h1], fun k t e => ?_⟩
      cases k with
      | zero =>
        simp at e; subst e
        refine ⟨fun z => (by cases z), fun _ => ⟨d', ?_, by simp⟩⟩
        cases ρ with
        | nil => simp at hd
        | cons x r => simpa using hd
      | succ k =>
        have e' : ts[k]? = some t := by simpa using e
        obtain ⟨a, b⟩ := h2 k t e'
        refine ⟨fun z => by simpa using a z, fun z => ?_⟩
        obtain ⟨d'', b1, b2⟩ := b z
        exact ⟨d'', by simpa using b1, by simpa using b2⟩
    · cases h
section
variable [Tb] {P : Program} {w : World} {K : PySem.W.Frag} {mg : Str → Option Value} {base : Heap}
/-- a def that may change what is handed in keeps its promise -/
theorem ok_d {x qual : Str} {st : Stmt} {f : Addr} {fd : FuncData} {N ps : List Str} {k nl : Nat} {ts : List OT} {F : Fr} {b : MS} (Fu : Fun K x qual st f fd) (S : FnScope N ps (defScope st)) (hF : ∀ i, i < ts.length → F.τ i = τOf ts i) (hfx : ∀ i, ioOf ts i = true → F.fx i = true) (hn : ps.length = ts.length) (hl : ts.length + nl = N.length)
    (hrt : F.rt = .sh ∨ ∀ (ds : List D) (ρ : Sl), b (ds.map some ++ List.replicate nl none) ≠ .ok (.nx, ρ))
    (hb : ∀ (cdv : Value) (A : Around) (outer : List Env) (s : Shared) (H : Hp) (E : XK), Room k (A.deeper (PyProof.Rows.envOfC qual (defScope st) s.heap.objs.size f cdv)) → A.guards = some [] → fd.code = cdv → PSs (cxOf CX0 P w K mg base N qual (defScope st) f cdv A outer s H E).nox (defBody st) (tS K F b)) :
    FnG P w K mg base (k + 1) f fd ps (spD K ts F.rt (runF ts nl b)) := by
  refine fng_ok Fu S (fun vs H Q E h => ?_) (fun cdv A outer s H vs Q E hr hgu hcd h => ?_)
  · obtain ⟨Z, own, ds, d, out, h1, _⟩ := h
    rw [h1, hn]
  · obtain ⟨Z, own, ds, d, out, h1, hd, rs0, hio, e, kk⟩ := h
    refine ⟨_, hb cdv A outer s H E hr hgu hcd, ?_⟩
    have hvl : vs.length ≤ N.length := by omega
    have rs : RS K F.τ Z own H (ds.map some ++ List.replicate nl none) (L2.start N vs) := by
      refine ⟨fun i d e => ?_, rs0.ls, rs0.dz, rs0.zt, by rw [start_len hvl]; simp; omega, rs0.tb⟩
      have e := getElem?_app e
      have hi : i < ts.length := by have := (List.getElem?_eq_some_iff.mp e).1; omega
      obtain ⟨v, hv, r⟩ := rs0.sl i d (by rw [List.getElem?_map, e]; rfl)
      rw [List.getElem?_map] at hv
      obtain ⟨v', hv', ev⟩ := Option.map_eq_some_iff.mp hv
      cases ev
      exact ⟨v, start_get hv', by rw [hF i hi]; exact r⟩
    have fin : ∀ {ρ' : Sl} {d : D} {v : V} {σ' : St} {Z' : Addr → Prop} {own' : Addr → Option Nat} {H' : Hp} {S : Addr → Prop} {out : List D}, outs ts ds ρ' = some out →
        (∀ v Z' own' H' S, RS K (τOf ts) Z' own' H' (out.map some) (vs.map some) → (∀ a i, own' a = some i → ioOf ts i = true) → R K Z' H' F.rt d v S → NewR H Z' own' H' S → Ext false Z own H Z' own' H' → Q v H') →
        RS K F.τ Z' own' H' ρ' σ' → Fix F.fx (L2.start N vs) σ' → R K Z' H' F.rt d v S → GivR F.fx own H Z' own' H' S → ExtF F.fx false Z own H Z' own' H' → Q v H' := fun {ρ' d v σ' Z' own' H' S out} ho kk rs' fx r gv x => by
      obtain ⟨o1, o2⟩ := outs_get ho
      have nofx : ∀ a i, own a = some i → F.fx i = false → False := fun a i h hf => by
        have := hfx i (hio a i h)
        rw [hf] at this; cases this
      refine kk v Z' (fun a => match own' a with | some i => if ioOf ts i = true then some i else none | none => none) H' S ⟨fun i d' e => ?_, fun a i e => ?_, fun a i e => ?_, rs'.zt, by simp [o1, h1], rs'.tb⟩ (fun a i e => ?_) r (fun a s => ?_) ⟨x.z, fun a z => ?_, fun a i e => ?_, x.kp, x.live, x.tk⟩
      · rw [List.getElem?_map] at e
        obtain ⟨d'', e', ed⟩ := Option.map_eq_some_iff.mp e
        cases ed
        have hi : i < ts.length := by have := (List.getElem?_eq_some_iff.mp e').1; omega
        obtain ⟨a1, a2⟩ := o2 i ts[i] (List.getElem?_eq_getElem hi)
        have hτ : τOf ts i = ts[i] := by simp [τOf, hi]
        cases ht : ts[i] with
        | sh =>
          rw [a1 ht] at e'
          obtain ⟨v', hv', r'⟩ := rs.sl i d' (by
            rw [List.getElem?_append_left (by simp; omega), List.getElem?_map, e']; rfl)
          rw [hF i hi, hτ, ht] at r'
          have hvv : (vs.map some)[i]? = some (some v') := by
            have hl2 : i < vs.length := by omega
            have := start_get (N := N) (List.getElem?_eq_getElem hl2)
            rw [this] at hv'
            rw [List.getElem?_map, List.getElem?_eq_getElem hl2]
            simpa using hv'
          refine ⟨v', hvv, ?_⟩
          rw [hτ, ht]
          exact rs.sh x r'
        | ol t0 t1 =>
          obtain ⟨d3, b1, b2⟩ := a2 (by rw [ht]; exact fun z => nomatch z)
          rw [b2] at e'; cases e'
          have hio' : ioOf ts i = true := by
            unfold ioOf
            rw [List.getElem?_eq_getElem hi, ht]
          obtain ⟨v', hv', r'⟩ := rs'.sl i d' b1
          rw [fx.2 i (hfx i hio')] at hv'
          have hvv : (vs.map some)[i]? = some (some v') := by
            have hl2 : i < vs.length := by omega
            have := start_get (N := N) (List.getElem?_eq_getElem hl2)
            rw [this] at hv'
            rw [List.getElem?_map, List.getElem?_eq_getElem hl2]
            simpa using hv'
          refine ⟨v', hvv, ?_⟩
          rw [← hF i hi]
          refine R.mono r' fun a ha => ?_
          show (match own' a with | some i => if ioOf ts i = true then some i else none | none => none) = some i
          rw [ha]
          exact if_pos hio'
        | od =>
          obtain ⟨d3, b1, b2⟩ := a2 (by rw [ht]; exact fun z => nomatch z)
          rw [b2] at e'; cases e'
          have hio' : ioOf ts i = true := by
            unfold ioOf
            rw [List.getElem?_eq_getElem hi, ht]
          obtain ⟨v', hv', r'⟩ := rs'.sl i d' b1
          rw [fx.2 i (hfx i hio')] at hv'
          have hvv : (vs.map some)[i]? = some (some v') := by
            have hl2 : i < vs.length := by omega
            have := start_get (N := N) (List.getElem?_eq_getElem hl2)
            rw [this] at hv'
            rw [List.getElem?_map, List.getElem?_eq_getElem hl2]
            simpa using hv'
          refine ⟨v', hvv, ?_⟩
          rw [← hF i hi]
          refine R.mono r' fun a ha => ?_
          show (match own' a with | some i => if ioOf ts i = true then some i else none | none => none) = some i
          rw [ha]
          exact if_pos hio'
        | dv t2 =>
          obtain ⟨d3, b1, b2⟩ := a2 (by rw [ht]; exact fun z => nomatch z)
          rw [b2] at e'; cases e'
          have hio' : ioOf ts i = true := by
            unfold ioOf
            rw [List.getElem?_eq_getElem hi, ht]
          obtain ⟨v', hv', r'⟩ := rs'.sl i d' b1
          rw [fx.2 i (hfx i hio')] at hv'
          have hvv : (vs.map some)[i]? = some (some v') := by
            have hl2 : i < vs.length := by omega
            have := start_get (N := N) (List.getElem?_eq_getElem hl2)
            rw [this] at hv'
            rw [List.getElem?_map, List.getElem?_eq_getElem hl2]
            simpa using hv'
          refine ⟨v', hvv, ?_⟩
          rw [← hF i hi]
          refine R.mono r' fun a ha => ?_
          show (match own' a with | some i => if ioOf ts i = true then some i else none | none => none) = some i
          rw [ha]
          exact if_pos hio'
        | dk t2 =>
          obtain ⟨d3, b1, b2⟩ := a2 (by rw [ht]; exact fun z => nomatch z)
          rw [b2] at e'; cases e'
          have hio' : ioOf ts i = true := by
            unfold ioOf
            rw [List.getElem?_eq_getElem hi, ht]
          obtain ⟨v', hv', r'⟩ := rs'.sl i d' b1
          rw [fx.2 i (hfx i hio')] at hv'
          have hvv : (vs.map some)[i]? = some (some v') := by
            have hl2 : i < vs.length := by omega
            have := start_get (N := N) (List.getElem?_eq_getElem hl2)
            rw [this] at hv'
            rw [List.getElem?_map, List.getElem?_eq_getElem hl2]
            simpa using hv'
          refine ⟨v', hvv, ?_⟩
          rw [← hF i hi]
          refine R.mono r' fun a ha => ?_
          show (match own' a with | some i => if ioOf ts i = true then some i else none | none => none) = some i
          rw [ha]
          exact if_pos hio'
        | oi t2 =>
          obtain ⟨d3, b1, b2⟩ := a2 (by rw [ht]; exact fun z => nomatch z)
          rw [b2] at e'; cases e'
          have hio' : ioOf ts i = true := by
            unfold ioOf
            rw [List.getElem?_eq_getElem hi, ht]
          obtain ⟨v', hv', r'⟩ := rs'.sl i d' b1
          rw [fx.2 i (hfx i hio')] at hv'
          have hvv : (vs.map some)[i]? = some (some v') := by
            have hl2 : i < vs.length := by omega
            have := start_get (N := N) (List.getElem?_eq_getElem hl2)
            rw [this] at hv'
            rw [List.getElem?_map, List.getElem?_eq_getElem hl2]
            simpa using hv'
          refine ⟨v', hvv, ?_⟩
          rw [← hF i hi]
          refine R.mono r' fun a ha => ?_
          show (match own' a with | some i => if ioOf ts i = true then some i else none | none => none) = some i
          rw [ha]
          exact if_pos hio'
        | ot t2 =>
          obtain ⟨d3, b1, b2⟩ := a2 (by rw [ht]; exact fun z => nomatch z)
          rw [b2] at e'; cases e'
          have hio' : ioOf ts i = true := by
            unfold ioOf
            rw [List.getElem?_eq_getElem hi, ht]
          obtain ⟨v', hv', r'⟩ := rs'.sl i d' b1
          rw [fx.2 i (hfx i hio')] at hv'
          have hvv : (vs.map some)[i]? = some (some v') := by
            have hl2 : i < vs.length := by omega
            have := start_get (N := N) (List.getElem?_eq_getElem hl2)
            rw [this] at hv'
            rw [List.getElem?_map, List.getElem?_eq_getElem hl2]
            simpa using hv'
          refine ⟨v', hvv, ?_⟩
          rw [← hF i hi]
          refine R.mono r' fun a ha => ?_
          show (match own' a with | some i => if ioOf ts i = true then some i else none | none => none) = some i
          rw [ha]
          exact if_pos hio'
      · split at e
        · split at e
          · cases e; rename_i hh _; exact rs'.ls a i hh
          · cases e
        · cases e
      · split at e
        · split at e
          · cases e; rename_i hh _; exact rs'.dz a i hh
          · cases e
        · cases e
      · split at e
        · split at e
          · cases e; assumption
          · cases e
        · cases e
      · obtain ⟨g1, g2, g3, g4⟩ := gv a s
        refine ⟨?_, ?_, g3, g4⟩
        · rcases g1 with g | ⟨i, g, gf⟩
          · exact g
          · exact (nofx a i g gf).elim
        · show (match own' a with | some i => if ioOf ts i = true then some i else none | none => none) = none
          rw [g2]
      · rcases x.zn a z with z | z | ⟨i, z, zf⟩
        · exact .inl z
        · exact .inr (.inl z)
        · exact (nofx a i z zf).elim
      · have e : (match own' a with | some i => if ioOf ts i = true then some i else none | none => none) = some i := e
        split at e
        · split at e
          · cases e; rename_i hh _; exact x.on a i hh
          · cases e
        · cases e
    unfold runF at e
    split at e
    · rename_i d' ρ' e'
      split at e
      · rename_i out' ho
        cases e
        exact ⟨Z, own, _, _, ρ', rs, e', fun v σ' Z' own' H' S rs' fx r gv x => fin ho kk rs' fx r gv x⟩
      · cases e
    · rename_i ρ' e'
      split at e
      · rename_i out' ho
        cases e
        rcases hrt with hrt | hrt
        · exact ⟨Z, own, _, _, ρ', rs, e', fun σ' Z' own' H' rs' fx x => fin (S := fun _ => False) ho kk rs' fx (by rw [hrt]; simp only [R, RSh]) (fun _ z => z.elim) x⟩
        · exact absurd e' (hrt ds ρ')
      · cases e
    · cases e
    · cases e
end
def AgR [Tb] (K : PySem.W.Frag) (Z : Addr → Prop) (H : Hp) (σ : St) : List Ag → List D → List V → Prop
  | [], ds, vs => ds = [] ∧ vs = []
  | .e _ :: r, ds, vs => ∃ d ds' v vs', ds = d :: ds' ∧ vs = v :: vs' ∧ RSh K Z H d v ∧ AgR K Z H σ r ds' vs'
  | .io i :: r, ds, vs => ∃ d ds' v vs', ds = d :: ds' ∧ vs = v :: vs' ∧ σ[i]? = some (some v) ∧ AgR K Z H σ r ds' vs'
def tAg [Tb] (K : PySem.W.Frag) (τ : Nat → OT) (q : Bool) (as : List Ag) : TA := fun σ H Q => ∃ Z own ρ ds ρ', RS K τ Z own H ρ σ ∧ evA as ρ = .ok (ds, ρ') ∧
  ∀ vs Z' own' H', RS K τ Z' own' H' ρ' σ → AgR K Z' H' σ as ds vs → Ext q Z own H Z' own' H' → Q vs H'
section
variable [Tb] {X : Cx} {τ : Nat → OT} {q q1 q2 : Bool} {a : Expr} {es : List Expr} {ma : M D} {as : List Ag} {pos : Pos}
theorem ag_nil : PA X [] (tAg X.K τ true []) := pa_nil.mono fun σ H Q ⟨Z, own, ρ, ds, ρ', rs, e, k⟩ => by
  have e : Res.ok (([] : List D), ρ) = .ok (ds, ρ') := e
  cases e
  exact k [] Z own H rs ⟨rfl, rfl⟩ ExtF.refl
theorem ag_e (ha : PE X a (tE X.K τ q1 .sh ma)) (hr : PA X es (tAg X.K τ q2 as)) (hs : starEach (a :: es) X.env = (false, eval a X.env) :: starEach es X.env := by rfl) : PA X (a :: es) (tAg X.K τ (q1 && q2) (.e ma :: as)) := (pa_cons ha hr hs).mono fun σ H Q ⟨Z, own, ρ, ds, ρ', rs, e, k⟩ => by
  have e : mCons ma (evA as) ρ = .ok (ds, ρ') := e
  obtain ⟨x, ρ1, e1, e⟩ := bind_ok e
  obtain ⟨xs, ρ2, e2, e⟩ := bind_ok e
  cases e
  exact ⟨Z, own, ρ, x, ρ1, rs, e1, fun v Z1 own1 H1 S1 rs1 rm1 _ x1 => ⟨Z1, own1, ρ1, xs, ρ', rs1, e2, fun ws Z2 own2 H2 rs2 rl x2 =>
    k (v :: ws) Z2 own2 H2 rs2 ⟨x, xs, v, ws, rfl, rfl, rs1.sh x2 rm1, rl⟩ (x1.trans x2)⟩⟩
theorem ag_io (i : Nat) {x : Str} {p : Pos} (hr : PA X es (tAg X.K τ q as)) (hN : X.N[i]? = some x := by rfl) (hv : Vis X.env.scope x := by first | exact Or.inl rfl | exact Or.inr (Or.inl rfl) | exact Or.inr (Or.inr rfl)) (hd : (x == ("__debug__" : Str)) = false := by decide)
    (hcd : (x == ("__classdict__" : Str)) = false := by decide) (hs : starEach (.Name x p :: es) X.env = (false, eval (.Name x p) X.env) :: starEach es X.env := by rfl) : PA X (.Name x p :: es) (tAg X.K τ q (.io i :: as)) := (pa_cons (pv i hN hv hd hcd) hr hs).mono fun σ H Q ⟨Z, own, ρ, ds, ρ', rs, e, k⟩ => by
  have e : mCons (mV i) (evA as) ρ = .ok (ds, ρ') := e
  obtain ⟨d, ρ1, e1, e⟩ := bind_ok e
  obtain ⟨xs, ρ2, e2, e⟩ := bind_ok e
  cases e
  obtain ⟨e1, rfl⟩ := mV_ok e1
  obtain ⟨v, h1, _⟩ := rs.sl i d e1
  exact ⟨v, h1, Z, own, ρ1, xs, ρ', rs, e2, fun ws Z2 own2 H2 rs2 rl x2 => k (v :: ws) Z2 own2 H2 rs2 ⟨d, xs, v, ws, rfl, rfl, h1, rl⟩ x2⟩
end
def posIo : List Ag → Nat → Option Nat
  | [], _ => none
  | .e _ :: r, i => (posIo r i).map (· + 1)
  | .io j :: r, i => if j = i then some 0 else (posIo r i).map (· + 1)
def ioIx : List Ag → List Nat
  | [] => []
  | .e _ :: r => ioIx r
  | .io j :: r => j :: ioIx r
def tysOf (τ : Nat → OT) : List Ag → List OT
  | [] => []
  | .e _ :: r => .sh :: tysOf τ r
  | .io j :: r => τ j :: tysOf τ r
def isOl : OT → Bool
  | .ol _ _ => true
  | .od => true
  | .dv _ => true
  | .dk _ => true
  | .oi _ => true
  | .ot _ => true
  | .sh => false
/-- the i-th argument is slot j's own list -/
def IsIo (as : List Ag) (k j : Nat) : Prop := as[k]? = some (.io j)
theorem posIo_of : ∀ {as : List Ag} {i k : Nat}, posIo as i = some k → IsIo as k i
  | [], _, _, h => by simp [posIo] at h
  | .e _ :: r, i, k, h => by
    simp only [posIo] at h
    obtain ⟨j, hj, rfl⟩ := Option.map_eq_some_iff.mp h
    have := posIo_of hj
    unfold IsIo at *
    simpa using this
  | .io j :: r, i, k, h => by
    simp only [posIo] at h
    split at h
    · rename_i e; subst e; cases h; simp [IsIo]
    · obtain ⟨j, hj, rfl⟩ := Option.map_eq_some_iff.mp h
      have := posIo_of hj
      unfold IsIo at *
      simpa using this
theorem mem_ioIx : ∀ {as : List Ag} {i k : Nat}, IsIo as k i → i ∈ ioIx as
  | [], _, _, h => by simp [IsIo] at h
  | .e _ :: r, i, 0, h => by simp [IsIo] at h
  | .e _ :: r, i, k + 1, h => by
    have : IsIo r k i := by simpa [IsIo] using h
    simpa [ioIx] using mem_ioIx this
  | .io j :: r, i, 0, h => by
    have : j = i := by simpa [IsIo] using h
    simp [ioIx, this]
  | .io j :: r, i, k + 1, h => by
    have : IsIo r k i := by simpa [IsIo] using h
    simp [ioIx, mem_ioIx this]
theorem posIo_is : ∀ {as : List Ag} {i k : Nat}, (ioIx as).Nodup → IsIo as k i → posIo as i = some k
  | [], _, _, _, h => by simp [IsIo] at h
  | .e _ :: r, i, 0, _, h => by simp [IsIo] at h
  | .e _ :: r, i, k + 1, n, h => by
    have h' : IsIo r k i := by simpa [IsIo] using h
    simp [posIo, posIo_is (by simpa [ioIx] using n) h']
  | .io j :: r, i, 0, n, h => by
    have : j = i := by simpa [IsIo] using h
    simp [posIo, this]
  | .io j :: r, i, k + 1, n, h => by
    have h' : IsIo r k i := by simpa [IsIo] using h
    have n' : j ∉ ioIx r ∧ (ioIx r).Nodup := by simpa [ioIx] using n
    have : j ≠ i := fun e => n'.1 (e ▸ mem_ioIx h')
    simp [posIo, this, posIo_is n'.2 h']
/-- what is handed in, by places -/
theorem fill_get [Tb] {K : PySem.W.Frag} {Z : Addr → Prop} {H : Hp} {σ : St} {τ : Nat → OT} {ρ : Sl} : ∀ {as : List Ag} {ds full : List D} {vs : List V}, fillA as ds ρ = some full → AgR K Z H σ as ds vs →
    full.length = as.length ∧ vs.length = as.length ∧ (tysOf τ as).length = as.length ∧ ∀ k d, full[k]? = some d → ∃ v, vs[k]? = some v ∧
      (((tysOf τ as)[k]? = some OT.sh ∧ (∀ i, ¬ IsIo as k i) ∧ RSh K Z H d v) ∨ ∃ i, IsIo as k i ∧ (tysOf τ as)[k]? = some (τ i) ∧ ρ[i]? = some (some d) ∧ σ[i]? = some (some v))
  | [], _, full, _, e, ⟨e1, e2⟩ => by
    subst e1 e2
    simp only [fillA] at e
    cases e
    exact ⟨rfl, rfl, rfl, fun k d h => by simp at h⟩
  | .e m :: r, _, full, _, e, ⟨d, ds', v, vs', e1, e2, r1, r2⟩ => by
    subst e1 e2
    simp only [fillA] at e
    obtain ⟨o, ho, rfl⟩ := Option.map_eq_some_iff.mp e
    obtain ⟨a1, a2, a3, a4⟩ := fill_get (τ := τ) ho r2
    refine ⟨by simp [a1], by simp [a2], by simp [tysOf, a3], fun k d' h => ?_⟩
    cases k with
    | zero => simp at h; subst h; exact ⟨v, by simp, .inl ⟨by simp [tysOf], fun i z => by simp [IsIo] at z, r1⟩⟩
    | succ k =>
      obtain ⟨w, b1, b2⟩ := a4 k d' (by simpa using h)
      refine ⟨w, by simpa using b1, ?_⟩
      rcases b2 with ⟨c1, c2, c3⟩ | ⟨i, c1, c2, c3⟩
      · exact .inl ⟨by simpa [tysOf] using c1, fun i z => c2 i (by simpa [IsIo] using z), c3⟩
      · exact .inr ⟨i, by simpa [IsIo] using c1, by simpa [tysOf] using c2, c3⟩
  | .io j :: r, _, full, _, e, ⟨d, ds', v, vs', e1, e2, r1, r2⟩ => by
    subst e1 e2
    simp only [fillA] at e
    split at e
    · rename_i d0 hd0
      obtain ⟨o, ho, rfl⟩ := Option.map_eq_some_iff.mp e
      obtain ⟨a1, a2, a3, a4⟩ := fill_get (τ := τ) ho r2
      refine ⟨by simp [a1], by simp [a2], by simp [tysOf, a3], fun k d' h => ?_⟩
      cases k with
      | zero => simp at h; subst h; exact ⟨v, by simp, .inr ⟨j, by simp [IsIo], by simp [tysOf], hd0, r1⟩⟩
      | succ k =>
        obtain ⟨w, b1, b2⟩ := a4 k d' (by simpa using h)
        refine ⟨w, by simpa using b1, ?_⟩
        rcases b2 with ⟨c1, c2, c3⟩ | ⟨i, c1, c2, c3⟩
        · exact .inl ⟨by simpa [tysOf] using c1, fun i z => c2 i (by simpa [IsIo] using z), c3⟩
        · exact .inr ⟨i, by simpa [IsIo] using c1, by simpa [tysOf] using c2, c3⟩
    · cases e
/-- what stands in the slots behind the call -/
theorem back_get : ∀ {as : List Ag} {out : List D} {ρ : Sl} {i : Nat} {d : D}, (ioIx as).Nodup → out.length = as.length → (backA as out ρ)[i]? = some (some d) → (∃ k, IsIo as k i ∧ out[k]? = some d) ∨ ((∀ k, ¬ IsIo as k i) ∧ ρ[i]? = some (some d))
  | [], out, ρ, i, d, _, _, h => .inr ⟨fun k z => by simp [IsIo] at z, by simpa [backA] using h⟩
  | .e m :: r, [], ρ, i, d, _, hl, h => by simp at hl
  | .io j :: r, [], ρ, i, d, _, hl, h => by simp at hl
  | .e m :: r, o :: out, ρ, i, d, n, hl, h => by
    simp only [backA] at h
    rcases back_get (by simpa [ioIx] using n) (by simpa using hl) h with ⟨k, a, b⟩ | ⟨a, b⟩
    · exact .inl ⟨k + 1, by simpa [IsIo] using a, by simpa using b⟩
    · refine .inr ⟨fun k z => ?_, b⟩
      cases k with
      | zero => simp [IsIo] at z
      | succ k => exact a k (by simpa [IsIo] using z)
  | .io j :: r, o :: out, ρ, i, d, n, hl, h => by
    simp only [backA] at h
    have n' : j ∉ ioIx r ∧ (ioIx r).Nodup := by simpa [ioIx] using n
    rcases back_get n'.2 (by simpa using hl) h with ⟨k, a, b⟩ | ⟨a, b⟩
    · exact .inl ⟨k + 1, by simpa [IsIo] using a, by simpa using b⟩
    · by_cases hij : j = i
      · subst hij
        rw [List.getElem?_set] at b
        split at b
        · split at b
          · cases b; exact .inl ⟨0, by simp [IsIo], by simp⟩
          · cases b
        · rename_i z; exact absurd rfl z
      · rw [List.getElem?_set_ne hij] at b
        refine .inr ⟨fun k z => ?_, b⟩
        cases k with
        | zero => exact hij (by simpa [IsIo] using z)
        | succ k => exact a k (by simpa [IsIo] using z)
theorem back_len : ∀ (as : List Ag) (out : List D) (ρ : Sl), (backA as out ρ).length = ρ.length
  | [], _, _ => by simp [backA]
  | .e _ :: r, [], _ => by simp [backA]
  | .io _ :: r, [], _ => by simp [backA]
  | .e _ :: r, _ :: o, ρ => by simp only [backA]; exact back_len r o ρ
  | .io i :: r, d :: o, ρ => by simp only [backA]; rw [back_len r o]; simp
section
variable [Tb] {X : Cx} {τ : Nat → OT} {q : Bool} {k : Nat} {f : Addr} {fd : FuncData} {ps : List Str} {x : Str} {p pos : Pos} {e : Expr} {es : List Expr} {as : List Ag} {rt : OT} {G : Fn}
theorem callF_of (hnd : (ioIx as).Nodup) (hol : ∀ i, i ∈ ioIx as → isOl (τ i) = true) (hG : ∀ ds d out, G ds = .ok (d, out) → out.length = (tysOf τ as).length) : ∀ σ H Q, tE X.K τ false (.ow rt) (mCall G as) σ H Q → tAg X.K τ q as σ H fun vs H1 => spD X.K (tysOf τ as) rt G vs H1 Q E0 := fun σ H Q ⟨Z, own, ρ, d, ρ', rs, e, kk⟩ => by
  obtain ⟨ds, ρ1, e1, e⟩ := bind_ok e
  split at e
  case h_1 => cases e
  rename_i full ef
  split at e
  case h_2 => cases e
  case h_3 => cases e
  rename_i d' out eg
  cases e
  refine ⟨Z, own, ρ, ds, ρ1, rs, e1, fun vs Z1 own1 H1 rs1 rl x1 => ?_⟩
  obtain ⟨l1, l2, l3, hf⟩ := fill_get (τ := τ) ef rl
  have lo : out.length = as.length := by rw [hG _ _ _ eg, l3]
  have ioT : ∀ k i, IsIo as k i → (tysOf τ as)[k]? = some (τ i) ∧ ioOf (tysOf τ as) k = true := fun k i h => by
    have hk : k < full.length := by
      have := (List.getElem?_eq_some_iff.mp h).1
      omega
    obtain ⟨v, _, c⟩ := hf k full[k] (List.getElem?_eq_getElem hk)
    rcases c with ⟨c1, c2, c3⟩ | ⟨j, c1, c2, _⟩
    · exact absurd h (c2 i)
    · have : j = i := by
        unfold IsIo at h c1
        rw [h] at c1; cases c1; rfl
      subst this
      refine ⟨c2, ?_⟩
      have := hol j (mem_ioIx h)
      unfold ioOf
      rw [c2]
      revert this
      cases τ j <;> simp [isOl]
  let oc : Addr → Option Nat := fun a => (own1 a).bind (posIo as)
  have hoc : ∀ a k, oc a = some k → ∃ i, own1 a = some i ∧ IsIo as k i := fun a k h => by
    obtain ⟨i, h1, h2⟩ := Option.bind_eq_some_iff.mp h
    exact ⟨i, h1, posIo_of h2⟩
  have rsc : RS X.K (τOf (tysOf τ as)) Z1 oc H1 (full.map some) (vs.map some) := by
    refine ⟨fun k d e => ?_, fun a k h => ?_, fun a k h => ?_, rs1.zt, by simp [l1, l2], rs1.tb⟩
    · rw [List.getElem?_map] at e
      obtain ⟨d', e', ed⟩ := Option.map_eq_some_iff.mp e
      cases ed
      obtain ⟨v, hv, c⟩ := hf k d e'
      refine ⟨v, by rw [List.getElem?_map, hv]; rfl, ?_⟩
      rcases c with ⟨c1, c2, c3⟩ | ⟨i, c1, c2, c3, c4⟩
      · have : τOf (tysOf τ as) k = .sh := by simp [τOf, c1]
        rw [this]; exact c3
      · have : τOf (tysOf τ as) k = τ i := by simp [τOf, c2]
        rw [this]
        obtain ⟨v', hv', r'⟩ := rs1.sl i d c3
        rw [c4] at hv'; cases hv'
        refine R.mono r' fun a ha => ?_
        show (own1 a).bind (posIo as) = some k
        rw [ha]
        exact posIo_is hnd c1
    · obtain ⟨i, h1, _⟩ := hoc a k h
      exact rs1.ls a i h1
    · obtain ⟨i, h1, _⟩ := hoc a k h
      exact rs1.dz a i h1
  refine ⟨Z1, oc, full, _, out, by rw [l2, l3], by rw [l1, l3], rsc, fun a k h => ?_, eg, fun v Z2 oc2 H2 S rs2 h2 r hS x2 => ?_⟩
  · obtain ⟨i, _, h2⟩ := hoc a k h
    exact (ioT k i h2).2
  · let ow2 : Addr → Option Nat := fun a => match oc2 a with
      | some k => (match as[k]? with | some (.io i) => some i | _ => none)
      | none => (match own1 a with | some i => if posIo as i = none then some i else none | none => none)
    have hio2 : ∀ a i, ow2 a = some i → (∃ k, oc2 a = some k ∧ IsIo as k i) ∨ (oc2 a = none ∧ own1 a = some i ∧ posIo as i = none) := fun a i h => by
      have h : (match oc2 a with
        | some k => (match as[k]? with | some (.io i) => some i | _ => none)
        | none => (match own1 a with | some i => if posIo as i = none then some i else none | none => none)) = some i := h
      split at h
      · rename_i k hk
        split at h
        · rename_i j hj
          cases h
          exact .inl ⟨k, hk, hj⟩
        · cases h
      · rename_i hk
        split at h
        · rename_i j hj
          split at h
          · cases h; exact .inr ⟨hk, hj, by assumption⟩
          · cases h
        · cases h
    refine kk v Z2 ow2 H2 S ⟨fun i d0 e => ?_, fun a i h => ?_, fun a i h => ?_, rs2.zt, by rw [back_len]; exact rs1.len, rs2.tb⟩ r (fun a s => ?_) (x1.trans' (q2 := false) (fun z => nomatch z) (⟨x2.z, fun a z => (x2.zn a z).elim .inl (fun z => z.elim (fun z => .inr (.inl z)) (fun ⟨_, _, z⟩ => absurd z (by simp))), fun a i h => ?_, fun a o e h n => ?_, x2.live, x2.tk⟩ : ExtF fxT false Z1 own1 H1 Z2 ow2 H2))
    · rcases back_get hnd lo e with ⟨k, c1, c2⟩ | ⟨c1, c2⟩
      · obtain ⟨w, hw, rw'⟩ := rs2.sl k d0 (by rw [List.getElem?_map, c2]; rfl)
        have hk : k < full.length := by
          have := (List.getElem?_eq_some_iff.mp c1).1
          omega
        obtain ⟨v0, hv0, c⟩ := hf k full[k] (List.getElem?_eq_getElem hk)
        have c4 : σ[i]? = some (some v0) := by
          rcases c with ⟨_, c, _⟩ | ⟨j, d1, _, _, d4⟩
          · exact absurd c1 (c i)
          · have : j = i := by
              unfold IsIo at c1 d1
              rw [c1] at d1; cases d1; rfl
            subst this; exact d4
        rw [List.getElem?_map, hv0] at hw
        cases hw
        refine ⟨_, c4, ?_⟩
        have : τOf (tysOf τ as) k = τ i := by simp [τOf, (ioT k i c1).1]
        rw [this] at rw'
        refine R.mono rw' fun a ha => ?_
        show (match oc2 a with
          | some k => (match as[k]? with | some (.io i) => some i | _ => none)
          | none => (match own1 a with | some i => if posIo as i = none then some i else none | none => none)) = some i
        rw [ha]
        show (match as[k]? with | some (.io i) => some i | _ => none) = some i
        rw [show as[k]? = some (.io i) from c1]
      · obtain ⟨w, hw, rw'⟩ := rs1.sl i d0 c2
        refine ⟨w, hw, ?_⟩
        have np : posIo as i = none := by
          cases h : posIo as i with
          | none => rfl
          | some k => exact absurd (posIo_of h) (c1 k)
        have ocn : ∀ a, own1 a = some i → oc a = none := fun a h => by
          show (own1 a).bind (posIo as) = none
          rw [h]; exact np
        refine R.mono (R.pres x2.z (rsc.nl x2) (fun _ _ z s _ => rsc.kz x2 (.inl z) s) (fun a xs s hx _ => x2.keep a _ hx (.inl (ocn a s))) rw') fun a ha => ?_
        have oc2n : oc2 a = none := by
          cases h : oc2 a with
          | none => rfl
          | some k =>
            rcases x2.on a k h with z | z
            · rw [ocn a ha] at z; cases z
            · obtain ⟨xs, hx, _⟩ := rs1.ls a i ha
              rw [hx] at z; cases z
        show (match oc2 a with
          | some k => (match as[k]? with | some (.io i) => some i | _ => none)
          | none => (match own1 a with | some i => if posIo as i = none then some i else none | none => none)) = some i
        rw [oc2n, ha]
        exact if_pos np
    · rcases hio2 a i h with ⟨k, h1, _⟩ | ⟨h1, h2', h3⟩
      · exact rs2.ls a k h1
      · obtain ⟨xs, hx, hm⟩ := rs1.ls a i h2'
        have ocn : oc a = none := by
          show (own1 a).bind (posIo as) = none
          rw [h2']; exact h3
        exact ⟨xs, x2.keep a _ hx (.inl ocn), hm⟩
    · rcases hio2 a i h with ⟨k, h1, _⟩ | ⟨h1, h2', h3⟩
      · exact rs2.dz a k h1
      · intro z
        rcases x2.zn a z with z | z | ⟨j, z, zf⟩
        · exact rs1.dz a i h2' z
        · obtain ⟨xs, hx, _⟩ := rs1.ls a i h2'
          rw [hx] at z; cases z
        · cases zf
    · obtain ⟨s1, s2, s3, s4⟩ := hS a s
      refine ⟨x1.back s1, ?_, s3, s4⟩
      show (match oc2 a with
        | some k => (match as[k]? with | some (.io i) => some i | _ => none)
        | none => (match own1 a with | some i => if posIo as i = none then some i else none | none => none)) = none
      rw [s2]
      cases ho : own1 a with
      | none => rfl
      | some i => obtain ⟨xs, hx, _⟩ := rs1.ls a i ho; rw [s1] at hx; cases hx
    · rcases hio2 a i h with ⟨k, h1, h2'⟩ | ⟨h1, h2', h3⟩
      · rcases x2.on a k h1 with z | z
        · obtain ⟨j, z1, z2⟩ := hoc a k z
          have : j = i := by
            unfold IsIo at h2' z2
            rw [h2'] at z2; cases z2; rfl
          subst this
          exact .inl z1
        · exact .inr z
      · exact .inl h2'
    · rcases h with h | h
      · exact x2.keep a o e (.inl (by show (own1 a).bind (posIo as) = none; rw [h]; rfl))
      · cases h
theorem e_callF (Fu : FnG X.prog X.w X.K X.mg X.base k f fd ps (spD X.K (tysOf τ as) rt G)) (hk : PySem.W.keepIn X.K (.ref f) = true) (hb : Binds X.K fd ps []) (hr : Room k X.A) (hgu : X.A.guards = some []) (hm : X.mg x = some (.ref f)) (ha : PA X (e :: es) (tAg X.K τ q as)) (hG : ∀ ds d out, G ds = .ok (d, out) → out.length = (tysOf τ as).length) (hnd : (ioIx as).Nodup := by simp [ioIx]) (hol : ∀ i, i ∈ ioIx as → isOl (τ i) = true := by simp [ioIx, isOl]) (hg : Gl X x := by rfl)
    (hdb : (x == ("__debug__" : Str)) = false := by decide) (he : starEach (e :: es) X.env = (false, eval e X.env) :: starEach es X.env := by rfl) (hpl : (backTo pos (starEach es X.env)).any (·.1) = false := by rfl) :
    PE X (.Call (.Name x p) (e :: es) [] pos) (tE X.K τ false (.ow rt) (mCall G as)) := (pe_callG Fu hr hgu hg hm hk hb ha hdb he hpl).mono (callF_of hnd hol hG)
end
theorem runF_len {ts : List OT} {nl : Nat} {b : MS} : ∀ ds d out, runF ts nl b ds = .ok (d, out) → out.length = ts.length := fun ds d out e => by
  unfold runF at e
  split at e
  · split at e
    · rename_i ho; cases e; exact (outs_get ho).1
    · cases e
  · split at e
    · rename_i ho; cases e; exact (outs_get ho).1
    · cases e
  · cases e
  · cases e
end CL
namespace CL
open PySem PySem.Spec L2
set_option autoImplicit false
section
variable [Tb] {K : PySem.W.Frag} {τ : Nat → OT} {Z : Addr → Prop} {own : Addr → Option Nat} {H : Hp} {ρ : Sl} {σ : St} {i : Nat}
theorem upd_sqL {a : Addr} {ys : List V} (hz : ¬ Z a) : ∀ b o, Z b → H b = some o → NT o → upd H a (.lst ys) b = some o := fun b o z s _ => by
  rw [upd_ne (fun e => by subst e; exact hz z)]; exact s
/-- a slot's own list is changed -/
theorem RS.updOwn {a : Addr} {xs ys : List V} {v : V} {d : D} (h : RS K τ Z own H ρ σ) (ho : own a = some i) (ha : H a = some (.lst xs)) (hv : σ[i]? = some (some v)) (hn : R K Z (upd H a (.lst ys)) (τ i) d v (fun b => own b = some i)) :
    RS K τ Z own (upd H a (.lst ys)) (ρ.set i (some d)) σ ∧ Ext false Z own H Z own (upd H a (.lst ys)) := by
  have hz := h.dz a i ho
  refine ⟨⟨fun j d' e => ?_, fun b j e => ?_, h.dz, fun b z e => ?_, by simpa using h.len, (upd_tk ha trivial).ok h.tb⟩, fun _ z => z, fun _ z => .inl z, fun _ _ z => .inl z, fun b o e hb _ => ?_, fun b e n => ?_, upd_tk ha trivial⟩
  · by_cases hij : i = j
    · subst hij
      rw [List.getElem?_set] at e
      split at e
      · split at e
        · cases e; exact ⟨v, hv, hn⟩
        · cases e
      · rename_i n; exact absurd rfl n
    · rw [List.getElem?_set_ne hij] at e
      obtain ⟨w, e1, e2⟩ := h.sl j d' e
      refine ⟨w, e1, R.pres (fun _ z => z) (upd_nl ha trivial) (upd_sqL hz) (fun b zs s hb _ => ?_) e2⟩
      rw [upd_ne (fun e => by subst e; rw [ho] at s; cases s; exact hij rfl)]; exact hb
  · by_cases hb : b = a
    · subst hb; exact ⟨_, upd_same, trivial⟩
    · obtain ⟨zs, hx, hm⟩ := h.ls b j e
      exact ⟨zs, by rw [upd_ne hb]; exact hx, hm⟩
  · rw [upd_ne (fun w => by subst w; exact hz z)] at e
    exact h.zt b z e
  · rcases hb with hb | hb
    · rw [upd_ne (fun w => by subst w; rw [ho] at hb; cases hb)]; exact e
    · cases hb
  · by_cases hb : b = a
    · subst hb; rw [upd_same] at n; cases n
    · rw [upd_ne hb] at n; exact e n
theorem RS.own1 {l : List D} (h : RS K τ Z own H ρ σ) (ht : τ i = .ol .sh .sh) (hi : ρ[i]? = some (some (.lst l))) : ∃ a xs, σ[i]? = some (some (.ref a)) ∧ H a = some (.lst xs) ∧ own a = some i ∧ RShL K Z H l xs ∧
    ∀ l' ys, RShL K Z H l' ys → RS K τ Z own (upd H a (.lst ys)) (ρ.set i (some (.lst l'))) σ ∧ Ext false Z own H Z own (upd H a (.lst ys)) := by
  obtain ⟨v, hv, r⟩ := h.sl i _ hi
  rw [ht] at r
  obtain ⟨l0, a, xs, ow, e1, rfl, e3, e4, e5, e6, e7, e8⟩ := r
  cases e1
  refine ⟨a, xs, hv, e3, e4, .of_get e6 fun n d v p q => ?_, fun l' ys r' => h.updOwn e4 e3 hv ?_⟩
  · cases n with
    | zero => exact e7 d v p q
    | succ n => exact e8 n d v p q
  · rw [ht]
    have rr : RShL K Z (upd H a (.lst ys)) l' ys := RShL.pres (fun _ z => z) (upd_nl e3 trivial) (upd_sqL (h.dz a i e4)) _ _ r'
    refine ⟨l', a, ys, ow, rfl, rfl, upd_same, e4, e5, rr.len, fun d v p q => ?_, fun n d v p q => ?_⟩
    · obtain ⟨w, x, y⟩ := rr.get p
      rw [q] at x; cases x; exact y
    · obtain ⟨w, x, y⟩ := rr.get p
      rw [q] at x; cases x; exact y
theorem RS.own0 {l r : List D} {t : OT} (h : RS K τ Z own H ρ σ) (ht : τ i = .ol (.ol .sh .sh) t) (hi : ρ[i]? = some (some (.lst (.lst l :: r)))) : ∃ a b xs ys, σ[i]? = some (some (.ref a)) ∧ H a = some (.lst (.ref b :: xs)) ∧ H b = some (.lst ys) ∧ own b = some i ∧ RShL K Z H l ys ∧
    ∀ l' ys', RShL K Z H l' ys' → RS K τ Z own (upd H b (.lst ys')) (ρ.set i (some (.lst (.lst l' :: r)))) σ ∧ Ext false Z own H Z own (upd H b (.lst ys')) := by
  obtain ⟨v, hv, rr⟩ := h.sl i _ hi
  rw [ht] at rr
  obtain ⟨l0, a, xs0, ow, e1, rfl, e3, e4, e5, e6, e7, e8⟩ := rr
  cases e1
  cases xs0 with
  | nil => simp at e6
  | cons v0 xs =>
    obtain ⟨l1, b, ys, ow', f1, rfl, f3, f4, f5, f6, f7, f8⟩ := e7 (.lst l) v0 (by simp) (by simp)
    cases f1
    have hz := h.dz b i f4.1
    have nab : a ≠ b := fun e => by subst e; rw [e5] at f4; cases f4.2
    refine ⟨a, b, xs, ys, hv, e3, f3, f4.1, .of_get f6 fun n d v p q => ?_, fun l' ys' r' => h.updOwn f4.1 f3 hv ?_⟩
    · cases n with
      | zero => exact f7 d v p q
      | succ n => exact f8 n d v p q
    · rw [ht]
      have rl : RShL K Z (upd H b (.lst ys')) l' ys' := RShL.pres (fun _ z => z) (upd_nl f3 trivial) (upd_sqL hz) _ _ r'
      refine ⟨.lst l' :: r, a, .ref b :: xs, ow, rfl, rfl, by rw [upd_ne nab]; exact e3, e4, e5, by simpa using e6, fun d v p q => ?_, fun n d v p q => ?_⟩
      · simp at p q
        subst p q
        refine ⟨l', b, ys', ow', rfl, rfl, upd_same, f4, f5, rl.len, fun d v p q => ?_, fun n d v p q => ?_⟩
        · obtain ⟨w, x, y⟩ := rl.get p
          rw [q] at x; cases x; exact y
        · obtain ⟨w, x, y⟩ := rl.get p
          rw [q] at x; cases x; exact y
      · refine R.pres (fun _ z => z) (upd_nl f3 trivial) (upd_sqL hz) (fun c zs s hc _ => ?_) (e8 n d v (by simpa using p) (by simpa using q))
        rw [upd_ne (fun e => by subst e; rw [f4.2] at s; cases s.2)]; exact hc
theorem RS.ownS {l : List D} {t0 : OT} (h : RS K τ Z own H ρ σ) (ht : τ i = .ol t0 .sh) (hi : ρ[i]? = some (some (.lst l))) : ∃ a xs, σ[i]? = some (some (.ref a)) ∧ H a = some (.lst xs) ∧ l.length = xs.length ∧ (∀ k d, l[k + 1]? = some d → ∃ v, xs[k + 1]? = some v ∧ RSh K Z H d v) ∧
    ∀ k d v, RSh K Z H d v → RS K τ Z own (upd H a (.lst (xs.set (k + 1) v))) (ρ.set i (some (.lst (l.set (k + 1) d)))) σ ∧ Ext false Z own H Z own (upd H a (.lst (xs.set (k + 1) v))) := by
  obtain ⟨v, hv, rr⟩ := h.sl i _ hi
  rw [ht] at rr
  obtain ⟨l0, a, xs, ow, e1, rfl, e3, e4, e5, e6, e7, e8⟩ := rr
  cases e1
  have hz := h.dz a i e4
  refine ⟨a, xs, hv, e3, e6, fun k d e => ?_, fun k d v r => h.updOwn e4 e3 hv ?_⟩
  · have hk : k + 1 < xs.length := by rw [← e6]; exact (List.getElem?_eq_some_iff.mp e).1
    exact ⟨_, List.getElem?_eq_getElem hk, e8 k d _ e (List.getElem?_eq_getElem hk)⟩
  · rw [ht]
    have rn : RSh K Z (upd H a (.lst (xs.set (k + 1) v))) d v := RSh.pres (fun _ z => z) (upd_nl e3 trivial) (upd_sqL hz) _ _ r
    refine ⟨l.set (k + 1) d, a, _, ow, rfl, rfl, upd_same, e4, e5, by simpa using e6, fun d' v' p q => ?_, fun n d' v' p q => ?_⟩
    · rw [List.getElem?_set_ne (by omega)] at p q
      refine R.pres (fun _ z => z) (upd_nl e3 trivial) (upd_sqL hz) (fun c zs s hc _ => ?_) (e7 d' v' p q)
      rw [upd_ne (fun e => by subst e; rw [e5] at s; cases s.2)]; exact hc
    · by_cases hn : k = n
      · subst hn
        rw [List.getElem?_set] at p q
        simp only [if_true] at p q
        split at p
        · split at q
          · cases p; cases q; exact rn
          · cases q
        · cases p
      · rw [List.getElem?_set_ne (by omega)] at p q
        exact RSh.pres (fun _ z => z) (upd_nl e3 trivial) (upd_sqL hz) _ _ (e8 n d' v' p q)
end
def mApp (i : Nat) (m : M D) : M D := bind (mV i) fun _ => bind m fun d => fun ρ => match ρ[i]? with
  | some (some (.lst l)) => if l.length < 16777216 then .ok (.non, ρ.set i (some (.lst (l ++ [d])))) else .bad
  | _ => .bad
def mIx0 (i : Nat) : M D := fun ρ => match ρ[i]? with
  | some (some (.lst (.lst l :: _))) => .ok (.lst l, ρ)
  | _ => .bad
def mApp0 (i : Nat) (m : M D) : M D := bind (mIx0 i) fun _ => bind m fun d => fun ρ => match ρ[i]? with
  | some (some (.lst (.lst l :: r))) => if l.length < 16777216 then .ok (.non, ρ.set i (some (.lst (.lst (l ++ [d]) :: r)))) else .bad
  | _ => .bad
def mPop0 (i : Nat) : M D := fun ρ => match ρ[i]? with
  | some (some (.lst (.lst l :: r))) => (match l[l.length - 1]? with | some d => .ok (d, ρ.set i (some (.lst (.lst l.dropLast :: r)))) | none => .bad)
  | _ => .bad
def mIxS (i k : Nat) : M D := fun ρ => match ρ[i]? with
  | some (some (.lst l)) => (match l[k + 1]? with | some d => .ok (d, ρ) | none => .bad)
  | _ => .bad
def sSto (i k : Nat) (m : M D) : MS := bind m fun d => fun ρ => match ρ[i]? with
  | some (some (.lst l)) => if k + 1 < l.length then .ok (.nx, ρ.set i (some (.lst (l.set (k + 1) d)))) else .bad
  | _ => .bad
theorem RShL.dropLast {K : PySem.W.Frag} {Z : Addr → Prop} {H : Hp} {ds : List D} {vs : List V} (h : RShL K Z H ds vs) : RShL K Z H ds.dropLast vs.dropLast := by
  rw [List.dropLast_eq_take, List.dropLast_eq_take, h.len]
  exact h.take _
section
variable [Tb] {X : Cx} {τ : Nat → OT} {q : Bool} {e : Expr} {ma : M D} {pos apos p1 p2 : Pos} {x : Str} {kk : Nat}
theorem e_app (i : Nat) (he : PA X [e] (tAs X.K τ q (mCons ma mNil))) (ht : τ i = .ol .sh .sh := by rfl) (hN : X.N[i]? = some x := by rfl) (hv : Vis X.env.scope x := by first | exact Or.inl rfl | exact Or.inr (Or.inl rfl) | exact Or.inr (Or.inr rfl)) (hd : (x == ("__debug__" : Str)) = false := by decide)
    (hcd : (x == ("__classdict__" : Str)) = false := by decide) (hbase : attributeBase (.Name x p1) "append" X.env (eval (.Name x p1) X.env) = eval (.Name x p1) X.env := by rfl)
    (hfew : ((backTo pos (starEach [e] X.env)).all (fun x => !x.1) && (backToKw pos (keywordEach [] X.env)).all (fun x => x.1.isSome) && decide ([e].length + ([] : List Keyword).length + (if ([] : List Keyword).isEmpty then 0 else 1) < 30)) = true := by rfl)
    (hline : (apos.endLine == pos.line) = true := by rfl) (hs : starEach [e] X.env = (false, eval e X.env) :: starEach [] X.env := by rfl) (hplain : (backTo pos (starEach [] X.env)).any (·.1) = false := by rfl) :
    PE X (.Call (.Attribute (.Name x p1) "append" apos) [e] [] pos) (tE X.K τ false .sh (mApp i ma)) :=
  (pe_bm PySem.F.plainAttrs_list PySem.F.slot_list_append PySem.F.type_list_append mt_append (pv i hN hv hd hcd) he hbase hfew hline hs hplain).mono fun σ H Q ⟨Z, own, ρ, d, ρ', rs, e, k⟩ => by
    obtain ⟨y, ρ1, e1, f1⟩ := bind_ok e
    obtain ⟨e1, rfl⟩ := mV_ok e1
    obtain ⟨d1, ρ2, e2, f2⟩ := bind_ok f1
    split at f2
    · rename_i l hl
      split at f2
      · rename_i hll
        cases f2
        obtain ⟨v, hv1, hr⟩ := rs.sl i y e1
        rw [ht] at hr
        obtain ⟨l0, a, xs, ow, h1, rfl, h3, h4, h5, h6, h7, h8⟩ := hr
        refine ⟨.ref a, hv1, .inl ⟨rfl, xs, SqL.of h3⟩, Z, own, ρ1, [d1], ρ2, rs, by unfold mCons; rw [bind_of e2]; rfl, fun vs Z1 own1 H1 rs1 rl x1 => ?_⟩
        simp only [RShL] at rl
        obtain ⟨w, ws, rfl, r1, rfl⟩ := rl
        obtain ⟨a', xs', g1, g2, g3, g4, g5⟩ := rs1.own1 ht hl
        rw [hv1] at g1; cases g1
        obtain ⟨rs2, x2⟩ := g5 (l ++ [d1]) (xs' ++ [w]) (g4.append (.one r1))
        refine ⟨a, xs', w, rfl, rfl, g2, by rw [← g4.len, szL]; exact hll, k _ Z1 own1 _ (fun _ => False) rs2 (by simp only [Rm, R, RSh]) (fun _ z => z.elim) ((x1.weak).transF x2)⟩
      · cases f2
    · cases f2
theorem e_ix0 (i : Nat) {t : OT} (ht : τ i = .ol (.ol .sh .sh) t := by rfl) (hN : X.N[i]? = some x := by rfl) (hv : Vis X.env.scope x := by first | exact Or.inl rfl | exact Or.inr (Or.inl rfl) | exact Or.inr (Or.inr rfl)) (hd : (x == ("__debug__" : Str)) = false := by decide)
    (hcd : (x == ("__classdict__" : Str)) = false := by decide) : PE X (.Subscript (.Name x p1) (.Constant (.int 0) kk p2) pos) (tE X.K τ true .pk (mIx0 i)) :=
  (pe_ix ix_list (pv i hN hv hd hcd) pe_int (fun _ _ => rfl)).mono fun σ H Q ⟨Z, own, ρ, d, ρ', rs, e, k⟩ => by
    unfold mIx0 at e
    split at e
    · rename_i l r hl
      cases e
      obtain ⟨a, b, xs, ys, g1, g2, g3, g4, g5, g6⟩ := rs.own0 ht hl
      exact ⟨.ref a, g1, a, .ref b :: xs, 0, .ref b, rfl, rfl, SqL.of g2, atI_nat (j := 0) rfl, k _ Z own H (fun _ => False) rs (.inr ⟨l, b, ys, rfl, rfl, g3, by rw [g4]; simp, g5⟩) (fun _ z => z.elim) ExtF.refl⟩
    · cases e
theorem e_ixS (i k : Nat) {t0 : OT} {j : Int} (ht : τ i = .ol t0 .sh := by rfl) (hj : j = ((k + 1 : Nat) : Int) := by rfl) (hN : X.N[i]? = some x := by rfl) (hv : Vis X.env.scope x := by first | exact Or.inl rfl | exact Or.inr (Or.inl rfl) | exact Or.inr (Or.inr rfl)) (hd : (x == ("__debug__" : Str)) = false := by decide)
    (hcd : (x == ("__classdict__" : Str)) = false := by decide) : PE X (.Subscript (.Name x p1) (.Constant (.int j) kk p2) pos) (tE X.K τ true .sh (mIxS i k)) :=
  (pe_ix ix_list (pv i hN hv hd hcd) pe_int (fun _ _ => rfl)).mono fun σ H Q ⟨Z, own, ρ, d, ρ', rs, e, kq⟩ => by
    unfold mIxS at e
    split at e
    · rename_i l hl
      split at e
      · rename_i d1 hd1
        cases e
        obtain ⟨a, xs, g1, g2, g3, g4, g5⟩ := rs.ownS ht hl
        obtain ⟨v, hv1, rv⟩ := g4 k d hd1
        exact ⟨.ref a, g1, a, xs, j, v, rfl, rfl, SqL.of g2, by rw [hj]; exact atI_nat hv1, kq v Z own H (fun _ => False) rs rv (fun _ z => z.elim) ExtF.refl⟩
      · cases e
    · cases e
theorem e_pop0 (i : Nat) {t : OT} (ht : τ i = .ol (.ol .sh .sh) t := by rfl) (hN : X.N[i]? = some x := by rfl) (hv : Vis X.env.scope x := by first | exact Or.inl rfl | exact Or.inr (Or.inl rfl) | exact Or.inr (Or.inr rfl)) (hd : (x == ("__debug__" : Str)) = false := by decide)
    (hcd : (x == ("__classdict__" : Str)) = false := by decide) {p0 : Pos} (hbase : attributeBase (.Subscript (.Name x p1) (.Constant (.int 0) kk p2) p0) "pop" X.env (eval (.Subscript (.Name x p1) (.Constant (.int 0) kk p2) p0) X.env) = eval (.Subscript (.Name x p1) (.Constant (.int 0) kk p2) p0) X.env := by rfl) (hline : (apos.endLine == pos.line) = true := by rfl) :
    PE X (.Call (.Attribute (.Subscript (.Name x p1) (.Constant (.int 0) kk p2) p0) "pop" apos) [] [] pos) (tE X.K τ false .sh (mPop0 i)) :=
  (pe_bm0 PySem.F.plainAttrs_list PySem.F.slot_list_pop PySem.F.type_list_pop mt_pop (pe_ix ix_list (pv i hN hv hd hcd) pe_int (fun _ _ => rfl)) hbase hline).mono fun σ H Q ⟨Z, own, ρ, d, ρ', rs, e, k⟩ => by
    unfold mPop0 at e
    split at e
    · rename_i l r hl
      split at e
      · rename_i d1 hd1
        cases e
        obtain ⟨a, b, xs, ys, g1, g2, g3, g4, g5, g6⟩ := rs.own0 ht hl
        obtain ⟨rs2, x2⟩ := g6 l.dropLast ys.dropLast g5.dropLast
        obtain ⟨v, hv1, rv⟩ := g5.get hd1
        rw [g5.len] at hv1
        exact ⟨.ref a, g1, a, .ref b :: xs, 0, .ref b, rfl, rfl, SqL.of g2, atI_nat (j := 0) rfl, .inl ⟨rfl, ys, SqL.of g3⟩, b, ys, v, rfl, rfl, g3, hv1, k v Z own _ (fun _ => False) rs2 (rs.sh x2 rv) (fun _ z => z.elim) x2⟩
      · cases e
    · cases e
theorem e_app0 (i : Nat) {t : OT} (he : PA X [e] (tAs X.K τ true (mCons ma mNil))) (ht : τ i = .ol (.ol .sh .sh) t := by rfl) (hN : X.N[i]? = some x := by rfl) (hv : Vis X.env.scope x := by first | exact Or.inl rfl | exact Or.inr (Or.inl rfl) | exact Or.inr (Or.inr rfl)) (hd : (x == ("__debug__" : Str)) = false := by decide)
    (hcd : (x == ("__classdict__" : Str)) = false := by decide) {p0 : Pos} (hbase : attributeBase (.Subscript (.Name x p1) (.Constant (.int 0) kk p2) p0) "append" X.env (eval (.Subscript (.Name x p1) (.Constant (.int 0) kk p2) p0) X.env) = eval (.Subscript (.Name x p1) (.Constant (.int 0) kk p2) p0) X.env := by rfl)
    (hfew : ((backTo pos (starEach [e] X.env)).all (fun x => !x.1) && (backToKw pos (keywordEach [] X.env)).all (fun x => x.1.isSome) && decide ([e].length + ([] : List Keyword).length + (if ([] : List Keyword).isEmpty then 0 else 1) < 30)) = true := by rfl)
    (hline : (apos.endLine == pos.line) = true := by rfl) (hs : starEach [e] X.env = (false, eval e X.env) :: starEach [] X.env := by rfl) (hplain : (backTo pos (starEach [] X.env)).any (·.1) = false := by rfl) :
    PE X (.Call (.Attribute (.Subscript (.Name x p1) (.Constant (.int 0) kk p2) p0) "append" apos) [e] [] pos) (tE X.K τ false .sh (mApp0 i ma)) :=
  (pe_bm PySem.F.plainAttrs_list PySem.F.slot_list_append PySem.F.type_list_append mt_append (pe_ix ix_list (pv i hN hv hd hcd) pe_int (fun _ _ => rfl)) he hbase hfew hline hs hplain).mono fun σ H Q ⟨Z, own, ρ, d, ρ', rs, e, k⟩ => by
    obtain ⟨y, ρ1, e1, f1⟩ := bind_ok e
    obtain ⟨d1, ρ2, e2, f2⟩ := bind_ok f1
    unfold mIx0 at e1
    split at e1
    · rename_i l1 r1 hl1
      cases e1
      split at f2
      · rename_i l r hl
        split at f2
        · rename_i hll
          cases f2
          obtain ⟨a, b, xs, ys, g1, g2, g3, g4, g5, g6⟩ := rs.own0 ht hl1
          refine ⟨.ref a, g1, a, .ref b :: xs, 0, .ref b, rfl, rfl, SqL.of g2, atI_nat (j := 0) rfl, .inl ⟨rfl, ys, SqL.of g3⟩, Z, own, _, [d1], ρ2, rs, by unfold mCons; rw [bind_of e2]; rfl, fun vs Z1 own1 H1 rs1 rl x1 => ?_⟩
          simp only [RShL] at rl
          obtain ⟨w, ws, rfl, rw1, rfl⟩ := rl
          obtain ⟨a', b', xs', ys', f1, f2, f3, f4, f5, f6⟩ := rs1.own0 ht hl
          rw [g1] at f1; cases f1
          rw [x1.keep a _ g2 (.inr rfl)] at f2; cases f2
          obtain ⟨rs2, x2⟩ := f6 (l ++ [d1]) (ys' ++ [w]) (f5.append (.one rw1))
          exact ⟨b, ys', w, rfl, rfl, f3, by rw [← f5.len, szL]; exact hll, k _ Z1 own1 _ (fun _ => False) rs2 (by simp only [Rm, R, RSh]) (fun _ z => z.elim) ((x1.weak).transF x2)⟩
        · cases f2
      · cases f2
    · cases e1
/-- slot[k + 1] = e -/
theorem s_sto {F : Fr} {j : Int} {t0 : OT} (i k : Nat) (he : PE X e (tE X.K F.τ q .sh ma)) (ht : F.τ i = .ol t0 .sh := by rfl) (hj : j = ((k + 1 : Nat) : Int) := by rfl) (hN : X.N[i]? = some x := by rfl) (hv : Vis X.env.scope x := by first | exact Or.inl rfl | exact Or.inr (Or.inl rfl) | exact Or.inr (Or.inr rfl)) (hd : (x == ("__debug__" : Str)) = false := by decide)
    (hcd : (x == ("__classdict__" : Str)) = false := by decide) {p0 : Pos} (hs : swapsWithSole [.Subscript (.Name x p1) (.Constant (.int j) kk p2) p0] e pos.line X.env = pure false := by rfl) (hw : swappedStores [.Subscript (.Name x p1) (.Constant (.int j) kk p2) p0] e X.env = pure none := by rfl) :
    PS X (.Assign [.Subscript (.Name x p1) (.Constant (.int j) kk p2) p0] e pos) (tS X.K F (sSto i k ma)) := (ps_asg he (pg_sub (pv i hN hv hd hcd) pe_int set_list) hs hw).mono fun E σ H ⟨Z, own, ρ, f, ρ', rs, e, o⟩ => by
  obtain ⟨d1, ρ1, e1, f1⟩ := bind_ok e
  split at f1
  · rename_i l hl
    split at f1
    · rename_i hk
      cases f1
      refine ⟨Z, own, ρ, d1, ρ1, rs, e1, fun v Z1 own1 H1 S rs1 rm n x1 => ?_⟩
      obtain ⟨a, xs, g1, g2, g3, g4, g5⟩ := rs1.ownS ht hl
      obtain ⟨rs2, x2⟩ := g5 k d1 v rm
      refine ⟨.ref a, g1, a, xs, j, k + 1, rfl, rfl, g2, ?_, o σ Z1 own1 _ rs2 Fix.refl ((x1.weak.any).transF x2.any)⟩
      rw [hj, ← g3]
      unfold ixN
      rw [if_pos (by omega), if_pos (by omega)]
      simp
    · cases f1
  · cases f1
/-- [e, ..], the first one a new list of its own -/
theorem e_lstH {es : List Expr} {q2 : Bool} {ms : M (List D)} {t : OT} (ha : PE X e (tE X.K τ q (.ow t) ma)) (hr : PA X es (tAs X.K τ q2 ms)) (hs : starEach (e :: es) X.env = (false, eval e X.env) :: starEach es X.env := by rfl) :
    PE X (.List (e :: es) pos) (tE X.K τ (q && q2) (.ow (.ol t .sh)) (mN bLst (mCons ma ms))) := (pe_lst (pa_cons ha hr hs)).mono fun σ H Q ⟨Z, own, ρ, d, ρ', rs, e, k⟩ => by
  obtain ⟨xs0, ρ1, e1, f1⟩ := bind_ok e
  obtain ⟨d0, ρ2, e2, f2⟩ := bind_ok e1
  obtain ⟨ds, ρ3, e3, f3⟩ := bind_ok f2
  cases f3
  obtain ⟨f4, rfl⟩ := ofO_ok f1
  unfold bLst at f4
  split at f4
  · rename_i hl
    cases f4
    refine ⟨Z, own, ρ, d0, ρ2, rs, e2, fun v Z1 own1 H1 S1 rs1 rm1 n1 x1 => ⟨Z1, own1, ρ2, ds, ρ', rs1, e3, fun vs Z2 own2 H2 rs2 rl x2 => ⟨szl hl (by simp [rl.len]), fun p hp => ?_⟩⟩⟩
    have g : Grow H2 (upd H2 p (.lst (v :: vs))) := Grow.new hp
    have rm2 : R X.K Z2 H2 t d0 v S1 := rs1.apart x2 (fun a s => (n1 a s).2.1) rm1
    have n2 : ∀ a, S1 a → H a = none ∧ own2 a = none ∧ ¬ Z2 a ∧ ∃ o, H2 a = some o ∧ Mut o := fun a s => by
      obtain ⟨m1, m2, m3, xs, m4, m5⟩ := n1 a s
      refine ⟨m1, ?_, fun z => ?_, xs, x2.keep a _ m4 (.inl m2), m5⟩
      · cases h : own2 a with
        | none => rfl
        | some i =>
          rcases x2.on a i h with z | z
          · rw [m2] at z; cases z
          · rw [m4] at z; cases z
      · rcases x2.zn a z with z | z | ⟨i, z, _⟩
        · exact m3 z
        · rw [m4] at z; cases z
        · rw [m2] at z; cases z
    have np : ∀ a, S1 a → a ≠ p := fun a s e => by
      subst e
      obtain ⟨_, _, _, xs, m, _⟩ := n2 a s
      rw [hp] at m; cases m
    have pf : H p = none := (x1.transF x2).back hp
    classical
    refine k _ Z2 own2 _ (fun a => a = p ∨ S1 a) (rs2.growO g) ⟨d0 :: ds, p, v :: vs, fun a => if a = p then none else some 0, rfl, rfl, upd_same, .inl rfl, if_pos rfl, by simp [rl.len], fun d w h1 h2 => ?_, fun n d w h1 h2 => ?_⟩ (fun a s => ?_) ((x1.trans x2).trans' (fun z => ⟨z, rfl⟩) (ExtF.growO (q := true) g))
    · simp at h1 h2
      subst h1 h2
      exact R.mono (g.r rm2) fun a s => ⟨.inr s, if_neg (np a s)⟩
    · obtain ⟨w', y1, y2⟩ := rl.get (i := n) (d := d) (by simpa using h1)
      have : vs[n]? = some w := by simpa using h2
      rw [this] at y1; cases y1
      exact g.sh y2
    · rcases s with rfl | s
      · refine ⟨pf, ?_, fun z => rs2.zt a z hp, _, upd_same, trivial⟩
        cases h : own2 a with
        | none => rfl
        | some i => obtain ⟨xs, hx, _⟩ := rs2.ls a i h; rw [hp] at hx; cases hx
      · obtain ⟨m1, m2, m3, xs, m4, m5⟩ := n2 a s
        exact ⟨m1, m2, m3, xs, g.at_ a _ m4 m5.nt, m5⟩
  · cases f4
end
end CL
namespace CL
open PySem PySem.Spec L2
set_option autoImplicit false
def big : Nat := 2 ^ 400000
def bigD : Nat := 2 ^ 8000
def bAdd : D → D → Option D
  | .int a, .int b => some (.int (a + b))
  | .str a, .str b => if a.length + b.length ≤ 16777216 then some (.str (a ++ b)) else none
  | .tup a, .tup b => if a.length + b.length ≤ 16777216 then some (.tup (a ++ b)) else none
  | .lst a, .lst b => if a.length + b.length ≤ 16777216 then some (.lst (a ++ b)) else none
  | _, _ => none
def bSub : D → D → Option D
  | .int a, .int b => some (.int (a - b))
  | _, _ => none
def bMul : D → D → Option D
  | .int a, .int b => if a.natAbs < 2 ^ 64 ∨ b.natAbs < 2 ^ 64 ∨ (a.natAbs < big ∧ b.natAbs < big) then some (.int (a * b)) else none
  | _, _ => none
def bDiv : D → D → Option D
  | .int a, .int b => if b ≠ 0 ∧ b.natAbs < bigD then some (.int (a.fdiv b)) else none
  | _, _ => none
def bMod : D → D → Option D
  | .int a, .int b => if b ≠ 0 then some (.int (a.fmod b)) else none
  | _, _ => none
def bPow : D → D → Option D
  | .int a, .int b => if 0 ≤ b ∧ b ≤ 1000000 ∧ a.natAbs < 2 ^ 64 then some (.int (a ^ b.toNat)) else none
  | _, _ => none
def bLt : D → D → Option D
  | .int a, .int b => some (.bl (decide (a < b)))
  | _, _ => none
def bLe : D → D → Option D
  | .int a, .int b => some (.bl (decide (a ≤ b)))
  | _, _ => none
def bGt : D → D → Option D
  | .int a, .int b => some (.bl (decide (b < a)))
  | _, _ => none
def bGe : D → D → Option D
  | .int a, .int b => some (.bl (decide (b ≤ a)))
  | _, _ => none
theorem big_log {a : Int} (h : a.natAbs < big) : a.natAbs.log2 < 400000 := by
  by_cases z : a.natAbs = 0
  · rw [z]; decide
  · exact (Nat.log2_lt z).mpr h
theorem bigD_log {a : Int} (h : a.natAbs < bigD) : a.natAbs.log2 < 9000 := by
  by_cases z : a.natAbs = 0
  · rw [z]; decide
  · exact Nat.lt_trans ((Nat.log2_lt z).mpr h) (by decide)
section
variable [Tb] {K : PySem.W.Frag} {Z : Addr → Prop} {H : Hp} {v : V}
theorem Pk0.str {x : Str} (h : Pk0 K Z H (.str x) v) : v = .str x := by
  rcases h with h | ⟨l, a, xs, e, _⟩
  · simpa only [RSh] using h
  · cases e
theorem Pk0.non (h : Pk0 K Z H .non v) : v = .non := by
  rcases h with h | ⟨l, a, xs, e, _⟩
  · simpa only [RSh] using h
  · cases e
theorem Pk0.tup {l : List D} (h : Pk0 K Z H (.tup l) v) : ∃ a xs, v = .ref a ∧ SqT K H a xs ∧ RShL K Z H l xs := by
  rcases h with h | ⟨l, a, xs, e, _⟩
  · simpa only [RSh] using h
  · cases e
theorem Pk0.lst {l : List D} (h : Pk0 K Z H (.lst l) v) : ∃ a xs, v = .ref a ∧ H a = some (.lst xs) ∧ RShL K Z H l xs := by
  rcases h with h | ⟨l, a, xs, e, e1, e2, e3⟩
  · simp only [RSh] at h
    obtain ⟨a, xs, e, z, h1, h2⟩ := h
    exact ⟨a, xs, e, h1, h2⟩
  · cases e; exact ⟨a, xs, e1, e2, e3⟩
theorem Pk0.scr {l : List Int} (h : Pk0 K Z H (.scr l) v) : ∃ a, v = .ref a ∧ SqL K H a (l.map V.int) := by
  rcases h with h | ⟨l, a, xs, e, e1, e2, e3⟩
  · simp only [RSh] at h
    obtain ⟨a, e, z, h1⟩ := h
    exact ⟨a, e, h1⟩
  · cases e
end
/-- the end of an operation that lays nothing -/
theorem fin0 [Tb] {K : PySem.W.Frag} {Z : Addr → Prop} {H : Hp} {d : D} {v : V} {Q : VK} (r : RSh K Z H d v) (k : ∀ v H' S, Grow H H' → RF K Z H' d v S → NewS H H' S → Q v H') : Q v H := k v H (fun _ => False) Grow.refl (.inl r) NewS.none
theorem finT [Tb] {K : PySem.W.Frag} {Z : Addr → Prop} {H : Hp} {l : List D} {xs : List V} {Q : VK} (r : RShL K Z H l xs) (k : ∀ v H' S, Grow H H' → RF K Z H' (.tup l) v S → NewS H H' S → Q v H') : NewT Q H xs := fun p o hp ho =>
  have g : Grow H (upd H p (.frz o (.tup xs))) := Grow.new hp
  k _ _ (fun _ => False) g (RF.tup (g.shL r) (SqT.ofF upd_same)) NewS.none
section
variable [Tb] {X : Cx}
def rCatF (K : PySem.W.Frag) : R2 := fun x y H Q => ∃ a b xs ys, x = .ref a ∧ y = .ref b ∧ SqT K H a xs ∧ SqT K H b ys ∧ xs.length + ys.length ≤ sizeLine ∧ (xs = [] → Q (.ref b) H) ∧ (xs ≠ [] → ys = [] → Q (.ref a) H) ∧ (xs ≠ [] → ys ≠ [] → NewT Q H (xs ++ ys))
theorem op_catF : OpR X (binaryOp .Add) (rCatF X.K) := by
  rintro pins s σ H _ _ v u Q I rx ry ⟨a, b, xs, ys, rfl, rfl, ha, hb, hz, q0, q1, q2⟩
  obtain rfl : v = Value.ref a := rx
  obtain rfl : u = Value.ref b := ry
  obtain ⟨is, r1, p1, _⟩ := I.tuple ha
  obtain ⟨js, r2, p2, _⟩ := I.tuple hb
  have n1 : is = [] ↔ xs = [] := r1.nil_iff
  have n2 : js = [] ↔ ys = [] := r2.nil_iff
  by_cases hx : is = []
  · subst hx
    exact cat_tup0 p1 p2 ⟨.ref b, H, I, rfl, q0 (n1.mp rfl)⟩
  · have hx' : xs ≠ [] := fun z => hx (n1.mpr z)
    have hl1 := r1.length
    have hl2 := r2.length
    exact HT.cat_tup p1 p2 hx (fun z => ⟨.ref a, H, I, rfl, q1 hx' (n2.mp z)⟩) (fun z => laidT I s.toks (r1.append r2) (by rw [List.length_append]; exact hz) (q2 hx' fun w => z (n2.mpr w))) (by omega)
def rSlF (K : PySem.W.Frag) : V → Option Int → Option Int → Hp → VK → Prop := fun x lo hi H Q => ∃ a xs, x = .ref a ∧ SqT K H a xs ∧
  ((HT.sIx xs.length 0 lo = 0 ∧ HT.sIx xs.length xs.length hi = xs.length) → Q (.ref a) H) ∧ (¬ (HT.sIx xs.length 0 lo = 0 ∧ HT.sIx xs.length xs.length hi = xs.length) → NewT Q H (cutV xs lo hi))
theorem sl_tupF : SlR X (rSlF X.K) := by
  rintro pins s σ H _ v vl vu lo hi sl Q I rx hs pl pu ⟨a, xs, rfl, hx, q1, q2⟩
  obtain rfl : v = Value.ref a := rx
  obtain ⟨its, r, ht, hz⟩ := I.tuple hx
  have hl : its.toArray.size = xs.length := by have := r.length; simp only [List.size_toArray]; omega
  refine ⟨"tuple", _, PyProof.Rows.slot_tuple_getitem.lookup, ht.typeIs, ?_⟩
  by_cases hw : HT.sIx xs.length 0 lo = 0 ∧ HT.sIx xs.length xs.length hi = xs.length
  · exact getItem_tuple_whole ht hs pl pu (hl ▸ hw) ⟨.ref a, H, I, rfl, q1 hw⟩
  · refine HT.getItem_tuple_cut ht hs pl pu (hl ▸ hw) ?_ (hl ▸ hz)
    rw [hl]
    exact laidT I s.toks ((r.drop _).take _) (Nat.le_trans (cutV_length xs lo hi) hz) (q2 hw)
theorem call_tupleF : CallR X (.type "tuple") (fun vs H Q => ∃ p ys, vs = [.ref p] ∧ ((SqL X.K H p ys ∧ NewT Q H ys) ∨ (SqT X.K H p ys ∧ Q (.ref p) H))) := by
  rintro pins s σ H _ us Q I r ⟨p, ys, rfl, h⟩
  obtain rfl := Vals.ref1 r
  rcases h with ⟨hq, q⟩ | ⟨hq, q⟩
  · obtain ⟨its, r', pl, hz⟩ := I.list hq
    have hl := r'.length
    exact call_tuple_list pl.isList (fun h' kp => laidT (s := { s with heap := h' }) (I.kept (t' := s.toks) kp) s.toks r' hz q) (by simp only [List.size_toArray]; omega)
  · exact call_tupleT pins s σ H _ _ Q I r ⟨p, ys, rfl, hq, q⟩
end
theorem finL [Tb] {K : PySem.W.Frag} {Z : Addr → Prop} {H : Hp} {l : List D} {xs : List V} {p : Addr} {Q : VK} (hp : H p = none) (r : RShL K Z H l xs) (k : ∀ v H' S, Grow H H' → RF K Z H' (.lst l) v S → NewS H H' S → Q v H') : Q (.ref p) (upd H p (.lst xs)) :=
  k _ _ (fun a => a = p) (Grow.new hp) (RF.list ((Grow.new hp).shL r) upd_same) (NewS.one trivial hp)
section
variable [Tb] {X : Cx}
/-- a rule for two ints -/
theorem o_ii {f : Value → Value → Sem Value} {g : D → D → Option D} {r : R2} (ho : OpR X f r) (hg : ∀ a b d, g a b = some d → ∃ i j, a = .int i ∧ b = .int j ∧ ∀ K Z H Q, (∀ v H' S, Grow H H' → RF K Z H' d v S → NewS H H' S → Q v H') → r (.int i) (.int j) H Q) : OpR X f (rF2 X.K g) := by
  intro pins s σ H x y v u Q I r1 r2 h
  obtain ⟨Z, a, b, d, p1, p2, e, k⟩ := h
  obtain ⟨i, j, rfl, rfl, h⟩ := hg a b d e
  rw [p1.int] at r1
  rw [p2.int] at r2
  exact ho pins s σ H _ _ v u Q I r1 r2 (h X.K Z H Q k)
theorem o_sub : OpR X (binaryOp .Sub) (rF2 X.K bSub) := o_ii op_sub fun a b d e => by
  unfold bSub at e
  split at e
  · rename_i i j; cases e; exact ⟨i, j, rfl, rfl, fun K Z H Q k => ⟨i, j, rfl, rfl, fin0 (by simp only [RSh]) k⟩⟩
  · cases e
def CMulX (i j : Int) : Prop := i.natAbs < 2 ^ 64 ∨ j.natAbs < 2 ^ 64 ∨ (i.natAbs < big ∧ j.natAbs < big)
theorem op_mulX : OpR X (binaryOp .Mult) (rI CMulX fun i j => .int (i * j)) := by
  intro pins s σ H x y v u Q I r1 r2 ⟨i, j, e1, e2, c, k⟩
  rcases c with c | c | c
  · exact op_mul pins s σ H x y v u Q I r1 r2 ⟨i, j, e1, e2, .inl (by omega), k⟩
  · exact op_mul pins s σ H x y v u Q I r1 r2 ⟨i, j, e1, e2, .inr (by omega), k⟩
  · refine op_mulW pins s σ H x y v u Q I r1 r2 ⟨i, j, e1, e2, ?_, k⟩
    have h1 := big_log c.1
    have h2 := big_log c.2
    unfold CMulW
    omega
theorem o_mul : OpR X (binaryOp .Mult) (rF2 X.K bMul) := o_ii op_mulX fun a b d e => by
  unfold bMul at e
  split at e
  · rename_i i j
    split at e
    · rename_i hb
      cases e
      exact ⟨i, j, rfl, rfl, fun K Z H Q k => ⟨i, j, rfl, rfl, hb, fin0 (by simp only [RSh]) k⟩⟩
    · cases e
  · cases e
def CDivX (_ j : Int) : Prop := j ≠ 0 ∧ j.natAbs.log2 < 9000
theorem op_divX : OpR X (binaryOp .FloorDiv) (rI CDivX fun i j => .int (i.fdiv j)) := by
  intro pins s σ H x y v u Q I r1 r2 ⟨i, j, e1, e2, c, k⟩
  subst e1 e2
  obtain ⟨t, rfl⟩ := r1
  obtain ⟨t', rfl⟩ := r2
  exact PyProof.Rows.floordiv_int c.1 ⟨.int _, H, I.tok _, ⟨_, rfl⟩, k⟩ (.inl (PyProof.noPylong_of_log2 c.2))
theorem o_div : OpR X (binaryOp .FloorDiv) (rF2 X.K bDiv) := o_ii op_divX fun a b d e => by
  unfold bDiv at e
  split at e
  · rename_i i j
    split at e
    · rename_i hb
      cases e
      exact ⟨i, j, rfl, rfl, fun K Z H Q k => ⟨i, j, rfl, rfl, ⟨hb.1, bigD_log hb.2⟩, fin0 (by simp only [RSh]) k⟩⟩
    · cases e
  · cases e
theorem o_mod : OpR X (binaryOp .Mod) (rF2 X.K bMod) := o_ii op_modN fun a b d e => by
  unfold bMod at e
  split at e
  · rename_i i j
    split at e
    · rename_i hb
      cases e
      exact ⟨i, j, rfl, rfl, fun K Z H Q k => ⟨i, j, rfl, rfl, hb, fin0 (by simp only [RSh]) k⟩⟩
    · cases e
  · cases e
theorem o_pow : OpR X (binaryOp .Pow) (rF2 X.K bPow) := o_ii op_pow fun a b d e => by
  unfold bPow at e
  split at e
  · rename_i i j
    split at e
    · rename_i hb
      cases e
      exact ⟨i, j, rfl, rfl, fun K Z H Q k => ⟨i, j, rfl, rfl, hb, fin0 (by simp only [RSh]) k⟩⟩
    · cases e
  · cases e
theorem o_le : OpR X (compareOp .LtE) (rF2 X.K bLe) := o_ii op_le fun a b d e => by
  unfold bLe at e
  split at e
  · rename_i i j; cases e; exact ⟨i, j, rfl, rfl, fun K Z H Q k => ⟨i, j, rfl, rfl, fin0 (by simp only [RSh]) k⟩⟩
  · cases e
theorem o_ge : OpR X (compareOp .GtE) (rF2 X.K bGe) := o_ii op_ge fun a b d e => by
  unfold bGe at e
  split at e
  · rename_i i j; cases e; exact ⟨i, j, rfl, rfl, fun K Z H Q k => ⟨i, j, rfl, rfl, fin0 (by simp only [RSh]) k⟩⟩
  · cases e
theorem sum_le {m n : Nat} {a b : Nat} (h : m + n ≤ 16777216) (e1 : m = a) (e2 : n = b) : a + b ≤ sizeLine := by rw [szL]; omega
theorem o_add : OpR X (binaryOp .Add) (rF2 X.K bAdd) := by
  intro pins s σ H x y v u Q I r1 r2 h
  obtain ⟨Z, a, b, d, p1, p2, e, k⟩ := h
  unfold bAdd at e
  split at e
  · rename_i i j
    cases e
    rw [p1.int] at r1
    rw [p2.int] at r2
    exact op_add pins s σ H _ _ v u Q I r1 r2 ⟨i, j, rfl, rfl, fin0 (by simp only [RSh]) k⟩
  · rename_i i j
    split at e
    · rename_i hl
      cases e
      rw [p1.str] at r1
      rw [p2.str] at r2
      exact op_add_str pins s σ H _ _ v u Q I r1 r2 ⟨i, j, rfl, rfl, by rw [szL]; exact hl, fin0 (by simp only [RSh]) k⟩
    · cases e
  · rename_i l m
    split at e
    · rename_i hl
      cases e
      obtain ⟨a, xs, rfl, s1, l1⟩ := p1.tup
      obtain ⟨b, ys, rfl, s2, l2⟩ := p2.tup
      refine op_catF pins s σ H _ _ v u Q I r1 r2 ⟨a, b, xs, ys, rfl, rfl, s1, s2, sum_le hl l1.len l2.len, fun e => ?_, fun e1 e2 => ?_, fun _ _ => finT (l1.append l2) k⟩
      · have : l = [] := List.eq_nil_of_length_eq_zero (by rw [l1.len, e]; rfl)
        subst this
        exact fin0 (by simp only [List.nil_append, RSh]; exact ⟨b, ys, rfl, s2, l2⟩) k
      · have : m = [] := List.eq_nil_of_length_eq_zero (by rw [l2.len, e2]; rfl)
        subst this
        exact fin0 (by simp only [List.append_nil, RSh]; exact ⟨a, xs, rfl, s1, l1⟩) k
    · cases e
  · rename_i l m
    split at e
    · rename_i hl
      cases e
      obtain ⟨a, xs, rfl, s1, l1⟩ := p1.lst
      obtain ⟨b, ys, rfl, s2, l2⟩ := p2.lst
      exact op_cat pins s σ H _ _ v u Q I r1 r2 ⟨a, b, xs, ys, rfl, rfl, s1, s2, sum_le hl l1.len l2.len, fun p hp => finL hp (l1.append l2) k⟩
    · cases e
  · cases e
end
section
variable [Tb] {X : Cx}
end
end CL
namespace CL
open PySem PySem.Spec L2
set_option autoImplicit false
mutual
def D.py : D → PyData
  | .non => .none
  | .bl b => .bool b
  | .int i => .int i
  | .str x => .str x
  | .tup l => .tuple (D.pyL l)
  | .lst l => .list (D.pyL l)
  | .scr l => .list (l.map .int)
  | .dct _ _ => .none
  | .kdc _ _ => .none
  | .ins _ _ _ => .none
def D.pyL : List D → List PyData
  | [] => []
  | d :: ds => D.py d :: D.pyL ds
end
mutual
/-- plain data, at most so deep -/
def D.okB : Nat → D → Bool
  | _, .non => true
  | _, .bl _ => true
  | _, .int _ => true
  | _, .str x => x.cps.all (· < 0x110000)
  | n + 1, .tup l => D.okL n l
  | n + 1, .lst l => D.okL n l
  | _, _ => false
def D.okL : Nat → List D → Bool
  | _, [] => true
  | n, d :: ds => D.okB n d && D.okL n ds
end
section
variable [Tb] {K : PySem.W.Frag} {Z : Addr → Prop} {H : Hp}
mutual
theorem RSh.dp : ∀ (n : Nat) (d : D) (v : V), D.okB n d = true → RSh K Z H d v → Dp K H v d.py
  | _, .non, v, _, h => by simp only [RSh] at h; subst h; simp only [D.py]; exact .non
  | _, .bl b, v, _, h => by simp only [RSh] at h; subst h; simp only [D.py]; exact .bl b
  | _, .int i, v, _, h => by simp only [RSh] at h; subst h; simp only [D.py]; exact .int i
  | _, .str x, v, _, h => by simp only [RSh] at h; subst h; simp only [D.py]; exact .str x
  | n + 1, .tup l, v, o, h => by
    simp only [D.okB] at o
    simp only [RSh] at h
    obtain ⟨a, xs, rfl, s, r⟩ := h
    simp only [D.py]
    exact .tup s (RShL.dp n l xs o r)
  | n + 1, .lst l, v, o, h => by
    simp only [D.okB] at o
    simp only [RSh] at h
    obtain ⟨a, xs, rfl, z, s, r⟩ := h
    simp only [D.py]
    exact .lst (SqL.of s) (RShL.dp n l xs o r)
  | 0, .tup l, v, o, h => by simp [D.okB] at o
  | 0, .lst l, v, o, h => by simp [D.okB] at o
  | _, .dct _ _, v, o, h => by simp [D.okB] at o
  | _, .kdc _ _, v, o, h => by simp [D.okB] at o
  | _, .ins _ _ _, v, o, h => by simp [D.okB] at o
  | _, .scr _, v, o, h => by simp [D.okB] at o
theorem RShL.dp : ∀ (n : Nat) (l : List D) (xs : List V), D.okL n l = true → RShL K Z H l xs → DpAll K H xs (D.pyL l)
  | _, [], xs, _, h => by simp only [RShL] at h; subst h; simp only [D.pyL]; exact .nil
  | n, d :: ds, xs, o, h => by
    simp only [D.okL, Bool.and_eq_true] at o
    simp only [RShL] at h
    obtain ⟨w, ws, rfl, r1, r2⟩ := h
    simp only [D.pyL]
    exact .cons (RSh.dp n d w o.1 r1) (RShL.dp n ds ws o.2 r2)
end
end
theorem Pk0.dp [Tb] {K : PySem.W.Frag} {Z : Addr → Prop} {H : Hp} {n : Nat} {d : D} {v : V} (o : D.okB n d = true) (h : Pk0 K Z H d v) : Dp K H v d.py := by
  rcases h with h | ⟨l, a, xs, rfl, rfl, s, r⟩
  · exact RSh.dp n d v o h
  · cases n with
    | zero => simp [D.okB] at o
    | succ n =>
      simp only [D.okB] at o
      simp only [D.py]
      exact .lst (SqL.of s) (RShL.dp n l xs o r)
mutual
theorem ok_lay : ∀ (n : Nat) (d : D), D.okB n d = true → d.py.canLay0 = true ∧ d.py.depth ≤ n
  | _, .non, _ => by simp only [D.py, PyData.canLay0, PyData.depth]; exact ⟨trivial, Nat.zero_le _⟩
  | _, .bl _, _ => by simp only [D.py, PyData.canLay0, PyData.depth]; exact ⟨trivial, Nat.zero_le _⟩
  | _, .int _, _ => by simp only [D.py, PyData.canLay0, PyData.depth]; exact ⟨trivial, Nat.zero_le _⟩
  | _, .str x, o => by
    simp only [D.okB] at o
    simp only [D.py, PyData.canLay0, PyData.depth]
    exact ⟨o, Nat.zero_le _⟩
  | n + 1, .tup l, o => by
    simp only [D.okB] at o
    simp only [D.py, PyData.canLay0, PyData.depth]
    obtain ⟨a, b⟩ := ok_layL n l o
    exact ⟨a, by omega⟩
  | n + 1, .lst l, o => by
    simp only [D.okB] at o
    simp only [D.py, PyData.canLay0, PyData.depth]
    obtain ⟨a, b⟩ := ok_layL n l o
    exact ⟨a, by omega⟩
  | 0, .tup l, o => by simp [D.okB] at o
  | 0, .lst l, o => by simp [D.okB] at o
  | _, .dct _ _, o => by simp [D.okB] at o
  | _, .kdc _ _, o => by simp [D.okB] at o
  | _, .ins _ _ _, o => by simp [D.okB] at o
  | _, .scr _, o => by simp [D.okB] at o
theorem ok_layL : ∀ (n : Nat) (l : List D), D.okL n l = true → PyData.canLayAll0 (D.pyL l) = true ∧ PyData.depthAll (D.pyL l) ≤ n
  | _, [], _ => by simp only [D.pyL, PyData.canLayAll0, PyData.depthAll]; exact ⟨trivial, Nat.zero_le _⟩
  | n, d :: ds, o => by
    simp only [D.okL, Bool.and_eq_true] at o
    obtain ⟨a, b⟩ := ok_lay n d o.1
    obtain ⟨c, e⟩ := ok_layL n ds o.2
    simp only [D.pyL, PyData.canLayAll0, PyData.depthAll, a, c, Bool.and_self]
    exact ⟨trivial, by omega⟩
end
theorem ok_shaped {d : D} (h : D.okB 60 d = true) : SeqAt.shaped d.py = true := by
  obtain ⟨a, b⟩ := ok_lay 60 d h
  unfold SeqAt.shaped
  rw [a, Bool.true_and]
  exact decide_eq_true (by omega)
def D.eqv (a b : D) : Bool := PyData.eqv a.py b.py
def bEq : D → D → Option D
  | .str a, .str b => some (.bl (decide (a = b)))
  | .lst l, .lst [] => some (.bl (l.isEmpty))
  | .tup l, .tup [] => some (.bl (l.isEmpty))
  | a, b => if D.okB 60 a = true ∧ D.okB 60 b = true then some (.bl (a.eqv b)) else none
def bNe : D → D → Option D
  | .str a, .str b => some (.bl (!decide (a = b)))
  | .lst l, .lst [] => some (.bl (!l.isEmpty))
  | .tup l, .tup [] => some (.bl (!l.isEmpty))
  | a, b => if D.okB 60 a = true ∧ D.okB 60 b = true then some (.bl (!a.eqv b)) else none
theorem dec_strD (i j : Str) : decide (V.str i = V.str j) = decide (i = j) := by simp
section
variable [Tb] {X : Cx}
theorem o_eq (hu : X.A.units + 64 < cLine) : OpR X (compareOp .Eq) (rF2 X.K bEq) := by
  intro pins s σ H x y v u Q I r1 r2 h
  obtain ⟨Z, a, b, d, p1, p2, e, k⟩ := h
  unfold bEq at e
  split at e
  · cases e
    rw [p1.str] at r1
    rw [p2.str] at r2
    exact op_eq pins s σ H _ _ v u Q I r1 r2 ⟨rfl, fin0 (by simp only [RSh, dec_strD]) k⟩
  · rename_i l
    cases e
    cases l with
    | nil => exact op_eqD hu pins s σ H _ _ v u Q I r1 r2 ⟨D.py (.lst []), D.py (.lst []), p1.dp (n := 60) rfl, p2.dp (n := 60) rfl, ok_shaped rfl, ok_shaped rfl, fin0 (d := .bl true) (by simp only [RSh]; rfl) k⟩
    | cons z l =>
      obtain ⟨a1, xs, rfl, s1, l1⟩ := p1.lst
      obtain ⟨a2, ys, rfl, s2, l2⟩ := p2.lst
      cases r1
      cases r2
      obtain ⟨i1, e1, t1, _⟩ := I.list (SqL.of s1)
      obtain ⟨i2, e2, t2, _⟩ := I.list (SqL.of s2)
      have n1 := l1.len
      have n2 := l2.len
      have m1 := e1.length
      have m2 := e2.length
      simp at n1 n2
      exact SeqAt.RcAt.lists_lengths t1.isList t2.isList (by simp; omega) (by omega) _ _ _ _ ⟨.bl false, H, I, rfl, fin0 (d := .bl false) (by simp only [RSh]) k⟩
  · rename_i l
    cases e
    obtain ⟨a1, xs, rfl, s1, l1⟩ := p1.tup
    obtain ⟨a2, ys, rfl, s2, l2⟩ := p2.tup
    cases r1
    cases r2
    obtain ⟨i1, e1, t1, _⟩ := I.tuple s1
    obtain ⟨i2, e2, t2, _⟩ := I.tuple s2
    have n1 := l1.len
    have n2 := l2.len
    have m1 := e1.length
    have m2 := e2.length
    simp at n2
    have z2 : i2 = [] := List.eq_nil_of_length_eq_zero (by omega)
    subst z2
    refine SeqAt.RcAt.tuples (e := fun _ => true) t1 t2 (by omega) (fun j h1 h2 => by simp at h2) _ _ _ _ ⟨.bl (l.isEmpty), H, I, ?_, fin0 (by simp only [RSh]) k⟩
    have : l.isEmpty = (i1.toArray.size == 0) := by
      cases l with
      | nil => have : i1 = [] := List.eq_nil_of_length_eq_zero (by simp at n1; omega)
               subst this; rfl
      | cons z l => cases i1 with
        | nil => simp at m1; subst m1; simp at n1
        | cons _ _ => simp
    rw [this]
    simp [RelV]
  · split at e
    · rename_i ho
      cases e
      exact op_eqD hu pins s σ H _ _ v u Q I r1 r2 ⟨a.py, b.py, p1.dp ho.1, p2.dp ho.2, ok_shaped ho.1, ok_shaped ho.2, fin0 (by simp only [RSh, D.eqv]) k⟩
    · cases e
theorem o_ne (hu : X.A.units + 64 < cLine) : OpR X (compareOp .NotEq) (rF2 X.K bNe) := by
  intro pins s σ H x y v u Q I r1 r2 h
  obtain ⟨Z, a, b, d, p1, p2, e, k⟩ := h
  unfold bNe at e
  split at e
  · cases e
    rw [p1.str] at r1
    rw [p2.str] at r2
    exact op_ne pins s σ H _ _ v u Q I r1 r2 ⟨rfl, fin0 (by simp only [RSh, dec_strD]) k⟩
  · rename_i l
    cases e
    cases l with
    | nil => exact op_neD hu pins s σ H _ _ v u Q I r1 r2 ⟨D.py (.lst []), D.py (.lst []), p1.dp (n := 60) rfl, p2.dp (n := 60) rfl, ok_shaped rfl, ok_shaped rfl, fin0 (d := .bl false) (by simp only [RSh]; rfl) k⟩
    | cons z l =>
      obtain ⟨a1, xs, rfl, s1, l1⟩ := p1.lst
      obtain ⟨a2, ys, rfl, s2, l2⟩ := p2.lst
      cases r1
      cases r2
      obtain ⟨i1, e1, t1, _⟩ := I.list (SqL.of s1)
      obtain ⟨i2, e2, t2, _⟩ := I.list (SqL.of s2)
      have n1 := l1.len
      have n2 := l2.len
      have m1 := e1.length
      have m2 := e2.length
      simp at n1 n2
      exact SeqAt.RcNeAt.lists_lengths t1.isList t2.isList (by simp; omega) (by omega) _ _ _ _ ⟨.bl true, H, I, rfl, fin0 (d := .bl true) (by simp only [RSh]) k⟩
  · rename_i l
    cases e
    obtain ⟨a1, xs, rfl, s1, l1⟩ := p1.tup
    obtain ⟨a2, ys, rfl, s2, l2⟩ := p2.tup
    cases r1
    cases r2
    obtain ⟨i1, e1, t1, _⟩ := I.tuple s1
    obtain ⟨i2, e2, t2, _⟩ := I.tuple s2
    have n1 := l1.len
    have n2 := l2.len
    have m1 := e1.length
    have m2 := e2.length
    simp at n2
    have z2 : i2 = [] := List.eq_nil_of_length_eq_zero (by omega)
    subst z2
    refine SeqAt.RcNeAt.tuples (e := fun _ => true) t1 t2 (by omega) (fun j h1 h2 => by simp at h2) _ _ _ _ ⟨.bl (!l.isEmpty), H, I, ?_, fin0 (by simp only [RSh]) k⟩
    have : l.isEmpty = (i1.toArray.size == 0) := by
      cases l with
      | nil => have : i1 = [] := List.eq_nil_of_length_eq_zero (by simp at n1; omega)
               subst this; rfl
      | cons z l => cases i1 with
        | nil => simp at m1; subst m1; simp at n1
        | cons _ _ => simp
    rw [this]
    simp [RelV]
  · split at e
    · rename_i ho
      cases e
      exact op_neD hu pins s σ H _ _ v u Q I r1 r2 ⟨a.py, b.py, p1.dp ho.1, p2.dp ho.2, ok_shaped ho.1, ok_shaped ho.2, fin0 (by simp only [RSh, D.eqv]) k⟩
    · cases e
end
def bIx : D → D → Option D
  | .tup l, .int i => atI l i
  | .lst l, .int i => atI l i
  | .scr l, .int i => (atI l i).map .int
  | .str z, .int i => if z.length ≤ 16777216 then (atI z.cps.toList i).map fun c => .str ⟨#[c]⟩ else none
  | _, _ => none
theorem atI_rel [Tb] {K : PySem.W.Frag} {Z : Addr → Prop} {H : Hp} {l : List D} {xs : List V} {i : Int} {d : D} (r : RShL K Z H l xs) (h : atI l i = some d) : ∃ v, atI xs i = some v ∧ RSh K Z H d v := by
  unfold atI at h ⊢
  obtain ⟨j, h1, h2⟩ := Option.bind_eq_some_iff.mp h
  obtain ⟨v, h3, h4⟩ := r.get h2
  rw [r.len] at h1
  exact ⟨v, by rw [h1]; exact h3, h4⟩
section
variable [Tb] {X : Cx}
theorem x_ix : IxR X (rF2 X.K bIx) := by
  intro val sli pins s σ H x y v u Q I r1 r2 h hsu
  obtain ⟨Z, a, b, d, p1, p2, e, k⟩ := h
  unfold bIx at e
  split at e
  · rename_i l i
    rw [p2.int] at r2
    obtain ⟨a, xs, rfl, s1, l1⟩ := p1.tup
    obtain ⟨w, h1, h2⟩ := atI_rel l1 e
    exact ix_tup val sli pins s σ H _ _ v u Q I r1 r2 ⟨a, xs, i, w, rfl, rfl, s1, h1, fin0 h2 k⟩ hsu
  · rename_i l i
    rw [p2.int] at r2
    obtain ⟨a, xs, rfl, s1, l1⟩ := p1.lst
    obtain ⟨w, h1, h2⟩ := atI_rel l1 e
    exact ix_list val sli pins s σ H _ _ v u Q I r1 r2 ⟨a, xs, i, w, rfl, rfl, SqL.of s1, h1, fin0 h2 k⟩ hsu
  · rename_i l i
    rw [p2.int] at r2
    obtain ⟨a, rfl, s1⟩ := p1.scr
    obtain ⟨z, h1, rfl⟩ := Option.map_eq_some_iff.mp e
    refine ix_list val sli pins s σ H _ _ v u Q I r1 r2 ⟨a, _, i, .int z, rfl, rfl, s1, ?_, fin0 (by simp only [RSh]) k⟩ hsu
    unfold atI at h1 ⊢
    obtain ⟨j, h3, h4⟩ := Option.bind_eq_some_iff.mp h1
    rw [List.length_map, h3]
    show (l.map V.int)[j]? = _
    rw [List.getElem?_map, h4]; rfl
  · rename_i z i
    split at e
    · rename_i hz
      rw [p2.int] at r2
      rw [p1.str] at r1
      obtain ⟨c, h1, rfl⟩ := Option.map_eq_some_iff.mp e
      exact ix_str val sli pins s σ H _ _ v u Q I r1 r2 ⟨z, i, c, rfl, rfl, by rw [szL]; exact hz, h1, fin0 (by simp only [RSh]) k⟩ hsu
    · cases e
  · cases e
end
def cutD {α : Type} (xs : List α) (lo hi : Option Int) : List α := (xs.drop (HT.sIx xs.length 0 lo)).take (HT.sIx xs.length xs.length hi - HT.sIx xs.length 0 lo)
def bSl : D → Option Int → Option Int → Option D
  | .tup l, lo, hi => some (.tup (cutD l lo hi))
  | .lst l, lo, hi => some (.lst (cutD l lo hi))
  | .scr l, lo, hi => some (.lst ((cutD l lo hi).map .int))
  | .str z, lo, hi => if z.length ≤ 16777216 then some (.str (cutS z lo hi)) else none
  | _, _, _ => none
theorem cut_rel [Tb] {K : PySem.W.Frag} {Z : Addr → Prop} {H : Hp} {l : List D} {xs : List V} {lo hi : Option Int} (r : RShL K Z H l xs) : RShL K Z H (cutD l lo hi) (cutV xs lo hi) := by
  unfold cutD cutV
  rw [r.len]
  exact (r.drop _).take _
def rFs [Tb] (K : PySem.W.Frag) : V → Option Int → Option Int → Hp → VK → Prop := fun x lo hi H Q => ∃ Z a d, Pk0 K Z H a x ∧ bSl a lo hi = some d ∧ ∀ v H' S, Grow H H' → RF K Z H' d v S → NewS H H' S → Q v H'
theorem x_sl [Tb] {X : Cx} : SlR X (rFs X.K) := by
  intro pins s σ H x v vl vu lo hi sl Q I rx hs pl pu h
  obtain ⟨Z, a, d, p1, e, k⟩ := h
  unfold bSl at e
  split at e
  · rename_i l
    cases e
    obtain ⟨a, xs, rfl, s1, l1⟩ := p1.tup
    refine sl_tupF pins s σ H _ v vl vu lo hi sl Q I rx hs pl pu ⟨a, xs, rfl, s1, fun h => ?_, fun _ => finT (cut_rel l1) k⟩
    refine fin0 ?_ k
    simp only [RSh]
    refine ⟨a, xs, rfl, s1, ?_⟩
    have : cutD l lo hi = l := by
      unfold cutD
      rw [l1.len, h.1, h.2]
      simp [← l1.len]
    rw [this]; exact l1
  · rename_i l
    cases e
    obtain ⟨a, xs, rfl, s1, l1⟩ := p1.lst
    exact sl_list pins s σ H _ v vl vu lo hi sl Q I rx hs pl pu ⟨a, xs, rfl, SqL.of s1, fun p hp => finL hp (cut_rel l1) k⟩
  · rename_i l
    cases e
    obtain ⟨a, rfl, s1⟩ := p1.scr
    refine sl_list pins s σ H _ v vl vu lo hi sl Q I rx hs pl pu ⟨a, _, rfl, s1, fun p hp => finL hp ?_ k⟩
    have := cut_rel (lo := lo) (hi := hi) (ints_rel (K := X.K) (Z := Z) (H := H) l)
    have e : cutD (l.map D.int) lo hi = (cutD l lo hi).map D.int := by
      unfold cutD
      simp [List.map_take, List.map_drop]
    rwa [e] at this
  · rename_i z
    split at e
    · rename_i hz
      cases e
      rw [p1.str] at rx
      exact sl_str pins s σ H _ v vl vu lo hi sl Q I rx hs pl pu ⟨z, rfl, by rw [szL]; exact hz, fin0 (by simp only [RSh]) k⟩
    · cases e
  · cases e
/-- a slice's part -/
def mPt : Option (M D) → M (Option Int)
  | none => fun ρ => .ok (none, ρ)
  | some m => bind m fun d => fun ρ => match d with | .int i => .ok (some i, ρ) | _ => .bad
def mSl (a : M D) (lo hi : Option (M D)) : M D := bind a fun x => bind (mPt lo) fun l => bind (mPt hi) fun h => ofO (bSl x l h)
def tPo [Tb] (K : PySem.W.Frag) (τ : Nat → OT) (m : Option (M D)) : TO := fun σ H Q => ∃ Z own ρ o ρ', RS K τ Z own H ρ σ ∧ mPt m ρ = .ok (o, ρ') ∧ ∀ Z' own' H', RS K τ Z' own' H' ρ' σ → Ext true Z own H Z' own' H' → Q o H'
theorem _root_.L2.PO.mono [Tb] {X : Cx} {e : Option Expr} {t t' : TO} (h : PO X e t) (f : ∀ σ H Q, t' σ H Q → t σ H Q) : PO X e t' := ⟨fun pins s σ H Q I hw => h.run pins s σ H Q I (f σ H Q hw)⟩
section
variable [Tb] {X : Cx} {τ : Nat → OT} {q : Bool} {md : Md} {e : Expr} {lo hi : Option Expr} {ma : M D} {ml mh : Option (M D)} {pos p2 : Pos}
theorem po_n : PO X none (tPo X.K τ none) := po_none.mono fun σ H Q ⟨Z, own, ρ, o, ρ', rs, e, k⟩ => by
  have e : Res.ok (none, ρ) = .ok (o, ρ') := e
  cases e
  exact k Z own H rs ExtF.refl
theorem po_s (h : PE X e (tE X.K τ true .sh ma)) : PO X (some e) (tPo X.K τ (some ma)) := (po_some h).mono fun σ H Q ⟨Z, own, ρ, o, ρ', rs, e, k⟩ => by
  obtain ⟨d, ρ1, e1, f1⟩ := bind_ok e
  split at f1
  · rename_i i
    cases f1
    exact ⟨Z, own, ρ, _, ρ', rs, e1, fun v Z1 own1 H1 S rs1 rm n x1 => ⟨i, by simpa only [Rm, R, RSh] using rm, k Z1 own1 H1 rs1 x1⟩⟩
  · cases f1
theorem e_sl (he : PE X e (tE X.K τ q md ma)) (hl : PO X lo (tPo X.K τ ml)) (hh : PO X hi (tPo X.K τ mh)) (hm : Hand md := by trivial) : PE X (.Subscript e (.Slice lo hi none p2) pos) (tE X.K τ q .sh (mSl ma ml mh)) := (pe_slice x_sl he hl hh).mono fun σ H Q ⟨Z, own, ρ, d, ρ', rs, e, k⟩ => by
  obtain ⟨x, ρ1, e1, f1⟩ := bind_ok e
  obtain ⟨l, ρ2, e2, f2⟩ := bind_ok f1
  obtain ⟨h, ρ3, e3, f3⟩ := bind_ok f2
  obtain ⟨f4, rfl⟩ := ofO_ok f3
  refine ⟨Z, own, ρ, x, ρ1, rs, e1, fun v Z1 own1 H1 S1 rs1 rm1 _ x1 => ⟨Z1, own1, ρ1, l, ρ2, rs1, e2, fun Z2 own2 H2 rs2 x2 => ⟨Z2, own2, ρ2, h, ρ', rs2, e3, fun Z3 own3 H3 rs3 x3 => ?_⟩⟩⟩
  have x23 : ExtF fxT true Z1 own1 H1 Z3 own3 H3 := x2.trans x3
  exact ⟨Z3, x, d, rs1.pk0 x23 hm (.inr rfl) rm1, f4, fun u H4 S g r n => fin_sh rs3 (x1.trans' (fun z => ⟨z, rfl⟩) x23) g r n k⟩
/-- xs[::-1] of a list -/
def bRev : D → Option D
  | .lst l => some (.lst l.reverse)
  | _ => none
theorem e_revO {k1 : Nat} {p1 p3 : Pos} (he : PE X e (tE X.K τ q md ma)) (hm : Hand md := by trivial) : PE X (.Subscript e (.Slice none none (some (.UnaryOp .USub (.Constant (.int 1) k1 p1) p2)) p3) pos) (tE X.K τ q (.ow (.ol .sh .sh)) (m1 bRev ma)) := (pe_revL he).mono fun σ H Q ⟨Z, own, ρ, d, ρ', rs, e, k⟩ => by
  obtain ⟨x, ρ1, e1, f1⟩ := bind_ok e
  obtain ⟨f2, rfl⟩ := ofO_ok f1
  unfold bRev at f2
  split at f2
  · rename_i l
    cases f2
    refine ⟨Z, own, ρ, _, ρ', rs, e1, fun v Z1 own1 H1 S1 rs1 rm1 _ x1 => ?_⟩
    obtain ⟨a, xs, rfl, s1, l1⟩ := (rm1.pk0 hm).lst
    exact ⟨a, xs, rfl, SqL.of s1, fun p hp => fin_ol rs1 x1 hp ((Grow.new hp).shL l1.reverse) k⟩
  · cases f2
end
end CL
namespace CL
open PySem PySem.Spec L2
set_option autoImplicit false
def bLen : List D → Option D
  | [.tup l] => some (.int l.length)
  | [.lst l] => some (.int l.length)
  | [.scr l] => some (.int l.length)
  | [.str z] => if z.length ≤ 16777216 then some (.int z.length) else none
  | _ => none
def bAbs : List D → Option D
  | [.int i] => some (.int (if i < 0 then -i else i))
  | _ => none
def bMax2 : List D → Option D
  | [.int i, .int j] => some (.int (if j > i then j else i))
  | _ => none
def bInt : List D → Option D
  | [.int i] => some (.int i)
  | [.bl b] => some (.int (if b then 1 else 0))
  | _ => none
def intsOf : List D → Option (List Int)
  | [] => some []
  | .int i :: r => (intsOf r).map (i :: ·)
  | _ => none
def blsOf : List D → Option (List Bool)
  | [] => some []
  | .bl i :: r => (blsOf r).map (i :: ·)
  | _ => none
def bSum : List D → Option D
  | [.lst l] => (intsOf l).map fun ns => .int ns.sum
  | _ => none
def bAll : List D → Option D
  | [.lst l] => (blsOf l).map fun bs => .bl (bs.all id)
  | _ => none
def bTuple : List D → Option D
  | [.lst l] => some (.tup l)
  | [.tup l] => some (.tup l)
  | _ => none
/-- the items of list(x) -/
def listOfD : List D → Option (List D)
  | [.lst l] => some l
  | [.tup l] => some l
  | [.scr l] => some (l.map .int)
  | _ => none
def bigR : Nat := 2 ^ 1900
/-- the text of repr -/
def D.shown (d : D) : Str := d.py.shown
theorem slen (a b : Str) : (a ++ b).length = a.length + b.length := strLen_append a b
theorem textFrom_le : ∀ (ts : List Str) (k : Nat) (acc : Str), (textFrom k acc ts).length ≤ acc.length + piled ts
  | [], k, acc => by show acc.length ≤ _; omega
  | t :: r, k, acc => by
    have h := textFrom_le r (k + 1) (acc ++ (if k > 0 then ", " else "" : String) ++ t)
    have e : (acc ++ (if k > 0 then ", " else "" : String) ++ t).length ≤ acc.length + 2 + t.length := by
      rw [slen, slen]
      split
      · have : ((", " : String) : Str).length = 2 := rfl
        omega
      · have : (("" : String) : Str).length = 0 := rfl
        omega
    have e2 : piled (t :: r) = t.length + 2 + piled r := by simp [piled]
    have e3 : textFrom k acc (t :: r) = textFrom (k + 1) (acc ++ (if k > 0 then ", " else "" : String) ++ t) r := rfl
    rw [e2, e3]
    omega
theorem bigR_log {a : Int} (h : a.natAbs < bigR) : a.natAbs.log2 < 1920 := by
  by_cases z : a.natAbs = 0
  · rw [z]; decide
  · exact Nat.lt_trans ((Nat.log2_lt z).mpr h) (by decide)
section
variable [Tb] {K : PySem.W.Frag} {Z : Addr → Prop} {H : Hp}
theorem ints_of : ∀ {l : List D} {ns : List Int} {xs : List V}, intsOf l = some ns → RShL K Z H l xs → xs = ns.map V.int
  | [], ns, xs, e, r => by simp only [intsOf] at e; cases e; simpa only [RShL, List.map_nil] using r
  | .int i :: l, ns, xs, e, r => by
    simp only [intsOf] at e
    obtain ⟨m, hm, rfl⟩ := Option.map_eq_some_iff.mp e
    simp only [RShL] at r
    obtain ⟨w, ws, rfl, r1, r2⟩ := r
    simp only [RSh] at r1
    rw [r1, ints_of hm r2]; rfl
  | .non :: _, _, _, e, _ => by simp [intsOf] at e
  | .bl _ :: _, _, _, e, _ => by simp [intsOf] at e
  | .str _ :: _, _, _, e, _ => by simp [intsOf] at e
  | .tup _ :: _, _, _, e, _ => by simp [intsOf] at e
  | .lst _ :: _, _, _, e, _ => by simp [intsOf] at e
  | .scr _ :: _, _, _, e, _ => by simp [intsOf] at e
  | .dct _ _ :: _, _, _, e, _ => by simp [intsOf] at e
  | .ins _ _ _ :: _, _, _, e, _ => by simp [intsOf] at e
theorem bls_of : ∀ {l : List D} {ns : List Bool} {xs : List V}, blsOf l = some ns → RShL K Z H l xs → xs = ns.map V.bl
  | [], ns, xs, e, r => by simp only [blsOf] at e; cases e; simpa only [RShL, List.map_nil] using r
  | .bl i :: l, ns, xs, e, r => by
    simp only [blsOf] at e
    obtain ⟨m, hm, rfl⟩ := Option.map_eq_some_iff.mp e
    simp only [RShL] at r
    obtain ⟨w, ws, rfl, r1, r2⟩ := r
    simp only [RSh] at r1
    rw [r1, bls_of hm r2]; rfl
  | .non :: _, _, _, e, _ => by simp [blsOf] at e
  | .int _ :: _, _, _, e, _ => by simp [blsOf] at e
  | .str _ :: _, _, _, e, _ => by simp [blsOf] at e
  | .tup _ :: _, _, _, e, _ => by simp [blsOf] at e
  | .lst _ :: _, _, _, e, _ => by simp [blsOf] at e
  | .scr _ :: _, _, _, e, _ => by simp [blsOf] at e
  | .dct _ _ :: _, _, _, e, _ => by simp [blsOf] at e
  | .ins _ _ _ :: _, _, _, e, _ => by simp [blsOf] at e
theorem Pk0L.one {d : D} {vs : List V} (h : Pk0L K Z H [d] vs) : ∃ v, vs = [v] ∧ Pk0 K Z H d v := by
  obtain ⟨w, ws, rfl, h1, h2⟩ := h
  have h2 : ws = [] := h2
  subst h2
  exact ⟨w, rfl, h1⟩
theorem Pk0L.two {d e : D} {vs : List V} (h : Pk0L K Z H [d, e] vs) : ∃ v w, vs = [v, w] ∧ Pk0 K Z H d v ∧ Pk0 K Z H e w := by
  obtain ⟨w, ws, rfl, h1, h2⟩ := h
  obtain ⟨u, rfl, h3⟩ := Pk0L.one h2
  exact ⟨w, u, rfl, h1, h3⟩
end
section
variable [Tb] {X : Cx}
theorem c_len : CallR X (.builtin "len") (rFn X.K bLen) := by
  intro pins s σ H xs us Q I r h
  obtain ⟨Z, ds, d, pl, e, k⟩ := h
  unfold bLen at e
  split at e
  · rename_i l
    cases e
    obtain ⟨v, rfl, p⟩ := pl.one
    obtain ⟨a, ys, rfl, s1, l1⟩ := p.tup
    exact call_len_seq pins s σ H _ us Q I r ⟨a, ys, rfl, .inr s1, fin0 (by simp only [RSh]; rw [l1.len]) k⟩
  · rename_i l
    cases e
    obtain ⟨v, rfl, p⟩ := pl.one
    obtain ⟨a, ys, rfl, s1, l1⟩ := p.lst
    exact call_len_seq pins s σ H _ us Q I r ⟨a, ys, rfl, .inl (SqL.of s1), fin0 (by simp only [RSh]; rw [l1.len]) k⟩
  · rename_i l
    cases e
    obtain ⟨v, rfl, p⟩ := pl.one
    obtain ⟨a, rfl, s1⟩ := p.scr
    exact call_len_seq pins s σ H _ us Q I r ⟨a, _, rfl, .inl s1, fin0 (by simp only [RSh]; rw [List.length_map]) k⟩
  · rename_i z
    split at e
    · rename_i hz
      cases e
      obtain ⟨v, rfl, p⟩ := pl.one
      rw [p.str] at r
      exact call_len_str pins s σ H _ us Q I r ⟨z, rfl, by rw [szL]; exact hz, fin0 (by simp only [RSh]) k⟩
    · cases e
  · cases e
theorem c_abs : CallR X (.builtin "abs") (rFn X.K bAbs) := by
  intro pins s σ H xs us Q I r h
  obtain ⟨Z, ds, d, pl, e, k⟩ := h
  unfold bAbs at e
  split at e
  · rename_i i
    cases e
    obtain ⟨v, rfl, p⟩ := pl.one
    rw [p.int] at r
    exact call_abs pins s σ H _ us Q I r ⟨i, rfl, fin0 (by simp only [RSh]) k⟩
  · cases e
theorem c_max2 (hc : X.calm = true) : CallR X (.builtin "max") (rFn X.K bMax2) := by
  intro pins s σ H xs us Q I r h
  obtain ⟨Z, ds, d, pl, e, k⟩ := h
  unfold bMax2 at e
  split at e
  · rename_i i j
    cases e
    obtain ⟨v, w, rfl, p, p'⟩ := pl.two
    rw [p.int, p'.int] at r
    exact call_max2 hc pins s σ H _ us Q I r ⟨i, j, rfl, fin0 (by simp only [RSh]) k⟩
  · cases e
theorem c_int : CallR X (.type "int") (rFn X.K bInt) := by
  intro pins s σ H xs us Q I r h
  obtain ⟨Z, ds, d, pl, e, k⟩ := h
  unfold bInt at e
  split at e
  · rename_i i
    cases e
    obtain ⟨v, rfl, p⟩ := pl.one
    rw [p.int] at r
    exact call_int1 pins s σ H _ us Q I r (.inl ⟨i, rfl, fin0 (by simp only [RSh]) k⟩)
  · rename_i b
    cases e
    obtain ⟨v, rfl, p⟩ := pl.one
    rw [p.bl] at r
    exact call_int1 pins s σ H _ us Q I r (.inr ⟨b, rfl, fin0 (by simp only [RSh]) k⟩)
  · cases e
theorem c_sum (hc : X.calm = true) : CallR X (.builtin "sum") (rFn X.K bSum) := by
  intro pins s σ H xs us Q I r h
  obtain ⟨Z, ds, d, pl, e, k⟩ := h
  unfold bSum at e
  split at e
  · rename_i l
    obtain ⟨ns, hn, rfl⟩ := Option.map_eq_some_iff.mp e
    obtain ⟨v, rfl, p⟩ := pl.one
    obtain ⟨a, ys, rfl, s1, l1⟩ := p.lst
    rw [ints_of hn l1] at s1
    exact cr_sum hc pins s σ H _ us Q I r ⟨a, ns, rfl, SqL.of s1, fin0 (by simp only [RSh]) k⟩
  · cases e
theorem c_all (hc : X.calm = true) : CallR X (.builtin "all") (rFn X.K bAll) := by
  intro pins s σ H xs us Q I r h
  obtain ⟨Z, ds, d, pl, e, k⟩ := h
  unfold bAll at e
  split at e
  · rename_i l
    obtain ⟨ns, hn, rfl⟩ := Option.map_eq_some_iff.mp e
    obtain ⟨v, rfl, p⟩ := pl.one
    obtain ⟨a, ys, rfl, s1, l1⟩ := p.lst
    rw [bls_of hn l1] at s1
    exact cr_all hc pins s σ H _ us Q I r ⟨a, ns, rfl, SqL.of s1, fin0 (by simp only [RSh]) k⟩
  · cases e
theorem c_tuple : CallR X (.type "tuple") (rFn X.K bTuple) := by
  intro pins s σ H xs us Q I r h
  obtain ⟨Z, ds, d, pl, e, k⟩ := h
  unfold bTuple at e
  split at e
  · rename_i l
    cases e
    obtain ⟨v, rfl, p⟩ := pl.one
    obtain ⟨a, ys, rfl, s1, l1⟩ := p.lst
    exact call_tupleF pins s σ H _ us Q I r ⟨a, ys, rfl, .inl ⟨SqL.of s1, finT l1 k⟩⟩
  · rename_i l
    cases e
    obtain ⟨v, rfl, p⟩ := pl.one
    obtain ⟨a, ys, rfl, s1, l1⟩ := p.tup
    exact call_tupleF pins s σ H _ us Q I r ⟨a, ys, rfl, .inr ⟨s1, fin0 (by simp only [RSh]; exact ⟨a, ys, rfl, s1, l1⟩) k⟩⟩
  · cases e
end
def rLn [Tb] (K : PySem.W.Frag) (f : List D → Option (List D)) : List V → Hp → VK → Prop := fun xs H Q => ∃ Z ds l, Pk0L K Z H ds xs ∧ f ds = some l ∧ ∀ p ys, H p = none → RShL K Z H l ys → Q (.ref p) (upd H p (.lst ys))
def mL (f : List D → Option (List D)) (ms : M (List D)) : M D := bind ms fun ds => ofO ((f ds).map .lst)
section
variable [Tb] {X : Cx} {τ : Nat → OT} {q : Bool} {e : Expr} {es : List Expr} {ms : M (List D)} {pos : Pos}
theorem c_list : CallR X (.type "list") (rLn X.K listOfD) := by
  intro pins s σ H xs us Q I r h
  obtain ⟨Z, ds, l, pl, e, k⟩ := h
  unfold listOfD at e
  split at e
  · cases e
    obtain ⟨v, rfl, p⟩ := pl.one
    obtain ⟨a, ys, rfl, s1, l1⟩ := p.lst
    exact call_list_of pins s σ H _ us Q I r ⟨a, ys, rfl, .inl (SqL.of s1), fun q hq => k q ys hq l1⟩
  · cases e
    obtain ⟨v, rfl, p⟩ := pl.one
    obtain ⟨a, ys, rfl, s1, l1⟩ := p.tup
    exact call_list_of pins s σ H _ us Q I r ⟨a, ys, rfl, .inr s1, fun q hq => k q ys hq l1⟩
  · cases e
    obtain ⟨v, rfl, p⟩ := pl.one
    obtain ⟨a, rfl, s1⟩ := p.scr
    exact call_list_of pins s σ H _ us Q I r ⟨a, _, rfl, .inl s1, fun q hq => k q _ hq (ints_rel _)⟩
  · cases e
theorem naryL {f : List D → Option (List D)} : ∀ σ H Q, tE X.K τ q (.ow (.ol .sh .sh)) (mL f ms) σ H Q → tCB (rLn X.K f) (tA X.K τ q ms) σ H Q := fun σ H Q ⟨Z, own, ρ, d, ρ', rs, e, k⟩ => by
  obtain ⟨xs, ρ1, e1, f1⟩ := bind_ok e
  obtain ⟨f2, rfl⟩ := ofO_ok f1
  obtain ⟨l, hl, rfl⟩ := Option.map_eq_some_iff.mp f2
  exact ⟨Z, own, ρ, xs, ρ', rs, e1, fun vs Z1 own1 H1 rs1 rl x1 => ⟨Z1, xs, l, rl, hl, fun p ys hp r => fin_ol rs1 x1 hp ((Grow.new hp).shL r) k⟩⟩
theorem e_callTyO {f : List D → Option (List D)} {x : Str} {T : String} {p : Pos} (hc : CallR X (.type T) (rLn X.K f)) (ha : PA X (e :: es) (tA X.K τ q ms)) (hg : Gl X x := by rfl) (hm : X.mg x = none := by assumption) (hv : bootBuiltins x = some (.type T) := by decide +kernel) (hn : x ≠ "__name__" := by decide) (hdb : (x == ("__debug__" : Str)) = false := by decide) (hst : starEach (e :: es) X.env = (false, eval e X.env) :: starEach es X.env := by rfl) (hpl : (backTo pos (starEach es X.env)).any (·.1) = false := by rfl) :
    PE X (.Call (.Name x p) (e :: es) [] pos) (tE X.K τ q (.ow (.ol .sh .sh)) (mL f ms)) := (pe_callTy hc hg hm hv ha hn hdb hst hpl).mono naryL
end
end CL
namespace CL
open PySem PySem.Spec L2
set_option autoImplicit false
/-- the tables that a law makes lambdas by: code object, table, name -/
abbrev tbOf (cs : List (Addr × Addr × Str)) : Tb := ⟨cs.map fun c => (c.2.1, c.2.2)⟩
theorem tab_new {q : Str} {H : Hp} : TabE H #[] q := ⟨True.intro, fun pos cv hc => by
  have hc : codeAmong pos [] = some cv := hc
  simp [codeAmong] at hc⟩
theorem law_start {P : Program} {w : World} {K : PySem.W.Frag} {mg mb : Str → Option Value} {k : Nat} {fa sc : Addr} {fd : FuncData} {x : Str} {G : List D → Res D} {s1 : Shared} {vals : List Value} {ns : List Int} {cs : List (Addr × Addr × Str)}
    (KX : K.In s1.heap) (hns : s1.heap.Ns mainGlobals mg) (hbl : s1.heap.Ns builtinsNs mb) (hbb : ∀ y : Str, y ≠ "__name__" → mb y = bootBuiltins y) (hlim : s1.heap.NoLimit) (hgen : s1.gens = #[])
    (tabE : ∀ c ∈ cs, s1.heap.get? c.2.1 = some { cls := .none, data := .fields #[] }) (tabN : ∀ c ∈ cs, K.lookup c.2.1 = none) (tabC : ∀ c ∈ cs, PySem.W.CodeHd s1.heap c.1 c.2.1)
    (main_b : ∃ (bm : Addr) (ob : Obj), mg "__builtins__" = some (.ref bm) ∧ bm ≠ builtinsNs ∧ s1.heap.get? bm = some ob ∧ ob.cls = .type "module" ∧ ob.dict = some builtinsNs ∧ ob.data = .plain)
    (hsc : s1.heap.get? sc = some { cls := .type "list", data := .seq vals.toArray }) (hint : PyProof.Rows.IntsAre vals ns) (hlen : ns.length ≤ sizeLine) (room : Room k callerA)
    (F : ∀ base : Heap, K.In base → base.Ns mainGlobals mg → (∀ c ∈ cs, LamX.TabB base mg c.1 c.2.1) → FnG P w K mg base k fa fd [x] (@spP (tbOf cs) K 1 .sh G)) (hbind : ∀ (s0 : Shared) (u : Value), BindsTo s0 fd ⟨[u], []⟩ [(x, u)]) (hnd : KNd K)
    (hG : G [.scr ns] = .ok (.bl true)) :
    codeAny (model P w) callerA (.call (.ref fa) ⟨[.ref sc], []⟩) (fun r s2 => r = .ok (.ret (.bool true)) ∧ OldK s1.heap s2.heap ∧ s2.os = s1.os ∧ PyProof.Rows.AllBare s2.gens) s1 := by
  have relv := vals_ints hint
  have lenv := hint.length
  let tabs : List Addr := cs.map fun c => c.2.1
  have tabs_at : ∀ t : Addr, t ∈ tabs → ∃ c ∈ cs, c.2.1 = t := fun t ht => List.mem_map.mp ht
  have tabs_of : ∀ c ∈ cs, c.2.1 ∈ tabs := fun c hc => List.mem_map.mpr ⟨c, hc, rfl⟩
  have tabs_obj : ∀ t ∈ tabs, s1.heap.get? t = some { cls := .none, data := .fields #[] } := fun t ht => by
    obtain ⟨c, hc, rfl⟩ := tabs_at t ht
    exact tabE c hc
  have sc_tabs : sc ∉ tabs := fun z => by
    have y := tabs_obj sc z
    rw [hsc] at y
    have y2 := congrArg Obj.data (Option.some.inj y)
    cases y2
  have main : ∀ H : Hp, (∀ c ∈ cs, H c.2.1 = some (.tbl #[])) → (∀ c, H c = none ∨ c ∈ tabs ∨ ∃ ob ys, H c = some (.frz ob (.lst ys))) → (SqL K H sc (ns.map V.int)) → (H sc = none → KL K sc (ns.map V.int)) → HOk P w H s1.heap → (∀ c, H c ≠ none → c = sc ∨ c ∈ tabs) → (H sc ≠ none → K.lookup sc = none) →
      codeAny (model P w) callerA (.call (.ref fa) ⟨[.ref sc], []⟩) (fun r s2 => r = .ok (.ret (.bool true)) ∧ OldK s1.heap s2.heap ∧ s2.os = s1.os ∧ PyProof.Rows.AllBare s2.gens) s1 := by
    intro H htab honly hsq hkl hok hsole hnk
    have hid : ∀ {c : Addr} {ob : Obj}, s1.heap.get? c = some ob → H c = none → (hidT s1.heap H).get? c = some ob := fun e1 e2 => hidT_get e1 e2
    have other : ∀ {c : Addr} {ob : Obj}, s1.heap.get? c = some ob → (∀ ys m, ob.data ≠ .seq ys m) → ob.data ≠ .fields #[] → H c = none := by
      intro c ob e1 e2 e3
      apply Classical.byContradiction
      intro hne
      rcases hsole c hne with ec | ec
      · subst ec
        rw [hsc] at e1
        cases e1
        exact e2 _ _ rfl
      · rw [tabs_obj c ec] at e1
        cases e1
        exact e3 rfl
    have nodict : ∀ {c : Addr} {ob : Obj} {es : Array DictEntry} {ep : Nat}, s1.heap.get? c = some ob → ob.data = .dict es ep → H c = none := fun e1 e2 => other e1 (by rw [e2]; exact fun _ _ z => nomatch z) (by rw [e2]; exact fun z => nomatch z)
    have keepNs : ∀ {c : Addr} {m : Str → Option Value}, s1.heap.Ns c m → (hidT s1.heap H).Ns c m := by
      rintro c m ⟨ob, es, ep, e1, e2, rest⟩
      exact ⟨ob, es, ep, hid e1 (nodict e1 e2), e2, rest⟩
    have KB : K.In (hidT s1.heap H) := by
      intro c ob hc
      apply hid (KX c ob hc)
      apply Classical.byContradiction
      intro hne
      rcases hsole c hne with ec | ec
      · subst ec
        rw [hnk hne] at hc
        cases hc
      · obtain ⟨d, hd, rfl⟩ := tabs_at c ec
        rw [tabN d hd] at hc
        cases hc
    have hmod : Mod K mg (hidT s1.heap H) := by
      refine ⟨KB, keepNs hns, ⟨mb, keepNs hbl, hbb⟩, ?_⟩
      obtain ⟨mc, n1, n2⟩ := hlim
      exact ⟨mc, keepNs n1, n2⟩
    have TBs : ∀ c ∈ cs, LamX.TabB (hidT s1.heap H) mg c.1 c.2.1 := by
      intro c hc
      have hTc := tabE c hc
      constructor
      · obtain ⟨o, us, file, tf, flags, tg, inF, text, tt, e1, r1, r2, r3, rest⟩ := tabC c hc
        exact ⟨o, us, file, tf, flags, tg, inF, text, tt, hid e1 (other e1 (by rw [r2]; exact fun _ _ z => nomatch z) (by
          rw [r2]; intro z; cases z; simp at r3)), r1, r2, r3, rest⟩
      · obtain ⟨bm, ob, b1, b2, b3, b4, b5, b6⟩ := main_b
        have n1 : bm ≠ mainGlobals := by
          rintro rfl
          obtain ⟨o, es, ep, e, hd, _⟩ := hns
          rw [e] at b3
          cases b3
          rw [hd] at b6
          cases b6
        have n2 : bm ≠ c.2.1 := by
          intro z
          rw [z, hTc] at b3
          cases b3
          cases b6
        exact ⟨bm, ob, b1, b2, n1, n2, hid b3 (other b3 (by rw [b6]; exact fun _ _ z => nomatch z) (by rw [b6]; exact fun z => nomatch z)), b4, b5, b6⟩
      · intro z
        obtain ⟨o, es, ep, e, hd, _⟩ := hns
        rw [z, hTc] at e
        cases e
        cases hd
    have env0 : Env0 P w K mg (hidT s1.heap H) callerA [] s1 H :=
      ⟨rfl, hmod, fun c ob e1 => of_hidT e1, Nat.le_of_eq (hidT_size _ _), trivial, fun c hc => absurd (show c ∈ ([] : List Addr) from hc) (by simp), hok, .of_eq hgen⟩
    have tbok : @TbOk (tbOf cs) K H := by
      refine ⟨⟨fun p hp => ?_, fun c o e => ?_⟩, hnd⟩
      case refine_2 =>
        rcases honly c with z | z | ⟨ob, ys, z⟩
        · rw [e] at z; cases z
        · obtain ⟨d, hd, rfl⟩ := tabs_at c z
          rw [htab d hd] at e
          cases e
          exact True.intro
        · rw [e] at z; cases z; exact True.intro
      obtain ⟨c, hc, rfl⟩ := List.mem_map.mp hp
      exact ⟨#[], htab c hc, tab_new⟩
    have hsp : @spP (tbOf cs) K 1 .sh G [.ref sc] H (fun v _ => v = .bl true) (fun _ _ _ => False) := by
      refine ⟨fun c => c = sc ∧ H sc ≠ none, [.scr ns], .bl true, rfl, ?_, fun a z => by rw [z.1]; exact z.2, tbok, hG, fun v Z' H' S _ _ _ _ r _ => by simpa only [R, RSh] using r⟩
      apply RShL.one
      simp only [RSh]
      refine ⟨sc, rfl, ?_, hsq⟩
      cases hh : H sc with
      | none => exact .inr (hkl hh)
      | some o => exact .inl ⟨rfl, by simp⟩
    apply codeAny_mono ((F _ KB (keepNs hns) TBs).run callerA [] s1 H ⟨[.ref sc], []⟩ [.ref sc] [.ref sc] _ _ room rfl env0 (hbind s1 (.ref sc)) (.cons rfl .nil) hsp)
    intro res s2 hres
    cases res with
    | error er => exact hres.elim
    | ok fl =>
      cases fl with
      | next => exact hres.elim
      | brk => exact hres.elim
      | cont => exact hres.elim
      | ret u =>
        obtain ⟨v, H2, hos, hbare, hun, hok2, hrv, hv⟩ := hres
        have hv : v = .bl true := hv
        subst hv
        obtain rfl : u = Value.bool true := hrv
        have same : ∀ c ob, c ∉ tabs → s1.heap.get? c = some ob → s2.heap.get? c = some ob := by
          intro c ob nt e1
          rcases honly c with hn | ht | ⟨ob2, ys, hf⟩
          · exact hun.keep c ob e1 hn (fun z => absurd (show c ∈ ([] : List Addr) from z) (by simp)) (by simp)
          · exact absurd ht nt
          · have hf2 := hun.frzs c ob2 _ hf
            have o1 := (hok c _ hf).1
            have o2 := (hok2 c _ hf2).1
            rw [e1] at o1
            cases o1
            exact o2
        have more : ∀ c ∈ cs, ∃ ps : Array Value, s2.heap.get? c.2.1 = some { cls := .none, data := .fields ps } := by
          intro c hc
          obtain ⟨ps, hps⟩ := hun.tbls c.2.1 #[] (htab c hc)
          exact ⟨_, hok2 _ _ hps⟩
        refine ⟨rfl, ⟨fun c ob e1 => ?_, fun c ob e1 => ?_⟩, hos, hbare⟩ <;> by_cases hc : c ∈ tabs
        · obtain ⟨d, hd, rfl⟩ := tabs_at c hc
          obtain ⟨ps, hps⟩ := more d hd
          rw [tabE d hd] at e1
          cases e1
          exact .inr (.inl ⟨((tabC d hd).tab (tabE d hd)).isCodeTable, rfl, #[], ps, rfl, by rw [Array.empty_append]; exact hps⟩)
        · exact .inl (same c ob hc e1)
        · obtain ⟨d, hd, rfl⟩ := tabs_at c hc
          obtain ⟨ps, hps⟩ := more d hd
          exact ⟨_, hps⟩
        · exact ⟨ob, same c ob hc e1⟩
  cases hk : K.lookup sc with
  | some ob =>
    have e1 := KX sc ob hk
    rw [hsc] at e1
    cases e1
    have hkl : KL K sc (ns.map V.int) := fun H => .inr ⟨_, vals.toArray, _, hk, rfl, rfl, rfl, by rw [List.size_toArray, lenv]; exact hlen, by simpa using relv⟩
    have at0 : ∀ {c : Addr}, c ∈ tabs → (if c ∈ tabs then some (HO.tbl #[]) else none) = some (HO.tbl #[]) := fun h => if_pos h
    have at1 : ∀ {c : Addr}, c ∉ tabs → (if c ∈ tabs then some (HO.tbl #[]) else none) = none := fun h => if_neg h
    refine main (fun c => if c ∈ tabs then some (.tbl #[]) else none) (fun c hc => at0 (tabs_of c hc)) (fun c => ?_) (hkl _) (fun _ => hkl) (fun c u z => ?_) (fun c z => ?_) fun z => absurd (at1 sc_tabs) z
    · by_cases hc : c ∈ tabs
      · exact .inr (.inl hc)
      · exact .inl (at1 hc)
    · by_cases hc : c ∈ tabs
      · have y := (at0 hc).symm.trans z
        cases y
        exact tabs_obj c hc
      · have y := (at1 hc).symm.trans z
        cases y
    · by_cases hc : c ∈ tabs
      · exact .inr hc
      · exact absurd (at1 hc) z
  | none =>
    obtain ⟨H, hH⟩ : ∃ H : Hp, H = fun c => if c = sc then some (HO.frz { cls := .type "list", data := .seq vals.toArray } (.lst (ns.map V.int))) else if c ∈ tabs then some (HO.tbl #[]) else none := ⟨_, rfl⟩
    have atS : H sc = some (HO.frz { cls := .type "list", data := .seq vals.toArray } (.lst (ns.map V.int))) := by rw [hH]; exact if_pos rfl
    have atT : ∀ {c : Addr}, c ∈ tabs → H c = some (HO.tbl #[]) := fun {c} h => by
      rw [hH]
      exact (if_neg (show c ≠ sc from fun z => sc_tabs (z ▸ h))).trans (if_pos h)
    have atN : ∀ {c : Addr}, c ≠ sc → c ∉ tabs → H c = none := fun h1 h2 => by
      rw [hH]
      exact (if_neg h1).trans (if_neg h2)
    refine main H (fun c hc => atT (tabs_of c hc)) (fun c => ?_) (.inl (.inr ⟨_, atS⟩)) (fun z => by rw [atS] at z; cases z) (fun c u z => ?_) (fun c z => ?_) fun _ => hk
    · by_cases h1 : c = sc
      · subst h1; exact .inr (.inr ⟨_, _, atS⟩)
      · by_cases h2 : c ∈ tabs
        · exact .inr (.inl h2)
        · exact .inl (atN h1 h2)
    · by_cases h1 : c = sc
      · subst h1
        have y := atS.symm.trans z
        cases y
        exact ⟨hsc, by rw [List.length_map]; exact hlen, vals, _, relv, hsc⟩
      · by_cases h2 : c ∈ tabs
        · have y := (atT h2).symm.trans z
          cases y
          exact tabs_obj c h2
        · have y := (atN h1 h2).symm.trans z
          cases y
    · by_cases h1 : c = sc
      · exact .inl h1
      · by_cases h2 : c ∈ tabs
        · exact .inr h2
        · exact absurd (atN h1 h2) z
/-- the goal that the head leaves, from the law as a function of data -/
theorem walk_cl {l : PySem.W.OpenLaw} {n k : Nat} {q : Program} {loose : List Str} {XP : (Str → Option Value) → Heap → Prop} {YP : World → Heap → Prop} {d : DefRec} {K : Params → PySem.W.Frag} {x : Str} {G : List D → Res D}
    (hn : l.most = some n) (hn2 : n ≤ sizeLine) (hdf : d.params.defaults = []) (hr : Room k callerA)
    (hY : ∀ (w : World) (h : Heap), YP w h → (K w.params).In h)
    (F : ∀ (w : World) (mg : Str → Option Value) (fa : Addr) (h : Heap), YP w h → (K w.params).In h → h.Ns mainGlobals mg → mg d.name = some (.ref fa) →
      ∃ (cs : List (Addr × Addr × Str)) (fd : FuncData), (∀ c ∈ cs, h.get? c.2.1 = some { cls := .none, data := .fields #[] }) ∧ (∀ c ∈ cs, (K w.params).lookup c.2.1 = none) ∧ (∀ c ∈ cs, PySem.W.CodeHd h c.1 c.2.1) ∧
        (∀ (s : Shared) (u : Value), BindsTo s fd ⟨[u], []⟩ [(x, u)]) ∧ ∀ base : Heap, (K w.params).In base → base.Ns mainGlobals mg → (∀ c ∈ cs, LamX.TabB base mg c.1 c.2.1) → FnG l.prog w (K w.params) mg base k fa fd [x] (@spP (tbOf cs) (K w.params) 1 .sh G))
    (hG : ∀ ns : List Int, ns.length ≤ n → (∀ z ∈ ns, Builtin.Int.intBits z ≤ 1048576) → G [.scr ns] = .ok (.bl true)) (hnd : ∀ w : World, kNd (K w.params) = true := by intro w; kernel_rfl) :
    PySem.W.WalkO q loose XP YP l.row.toRowW d [] (fun f vs => PySem.call f vs) := by
  apply Att.attach_callB hn hdf
  intro w s0 s1 mg mb fa ob pm cd doc sc vals ns Gd Y ho hd hcd hmg hobj hints hlen hbits hg
  obtain ⟨cs, fd, t1, t2, t3, hb, hF⟩ := F w mg fa _ Y (hY w _ Y) Gd.T.g hmg
  exact law_start (hY w _ Y) Gd.T.g Gd.T.b Gd.T.builtins Gd.T.nolimit hg t1 t2 t3 Gd.T.bmain hobj hints (Nat.le_trans hlen hn2) hr hF hb (hnd w) (hG ns hlen hbits)
end CL
namespace CL
open PySem PySem.Spec L2
set_option autoImplicit false
/-- a def of the text as it stands behind the top -/
def TxF [Tb] (K : PySem.W.Frag) (mg : Str → Option Value) (x : Str) (st : Stmt) (ps : List Str) : Prop := ∃ f fd, Fun K x x st f fd ∧ Binds K fd ps [] ∧ mg x = some (.ref f)
def CalP [Tb] (P : Program) (w : World) (K : PySem.W.Frag) (mg : Str → Option Value) (base : Heap) (k : Nat) (x : Str) (n : Nat) (rt : OT) (G : List D → Res D) : Prop :=
  ∃ f fd ps, FnG P w K mg base k f fd ps (spP K n rt G) ∧ PySem.W.keepIn K (.ref f) = true ∧ Binds K fd ps [] ∧ mg x = some (.ref f)
def CalF [Tb] (P : Program) (w : World) (K : PySem.W.Frag) (mg : Str → Option Value) (base : Heap) (k : Nat) (x : Str) (ts : List OT) (rt : OT) (G : Fn) : Prop :=
  ∃ f fd ps, FnG P w K mg base k f fd ps (spD K ts rt G) ∧ PySem.W.keepIn K (.ref f) = true ∧ Binds K fd ps [] ∧ mg x = some (.ref f)
section
variable [Tb] {X : Cx} {τ : Nat → OT} {q : Bool} {k j : Nat} {x : Str} {p pos : Pos} {e : Expr} {es : List Expr} {ms : M (List D)} {as : List Ag} {rt : OT} {n nl : Nat} {ts : List OT} {G : List D → Res D} {b : MS}
theorem e_c (c : CalP X.prog X.w X.K X.mg X.base k x n rt G) (hr : Room j X.A) (hgu : X.A.guards = some []) (ha : PA X (e :: es) (tAs X.K τ q ms)) (hn : ∀ ds (d : D) ρ ρ', ms ρ = .ok (ds, ρ') → ds.length = n) (hj : k ≤ j := by decide) (hg : Gl X x := by rfl)
    (hdb : (x == ("__debug__" : Str)) = false := by decide) (he : starEach (e :: es) X.env = (false, eval e X.env) :: starEach es X.env := by rfl) (hpl : (backTo pos (starEach es X.env)).any (·.1) = false := by rfl) :
    PE X (.Call (.Name x p) (e :: es) [] pos) (tE X.K τ q (.ow rt) (mCallP G ms)) := by
  obtain ⟨f, fd, ps, h1, h2, h3, h4⟩ := c
  exact e_call (h1.mono hj) h2 h3 hr hgu h4 ha hn hg hdb he hpl
theorem e_cF (c : CalF X.prog X.w X.K X.mg X.base k x ts rt (runF ts nl b)) (hr : Room j X.A) (hgu : X.A.guards = some []) (ha : PA X (e :: es) (tAg X.K τ q as)) (hts : tysOf τ as = ts := by rfl) (hj : k ≤ j := by decide) (hnd : (ioIx as).Nodup := by decide) (hol : (ioIx as).all (fun i => isOl (τ i)) = true := by rfl) (hg : Gl X x := by rfl)
    (hdb : (x == ("__debug__" : Str)) = false := by decide) (he : starEach (e :: es) X.env = (false, eval e X.env) :: starEach es X.env := by rfl) (hpl : (backTo pos (starEach es X.env)).any (·.1) = false := by rfl) :
    PE X (.Call (.Name x p) (e :: es) [] pos) (tE X.K τ false (.ow rt) (mCall (runF ts nl b) as)) := by
  subst hts
  obtain ⟨f, fd, ps, h1, h2, h3, h4⟩ := c
  exact e_callF (h1.mono hj) h2 h3 hr hgu h4 ha runF_len hnd (fun i hi => by simpa using List.all_eq_true.mp hol i hi) hg hdb he hpl
end
theorem sh_ok (τ : Nat → OT) (n : Nat) (h : (List.range n).all (fun i => !isOl (τ i)) = true) : ∀ i, i < n → τ i = .sh := fun i hi => by
  have := List.all_eq_true.mp h i (List.mem_range.mpr hi)
  cases ht : τ i with
  | sh => rfl
  | ol _ _ => rw [ht] at this; simp [isOl] at this
  | od => rw [ht] at this; simp [isOl] at this
  | dv _ => rw [ht] at this; simp [isOl] at this
  | dk _ => rw [ht] at this; simp [isOl] at this
  | oi _ => rw [ht] at this; simp [isOl] at this
  | ot _ => rw [ht] at this; simp [isOl] at this
def eqOT : OT → OT → Bool
  | .sh, .sh => true
  | .ol a b, .ol c d => eqOT a c && eqOT b d
  | .od, .od => true
  | .dv a, .dv b => eqOT a b
  | .dk a, .dk b => eqOT a b
  | _, _ => false
theorem eqOT_eq : ∀ {a b : OT}, eqOT a b = true → a = b := by
  intro a
  induction a with
  | sh => intro b h; cases b <;> first | rfl | (simp [eqOT] at h)
  | od => intro b h; cases b <;> first | rfl | (simp [eqOT] at h)
  | ol x y hx hy =>
    intro b h
    cases b with
    | ol u w =>
      simp only [eqOT, Bool.and_eq_true] at h
      rw [hx h.1, hy h.2]
    | _ => simp [eqOT] at h
  | dv x hx =>
    intro b h
    cases b with
    | dv u =>
      simp only [eqOT] at h
      rw [hx h]
    | _ => simp [eqOT] at h
  | dk x hx =>
    intro b h
    cases b with
    | dk u =>
      simp only [eqOT] at h
      rw [hx h]
    | _ => simp [eqOT] at h
  | oi t _ => intro b h; cases b <;> simp [eqOT] at h
  | ot t _ => intro b h; cases b <;> simp [eqOT] at h
theorem τs_ok (τ : Nat → OT) (ts : List OT) (h : (List.range ts.length).all (fun i => eqOT (τ i) (τOf ts i)) = true) : ∀ i, i < ts.length → τ i = τOf ts i := fun i hi => eqOT_eq (List.all_eq_true.mp h i (List.mem_range.mpr hi))
theorem fx_ok (fx : Nat → Bool) (ts : List OT) (h : (List.range ts.length).all (fun i => !ioOf ts i || fx i) = true) : ∀ i, ioOf ts i = true → fx i = true := fun i hi => by
  by_cases hl : i < ts.length
  · have := List.all_eq_true.mp h i (List.mem_range.mpr hl)
    rw [hi] at this; simpa using this
  · unfold ioOf at hi
    rw [List.getElem?_eq_none (by omega)] at hi
    cases hi
def NoNx (b : MS) : Prop := ∀ ρ ρ', b ρ ≠ .ok (.nx, ρ')
theorem NoNx.ret {m : M D} : NoNx (sRet m) := fun ρ ρ' h => by
  obtain ⟨d, ρ1, _, e⟩ := bind_ok h
  cases e
theorem NoNx.ifs {c : M D} {a b : MS} (ha : NoNx a) (hb : NoNx b) : NoNx (sIf c a b) := fun ρ ρ' h => by
  obtain ⟨f, ρ1, _, e⟩ := bind_ok h
  cases f with
  | bl x => cases x with
    | true => exact ha _ _ e
    | false => exact hb _ _ e
  | _ => cases e
end CL
namespace CL
open PySem L2
set_option autoImplicit false
def W {α : Type} (m : M α) (ρ : Sl) (Q : α → Sl → Prop) : Prop := ∃ a ρ', m ρ = .ok (a, ρ') ∧ Q a ρ'
section
variable {α β : Type} {ρ : Sl} {Q : α → Sl → Prop} {QD : D → Sl → Prop} {QL : List D → Sl → Prop} {QF : Fl → Sl → Prop}
theorem W.mono {m : M α} {Q' : α → Sl → Prop} (h : W m ρ Q) (f : ∀ a ρ', Q a ρ' → Q' a ρ') : W m ρ Q' := let ⟨a, ρ', e, q⟩ := h; ⟨a, ρ', e, f a ρ' q⟩
theorem W_bind {m : M β} {f : β → M α} : W (CL.bind m f) ρ Q ↔ W m ρ fun a ρ1 => W (f a) ρ1 Q := by
  constructor
  · rintro ⟨a, ρ', e, q⟩
    obtain ⟨b, ρ1, e1, e2⟩ := bind_ok e
    exact ⟨b, ρ1, e1, a, ρ', e2, q⟩
  · rintro ⟨b, ρ1, e1, a, ρ', e2, q⟩
    exact ⟨a, ρ', by rw [bind_of e1]; exact e2, q⟩
theorem W_mC {d : D} : W (mC d) ρ QD ↔ QD d ρ := ⟨fun ⟨_, _, e, q⟩ => by cases e; exact q, fun q => ⟨_, _, rfl, q⟩⟩
theorem W_sK {f : Fl} : W (sK f) ρ QF ↔ QF f ρ := ⟨fun ⟨_, _, e, q⟩ => by cases e; exact q, fun q => ⟨_, _, rfl, q⟩⟩
theorem W_mNil : W mNil ρ QL ↔ QL [] ρ := ⟨fun ⟨_, _, e, q⟩ => by cases e; exact q, fun q => ⟨_, _, rfl, q⟩⟩
theorem W_ofO {o : Option D} : W (ofO o) ρ QD ↔ ∃ d, o = some d ∧ QD d ρ := by
  constructor
  · rintro ⟨a, ρ', e, q⟩
    obtain ⟨e1, rfl⟩ := ofO_ok e
    exact ⟨a, e1, q⟩
  · rintro ⟨d, rfl, q⟩
    exact ⟨d, ρ, rfl, q⟩
theorem W_ofL {o : Option (List D)} : W (ofL o) ρ QL ↔ ∃ d, o = some d ∧ QL d ρ := by
  constructor
  · rintro ⟨a, ρ', e, q⟩
    obtain ⟨e1, rfl⟩ := ofL_ok e
    exact ⟨a, e1, q⟩
  · rintro ⟨d, rfl, q⟩
    exact ⟨d, ρ, rfl, q⟩
theorem W_ok {a : α} : W (fun ρ => .ok (a, ρ)) ρ Q ↔ Q a ρ := ⟨fun ⟨_, _, e, q⟩ => by cases e; exact q, fun q => ⟨_, _, rfl, q⟩⟩
theorem W_mV {i : Nat} : W (mV i) ρ QD ↔ ∃ d, ρ[i]? = some (some d) ∧ QD d ρ := by
  constructor
  · rintro ⟨a, ρ', e, q⟩
    obtain ⟨e, rfl⟩ := mV_ok e
    exact ⟨a, e, q⟩
  · rintro ⟨d, e, q⟩
    exact ⟨d, ρ, by unfold mV; rw [e], q⟩
theorem W_m1 {f : D → Option D} {a : M D} : W (m1 f a) ρ QD ↔ W a ρ fun x ρ1 => ∃ d, f x = some d ∧ QD d ρ1 := by simp only [m1, W_bind, W_ofO]
theorem W_m2 {f : D → D → Option D} {a b : M D} : W (m2 f a b) ρ QD ↔ W a ρ fun x ρ1 => W b ρ1 fun y ρ2 => ∃ d, f x y = some d ∧ QD d ρ2 := by simp only [m2, W_bind, W_ofO]
theorem W_mCons {a : M D} {r : M (List D)} : W (mCons a r) ρ QL ↔ W a ρ fun x ρ1 => W r ρ1 fun xs ρ2 => QL (x :: xs) ρ2 := by simp only [mCons, W_bind, W_ok]
theorem W_mN {f : List D → Option D} {ms : M (List D)} : W (mN f ms) ρ QD ↔ W ms ρ fun xs ρ1 => ∃ d, f xs = some d ∧ QD d ρ1 := by simp only [mN, W_bind, W_ofO]
theorem W_mL {f : List D → Option (List D)} {ms : M (List D)} : W (mL f ms) ρ QD ↔ W ms ρ fun xs ρ1 => ∃ l, f xs = some l ∧ QD (.lst l) ρ1 := by
  simp only [mL, W_bind, W_ofO, Option.map_eq_some_iff]
  constructor
  · exact fun h => h.mono fun xs ρ1 ⟨d, ⟨l, h1, h2⟩, q⟩ => ⟨l, h1, h2 ▸ q⟩
  · exact fun h => h.mono fun xs ρ1 ⟨l, h1, q⟩ => ⟨_, ⟨l, h1, rfl⟩, q⟩
theorem W_mIt {m : M D} : W (mIt m) ρ QL ↔ W m ρ fun d ρ1 => ∃ l, itemsOf d = some l ∧ QL l ρ1 := by simp only [mIt, W_bind, W_ofL]
theorem W_mItN {f : List D → Option (List D)} {m : M (List D)} : W (mItN f m) ρ QL ↔ W m ρ fun d ρ1 => ∃ l, f d = some l ∧ QL l ρ1 := by simp only [mItN, W_bind, W_ofL]
theorem W_mIf {c a b : M D} : W (mIf c a b) ρ QD ↔ W c ρ fun x ρ1 => (x = .bl true ∧ W a ρ1 QD) ∨ (x = .bl false ∧ W b ρ1 QD) := by
  simp only [mIf, W_bind]
  constructor <;> refine fun h => h.mono fun x ρ1 q => ?_
  · cases x with
    | bl c => cases c <;> simp_all
    | _ => obtain ⟨_, _, e, _⟩ := q; cases e
  · rcases q with ⟨rfl, q⟩ | ⟨rfl, q⟩ <;> exact q
theorem W_mAnd {a b : M D} : W (mAnd a b) ρ QD ↔ W a ρ fun x ρ1 => (x = .bl true ∧ W b ρ1 QD) ∨ (x = .bl false ∧ QD (.bl false) ρ1) := by
  simp only [mAnd, W_bind]
  constructor <;> refine fun h => h.mono fun x ρ1 q => ?_
  · cases x with
    | bl c => cases c <;> simp_all [W_mC]
    | _ => obtain ⟨_, _, e, _⟩ := q; cases e
  · rcases q with ⟨rfl, q⟩ | ⟨rfl, q⟩
    · exact q
    · exact W_mC.mpr q
theorem W_mOr {a b : M D} : W (mOr a b) ρ QD ↔ W a ρ fun x ρ1 => (x = .bl true ∧ QD (.bl true) ρ1) ∨ (x = .bl false ∧ W b ρ1 QD) := by
  simp only [mOr, W_bind]
  constructor <;> refine fun h => h.mono fun x ρ1 q => ?_
  · cases x with
    | bl c => cases c <;> simp_all [W_mC]
    | _ => obtain ⟨_, _, e, _⟩ := q; cases e
  · rcases q with ⟨rfl, q⟩ | ⟨rfl, q⟩
    · exact W_mC.mpr q
    · exact q
theorem W_mChain {f g : D → D → Option D} {a b c : M D} : W (mChain f g a b c) ρ QD ↔ W a ρ fun x ρ1 => W b ρ1 fun y ρ2 => ∃ z, f x y = some z ∧ ((z = .bl true ∧ W c ρ2 fun w ρ3 => ∃ d, g y w = some d ∧ QD d ρ3) ∨ (z = .bl false ∧ QD (.bl false) ρ2)) := by
  simp only [mChain, W_bind, W_ofO]
  constructor <;> refine fun h => h.mono fun x ρ1 q => q.mono fun y ρ2 ⟨z, hz, q⟩ => ⟨z, hz, ?_⟩
  · cases z with
    | bl c => cases c <;> simp_all [W_mC, W_bind, W_ofO]
    | _ => obtain ⟨_, _, e, _⟩ := q; cases e
  · rcases q with ⟨rfl, q⟩ | ⟨rfl, q⟩
    · exact W_bind.mpr (q.mono fun _ _ h => W_ofO.mpr h)
    · exact W_mC.mpr q
theorem W_mPtN {QO : Option Int → Sl → Prop} : W (mPt none) ρ QO ↔ QO none ρ := ⟨fun ⟨_, _, e, q⟩ => by cases e; exact q, fun q => ⟨_, _, rfl, q⟩⟩
theorem W_mPtS {m : M D} {QO : Option Int → Sl → Prop} : W (mPt (some m)) ρ QO ↔ W m ρ fun d ρ1 => ∃ i, d = .int i ∧ QO (some i) ρ1 := by
  simp only [mPt, W_bind]
  constructor <;> refine fun h => h.mono fun d ρ1 q => ?_
  · cases d with
    | int i => obtain ⟨_, _, e, q⟩ := q; cases e; exact ⟨i, rfl, q⟩
    | _ => obtain ⟨_, _, e, _⟩ := q; cases e
  · obtain ⟨i, rfl, q⟩ := q
    exact ⟨_, _, rfl, q⟩
theorem W_mSl {a : M D} {lo hi : Option (M D)} : W (mSl a lo hi) ρ QD ↔ W a ρ fun x ρ1 => W (mPt lo) ρ1 fun l ρ2 => W (mPt hi) ρ2 fun h ρ3 => ∃ d, bSl x l h = some d ∧ QD d ρ3 := by simp only [mSl, W_bind, W_ofO]
theorem W_mCallP {F : List D → Res D} {ms : M (List D)} : W (mCallP F ms) ρ QD ↔ W ms ρ fun ds ρ1 => ∃ d, F ds = .ok d ∧ QD d ρ1 := by
  simp only [mCallP, W_bind]
  constructor <;> refine fun h => h.mono fun ds ρ1 q => ?_
  · obtain ⟨d, ρ', e, q⟩ := q
    split at e
    · rename_i d' e'; cases e; exact ⟨_, e', q⟩
    · cases e
    · cases e
  · obtain ⟨d, e, q⟩ := q
    exact ⟨d, ρ1, by simp [e], q⟩
theorem W_mCall {F : Fn} {as : List Ag} : W (mCall F as) ρ QD ↔ W (evA as) ρ fun ds ρ1 => ∃ full, fillA as ds ρ1 = some full ∧ ∃ d out, F full = .ok (d, out) ∧ QD d (backA as out ρ1) := by
  simp only [mCall, W_bind]
  constructor <;> refine fun h => h.mono fun ds ρ1 q => ?_
  · obtain ⟨d, ρ', e, q⟩ := q
    dsimp only at e
    split at e
    · cases e
    · rename_i full ef
      split at e
      · rename_i d' out e'; cases e; exact ⟨full, ef, _, out, e', q⟩
      · cases e
      · cases e
  · obtain ⟨full, ef, d, out, e, q⟩ := q
    exact ⟨d, _, by simp [ef, e], q⟩
/-- on to the next statement -/
def Kq (b : MS) (Q : Fl → Sl → Prop) : Fl → Sl → Prop := fun f ρ1 => (f = .nx ∧ W b ρ1 Q) ∨ (f ≠ .nx ∧ Q f ρ1)
theorem Kq_nx {b : MS} : Kq b QF .nx ρ ↔ W b ρ QF := by simp [Kq]
theorem Kq_ret {b : MS} {d : D} : Kq b QF (.ret d) ρ ↔ QF (.ret d) ρ := by simp [Kq]
theorem Kq_brk {b : MS} : Kq b QF .brk ρ ↔ QF .brk ρ := by simp [Kq]
theorem Kq_cnt {b : MS} : Kq b QF .cnt ρ ↔ QF .cnt ρ := by simp [Kq]
theorem W_sSeq {a b : MS} : W (sSeq a b) ρ QF ↔ W a ρ (Kq b QF) := by
  unfold Kq
  simp only [sSeq, W_bind]
  constructor <;> refine fun h => h.mono fun f ρ1 q => ?_
  · cases f with
    | nx => exact .inl ⟨rfl, q⟩
    | ret d => exact .inr ⟨by simp, W_sK.mp q⟩
    | brk => exact .inr ⟨by simp, W_sK.mp q⟩
    | cnt => exact .inr ⟨by simp, W_sK.mp q⟩
  · rcases q with ⟨rfl, q⟩ | ⟨n, q⟩
    · exact q
    · cases f with
      | nx => exact absurd rfl n
      | ret d => exact W_sK.mpr q
      | brk => exact W_sK.mpr q
      | cnt => exact W_sK.mpr q
theorem W_sIf {c : M D} {a b : MS} : W (sIf c a b) ρ QF ↔ W c ρ fun x ρ1 => (x = .bl true ∧ W a ρ1 QF) ∨ (x = .bl false ∧ W b ρ1 QF) := by
  simp only [sIf, W_bind]
  constructor <;> refine fun h => h.mono fun x ρ1 q => ?_
  · cases x with
    | bl c => cases c <;> simp_all
    | _ => obtain ⟨_, _, e, _⟩ := q; cases e
  · rcases q with ⟨rfl, q⟩ | ⟨rfl, q⟩ <;> exact q
theorem W_sRet {m : M D} : W (sRet m) ρ QF ↔ W m ρ fun d ρ1 => QF (.ret d) ρ1 := by simp only [sRet, W_bind, W_sK]
theorem W_sExp {m : M D} : W (sExp m) ρ QF ↔ W m ρ fun d ρ1 => QF .nx ρ1 := by simp only [sExp, W_bind, W_sK]
theorem W_sAsg {p : Pt} {m : M D} : W (sAsg p m) ρ QF ↔ W m ρ fun d ρ1 => ∃ ρ2, p d ρ1 = some ρ2 ∧ QF .nx ρ2 := by
  simp only [sAsg, W_bind]
  constructor <;> refine fun h => h.mono fun d ρ1 q => ?_
  · obtain ⟨f, ρ', e, q⟩ := q
    dsimp only at e
    split at e
    · rename_i ρ2 e2; cases e; exact ⟨_, e2, q⟩
    · cases e
  · obtain ⟨ρ2, e, q⟩ := q
    exact ⟨.nx, ρ2, by simp [e], q⟩
def parW (vs : List D) (P : D → D → Prop) : Prop := match vs with
  | [v, w] => P v w
  | _ => False
@[simp] theorem parW_mk {v w : D} {P : D → D → Prop} : parW [v, w] P ↔ P v w := Iff.rfl
theorem W_sPar {i j : Nat} {ms : M (List D)} : W (sPar i j ms) ρ QF ↔ W ms ρ fun vs ρ1 => parW vs fun v w => QF .nx ((ρ1.set i (some v)).set j (some w)) := by
  simp only [sPar, W_bind]
  constructor <;> refine fun h => h.mono fun d ρ1 q => ?_
  · obtain ⟨f, ρ', e, q⟩ := q
    split at e
    · cases e; exact q
    · cases e
  · unfold parW at q
    split at q
    · exact ⟨.nx, _, rfl, q⟩
    · exact q.elim
theorem W_sFor {p : Pt} {it : M (List D)} {b : MS} : W (sFor p it b) ρ QF ↔ W it ρ fun xs ρ1 => W (forL p b xs) ρ1 QF := by simp only [sFor, W_bind]
theorem W_mIxS {i k : Nat} : W (mIxS i k) ρ QD ↔ ∃ l, ρ[i]? = some (some (.lst l)) ∧ ∃ d, l[k + 1]? = some d ∧ QD d ρ := by
  constructor
  · rintro ⟨a, ρ', e, q⟩
    unfold mIxS at e
    split at e
    · rename_i l hl
      split at e
      · rename_i d hd; cases e; exact ⟨l, hl, _, hd, q⟩
      · cases e
    · cases e
  · rintro ⟨l, hl, d, hd, q⟩
    exact ⟨d, ρ, by unfold mIxS; rw [hl]; simp only [hd], q⟩
theorem W_forNil {p : Pt} {b : MS} : W (forL p b []) ρ QF ↔ QF .nx ρ := by unfold forL; exact W_sK
theorem W_forCons {p : Pt} {b : MS} {x : D} {xs : List D} : W (forL p b (x :: xs)) ρ QF ↔ ∃ ρ1, p x ρ = some ρ1 ∧ W b ρ1 fun f ρ2 => ((f = .nx ∨ f = .cnt) ∧ W (forL p b xs) ρ2 QF) ∨ (f = .brk ∧ QF .nx ρ2) ∨ ∃ d, f = .ret d ∧ QF (.ret d) ρ2 := by
  constructor
  · rintro ⟨f, ρ', e, q⟩
    unfold forL at e
    split at e
    · cases e
    · rename_i ρ1 e1
      refine ⟨ρ1, e1, ?_⟩
      split at e
      · rename_i ρ2 e2; exact ⟨.nx, ρ2, e2, .inl ⟨.inl rfl, f, ρ', e, q⟩⟩
      · rename_i ρ2 e2; exact ⟨.cnt, ρ2, e2, .inl ⟨.inr rfl, f, ρ', e, q⟩⟩
      · rename_i ρ2 e2; cases e; exact ⟨.brk, _, e2, .inr (.inl ⟨rfl, q⟩)⟩
      · rename_i d ρ2 e2; cases e; exact ⟨.ret d, _, e2, .inr (.inr ⟨d, rfl, q⟩)⟩
      · cases e
      · cases e
  · rintro ⟨ρ1, e1, f, ρ2, e2, h⟩
    unfold W forL
    simp only [e1]
    rcases h with ⟨rfl | rfl, a, ρ', e, q⟩ | ⟨rfl, q⟩ | ⟨d, rfl, q⟩
    · exact ⟨a, ρ', by simp only [e2]; exact e, q⟩
    · exact ⟨a, ρ', by simp only [e2]; exact e, q⟩
    · exact ⟨_, _, by simp only [e2], q⟩
    · exact ⟨_, _, by simp only [e2], q⟩
theorem W_compNil {vs : List Nat} {p : Pt} {c e : M D} : W (compL vs p c e []) ρ QL ↔ QL [] ρ := by unfold compL; exact W_ok
theorem W_compCons {vs : List Nat} {p : Pt} {c e : M D} {x : D} {xs : List D} : W (compL vs p c e (x :: xs)) ρ QL ↔ ∃ ρ1, p x ρ = some ρ1 ∧ W c ρ1 fun b ρ2 => (b = .bl true ∧ W e ρ2 fun d ρ3 => W (compL vs p c e xs) (wipeD ρ3 vs) fun ds ρ4 => QL (d :: ds) ρ4) ∨ (b = .bl false ∧ W (compL vs p c e xs) (wipeD ρ2 vs) QL) := by
  constructor
  · rintro ⟨l, ρ', h, q⟩
    unfold compL at h
    split at h
    · cases h
    · rename_i ρ1 e1
      refine ⟨ρ1, e1, ?_⟩
      split at h
      · rename_i ρ2 e2
        refine ⟨_, ρ2, e2, .inl ⟨rfl, ?_⟩⟩
        split at h
        · rename_i d ρ3 e3
          refine ⟨d, ρ3, e3, ?_⟩
          split at h
          · rename_i ds ρ4 e4
            cases h
            exact ⟨ds, _, e4, q⟩
          · cases h
          · cases h
        · cases h
        · cases h
      · rename_i ρ2 e2
        exact ⟨_, ρ2, e2, .inr ⟨rfl, l, ρ', h, q⟩⟩
      · cases h
      · cases h
  · rintro ⟨ρ1, e1, b, ρ2, e2, h⟩
    unfold W compL
    simp only [e1]
    rcases h with ⟨rfl, d, ρ3, e3, ds, ρ4, e4, q⟩ | ⟨rfl, l, ρ', e4, q⟩
    · exact ⟨d :: ds, ρ4, by simp only [e2, e3, e4], q⟩
    · exact ⟨l, ρ', by simp only [e2, e4], q⟩
theorem W_mComp {vs : List Nat} {p : Pt} {it : M (List D)} {c e : M D} : W (mComp vs p it c e) ρ QD ↔ W it ρ fun xs ρ1 => W (compL vs p c e xs) (wipeD ρ1 vs) fun ds ρ2 => QD (.lst ds) ρ2 := by
  simp only [mComp, W_bind]
  constructor <;> refine fun h => h.mono fun xs ρ1 q => ?_
  · obtain ⟨d, ρ', h, q⟩ := q
    dsimp only at h
    split at h
    · rename_i ds ρ2 e2; cases h; exact ⟨ds, _, e2, q⟩
    · cases h
    · cases h
  · obtain ⟨ds, ρ2, e2, q⟩ := q
    exact ⟨.lst ds, ρ2, by simp [e2], q⟩
/-- each item's value, the slots as they were -/
theorem W_compMap {vs : List Nat} {p : Pt} {e : M D} {f : D → D} {xs : List D} (h : ∀ x ∈ xs, ∃ ρ1 ρ2, p x ρ = some ρ1 ∧ e ρ1 = .ok (f x, ρ2) ∧ wipeD ρ2 vs = ρ) (q : QL (xs.map f) ρ) : W (compL vs p mYes e xs) ρ QL := by
  induction xs generalizing QL with
  | nil => exact W_compNil.mpr q
  | cons x xs ih =>
    obtain ⟨ρ1, ρ2, e1, e2, e3⟩ := h x (by simp)
    refine W_compCons.mpr ⟨ρ1, e1, _, ρ1, rfl, .inl ⟨rfl, f x, ρ2, e2, ?_⟩⟩
    show W (compL vs p mYes e xs) (wipeD ρ2 vs) _
    rw [e3]
    exact ih (fun y hy => h y (by simp [hy])) q
theorem W_mYes : W mYes ρ QD ↔ QD (.bl true) ρ := W_mC
theorem runP_of {nl : Nat} {b : MS} {ds : List D} {d : D} (h : W b (ds.map some ++ List.replicate nl none) fun f _ => f = .ret d) : runP nl b ds = .ok d := by
  obtain ⟨f, ρ', e, rfl⟩ := h
  unfold runP
  rw [e]
theorem runF_ex {ts : List OT} {nl : Nat} {b : MS} {ds : List D} {Q : D → List D → Prop} (h : W b (ds.map some ++ List.replicate nl none) fun f ρ' => ∃ d out, f = .ret d ∧ outs ts ds ρ' = some out ∧ Q d out) : ∃ d out, runF ts nl b ds = .ok (d, out) ∧ Q d out := by
  obtain ⟨f, ρ', e, d, out, rfl, ho, q⟩ := h
  exact ⟨d, out, by unfold runF; rw [e]; simp only [ho], q⟩
end
theorem fmod_nn {a b : Int} (hb : 0 < b) : 0 ≤ a.fmod b := by
  rw [Int.fmod_eq_emod_of_nonneg a (by omega)]
  exact Int.emod_nonneg a (by omega)
theorem fmod_lt {a b : Int} (hb : 0 < b) : a.fmod b < b := by
  rw [Int.fmod_eq_emod_of_nonneg a (by omega)]
  exact Int.emod_lt_of_pos a hb
theorem natAbs_fmod {a b : Int} (hb : 0 < b) (h : b < 2 ^ 64) : (a.fmod b).natAbs < 2 ^ 64 := by
  have := fmod_nn (a := a) hb
  have := fmod_lt (a := a) hb
  omega
theorem lt_bigD {n : Nat} (h : n < 2 ^ 100) : n < bigD := Nat.lt_of_lt_of_le h (Nat.pow_le_pow_right (by decide) (by decide))
/-- a deck -/
def Deck (d : D) : Prop := ∃ (l : List Int) (a n : Int), d = .lst [.lst (l.map .int), .int a, .int n] ∧ l.length ≤ 63
theorem okL_ints (n : Nat) : ∀ l : List Int, D.okL n (l.map .int) = true
  | [] => by simp [D.okL]
  | i :: l => by simp [D.okL, D.okB, okL_ints n l]
def tailD : MS := (sSeq (sAsg (pN 3) (m2 bMod (m2 bMul (m2 bAdd (m2 bAdd (m2 bMod (mV 2) (mC (.int 2147483629))) (m2 bMul (mC (.int 65537)) (mIxS 0 1))) (mC (.int 3))) (mC (.int 48271))) (mC (.int 2147483647)))) (sSeq (sAsg (pN 3) (m2 bMod (m2 bAdd (m2 bAdd (m2 bMul (mV 3) (mV 3)) (m2 bMul (mC (.int 69621)) (mIxS 0 1))) (mC (.int 17))) (mC (.int 2147483587)))) (sRet (m2 bMod (m2 bDiv (m2 bMod (m2 bAdd (m2 bMul (mV 3) (mV 3)) (mC (.int 39373))) (mC (.int 2147483563))) (mC (.int 64))) (mV 1)))))
theorem tail_ok {x : D} {r0 n c m : Int} {o : Option D} {r : List D} (h0 : 0 < m) : ∃ (v : Int) (o' : Option D), tailD [some (.lst (x :: .int r0 :: .int n :: r)), some (.int m), some (.int c), o] = .ok (.ret (.int v), [some (.lst (x :: .int r0 :: .int n :: r)), some (.int m), some (.int c), o']) ∧ 0 ≤ v ∧ v < m := by
  have k1 : ∀ a : Int, (a.fmod 2147483647).natAbs < 18446744073709551616 := fun a => natAbs_fmod (by decide) (by decide)
  have k2 : ∀ a : Int, (a.fmod 2147483587).natAbs < 18446744073709551616 := fun a => natAbs_fmod (by decide) (by decide)
  have k3 : (64 : Nat) < bigD := lt_bigD (by decide)
  have k4 : m ≠ 0 := by omega
  simp [tailD, sSeq, CL.bind, sAsg, pN, m2, mV, mC, ofO, bMod, bMul, bAdd, mIxS, sRet, sK, bDiv, k1, k2, k3, k4]
  exact ⟨fmod_nn h0, fmod_lt h0⟩
def drawB : MS := sSeq (sSto 0 1 (m2 bAdd (mIxS 0 1) (mC (.int 1)))) (sSeq (sAsg (pN 2) (mIxS 0 0)) (sSeq (sIf (m2 bNe (mIx0 0) (mN bLst mNil)) (sSeq (sAsg (pN 2) (mPop0 0)) (sIf (m2 bGe (mV 2) (m2 bPow (mC (.int 10)) (mC (.int 18)))) (sSeq (sExp (mApp0 0 (m2 bDiv (mV 2) (mV 1)))) (sRet (m2 bMod (mV 2) (mV 1)))) (sK .nx))) (sK .nx)) tailD))
def drawF : Fn := runF [.ol (.ol .sh .sh) .sh, .sh] 2 drawB
theorem draw_ok {dk : D} {m : Int} (h : Deck dk) (h0 : 0 < m) (h1 : m < 2 ^ 100) : ∃ (r : Int) (dk' : D), drawF [dk, .int m] = .ok (.int r, [dk', .int m]) ∧ 0 ≤ r ∧ r < m ∧ Deck dk' := by
  obtain ⟨l, a, n, rfl, hl⟩ := h
  have hb : m.natAbs < bigD := lt_bigD (by omega)
  have k4 : m ≠ 0 := by omega
  unfold drawF drawB
  rcases List.eq_nil_or_concat l with rfl | ⟨l', c, rfl⟩
  · obtain ⟨v, o', ht, h2, h3⟩ := tail_ok (x := .lst []) (n := n + 1) (c := a) (r0 := a) (o := none) (r := []) h0
    refine ⟨v, .lst [.lst [], .int a, .int (n + 1)], ?_, h2, h3, [], a, n + 1, by simp, by simp⟩
    simp [runF, sSeq, CL.bind, sSto, m2, mIxS, mC, ofO, bAdd, sAsg, pN, sIf, mIx0, bNe, mN, bLst, mNil, D.okB, D.okL, D.eqv, D.py, D.pyL, PyData.eqv, PyData.eqvAll, sK, ht, outs]
  · simp only [List.concat_eq_append] at hl ⊢
    have hll : l'.length < 16777216 := by simp at hl; omega
    have hok := okL_ints 59 (l' ++ [c])
    rw [List.map_append, List.map_cons, List.map_nil] at hok
    have hne : (l'.map D.int ++ [D.int c]).isEmpty = false := by cases l' <;> rfl
    by_cases hc : 1000000000000000000 ≤ c
    · refine ⟨c.fmod m, .lst [.lst ((l' ++ [c.fdiv m]).map .int), .int a, .int (n + 1)], ?_, fmod_nn h0, fmod_lt h0, l' ++ [c.fdiv m], a, n + 1, rfl, by simpa using hl⟩
      simp [runF, sSeq, CL.bind, sSto, m2, mIxS, mC, ofO, bAdd, sAsg, pN, sIf, mIx0, bNe, mN, bLst, mNil, D.okB, D.okL, hok, D.eqv, D.py, D.pyL, PyData.eqv, hne, mPop0, bGe, mV, bPow, hc, sExp, mApp0, bDiv, hb, k4, hll, sK, sRet, bMod, outs]
    · obtain ⟨v, o', ht, h2, h3⟩ := tail_ok (x := .lst (l'.map .int)) (n := n + 1) (c := c) (r0 := a) (o := none) (r := []) h0
      refine ⟨v, .lst [.lst (l'.map .int), .int a, .int (n + 1)], ?_, h2, h3, l', a, n + 1, rfl, by simp at hl; omega⟩
      simp [runF, sSeq, CL.bind, sSto, m2, mIxS, mC, ofO, bAdd, sAsg, pN, sIf, mIx0, bNe, mN, bLst, mNil, D.okB, D.okL, hok, D.eqv, D.py, D.pyL, PyData.eqv, hne, mPop0, bGe, mV, bPow, hc, sK, ht, outs]
/-- a draw, and on -/
theorem draw_step {dk : D} {m : Int} {Q : D → List D → Prop} (h : Deck dk) (h0 : 0 < m) (h1 : m < 2 ^ 100) (k : ∀ r dk', 0 ≤ r → r < m → Deck dk' → Q (.int r) [dk', .int m]) : ∃ d out, drawF [dk, .int m] = .ok (d, out) ∧ Q d out := by
  obtain ⟨r, dk', e, h2, h3, h4⟩ := draw_ok h h0 h1
  exact ⟨_, _, e, k r dk' h2 h3 h4⟩
def deckB : MS := (sRet (mN bLst (mCons (m1 bRev (mL listOfD (mCons (mSl (mV 0) none (some (mC (.int 63)))) mNil))) (mCons (m2 bAdd (mN bSum (mCons (mComp [1] (pN 1) (mIt (mSl (mV 0) none (some (mC (.int 63))))) mYes (m2 bMod (mV 1) (mC (.int 1000003)))) mNil)) (m2 bMul (mC (.int 7919)) (mN bLen (mCons (mSl (mV 0) none (some (mC (.int 63)))) mNil)))) (mCons (mC (.int 0)) mNil)))))
theorem intsOf_map : ∀ l : List Int, intsOf (l.map .int) = some l
  | [] => rfl
  | i :: l => by simp [intsOf, intsOf_map l]
theorem cut63 {ns : List Int} (h : ns.length ≤ 63) : cutD ns none (some 63) = ns := by
  unfold cutD
  rw [show HT.sIx ns.length 0 none = 0 from HT.sIx_none ns.length 0, show HT.sIx ns.length ns.length (some 63) = min 63 ns.length from HT.sIx_nat ns.length ns.length 63]
  rw [List.drop_zero]
  exact List.take_of_length_le (by omega)
theorem deck_ok {ns : List Int} (h : ns.length ≤ 63) : ∃ dk, runP 1 deckB [.scr ns] = .ok dk ∧ Deck dk := by
  refine ⟨.lst [.lst (ns.reverse.map .int), .int ((ns.map fun c => c.fmod 1000003).sum + 7919 * ns.length), .int 0], runP_of ?_, ns.reverse, _, 0, rfl, by simpa using h⟩
  have hc : ∀ (x : Option D) (Q : List D → Sl → Prop), Q ((ns.map fun c => c.fmod 1000003).map .int) [x, none] → W (compL [1] (pN 1) mYes (m2 bMod (mV 1) (mC (.int 1000003))) (ns.map .int)) [x, none] Q := fun x Q q => by
    refine W_compMap (f := fun d => match d with | .int i => .int (i.fmod 1000003) | d => d) (fun y hy => ?_) (by simpa [List.map_map, Function.comp_def] using q)
    obtain ⟨i, _, rfl⟩ := List.mem_map.mp hy
    exact ⟨_, _, rfl, rfl, rfl⟩
  simp only [deckB, W_sRet, W_mN, W_mCons, W_m1, W_mL, W_mSl, W_mV, W_mPtN, W_mPtS, W_mC, W_mNil, W_m2, W_mComp, W_mIt]
  simp [bSl, cut63 h, listOfD, bRev, itemsOf, wipeD]
  refine hc _ _ ?_
  refine ⟨_, (show (intsOf (List.map D.int (List.map (fun c => c.fmod 1000003) ns))).map (fun ns => D.int ns.sum) = some _ by rw [intsOf_map]; rfl), ?_⟩
  simp [bLen, bMul, bAdd, bLst, cut63 h]
end CL
namespace CL
open PySem PySem.Spec L2
set_option autoImplicit false
def D.ty : D → Option String
  | .non => some "NoneType"
  | .bl _ => some "bool"
  | .int _ => some "int"
  | .str _ => some "str"
  | .tup _ => some "tuple"
  | .lst _ => some "list"
  | .scr _ => some "list"
  | .dct _ _ => some "dict"
  | _ => none
def bIsi (c : String) (d : D) : Option D := d.ty.bind fun t => (kitB t c).map .bl
theorem Pk0.tyx [Tb] {K : PySem.W.Frag} {Z : Addr → Prop} {H : Hp} {d : D} {v : V} {t : String} (h : Pk0 K Z H d v) (e : d.ty = some t) : TyX K H v (.type t) := by
  cases d with
  | non => cases e; rw [h.non]; exact .base .non
  | bl b => cases e; rw [h.bl]; exact .base (.bl b)
  | int b => cases e; rw [h.int]; exact .base (.int b)
  | str b => cases e; rw [h.str]; exact .base (.str b)
  | tup b =>
    cases e
    obtain ⟨a, xs, rfl, (s | ⟨o, s⟩) | ⟨o, its, n, s1, s2, _⟩, _⟩ := h.tup
    · exact .base (.tup s)
    · exact .fTuple s
    · exact .kTuple s1 s2
  | lst b => cases e; obtain ⟨a, xs, rfl, s, _⟩ := h.lst; exact .base (.lst s)
  | scr b =>
    cases e
    obtain ⟨a, rfl, (s | ⟨o, s⟩) | ⟨o, its, n, s1, s2, _⟩⟩ := h.scr
    · exact .base (.lst s)
    · exact .base (.frz s)
    · exact .kList s1 s2
  | dct _ _ =>
    cases e
    rcases h with h | ⟨_, _, _, e, _⟩
    · simp only [RSh] at h
      obtain ⟨a, kvs, rfl, _, s, _⟩ := h
      exact .base (.dK s)
    · cases e
  | kdc _ _ => cases e
  | ins _ _ _ => cases e
section
variable [Tb] {X : Cx} {τ : Nat → OT} {q : Bool} {md : Md} {a : Expr} {ma : M D} {pos p1 p2 : Pos}
theorem e_isi {c : String} {x : Str} (hv : bootBuiltins x = some (.type c)) (hn : x ≠ "__name__") (hd : (x == ("__debug__" : Str)) = false) (ha : PE X a (tE X.K τ q md ma)) (hi : X.mg "isinstance" = none) (hm : X.mg x = none) (hg1 : Gl X "isinstance") (hg2 : Gl X x) (hh : Hand md)
    (h1 : starEach (a :: [.Name x p1]) X.env = (false, eval a X.env) :: starEach [.Name x p1] X.env) (h2 : starEach [Expr.Name x p1] X.env = (false, eval (.Name x p1) X.env) :: starEach [] X.env) (hpl : (backTo pos (starEach [Expr.Name x p1] X.env)).any (·.1) = false) :
    PE X (.Call (.Name "isinstance" p2) [a, .Name x p1] [] pos) (tE X.K τ q .sh (m1 (bIsi c) ma)) :=
  (pe_callB call_isi hg1 hi (by decide +kernel) (pa_cons ha (pa_cons (pe_bltn (v := .ty c) hg2 hm hv rfl hn hd) pa_nil h2) h1) (by decide) (by decide) h1 hpl).mono fun σ H Q ⟨Z, own, ρ, d, ρ', rs, e, k⟩ => by
    obtain ⟨x, ρ1, e1, e⟩ := bind_ok e
    obtain ⟨e3, rfl⟩ := ofO_ok e
    refine ⟨Z, own, ρ, x, ρ', rs, e1, fun v Z1 own1 H1 S1 rs1 rm1 _ x1 => ?_⟩
    obtain ⟨t, et, e3⟩ := Option.bind_eq_some_iff.mp e3
    obtain ⟨b, eb, rfl⟩ := Option.map_eq_some_iff.mp e3
    exact ⟨v, .ty c, .type t, .type c, b, rfl, .ty c, (rm1.pk0 hh).tyx et, kit_ty eb, fin_sh rs1 x1 Grow.refl (d := .bl b) (S := fun _ => False) (.inl (by simp only [RSh])) NewS.none k⟩
theorem e_isi_int (ha : PE X a (tE X.K τ q md ma)) (hi : X.mg "isinstance" = none) (hm : X.mg "int" = none) (hg1 : Gl X "isinstance" := by rfl) (hg2 : Gl X "int" := by rfl) (hh : Hand md := by trivial)
    (h1 : starEach (a :: [.Name "int" p1]) X.env = (false, eval a X.env) :: starEach [.Name "int" p1] X.env := by rfl) (h2 : starEach [Expr.Name "int" p1] X.env = (false, eval (.Name "int" p1) X.env) :: starEach [] X.env := by rfl) (hpl : (backTo pos (starEach [Expr.Name "int" p1] X.env)).any (·.1) = false := by rfl) :
    PE X (.Call (.Name "isinstance" p2) [a, .Name "int" p1] [] pos) (tE X.K τ q .sh (m1 (bIsi "int") ma)) := e_isi (by decide +kernel) (by decide) (by decide) ha hi hm hg1 hg2 hh h1 h2 hpl
theorem e_isi_bool (ha : PE X a (tE X.K τ q md ma)) (hi : X.mg "isinstance" = none) (hm : X.mg "bool" = none) (hg1 : Gl X "isinstance" := by rfl) (hg2 : Gl X "bool" := by rfl) (hh : Hand md := by trivial)
    (h1 : starEach (a :: [.Name "bool" p1]) X.env = (false, eval a X.env) :: starEach [.Name "bool" p1] X.env := by rfl) (h2 : starEach [Expr.Name "bool" p1] X.env = (false, eval (.Name "bool" p1) X.env) :: starEach [] X.env := by rfl) (hpl : (backTo pos (starEach [Expr.Name "bool" p1] X.env)).any (·.1) = false := by rfl) :
    PE X (.Call (.Name "isinstance" p2) [a, .Name "bool" p1] [] pos) (tE X.K τ q .sh (m1 (bIsi "bool") ma)) := e_isi (by decide +kernel) (by decide) (by decide) ha hi hm hg1 hg2 hh h1 h2 hpl
theorem e_isi_tuple (ha : PE X a (tE X.K τ q md ma)) (hi : X.mg "isinstance" = none) (hm : X.mg "tuple" = none) (hg1 : Gl X "isinstance" := by rfl) (hg2 : Gl X "tuple" := by rfl) (hh : Hand md := by trivial)
    (h1 : starEach (a :: [.Name "tuple" p1]) X.env = (false, eval a X.env) :: starEach [.Name "tuple" p1] X.env := by rfl) (h2 : starEach [Expr.Name "tuple" p1] X.env = (false, eval (.Name "tuple" p1) X.env) :: starEach [] X.env := by rfl) (hpl : (backTo pos (starEach [Expr.Name "tuple" p1] X.env)).any (·.1) = false := by rfl) :
    PE X (.Call (.Name "isinstance" p2) [a, .Name "tuple" p1] [] pos) (tE X.K τ q .sh (m1 (bIsi "tuple") ma)) := e_isi (by decide +kernel) (by decide) (by decide) ha hi hm hg1 hg2 hh h1 h2 hpl
theorem e_isi_str (ha : PE X a (tE X.K τ q md ma)) (hi : X.mg "isinstance" = none) (hm : X.mg "str" = none) (hg1 : Gl X "isinstance" := by rfl) (hg2 : Gl X "str" := by rfl) (hh : Hand md := by trivial)
    (h1 : starEach (a :: [.Name "str" p1]) X.env = (false, eval a X.env) :: starEach [.Name "str" p1] X.env := by rfl) (h2 : starEach [Expr.Name "str" p1] X.env = (false, eval (.Name "str" p1) X.env) :: starEach [] X.env := by rfl) (hpl : (backTo pos (starEach [Expr.Name "str" p1] X.env)).any (·.1) = false := by rfl) :
    PE X (.Call (.Name "isinstance" p2) [a, .Name "str" p1] [] pos) (tE X.K τ q .sh (m1 (bIsi "str") ma)) := e_isi (by decide +kernel) (by decide) (by decide) ha hi hm hg1 hg2 hh h1 h2 hpl
end
theorem isi_int_int {i : Int} : bIsi "int" (.int i) = some (.bl true) := by
  show (kitB "int" "int").map D.bl = _
  rw [show kitB "int" "int" = some true by decide +kernel]; rfl
theorem isi_bool_int {i : Int} : bIsi "bool" (.int i) = some (.bl false) := by
  show (kitB "int" "bool").map D.bl = _
  rw [show kitB "int" "bool" = some false by decide +kernel]; rfl
theorem isi_tuple_tup {l : List D} : bIsi "tuple" (.tup l) = some (.bl true) := by
  show (kitB "tuple" "tuple").map D.bl = _
  rw [show kitB "tuple" "tuple" = some true by decide +kernel]; rfl
end CL
namespace CL
open PySem
set_option autoImplicit false
theorem eq_int2 {a b : Int} : bEq (.int a) (.int b) = some (.bl (decide (a = b))) := by
  simp [bEq, D.okB, D.eqv, D.py, PyData.eqv]
  by_cases h : a = b <;> simp [h]
theorem ne_int2 {a b : Int} : bNe (.int a) (.int b) = some (.bl (!decide (a = b))) := by
  simp [bNe, D.okB, D.eqv, D.py, PyData.eqv]
  by_cases h : a = b <;> simp [h]
end CL
namespace CL
end CL
namespace CL
end CL
namespace CLZ
end CLZ
namespace CL
open PySem PySem.Spec L2 CLZ
set_option autoImplicit false
section
variable [Tb] {X : Cx} {τ : Nat → OT} {q : Bool} {a b : Expr} {ms : M (List D)} {pos p tpos : Pos} {elts : List Expr} {kk : Nat}
end
section
variable [Tb] {X : Cx} {τ : Nat → OT} {q : Bool} {a b : Expr} {ms : M (List D)} {pos p tpos : Pos} {tg : Expr}
end
section
variable [Tb] {X : Cx} {τ : Nat → OT} {q : Bool} {a b : Expr} {ms : M (List D)} {pos p tpos : Pos} {elts : List Expr} {kk : Nat}
end
def bStr : List D → Option D
  | [.int i] => if i.natAbs < bigR then some (.str (toString i)) else none
  | [.str x] => some (.str x)
  | _ => none
def maxL : List Int → Option Int
  | [] => none
  | a :: l => some (l.foldl max a)
def bMax1 : List D → Option D
  | [.lst l] => (intsOf l).bind fun ns => (maxL ns).map .int
  | _ => none
section
variable [Tb] {X : Cx}
theorem c_str : CallR X (.type "str") (rFn X.K bStr) := by
  intro pins s σ H xs us Q I r h
  obtain ⟨Z, ds, d, pl, e, k⟩ := h
  unfold bStr at e
  split at e
  · split at e
    · rename_i hb
      cases e
      obtain ⟨v, rfl, p⟩ := pl.one
      rw [p.int] at r
      exact call_str_int pins s σ H _ us Q I r ⟨_, rfl, bigR_log hb, fin0 (by simp only [RSh]) k⟩
    · cases e
  · cases e
    obtain ⟨v, rfl, p⟩ := pl.one
    rw [p.str] at r
    exact SkE.call_str_str pins s σ H _ us Q I r ⟨_, rfl, fin0 (by simp only [RSh]) k⟩
  · cases e
end
def sPar3 (i j l : Nat) (es : M (List D)) : MS := bind es fun vs => fun ρ => match vs with | [u, v, w] => .ok (.nx, ((ρ.set i (some u)).set j (some v)).set l (some w)) | _ => .bad
section
variable [Tb] {X : Cx} {F : Fr} {q : Bool} {a b c : Expr} {ms : M (List D)} {pos : Pos}
end
def par3W (vs : List D) (P : D → D → D → Prop) : Prop := match vs with
  | [u, v, w] => P u v w
  | _ => False
theorem W_sPar3 {i j l : Nat} {ms : M (List D)} {ρ : Sl} {QF : Fl → Sl → Prop} : W (sPar3 i j l ms) ρ QF ↔ W ms ρ fun vs ρ1 => par3W vs fun u v w => QF .nx (((ρ1.set i (some u)).set j (some v)).set l (some w)) := by
  simp only [sPar3, W_bind]
  constructor <;> refine fun h => h.mono fun d ρ1 q => ?_
  · obtain ⟨f, ρ', e, q⟩ := q
    split at e
    · cases e; exact q
    · cases e
  · unfold par3W at q
    split at q
    · exact ⟨.nx, _, rfl, q⟩
    · exact q.elim
section
variable [Tb] {X : Cx}
end
section
variable [Tb] {X : Cx} {τ : Nat → OT} {q q1 q2 : Bool} {e a b : Expr} {ma mb : M D} {pos apos p1 p2 : Pos} {x : Str} {kk : Nat}
end
end CL
namespace CL
open PySem PySem.Spec L2
set_option autoImplicit false
/-- the part at a place -/
inductive At : D → List Nat → D → Prop where
  | nil (d : D) : At d [] d
  | cons {l : List D} {k : Nat} {x : D} {p : List Nat} {e : D} (h : l[k]? = some x) (r : At x p e) : At (.tup l) (k :: p) e
theorem at_nat {α : Type} {l : List α} {k : Nat} {x : α} (h : l[k]? = some x) : atI l (k : Int) = some x := by
  have := (List.getElem?_eq_some_iff.mp h).1
  unfold atI ixN
  rw [if_pos (by omega), if_pos (by omega)]
  simpa using h
def D.sz : D → Nat
  | .tup l => l.length
  | _ => 0
end CL
namespace CL
open PySem PySem.Spec L2
set_option autoImplicit false
local macro_rules | `(tactic| walk_at "v") => `(tactic| simp only [W_sSeq, W_sIf, W_sRet, W_sExp, W_sAsg, W_sPar, W_sPar3, W_sK, W_mC, W_mV, W_m1, W_m2, W_mN, W_mL, W_mCons, W_mNil, W_mIf, W_mAnd, W_mOr, W_mChain, W_mCallP, W_mCall, W_mSl, W_mPtN, W_mPtS, W_mIt, W_mItN, W_mIxS, W_mComp, W_sFor, evA, pN, pT, psC, psN, fillA, backA])
local macro_rules | `(tactic| walk_at "n") => `(tactic| simp only [Kq_nx, Kq_ret, Kq_brk, Kq_cnt])
def pt (x y : Int) : D := .tup [.int x, .int y]
def ln (x y u v : Int) : D := .tup [pt x y, pt u v]
theorem eq_pt {x y u v : Int} : bEq (pt x y) (pt u v) = some (.bl (decide (x = u ∧ y = v))) := by
  simp [pt, bEq, D.okB, D.okL, D.eqv, D.py, D.pyL, PyData.eqv, PyData.eqvAll]
  by_cases h1 : x = u <;> by_cases h2 : y = v <;> simp [h1, h2]
theorem ne_pt {x y u v : Int} : bNe (pt x y) (pt u v) = some (.bl (!decide (x = u ∧ y = v))) := by
  simp [pt, bNe, D.okB, D.okL, D.eqv, D.py, D.pyL, PyData.eqv, PyData.eqvAll]
  by_cases h1 : x = u <;> by_cases h2 : y = v <;> simp [h1, h2]
theorem W_mApp {i : Nat} {m : M D} {ρ : Sl} {Q : D → Sl → Prop} : W (mApp i m) ρ Q ↔ ∃ d0, ρ[i]? = some (some d0) ∧ W m ρ fun d ρ1 => ∃ l, ρ1[i]? = some (some (.lst l)) ∧ l.length < 16777216 ∧ Q .non (ρ1.set i (some (.lst (l ++ [d])))) := by
  unfold mApp
  simp only [W_bind, W_mV]
  constructor
  · rintro ⟨d0, h0, h⟩
    refine ⟨d0, h0, h.mono fun d ρ1 ⟨a, ρ', e, q⟩ => ?_⟩
    dsimp only at e
    split at e
    · rename_i l hl
      split at e
      · rename_i hll; cases e; exact ⟨l, hl, hll, q⟩
      · cases e
    · cases e
  · rintro ⟨d0, h0, h⟩
    refine ⟨d0, h0, h.mono fun d ρ1 ⟨l, hl, hll, q⟩ => ⟨.non, _, by simp [hl, hll], q⟩⟩
end CL
namespace CL
end CL
namespace CL
end CL
namespace CL
end CL
namespace CLX
open PySem PySem.Spec L2 CL
local macro_rules | `(tactic| walk_at "w") => `(tactic| simp only [Kq_nx, Kq_ret, Kq_brk, Kq_cnt, W_sSeq, W_sIf, W_sRet, W_sExp, W_sAsg, W_sPar, W_sPar3, W_sK, W_mC, W_mV, W_m1, W_m2, W_mN, W_mL, W_mCons, W_mNil, W_mIf, W_mAnd, W_mOr, W_mChain, W_mCallP, W_mCall, W_mSl, W_mPtN, W_mPtS, W_mIt, W_mItN, W_mIxS, W_mComp, W_sFor, evA, pN, pT, psC, psN, fillA, backA])
local macro_rules | `(tactic| walk_at "v") => `(tactic| simp only [W_sSeq, W_sIf, W_sRet, W_sExp, W_sAsg, W_sPar, W_sPar3, W_sK, W_mC, W_mV, W_m1, W_m2, W_mN, W_mL, W_mCons, W_mNil, W_mIf, W_mAnd, W_mOr, W_mChain, W_mCallP, W_mCall, W_mSl, W_mPtN, W_mPtS, W_mIt, W_mItN, W_mIxS, W_mComp, W_sFor, evA, pN, pT, psC, psN, fillA, backA])
local macro_rules | `(tactic| walk_at "n") => `(tactic| simp only [Kq_nx, Kq_ret, Kq_brk, Kq_cnt])
def B__law_deck : MS := (sRet (mN bLst (mCons (m1 bRev (mL listOfD (mCons (mSl (mV 0) none (some (mC (.int 63)))) mNil))) (mCons (m2 bAdd (mN bSum (mCons (mComp [1] (pN 1) (mIt (mSl (mV 0) none (some (mC (.int 63))))) mYes (m2 bMod (mV 1) (mC (.int 1000003)))) mNil)) (m2 bMul (mC (.int 7919)) (mN bLen (mCons (mSl (mV 0) none (some (mC (.int 63)))) mNil)))) (mCons (mC (.int 0)) mNil)))))
def F__law_deck : List D → Res D := runP 1 B__law_deck
def B__law_draw : MS := (sSeq (sSto 0 1 (m2 bAdd (mIxS 0 1) (mC (.int 1)))) (sSeq (sAsg (pN 2) (mIxS 0 0)) (sSeq (sIf (m2 bNe (mIx0 0) (mN bLst mNil)) (sSeq (sAsg (pN 2) (mPop0 0)) (sIf (m2 bGe (mV 2) (m2 bPow (mC (.int 10)) (mC (.int 18)))) (sSeq (sExp (mApp0 0 (m2 bDiv (mV 2) (mV 1)))) (sRet (m2 bMod (mV 2) (mV 1)))) (sK .nx))) (sK .nx)) (sSeq (sAsg (pN 3) (m2 bMod (m2 bMul (m2 bAdd (m2 bAdd (m2 bMod (mV 2) (mC (.int 2147483629))) (m2 bMul (mC (.int 65537)) (mIxS 0 1))) (mC (.int 3))) (mC (.int 48271))) (mC (.int 2147483647)))) (sSeq (sAsg (pN 3) (m2 bMod (m2 bAdd (m2 bAdd (m2 bMul (mV 3) (mV 3)) (m2 bMul (mC (.int 69621)) (mIxS 0 1))) (mC (.int 17))) (mC (.int 2147483587)))) (sRet (m2 bMod (m2 bDiv (m2 bMod (m2 bAdd (m2 bMul (mV 3) (mV 3)) (mC (.int 39373))) (mC (.int 2147483563))) (mC (.int 64))) (mV 1))))))))
def F__law_draw : Fn := runF [.ol (.ol .sh .sh) .sh, .sh] 2 B__law_draw
def B__law_point : MS := (sSeq (sPar 3 4 (mCons (mCall F__law_draw (.io 0 :: (.e (m2 bAdd (m2 bMul (mC (.int 4)) (mV 1)) (mC (.int 1))) :: []))) (mCons (mCall F__law_draw (.io 0 :: (.e (m2 bAdd (m2 bMul (mC (.int 4)) (mV 1)) (mC (.int 1))) :: []))) mNil))) (sSeq (sIf (m2 bEq (mV 2) (mC (.int 1))) (sRet (mN bTup (mCons (m2 bDiv (m2 bAdd (m2 bMul (m2 bDiv (m2 bMul (mC (.int 2)) (mV 3)) (mV 1)) (mV 1)) (mC (.int 1))) (mC (.int 2))) (mCons (m2 bDiv (m2 bAdd (m2 bMul (m2 bDiv (m2 bMul (mC (.int 2)) (mV 4)) (mV 1)) (mV 1)) (mC (.int 1))) (mC (.int 2))) mNil)))) (sK .nx)) (sSeq (sIf (m2 bEq (mV 2) (mC (.int 2))) (sRet (mN bTup (mCons (m2 bMul (m2 bDiv (mV 3) (mV 1)) (mV 1)) (mCons (m2 bMul (m2 bDiv (mV 4) (mV 1)) (mV 1)) mNil)))) (sK .nx)) (sSeq (sIf (m2 bEq (mV 2) (mC (.int 3))) (sRet (mN bTup (mCons (m2 bAdd (m2 bMul (m2 bDiv (mV 3) (mV 1)) (mV 1)) (m2 bDiv (mV 1) (mC (.int 2)))) (mCons (mV 4) mNil)))) (sK .nx)) (sRet (mN bTup (mCons (mV 3) (mCons (mV 4) mNil))))))))
def F__law_point : Fn := runF [.ol (.ol .sh .sh) .sh, .sh, .sh] 2 B__law_point
def B__law_unlike : MS := (sRet (mN bTup (mCons (mV 0) (mCons (m2 bIx (mN bLst (mCons (mV 1) (mCons (mN bTup (mCons (m2 bAdd (m2 bIx (mV 0) (mC (.int 0))) (mC (.int 1))) (mCons (m2 bIx (mV 0) (mC (.int 1))) mNil))) mNil))) (mN bInt (mCons (m2 bEq (mV 0) (mV 1)) mNil))) mNil))))
def F__law_unlike : List D → Res D := runP 0 B__law_unlike
def B__law_line : MS := (sSeq (sAsg (pN 3) (mCall F__law_draw (.io 0 :: (.e (mC (.int 9)) :: [])))) (sSeq (sAsg (pN 4) (mCall F__law_point (.io 0 :: (.e (mV 1) :: (.e (m2 bMod (mV 3) (mC (.int 4))) :: []))))) (sSeq (sAsg (pN 5) (mCall F__law_point (.io 0 :: (.e (mV 1) :: (.e (mCall F__law_draw (.io 0 :: (.e (mC (.int 4)) :: []))) :: []))))) (sSeq (sIf (mOr (m2 bEq (mV 2) (mN bLst mNil)) (m2 bLt (mV 3) (mC (.int 5)))) (sRet (mCallP F__law_unlike (mCons (mV 4) (mCons (mV 5) mNil)))) (sK .nx)) (sSeq (sAsg (pT 2 (psC (pT 2 (psC (pN 6) (psC (pN 7) psN))) (psC (pT 2 (psC (pN 8) (psC (pN 9) psN))) psN))) (m2 bIx (mV 2) (mCall F__law_draw (.io 0 :: (.e (mN bLen (mCons (mV 2) mNil)) :: []))))) (sSeq (sIf (m2 bGt (mN bMax1 (mCons (mComp [10] (pN 10) (mIt (mN bTup (mCons (mV 6) (mCons (mV 7) (mCons (mV 8) (mCons (mV 9) mNil)))))) mYes (mN bAbs (mCons (mV 10) mNil))) mNil)) (m2 bMul (mC (.int 12)) (mV 1))) (sRet (mCallP F__law_unlike (mCons (mV 4) (mCons (mV 5) mNil)))) (sK .nx)) (sSeq (sIf (m2 bEq (mV 3) (mC (.int 5))) (sRet (mCallP F__law_unlike (mCons (mN bTup (mCons (mV 8) (mCons (mV 9) mNil))) (mCons (mV 5) mNil)))) (sK .nx)) (sSeq (sIf (m2 bEq (mV 3) (mC (.int 6))) (sRet (mCallP F__law_unlike (mCons (mV 4) (mCons (mN bTup (mCons (m2 bSub (m2 bAdd (mV 6) (mV 8)) (m2 bIx (mV 4) (mC (.int 0)))) (mCons (m2 bSub (m2 bAdd (mV 7) (mV 9)) (m2 bIx (mV 4) (mC (.int 1)))) mNil))) mNil)))) (sK .nx)) (sSeq (sIf (m2 bEq (mV 3) (mC (.int 7))) (sRet (mN bTup (mCons (mN bTup (mCons (mV 8) (mCons (mV 9) mNil))) (mCons (mN bTup (mCons (m2 bSub (m2 bMul (mC (.int 2)) (mV 8)) (mV 6)) (mCons (m2 bSub (m2 bMul (mC (.int 2)) (mV 9)) (mV 7)) mNil))) mNil)))) (sK .nx)) (sRet (m2 bIx (mN bLst (mCons (mN bTup (mCons (mN bTup (mCons (mV 6) (mCons (mV 7) mNil))) (mCons (mN bTup (mCons (mV 8) (mCons (mV 9) mNil))) mNil))) (mCons (mN bTup (mCons (mN bTup (mCons (mV 8) (mCons (mV 9) mNil))) (mCons (mN bTup (mCons (mV 6) (mCons (mV 7) mNil))) mNil))) (mCons (mN bTup (mCons (mN bTup (mCons (mV 6) (mCons (mV 7) mNil))) (mCons (mN bTup (mCons (m2 bSub (m2 bMul (mC (.int 2)) (mV 8)) (mV 6)) (mCons (m2 bSub (m2 bMul (mC (.int 2)) (mV 9)) (mV 7)) mNil))) mNil))) mNil)))) (mCall F__law_draw (.io 0 :: (.e (mC (.int 3)) :: []))))))))))))))
def F__law_line : Fn := runF [.ol (.ol .sh .sh) .sh, .sh, .sh] 8 B__law_line
def ty__law_lines : Nat → OT := fun i => if i = 0 then .ol (.ol .sh .sh) .sh else if i = 3 then .ol .sh .sh else .sh
theorem W_sFz {i : Nat} {m : MS} {ρ : Sl} {Q : Fl → Sl → Prop} : W (sFz i m) ρ Q ↔ W m ρ fun f ρ' => Q f (ρ'.set i none) := by
  unfold sFz
  constructor
  · rintro ⟨f, ρ', e, q⟩
    dsimp only at e
    split at e
    · rename_i e1; cases e; exact ⟨_, _, e1, q⟩
    · cases e
    · cases e
  · rintro ⟨f, ρ', e, q⟩
    exact ⟨f, _, by simp only [e], q⟩
def insB (f w L H U s : Int) : Bool := decide (2 * L * U ≤ f * 2 * U + w * s) && decide (f * 2 * U + w * s < 2 * H * U)
structure Geo where
  (g x y u v i j U : Int)
  hg : g.natAbs ≤ 1000
  hx : x.natAbs ≤ 10000000
  hy : y.natAbs ≤ 10000000
  hu : u.natAbs ≤ 10000000
  hv : v.natAbs ≤ 10000000
  hi : i.natAbs ≤ 10000000
  hj : j.natAbs ≤ 10000000
def Geo.rows (G : Geo) : D := .lst [.tup [.int (2 * G.x), .int (2 * (G.u - G.x)), .int G.i], .tup [.int (2 * G.y), .int (2 * (G.v - G.y)), .int G.j]]
def Geo.ins (G : Geo) (s : Int) : Bool := insB (2 * G.x) (2 * (G.u - G.x)) ((2 * G.i - 1) * G.g) ((2 * G.i + 1) * G.g) G.U s && insB (2 * G.y) (2 * (G.v - G.y)) ((2 * G.j - 1) * G.g) ((2 * G.j + 1) * G.g) G.U s
theorem draw_is : F__law_draw = drawF := rfl
end CLX
namespace CLX
open PySem PySem.Spec L2 CL
local macro_rules | `(tactic| walk_at "v") => `(tactic| simp only [W_sSeq, W_sIf, W_sRet, W_sExp, W_sAsg, W_sPar, W_sPar3, W_sK, W_mC, W_mV, W_m1, W_m2, W_mN, W_mL, W_mCons, W_mNil, W_mIf, W_mAnd, W_mOr, W_mChain, W_mCallP, W_mCall, W_mSl, W_mPtN, W_mPtS, W_mIt, W_mItN, W_mIxS, W_mComp, W_sFor, evA, pN, pT, psC, psN, fillA, backA])
local macro_rules | `(tactic| walk_at "n") => `(tactic| simp only [Kq_nx, Kq_ret, Kq_brk, Kq_cnt])
def B_is_whole : MS := (sRet (mAnd (m1 (bIsi "int") (mV 0)) (m1 bNot (m1 (bIsi "bool") (mV 0)))))
def F_is_whole : List D → Res D := runP 0 B_is_whole
theorem eq_str {a b : Str} : bEq (.str a) (.str b) = some (.bl (decide (a = b))) := by
  simp [bEq, D.okB, D.eqv, D.py, PyData.eqv]
end CLX
namespace CL
open PySem L2
set_option autoImplicit false
section
variable {ρ ρ' ρ1 : Sl} {QD : D → Sl → Prop} {QL : List D → Sl → Prop} {QF : Fl → Sl → Prop} {QO : Option Int → Sl → Prop}
def Br (x : D) (A B : Prop) : Prop := (x = .bl true ∧ A) ∨ (x = .bl false ∧ B)
theorem X_if {c : M D} {a b : MS} (h : W c ρ fun x ρ1 => Br x (W a ρ1 QF) (W b ρ1 QF)) : W (sIf c a b) ρ QF := W_sIf.mpr h
theorem go_if {p : Bool} {A B : Prop} (h1 : p = true → A) (h2 : p = false → B) : Br (.bl p) A B := by
  cases p with
  | true => exact .inl ⟨rfl, h1 rfl⟩
  | false => exact .inr ⟨rfl, h2 rfl⟩
theorem go_ifT {p : Bool} {A B : Prop} (h : p = true) (h1 : A) : Br (.bl p) A B := .inl ⟨by rw [h], h1⟩
theorem go_ifF {p : Bool} {A B : Prop} (h : p = false) (h1 : B) : Br (.bl p) A B := .inr ⟨by rw [h], h1⟩
theorem go_ifP {p : Prop} [Decidable p] {A B : Prop} (h1 : p → A) (h2 : ¬ p → B) : Br (.bl (decide p)) A B := go_if (fun h => h1 (of_decide_eq_true h)) fun h => h2 (of_decide_eq_false h)
theorem X_and {a b : M D} (h : W a ρ fun x ρ1 => ∃ p q : Bool, x = .bl p ∧ (p = true → W b ρ1 fun y ρ2 => y = .bl q ∧ ρ2 = ρ1) ∧ QD (.bl (p && q)) ρ1) : W (mAnd a b) ρ QD :=
  W_mAnd.mpr (h.mono fun x ρ1 ⟨p, q, e, h1, h2⟩ => by
    cases p with
    | true => exact .inl ⟨e, (h1 rfl).mono fun y ρ2 ⟨e1, e2⟩ => by rw [e1, e2]; simpa using h2⟩
    | false => exact .inr ⟨e, by simpa using h2⟩)
theorem X_or {a b : M D} (h : W a ρ fun x ρ1 => ∃ p q : Bool, x = .bl p ∧ (p = false → W b ρ1 fun y ρ2 => y = .bl q ∧ ρ2 = ρ1) ∧ QD (.bl (p || q)) ρ1) : W (mOr a b) ρ QD :=
  W_mOr.mpr (h.mono fun x ρ1 ⟨p, q, e, h1, h2⟩ => by
    cases p with
    | false => exact .inr ⟨e, (h1 rfl).mono fun y ρ2 ⟨e1, e2⟩ => by rw [e1, e2]; simpa using h2⟩
    | true => exact .inl ⟨e, by simpa using h2⟩)
theorem X_chain {f g : D → D → Option D} {a b c : M D} (h : W a ρ fun x ρ1 => W b ρ1 fun y ρ2 => ∃ p q : Bool, f x y = some (.bl p) ∧ (p = true → W c ρ2 fun w ρ3 => g y w = some (.bl q) ∧ ρ3 = ρ2) ∧ QD (.bl (p && q)) ρ2) : W (mChain f g a b c) ρ QD :=
  W_mChain.mpr (h.mono fun x ρ1 h => h.mono fun y ρ2 ⟨p, q, e, h1, h2⟩ => ⟨.bl p, e, by
    cases p with
    | true => exact .inl ⟨rfl, (h1 rfl).mono fun y ρ3 ⟨e1, e2⟩ => ⟨_, e1, by rw [e2]; simpa using h2⟩⟩
    | false => exact .inr ⟨rfl, by simpa using h2⟩⟩)
theorem and_go {x : D} {p q : Bool} {A : Bool → Bool → Prop} {P : Bool → Bool → Prop} (e : x = .bl p) (h1 : A p q) (h2 : P p q) : ∃ p q : Bool, x = .bl p ∧ A p q ∧ P p q := ⟨p, q, e, h1, h2⟩
theorem chain_go {x : Option D} {p q : Bool} {A : Bool → Bool → Prop} {P : Bool → Bool → Prop} (e : x = some (.bl p)) (h1 : A p q) (h2 : P p q) : ∃ p q : Bool, x = some (.bl p) ∧ A p q ∧ P p q := ⟨p, q, e, h1, h2⟩
theorem X_compN {vs : List Nat} {p : Pt} {c e : M D} (e0 : ρ = ρ') (h : QL [] ρ') : W (compL vs p c e []) ρ QL := by subst e0; exact W_compNil.mpr h
theorem X_evN : W (evA []) ρ QL ↔ QL [] ρ := W_mNil
theorem X_evI {i : Nat} {r : List Ag} : W (evA (.io i :: r)) ρ QL ↔ ∃ d, ρ[i]? = some (some d) ∧ W (evA r) ρ fun xs ρ2 => QL (d :: xs) ρ2 := by
  show W (mCons (mV i) (evA r)) ρ QL ↔ _
  rw [W_mCons, W_mV]
theorem X_evE {m : M D} {r : List Ag} : W (evA (.e m :: r)) ρ QL ↔ W m ρ fun d ρ1 => W (evA r) ρ1 fun xs ρ2 => QL (d :: xs) ρ2 := by
  show W (mCons m (evA r)) ρ QL ↔ _
  rw [W_mCons]
theorem X_nx {b : MS} (e : ρ = ρ') (h : W b ρ' QF) : Kq b QF .nx ρ := by subst e; exact Kq_nx.mpr h
/-- on to the next turn of a loop -/
def Fq (p : Pt) (b : MS) (xs : List D) (Q : Fl → Sl → Prop) : Fl → Sl → Prop := fun f ρ2 => ((f = .nx ∨ f = .cnt) ∧ W (forL p b xs) ρ2 Q) ∨ (f = .brk ∧ Q .nx ρ2) ∨ ∃ d, f = .ret d ∧ Q (.ret d) ρ2
theorem X_forC {p : Pt} {b : MS} {x : D} {xs : List D} (e0 : ρ = ρ') (e : p x ρ' = some ρ1) (h : W b ρ1 (Fq p b xs QF)) : W (forL p b (x :: xs)) ρ QF := by subst e0; exact W_forCons.mpr ⟨ρ1, e, h⟩
theorem X_fnx {p : Pt} {b : MS} {xs : List D} (e : ρ = ρ') (h : W (forL p b xs) ρ' QF) : Fq p b xs QF .nx ρ := by subst e; exact .inl ⟨.inl rfl, h⟩
/-- a loop by an invariant on its list, which may end ahead of time -/
theorem X_forI {p : Pt} {b : MS} {α : Type} {g : α → D} (I : List α → Sl → Prop) {xs : List α} (h0 : I xs ρ) (hq : ∀ ρ', I [] ρ' → QF .nx ρ')
    (h : ∀ x xs ρ, I (x :: xs) ρ → ∃ ρ1, p (g x) ρ = some ρ1 ∧ W b ρ1 fun f ρ2 => ((f = .nx ∨ f = .cnt) ∧ I xs ρ2) ∨ (f = .brk ∧ QF .nx ρ2) ∨ ∃ d, f = .ret d ∧ QF (.ret d) ρ2) : W (forL p b (xs.map g)) ρ QF := by
  induction xs generalizing ρ with
  | nil => exact W_forNil.mpr (hq ρ h0)
  | cons x xs ih =>
    obtain ⟨ρ1, e1, hb⟩ := h x xs ρ h0
    exact W_forCons.mpr ⟨ρ1, e1, hb.mono fun f ρ2 hh => hh.imp (fun ⟨hf, hi⟩ => ⟨hf, ih hi⟩) id⟩
theorem X_compY {vs : List Nat} {p : Pt} {e : M D} {x : D} {xs : List D} (e0 : ρ = ρ') (h1 : p x ρ' = some ρ1) (h : W e ρ1 fun d ρ3 => W (compL vs p mYes e xs) (wipeD ρ3 vs) fun ds ρ4 => QL (d :: ds) ρ4) : W (compL vs p mYes e (x :: xs)) ρ QL := by subst e0; exact W_compCons.mpr ⟨ρ1, h1, W_mYes.mpr (.inl ⟨rfl, h⟩)⟩
end
def Nb (n : Nat) (a : Int) : Prop := a.natAbs < 2 ^ n
/-- the same, kept from omega's sight -/
def Nle (a : Int) (n : Nat) : Prop := a.natAbs ≤ n
theorem Nb.mono {n m : Nat} {a : Int} (h : Nb n a) (k : n ≤ m) : Nb m a := Nat.lt_of_lt_of_le h (Nat.pow_le_pow_right (by decide) k)
theorem Nb.self (a : Int) : Nb (a.natAbs.log2 + 1) a := Nat.lt_log2_self
theorem Nb.le {n : Nat} {a : Int} (h : a.natAbs ≤ n) : Nb (n.log2 + 1) a := Nat.lt_of_le_of_lt h Nat.lt_log2_self
theorem Nb.lt {n : Nat} {a : Int} (h : a.natAbs < n) : Nb (n.log2 + 1) a := Nat.lt_of_le_of_lt (Nat.le_of_lt h) Nat.lt_log2_self
theorem Nb.rng {k : Nat} {a n : Int} (h0 : 0 ≤ a) (h1 : a < n) (hn : Nb k n) : Nb k a := by unfold Nb at *; omega
theorem Nb.add {n m : Nat} {a b : Int} (ha : Nb n a) (hb : Nb m b) : Nb (max n m + 1) (a + b) := by
  have h1 := Nb.mono ha (Nat.le_max_left n m)
  have h2 := Nb.mono hb (Nat.le_max_right n m)
  unfold Nb at *
  rw [Nat.pow_succ]
  omega
theorem Nb.mul {n m : Nat} {a b : Int} (ha : Nb n a) (hb : Nb m b) : Nb (n + m) (a * b) := by
  unfold Nb at *
  rw [Int.natAbs_mul, Nat.pow_add]
  exact Nat.mul_lt_mul'' ha hb
theorem Nb.max {n m : Nat} {a b : Int} (ha : Nb n a) (hb : Nb m b) : Nb (Max.max n m) (max a b) := by
  have h1 := Nb.mono ha (Nat.le_max_left n m)
  have h2 := Nb.mono hb (Nat.le_max_right n m)
  unfold Nb at *
  omega
theorem Nb.min {n m : Nat} {a b : Int} (ha : Nb n a) (hb : Nb m b) : Nb (Max.max n m) (min a b) := by
  have h1 := Nb.mono ha (Nat.le_max_left n m)
  have h2 := Nb.mono hb (Nat.le_max_right n m)
  unfold Nb at *
  omega
theorem Nb.ite {n m : Nat} {a b : Int} {c : Prop} [Decidable c] (ha : Nb n a) (hb : Nb m b) : Nb (Max.max n m) (if c then a else b) := by
  split
  · exact Nb.mono ha (Nat.le_max_left n m)
  · exact Nb.mono hb (Nat.le_max_right n m)
theorem mul_go {n m : Nat} {a b : Int} (ha : Nb n a) (hb : Nb m b) (h : (Nat.ble n 400000 && Nat.ble m 400000) = true) : bMul (.int a) (.int b) = some (.int (a * b)) := by
  simp only [Bool.and_eq_true, Nat.ble_eq] at h
  have : a.natAbs < big ∧ b.natAbs < big := ⟨ha.mono h.1, hb.mono h.2⟩
  simp only [bMul, this, and_self, or_true, if_true]
theorem tup_go {l : List D} (h : Nat.ble l.length 16777216 = true) : bTup l = some (.tup l) := by
  simp only [Nat.ble_eq] at h
  simp only [bTup, h, if_true]
theorem lst_go {l : List D} (h : Nat.ble l.length 16777216 = true) : bLst l = some (.lst l) := by
  simp only [Nat.ble_eq] at h
  simp only [bLst, h, if_true]
end CL
namespace CL
open PySem L2
section
variable {a b : Int} {n m : Nat} {P : D → Prop} {l : List D} {x y u v : Int} {s t : Str}
theorem mul_st (ha : Nb n a) (hb : Nb m b) (h : (Nat.ble n 400000 && Nat.ble m 400000) = true) (k : P (.int (a * b))) : ∃ d, bMul (.int a) (.int b) = some d ∧ P d := ⟨_, mul_go ha hb h, k⟩
theorem tup_st (h : Nat.ble l.length 16777216 = true) (k : P (.tup l)) : ∃ d, bTup l = some d ∧ P d := ⟨_, tup_go h, k⟩
theorem lst_st (h : Nat.ble l.length 16777216 = true) (k : P (.lst l)) : ∃ d, bLst l = some d ∧ P d := ⟨_, lst_go h, k⟩
theorem eqi_st (k : P (.bl (decide (a = b)))) : ∃ d, bEq (.int a) (.int b) = some d ∧ P d := ⟨_, eq_int2, k⟩
theorem nei_st (k : P (.bl (!decide (a = b)))) : ∃ d, bNe (.int a) (.int b) = some d ∧ P d := ⟨_, ne_int2, k⟩
theorem eqp_st' (k : P (.bl (decide (x = u ∧ y = v)))) : ∃ d, bEq (pt x y) (pt u v) = some d ∧ P d := ⟨_, eq_pt, k⟩
theorem nep_st' (k : P (.bl (!decide (x = u ∧ y = v)))) : ∃ d, bNe (pt x y) (pt u v) = some d ∧ P d := ⟨_, ne_pt, k⟩
theorem eqs_st (k : P (.bl (decide (s = t)))) : ∃ d, bEq (.str s) (.str t) = some d ∧ P d := ⟨_, CLX.eq_str, k⟩
end
theorem fill_st {as : List Ag} {ds : List D} {ρ : Sl} {P : List D → Prop} (h : ∃ f, fillA as ds ρ = some f ∧ P f) : ∃ f, fillA as ds ρ = some f ∧ P f := h
theorem at_mem {α : Type} {l : List α} {w : Int} (h0 : 0 ≤ w) (h1 : w < l.length) : ∃ x, atI l w = some x ∧ x ∈ l := by
  obtain ⟨k, rfl⟩ := Int.eq_ofNat_of_zero_le h0
  have hk : k < l.length := by omega
  exact ⟨l[k], at_nat (List.getElem?_eq_getElem hk), List.getElem_mem hk⟩
section
variable {a b c d e f g h w : Int} {P : D → Prop} {x y z t : D}
theorem ix2i (h0 : 0 ≤ w) (h1 : w < 2) (k : ∀ z, (z = a ∨ z = b) → Nle z (a.natAbs + b.natAbs) → P (.int z)) : ∃ d, bIx (.lst [.int a, .int b]) (.int w) = some d ∧ P d := by
  rcases (show w = 0 ∨ w = 1 by omega) with rfl | rfl
  · exact ⟨_, rfl, k a (by simp) (by unfold Nle; omega)⟩
  · exact ⟨_, rfl, k b (by simp) (by unfold Nle; omega)⟩
end
theorem is_for {p : Pt} {b : MS} {xs : List D} {ρ : Sl} {Q : Fl → Sl → Prop} (h : W (forL p b xs) ρ Q) : W (forL p b xs) ρ Q := h
theorem is_comp {vs : List Nat} {p : Pt} {c e : M D} {xs : List D} {ρ : Sl} {Q : List D → Sl → Prop} (h : W (compL vs p c e xs) ρ Q) : W (compL vs p c e xs) ρ Q := h
theorem is_chain {x : Option D} {A : Bool → Bool → Prop} {P : Bool → Bool → Prop} (h : ∃ p q : Bool, x = some (.bl p) ∧ A p q ∧ P p q) : ∃ p q : Bool, x = some (.bl p) ∧ A p q ∧ P p q := h
theorem Nb.lit {n : Nat} : Nb (n.log2 + 1) (OfNat.ofNat n : Int) := Nat.lt_log2_self
theorem call_st {F : List D → Res D} {ds : List D} {d : D} {P : D → Prop} (e : F ds = .ok d) (k : P d) : ∃ d, F ds = .ok d ∧ P d := ⟨d, e, k⟩
theorem is_W {α : Type} {m : M α} {ρ : Sl} {Q : α → Sl → Prop} (h : W m ρ Q) : W m ρ Q := h
theorem is_ex {α : Type} {P : α → Prop} (h : ∃ x, P x) : ∃ x, P x := h
theorem is_ev {o : Option D} {P : D → Prop} (h : ∃ d, o = some d ∧ P d) : ∃ d, o = some d ∧ P d := h
theorem is_evA {α : Type} {o : Option α} {P : α → Prop} (h : ∃ d, o = some d ∧ P d) : ∃ d, o = some d ∧ P d := h
theorem is_evI {o : D} {P : Int → Prop} (h : ∃ d, o = .int d ∧ P d) : ∃ d, o = .int d ∧ P d := h
theorem is_evS {o : Option (Option D)} {P : D → Prop} (h : ∃ d, o = some (some d) ∧ P d) : ∃ d, o = some (some d) ∧ P d := h
theorem is_evL {o : Option (Option D)} {P : List D → Prop} (h : ∃ l, o = some (some (.lst l)) ∧ P l) : ∃ l, o = some (some (.lst l)) ∧ P l := h
end CL
namespace CL
end CL
namespace CL
end CL
namespace CLG
def g3 (n m d : Int) : Nat := Int.gcd (Int.gcd n m) d
def turn (a b c d : Int) : Int := a * d - b * c
structure Li where
  x : Int
  y : Int
  u : Int
  v : Int
deriving DecidableEq
namespace Li
variable (p q : Li)
def ok : Prop := ¬ (p.x = p.u ∧ p.y = p.v)
def far : Int := turn (p.u - p.x) (p.v - p.y) (q.x - p.x) (q.y - p.y)
end Li
structure Pn where
  x : Int
  y : Int
deriving DecidableEq
def Pn.lt (a b : Pn) : Bool := decide (a.x < b.x) || (decide (a.x = b.x) && decide (a.y < b.y))
theorem Pn.lt_iff {a b : Pn} : a.lt b = true ↔ a.x < b.x ∨ (a.x = b.x ∧ a.y < b.y) := by simp [Pn.lt]
theorem Pn.nlt_iff {a b : Pn} : a.lt b = false ↔ b.x < a.x ∨ (a.x = b.x ∧ b.y ≤ a.y) := by
  rw [← Bool.not_eq_true, Pn.lt_iff]; omega
def pmin (a b : Pn) : Pn := if b.lt a then b else a
def pmax (a b : Pn) : Pn := if a.lt b then b else a
namespace Li
variable (p q : Li)
def a : Pn := ⟨p.x, p.y⟩
def b : Pn := ⟨p.u, p.v⟩
def lo : Pn := pmin p.a p.b
def hi : Pn := pmax p.a p.b
end Li
end CLG
namespace CL
theorem tup_pt {a b : Int} {P : D → Prop} (k : P (pt a b)) : ∃ d, bTup [.int a, .int b] = some d ∧ P d := ⟨_, rfl, k⟩
theorem tup_ln {a b c d : Int} {P : D → Prop} (k : P (ln a b c d)) : ∃ d', bTup [pt a b, pt c d] = some d' ∧ P d' := ⟨_, rfl, k⟩
end CL
namespace CLX
open PySem PySem.Spec L2 CL CLG
open PySem.W (dataLt dataLt_ii alike alikeAll)
def lnD (p : Li) : D := ln p.x p.y p.u p.v
local macro_rules | `(tactic| walk_at "o") => `(tactic| ((try simp only [backA, List.set_cons_zero, List.set_cons_succ, wipeD, List.map_cons, List.map_nil, List.cons_append, List.nil_append, List.replicate_succ, List.replicate_zero]); first | done | rfl))
local macro_rules | `(tactic| walk_at "b") => `(tactic| first
  | with_reducible exact Nb.lit
  | ((with_reducible apply Nb.mul) <;> walk_at "b")
  | ((with_reducible apply Nb.add) <;> walk_at "b")
  | ((with_reducible apply Nb.sub) <;> walk_at "b")
  | ((with_reducible apply Nb.neg) <;> walk_at "b")
  | ((with_reducible apply Nb.fdiv) <;> walk_at "b")
  | ((with_reducible apply Nb.fmod); (· walk_at "z"); (· walk_at "b"))
  | ((with_reducible apply Nb.max) <;> walk_at "b")
  | ((with_reducible apply Nb.min) <;> walk_at "b")
  | ((with_reducible apply Nb.ite) <;> walk_at "b")
  | with_reducible assumption
  | with_reducible exact Nb.le (by assumption)
  | with_reducible exact Nb.nle (by assumption)
  | with_reducible exact Nb.lt (by assumption)
  | ((with_reducible apply Nb.rng (by assumption) (by assumption)) <;> walk_at "b")
  | ((with_reducible apply Nb.rngE (by assumption) (by assumption)) <;> walk_at "b")
  | with_reducible exact Nb.self _)
local macro_rules | `(tactic| walk_at "z") => `(tactic| first | decide | assumption | omega | exact fmod_nn (by omega) | exact fmod_lt (by omega))
local macro_rules | `(tactic| walk_at "e") => `(tactic| first
  | ((with_reducible refine is_ev ?_); first
    | ((with_reducible apply mul_st); (· walk_at "b"); (· walk_at "b"); (· rfl))
    | ((with_reducible apply mul_s1); (· walk_at "b"); (· rfl))
    | ((with_reducible apply mul_s2); (· walk_at "b"); (· rfl))
    | ((with_reducible apply div_st); (· walk_at "z"); (· walk_at "b"); (· rfl))
    | ((with_reducible apply mod_st); (· walk_at "z"))
    | with_reducible apply tup_pt
    | with_reducible apply tup_ln
    | ((with_reducible apply tup_st); (· rfl))
    | ((with_reducible apply lst_st); (· rfl))
    | with_reducible apply eqi_st
    | with_reducible apply nei_st
    | with_reducible apply eqp_st
    | with_reducible apply nep_st
    | with_reducible apply eqp_st'
    | with_reducible apply nep_st'
    | with_reducible apply eqb_st
    | with_reducible apply neb_st
    | with_reducible apply isb_st
    | with_reducible apply eqs_st
    | with_reducible apply nes_st
    | with_reducible refine ix2bi (fun _ _ _ => ?_)
    | ((with_reducible refine ix4i ?_ ?_ (fun _ _ _ => ?_)); (· walk_at "z"); (· walk_at "z"))
    | ((with_reducible refine ix2i ?_ ?_ (fun _ _ _ => ?_)); (· walk_at "z"); (· walk_at "z"))
    | ((with_reducible refine ix3i ?_ ?_ (fun _ _ _ => ?_)); (· walk_at "z"); (· walk_at "z"))
    | refine ⟨_, rfl, ?_⟩)
  | ((with_reducible refine fill_st ?_); refine ⟨_, rfl, ?_⟩; (try dsimp only))
  | ((with_reducible apply and_go rfl); (· (intro _; (repeat walk_at "s"); with_reducible exact ⟨rfl, rfl⟩)))
  | ((with_reducible refine is_chain ?_); (apply chain_go rfl); (· (intro _; (repeat walk_at "s"); exact ⟨rfl, rfl⟩)))
  | ((with_reducible refine draw_step (by assumption) ?_ ?_ (fun _ _ _ _ _ => ?_)); (· walk_at "z"); (· walk_at "z"))
  | ((with_reducible refine CLY.draw_step (by assumption) ?_ ?_ (fun _ _ _ _ _ => ?_)); (· walk_at "z"); (· walk_at "z"))
  | ((with_reducible refine is_evA ?_); refine ⟨_, rfl, ?_⟩)
  | ((with_reducible refine is_evL ?_); refine ⟨_, rfl, ?_⟩)
  | ((with_reducible refine is_evI ?_); refine ⟨_, rfl, ?_⟩)
  | ((with_reducible refine is_evR ?_); refine ⟨_, rfl, ?_⟩))
local macro_rules | `(tactic| walk_at "f") => `(tactic| first
  | with_reducible refine W_mV.mpr ?_
  | with_reducible refine W_mCons.mpr ?_
  | with_reducible refine W_m2.mpr ?_
  | with_reducible refine W_mC.mpr ?_
  | with_reducible refine W_mNil.mpr ?_
  | with_reducible refine W_mN.mpr ?_
  | with_reducible refine W_sSeq.mpr ?_
  | with_reducible refine W_sAsg.mpr ?_
  | with_reducible refine W_m1.mpr ?_
  | with_reducible refine W_mCallP.mpr ?_
  | with_reducible refine W_mCall.mpr ?_
  | with_reducible refine X_evI.mpr ?_
  | with_reducible refine X_evE.mpr ?_
  | with_reducible refine X_evN.mpr ?_
  | with_reducible refine X_if ?_
  | with_reducible refine W_sRet.mpr ?_
  | with_reducible refine W_sK.mpr ?_
  | with_reducible refine X_and ?_
  | with_reducible refine X_or ?_
  | with_reducible refine W_sPar.mpr ?_
  | with_reducible refine W_mSl.mpr ?_
  | with_reducible refine W_mPtN.mpr ?_
  | with_reducible refine W_mPtS.mpr ?_
  | with_reducible refine W_mIt.mpr ?_
  | with_reducible refine W_mItN.mpr ?_
  | with_reducible refine W_mComp.mpr ?_
  | ((with_reducible refine is_comp ?_); first | (apply X_compN; (· walk_at "o")) | ((with_reducible apply X_compY); (· walk_at "o"); (· rfl)))
  | with_reducible refine W_sFor.mpr ?_
  | ((with_reducible refine is_for ?_); refine W_forNil.mpr ?_)
  | with_reducible refine X_chain ?_
  | with_reducible refine W_sExp.mpr ?_
  | with_reducible refine W_mL.mpr ?_
  | with_reducible refine X_mif ?_
  | with_reducible refine W_mIxS.mpr ?_
  | with_reducible refine W_mYes.mpr ?_
  | with_reducible refine W_sPar3.mpr ?_
  | with_reducible refine W_mApp.mpr ?_
  | with_reducible refine W_mBor.mpr ?_
  | with_reducible refine CLX.W_sFz.mpr ?_)
local macro_rules | `(tactic| walk_at "s") => `(tactic| first
  | ((with_reducible refine is_W ?_); walk_at "f")
  | ((with_reducible refine is_ex ?_); first
    | ((with_reducible refine is_evS ?_); refine ⟨_, rfl, ?_⟩)
    | ((with_reducible apply call_st); (· with_reducible assumption))
    | walk_at "e")
  | ((with_reducible apply X_nx); (· walk_at "o"))
  | with_reducible refine Kq_ret.mpr ?_
  | with_reducible refine Kq_brk.mpr ?_
  | with_reducible refine Kq_cnt.mpr ?_
  | ((with_reducible apply X_fnx); (· walk_at "o"))
  | ((with_reducible apply X_fcnt); (· walk_at "o"))
  | with_reducible refine X_fbrk ?_
  | with_reducible refine X_fret ?_
  | ((with_reducible refine is_ltA ?_); refine ⟨?_, ?_⟩; (· first | decide | omega | (simp; omega) | (simp; done)))
  | with_reducible refine parW_mk.mpr ?_
  | with_reducible refine par3W_mk.mpr ?_)
local macro_rules | `(tactic| walk_at "r") => `(tactic| repeat walk_at "s")
local macro_rules | `(tactic| walk_at "u") => `(tactic| first | ((apply X_forC); (· walk_at "o"); (· rfl)) | ((apply X_compY); (· walk_at "o"); (· rfl)) | ((apply X_compC); (· walk_at "o"); (· rfl)))
end CLX
namespace CLX
open PySem PySem.Spec L2 CL CLG
open PySem.W (dataLt dataLt_ii alike alikeAll)
local macro_rules | `(tactic| walk_at "o") => `(tactic| ((try simp only [backA, List.set_cons_zero, List.set_cons_succ, wipeD, List.map_cons, List.map_nil, List.cons_append, List.nil_append, List.replicate_succ, List.replicate_zero]); first | done | rfl))
local macro_rules | `(tactic| walk_at "b") => `(tactic| first
  | with_reducible exact Nb.lit
  | ((with_reducible apply Nb.mul) <;> walk_at "b")
  | ((with_reducible apply Nb.add) <;> walk_at "b")
  | ((with_reducible apply Nb.sub) <;> walk_at "b")
  | ((with_reducible apply Nb.neg) <;> walk_at "b")
  | ((with_reducible apply Nb.fdiv) <;> walk_at "b")
  | ((with_reducible apply Nb.fmod); (· walk_at "z"); (· walk_at "b"))
  | ((with_reducible apply Nb.max) <;> walk_at "b")
  | ((with_reducible apply Nb.min) <;> walk_at "b")
  | ((with_reducible apply Nb.ite) <;> walk_at "b")
  | with_reducible assumption
  | with_reducible exact Nb.le (by assumption)
  | with_reducible exact Nb.nle (by assumption)
  | with_reducible exact Nb.lt (by assumption)
  | ((with_reducible apply Nb.rng (by assumption) (by assumption)) <;> walk_at "b")
  | ((with_reducible apply Nb.rngE (by assumption) (by assumption)) <;> walk_at "b")
  | with_reducible exact Nb.self _)
local macro_rules | `(tactic| walk_at "z") => `(tactic| first | decide | assumption | omega | exact fmod_nn (by omega) | exact fmod_lt (by omega))
local macro_rules | `(tactic| walk_at "e") => `(tactic| first
  | ((with_reducible refine is_ev ?_); first
    | ((with_reducible apply mul_st); (· walk_at "b"); (· walk_at "b"); (· rfl))
    | ((with_reducible apply mul_s1); (· walk_at "b"); (· rfl))
    | ((with_reducible apply mul_s2); (· walk_at "b"); (· rfl))
    | ((with_reducible apply div_st); (· walk_at "z"); (· walk_at "b"); (· rfl))
    | ((with_reducible apply mod_st); (· walk_at "z"))
    | with_reducible apply tup_pt
    | with_reducible apply tup_ln
    | ((with_reducible apply tup_st); (· rfl))
    | ((with_reducible apply lst_st); (· rfl))
    | with_reducible apply eqi_st
    | with_reducible apply nei_st
    | with_reducible apply eqp_st
    | with_reducible apply nep_st
    | with_reducible apply eqp_st'
    | with_reducible apply nep_st'
    | with_reducible apply eqb_st
    | with_reducible apply neb_st
    | with_reducible apply isb_st
    | with_reducible apply eqs_st
    | with_reducible apply nes_st
    | with_reducible refine ix2bi (fun _ _ _ => ?_)
    | ((with_reducible refine ix4i ?_ ?_ (fun _ _ _ => ?_)); (· walk_at "z"); (· walk_at "z"))
    | ((with_reducible refine ix2i ?_ ?_ (fun _ _ _ => ?_)); (· walk_at "z"); (· walk_at "z"))
    | ((with_reducible refine ix3i ?_ ?_ (fun _ _ _ => ?_)); (· walk_at "z"); (· walk_at "z"))
    | refine ⟨_, rfl, ?_⟩)
  | ((with_reducible refine fill_st ?_); refine ⟨_, rfl, ?_⟩; (try dsimp only))
  | ((with_reducible apply and_go rfl); (· (intro _; (repeat walk_at "s"); with_reducible exact ⟨rfl, rfl⟩)))
  | ((with_reducible refine is_chain ?_); (apply chain_go rfl); (· (intro _; (repeat walk_at "s"); exact ⟨rfl, rfl⟩)))
  | ((with_reducible refine draw_step (by assumption) ?_ ?_ (fun _ _ _ _ _ => ?_)); (· walk_at "z"); (· walk_at "z"))
  | ((with_reducible refine CLY.draw_step (by assumption) ?_ ?_ (fun _ _ _ _ _ => ?_)); (· walk_at "z"); (· walk_at "z"))
  | ((with_reducible refine is_evA ?_); refine ⟨_, rfl, ?_⟩)
  | ((with_reducible refine is_evL ?_); refine ⟨_, rfl, ?_⟩)
  | ((with_reducible refine is_evI ?_); refine ⟨_, rfl, ?_⟩)
  | ((with_reducible refine is_evR ?_); refine ⟨_, rfl, ?_⟩))
local macro_rules | `(tactic| walk_at "f") => `(tactic| first
  | with_reducible refine W_mV.mpr ?_
  | with_reducible refine W_mCons.mpr ?_
  | with_reducible refine W_m2.mpr ?_
  | with_reducible refine W_mC.mpr ?_
  | with_reducible refine W_mNil.mpr ?_
  | with_reducible refine W_mN.mpr ?_
  | with_reducible refine W_sSeq.mpr ?_
  | with_reducible refine W_sAsg.mpr ?_
  | with_reducible refine W_m1.mpr ?_
  | with_reducible refine W_mCallP.mpr ?_
  | with_reducible refine W_mCall.mpr ?_
  | with_reducible refine X_evI.mpr ?_
  | with_reducible refine X_evE.mpr ?_
  | with_reducible refine X_evN.mpr ?_
  | with_reducible refine X_if ?_
  | with_reducible refine W_sRet.mpr ?_
  | with_reducible refine W_sK.mpr ?_
  | with_reducible refine X_and ?_
  | with_reducible refine X_or ?_
  | with_reducible refine W_sPar.mpr ?_
  | with_reducible refine W_mSl.mpr ?_
  | with_reducible refine W_mPtN.mpr ?_
  | with_reducible refine W_mPtS.mpr ?_
  | with_reducible refine W_mIt.mpr ?_
  | with_reducible refine W_mItN.mpr ?_
  | with_reducible refine W_mComp.mpr ?_
  | ((with_reducible refine is_comp ?_); first | (apply X_compN; (· walk_at "o")) | ((with_reducible apply X_compY); (· walk_at "o"); (· rfl)))
  | with_reducible refine W_sFor.mpr ?_
  | ((with_reducible refine is_for ?_); refine W_forNil.mpr ?_)
  | with_reducible refine X_chain ?_
  | with_reducible refine W_sExp.mpr ?_
  | with_reducible refine W_mL.mpr ?_
  | with_reducible refine X_mif ?_
  | with_reducible refine W_mIxS.mpr ?_
  | with_reducible refine W_mYes.mpr ?_
  | with_reducible refine W_sPar3.mpr ?_
  | with_reducible refine W_mApp.mpr ?_
  | with_reducible refine W_mBor.mpr ?_
  | with_reducible refine CLX.W_sFz.mpr ?_)
local macro_rules | `(tactic| walk_at "s") => `(tactic| first
  | ((with_reducible refine is_W ?_); walk_at "f")
  | ((with_reducible refine is_ex ?_); first
    | ((with_reducible refine is_evS ?_); refine ⟨_, rfl, ?_⟩)
    | ((with_reducible apply call_st); (· with_reducible assumption))
    | with_reducible refine min_ln ?_
    | with_reducible refine max_ln ?_
    | with_reducible refine min_two ?_
    | with_reducible refine max_two ?_
    | with_reducible refine gt_st ?_
    | with_reducible refine le_st ?_
    | with_reducible refine eqn_st ?_
    | with_reducible refine add1_st ?_
    | walk_at "e")
  | ((with_reducible apply X_nx); (· walk_at "o"))
  | with_reducible refine Kq_ret.mpr ?_
  | with_reducible refine Kq_brk.mpr ?_
  | with_reducible refine Kq_cnt.mpr ?_
  | ((with_reducible apply X_fnx); (· walk_at "o"))
  | ((with_reducible apply X_fcnt); (· walk_at "o"))
  | with_reducible refine X_fbrk ?_
  | with_reducible refine X_fret ?_
  | ((with_reducible refine is_ltA ?_); refine ⟨?_, ?_⟩; (· first | decide | omega | (simp; omega) | (simp; done)))
  | with_reducible refine parW_mk.mpr ?_
  | with_reducible refine par3W_mk.mpr ?_)
local macro_rules | `(tactic| walk_at "r") => `(tactic| repeat walk_at "s")
local macro_rules | `(tactic| walk_at "u") => `(tactic| first | ((apply X_forC); (· walk_at "o"); (· rfl)) | ((apply X_compY); (· walk_at "o"); (· rfl)) | ((apply X_compC); (· walk_at "o"); (· rfl)))
end CLX
namespace CL
open PySem L2
theorem X_compFM {α : Type} {g : α → D} {f : α → Bool} {h : α → D} {vs : List Nat} {p : Pt} {c e : M D} {ρ : Sl} : ∀ {xs : List α} {QL : List D → Sl → Prop}, (∀ x ∈ xs, ∃ ρ1, p (g x) ρ = some ρ1 ∧ W c ρ1 (fun y ρ2 => y = .bl (f x) ∧ ρ2 = ρ1) ∧ wipeD ρ1 vs = ρ ∧ (f x = true → W e ρ1 fun d ρ3 => d = h x ∧ wipeD ρ3 vs = ρ)) → QL ((xs.filter f).map h) ρ → W (compL vs p c e (xs.map g)) ρ QL
  | [], QL, _, q => W_compNil.mpr q
  | x :: xs, QL, H, q => by
    obtain ⟨ρ1, e1, hc, hw, he⟩ := H x (by simp)
    refine W_compCons.mpr ⟨ρ1, e1, hc.mono fun y ρ2 ⟨ey, er⟩ => ?_⟩
    subst ey er
    cases hf : f x with
    | true =>
      refine .inl ⟨rfl, (he hf).mono fun d ρ3 ⟨ed, ew⟩ => ?_⟩
      subst ed
      rw [ew]
      exact X_compFM (fun y hy => H y (by simp [hy])) (by simpa [List.filter_cons, hf] using q)
    | false =>
      refine .inr ⟨rfl, ?_⟩
      rw [hw]
      exact X_compFM (fun y hy => H y (by simp [hy])) (by simpa [List.filter_cons, hf] using q)
theorem X_compM {α : Type} {g : α → D} {h : α → D} {vs : List Nat} {p : Pt} {e : M D} {ρ : Sl} : ∀ {xs : List α} {QL : List D → Sl → Prop}, (∀ x ∈ xs, ∃ ρ1, p (g x) ρ = some ρ1 ∧ W e ρ1 fun d ρ3 => d = h x ∧ wipeD ρ3 vs = ρ) → QL (xs.map h) ρ → W (compL vs p mYes e (xs.map g)) ρ QL
  | [], QL, _, q => W_compNil.mpr q
  | x :: xs, QL, H, q => by
    obtain ⟨ρ1, e1, he⟩ := H x (by simp)
    refine W_compCons.mpr ⟨ρ1, e1, W_mYes.mpr (.inl ⟨rfl, he.mono fun d ρ3 ⟨ed, ew⟩ => ?_⟩)⟩
    subst ed
    rw [ew]
    exact X_compM (fun y hy => H y (by simp [hy])) q
end CL
namespace CLG
open Li
def Pn.le (a b : Pn) : Bool := !b.lt a
theorem Pn.le_iff {a b : Pn} : a.le b = true ↔ a.x < b.x ∨ (a.x = b.x ∧ a.y ≤ b.y) := by
  simp only [Pn.le, Bool.not_eq_true', Pn.nlt_iff]
  omega
theorem Pn.le_trans {a b c : Pn} (h1 : a.le b = true) (h2 : b.le c = true) : a.le c = true := by
  rw [Pn.le_iff] at *; omega
theorem Pn.le_total (a b : Pn) : a.le b = true ∨ b.le a = true := by
  rw [Pn.le_iff, Pn.le_iff]; omega
end CLG
namespace CLX
open PySem PySem.Spec L2 CL CLG
open PySem.W (dataLt dataLt_ii alike alikeAll)
local macro_rules | `(tactic| walk_at "o") => `(tactic| ((try simp only [backA, List.set_cons_zero, List.set_cons_succ, wipeD, List.map_cons, List.map_nil, List.cons_append, List.nil_append, List.replicate_succ, List.replicate_zero]); first | done | rfl))
local macro_rules | `(tactic| walk_at "b") => `(tactic| first
  | with_reducible exact Nb.lit
  | ((with_reducible apply Nb.mul) <;> walk_at "b")
  | ((with_reducible apply Nb.add) <;> walk_at "b")
  | ((with_reducible apply Nb.sub) <;> walk_at "b")
  | ((with_reducible apply Nb.neg) <;> walk_at "b")
  | ((with_reducible apply Nb.fdiv) <;> walk_at "b")
  | ((with_reducible apply Nb.fmod); (· walk_at "z"); (· walk_at "b"))
  | ((with_reducible apply Nb.max) <;> walk_at "b")
  | ((with_reducible apply Nb.min) <;> walk_at "b")
  | ((with_reducible apply Nb.ite) <;> walk_at "b")
  | with_reducible assumption
  | with_reducible exact Nb.le (by assumption)
  | with_reducible exact Nb.nle (by assumption)
  | with_reducible exact Nb.lt (by assumption)
  | ((with_reducible apply Nb.rng (by assumption) (by assumption)) <;> walk_at "b")
  | ((with_reducible apply Nb.rngE (by assumption) (by assumption)) <;> walk_at "b")
  | with_reducible exact Nb.self _)
local macro_rules | `(tactic| walk_at "z") => `(tactic| first | decide | assumption | omega | exact fmod_nn (by omega) | exact fmod_lt (by omega))
local macro_rules | `(tactic| walk_at "e") => `(tactic| first
  | ((with_reducible refine is_ev ?_); first
    | ((with_reducible apply mul_st); (· walk_at "b"); (· walk_at "b"); (· rfl))
    | ((with_reducible apply mul_s1); (· walk_at "b"); (· rfl))
    | ((with_reducible apply mul_s2); (· walk_at "b"); (· rfl))
    | ((with_reducible apply div_st); (· walk_at "z"); (· walk_at "b"); (· rfl))
    | ((with_reducible apply mod_st); (· walk_at "z"))
    | with_reducible apply tup_pt
    | with_reducible apply tup_ln
    | ((with_reducible apply tup_st); (· rfl))
    | ((with_reducible apply lst_st); (· rfl))
    | with_reducible apply eqi_st
    | with_reducible apply nei_st
    | with_reducible apply eqp_st
    | with_reducible apply nep_st
    | with_reducible apply eqp_st'
    | with_reducible apply nep_st'
    | with_reducible apply eqb_st
    | with_reducible apply neb_st
    | with_reducible apply isb_st
    | with_reducible apply eqs_st
    | with_reducible apply nes_st
    | with_reducible refine ix2bi (fun _ _ _ => ?_)
    | ((with_reducible refine ix4i ?_ ?_ (fun _ _ _ => ?_)); (· walk_at "z"); (· walk_at "z"))
    | ((with_reducible refine ix2i ?_ ?_ (fun _ _ _ => ?_)); (· walk_at "z"); (· walk_at "z"))
    | ((with_reducible refine ix3i ?_ ?_ (fun _ _ _ => ?_)); (· walk_at "z"); (· walk_at "z"))
    | refine ⟨_, rfl, ?_⟩)
  | ((with_reducible refine fill_st ?_); refine ⟨_, rfl, ?_⟩; (try dsimp only))
  | ((with_reducible apply and_go rfl); (· (intro _; (repeat walk_at "s"); with_reducible exact ⟨rfl, rfl⟩)))
  | ((with_reducible refine is_chain ?_); (apply chain_go rfl); (· (intro _; (repeat walk_at "s"); exact ⟨rfl, rfl⟩)))
  | ((with_reducible refine draw_step (by assumption) ?_ ?_ (fun _ _ _ _ _ => ?_)); (· walk_at "z"); (· walk_at "z"))
  | ((with_reducible refine CLY.draw_step (by assumption) ?_ ?_ (fun _ _ _ _ _ => ?_)); (· walk_at "z"); (· walk_at "z"))
  | ((with_reducible refine is_evA ?_); refine ⟨_, rfl, ?_⟩)
  | ((with_reducible refine is_evL ?_); refine ⟨_, rfl, ?_⟩)
  | ((with_reducible refine is_evI ?_); refine ⟨_, rfl, ?_⟩)
  | ((with_reducible refine is_evR ?_); refine ⟨_, rfl, ?_⟩))
local macro_rules | `(tactic| walk_at "f") => `(tactic| first
  | with_reducible refine W_mV.mpr ?_
  | with_reducible refine W_mCons.mpr ?_
  | with_reducible refine W_m2.mpr ?_
  | with_reducible refine W_mC.mpr ?_
  | with_reducible refine W_mNil.mpr ?_
  | with_reducible refine W_mN.mpr ?_
  | with_reducible refine W_sSeq.mpr ?_
  | with_reducible refine W_sAsg.mpr ?_
  | with_reducible refine W_m1.mpr ?_
  | with_reducible refine W_mCallP.mpr ?_
  | with_reducible refine W_mCall.mpr ?_
  | with_reducible refine X_evI.mpr ?_
  | with_reducible refine X_evE.mpr ?_
  | with_reducible refine X_evN.mpr ?_
  | with_reducible refine X_if ?_
  | with_reducible refine W_sRet.mpr ?_
  | with_reducible refine W_sK.mpr ?_
  | with_reducible refine X_and ?_
  | with_reducible refine X_or ?_
  | with_reducible refine W_sPar.mpr ?_
  | with_reducible refine W_mSl.mpr ?_
  | with_reducible refine W_mPtN.mpr ?_
  | with_reducible refine W_mPtS.mpr ?_
  | with_reducible refine W_mIt.mpr ?_
  | with_reducible refine W_mItN.mpr ?_
  | with_reducible refine W_mComp.mpr ?_
  | ((with_reducible refine is_comp ?_); first | (apply X_compN; (· walk_at "o")) | ((with_reducible apply X_compY); (· walk_at "o"); (· rfl)))
  | with_reducible refine W_sFor.mpr ?_
  | ((with_reducible refine is_for ?_); refine W_forNil.mpr ?_)
  | with_reducible refine X_chain ?_
  | with_reducible refine W_sExp.mpr ?_
  | with_reducible refine W_mL.mpr ?_
  | with_reducible refine X_mif ?_
  | with_reducible refine W_mIxS.mpr ?_
  | with_reducible refine W_mYes.mpr ?_
  | with_reducible refine W_sPar3.mpr ?_
  | with_reducible refine W_mApp.mpr ?_
  | with_reducible refine W_mBor.mpr ?_
  | with_reducible refine CLX.W_sFz.mpr ?_)
local macro_rules | `(tactic| walk_at "s") => `(tactic| first
  | ((with_reducible refine is_W ?_); walk_at "f")
  | ((with_reducible refine is_ex ?_); first
    | ((with_reducible refine is_evS ?_); refine ⟨_, rfl, ?_⟩)
    | ((with_reducible apply call_st); (· with_reducible assumption))
    | with_reducible refine min_ln ?_
    | with_reducible refine max_ln ?_
    | with_reducible refine min_two ?_
    | with_reducible refine max_two ?_
    | with_reducible refine gt_st ?_
    | with_reducible refine le_st ?_
    | with_reducible refine eqn_st ?_
    | with_reducible refine add1_st ?_
    | walk_at "e")
  | ((with_reducible apply X_nx); (· walk_at "o"))
  | with_reducible refine Kq_ret.mpr ?_
  | with_reducible refine Kq_brk.mpr ?_
  | with_reducible refine Kq_cnt.mpr ?_
  | ((with_reducible apply X_fnx); (· walk_at "o"))
  | ((with_reducible apply X_fcnt); (· walk_at "o"))
  | with_reducible refine X_fbrk ?_
  | with_reducible refine X_fret ?_
  | ((with_reducible refine is_ltA ?_); refine ⟨?_, ?_⟩; (· first | decide | omega | (simp; omega) | (simp; done)))
  | with_reducible refine parW_mk.mpr ?_
  | with_reducible refine par3W_mk.mpr ?_)
local macro_rules | `(tactic| walk_at "r") => `(tactic| repeat walk_at "s")
local macro_rules | `(tactic| walk_at "u") => `(tactic| first | ((apply X_forC); (· walk_at "o"); (· rfl)) | ((apply X_compY); (· walk_at "o"); (· rfl)) | ((apply X_compC); (· walk_at "o"); (· rfl)))
end CLX
namespace CLY
open PySem PySem.Spec L2 CL CLG
def B__law_deck : MS := (sSeq (sAsg (pN 1) (mL listOfD (mCons (mSl (mV 0) none (some (mC (.int 63)))) mNil))) (sRet (mN bLst (mCons (m1 bRev (mV 1)) (mCons (m2 bAdd (mN bSum (mCons (mComp [2] (pN 2) (mIt (mV 1)) mYes (m2 bMod (mV 2) (mC (.int 1000003)))) mNil)) (m2 bMul (mC (.int 7919)) (mN bLen (mCons (mV 1) mNil)))) (mCons (mC (.int 0)) mNil))))))
def F__law_deck : List D → Res D := runP 2 B__law_deck
def B__law_draw : MS := (sSeq (sSto 0 1 (m2 bAdd (mIxS 0 1) (mC (.int 1)))) (sSeq (sAsg (pN 2) (mIxS 0 0)) (sSeq (sIf (m2 bNe (mIx0 0) (mN bLst mNil)) (sSeq (sAsg (pN 2) (mPop0 0)) (sIf (m2 bGe (mV 2) (m2 bPow (mC (.int 10)) (mC (.int 18)))) (sSeq (sExp (mApp0 0 (m2 bDiv (mV 2) (mV 1)))) (sRet (m2 bMod (mV 2) (mV 1)))) (sK .nx))) (sK .nx)) (sSeq (sAsg (pN 3) (m2 bMod (m2 bMul (m2 bAdd (m2 bAdd (m2 bMod (mV 2) (mC (.int 2147483629))) (m2 bMul (mC (.int 65537)) (mIxS 0 1))) (mC (.int 5))) (mC (.int 48271))) (mC (.int 2147483647)))) (sSeq (sAsg (pN 3) (m2 bMod (m2 bAdd (m2 bAdd (m2 bMul (mV 3) (mV 3)) (m2 bMul (mC (.int 69621)) (mIxS 0 1))) (mC (.int 11))) (mC (.int 2147483587)))) (sRet (m2 bMod (m2 bDiv (m2 bMod (m2 bAdd (m2 bMul (mV 3) (mV 3)) (m2 bMul (mC (.int 16807)) (mV 3))) (mC (.int 2147483563))) (mC (.int 64))) (mV 1))))))))
def F__law_draw : Fn := runF [.ol (.ol .sh .sh) .sh, .sh] 2 B__law_draw
def B__law_point : MS := (sSeq (sAsg (pN 2) (mCall F__law_draw (.io 0 :: (.e (mC (.int 5)) :: [])))) (sSeq (sPar 3 4 (mCons (mCall F__law_draw (.io 0 :: (.e (m2 bAdd (m2 bMul (mC (.int 4)) (mV 1)) (mC (.int 1))) :: []))) (mCons (mCall F__law_draw (.io 0 :: (.e (m2 bAdd (m2 bMul (mC (.int 4)) (mV 1)) (mC (.int 1))) :: []))) mNil))) (sSeq (sIf (m2 bEq (mV 2) (mC (.int 1))) (sRet (mN bTup (mCons (m2 bDiv (m2 bAdd (m2 bMul (m2 bDiv (m2 bMul (mC (.int 2)) (mV 3)) (mV 1)) (mV 1)) (mC (.int 1))) (mC (.int 2))) (mCons (m2 bDiv (m2 bAdd (m2 bMul (m2 bDiv (m2 bMul (mC (.int 2)) (mV 4)) (mV 1)) (mV 1)) (mC (.int 1))) (mC (.int 2))) mNil)))) (sK .nx)) (sSeq (sIf (m2 bEq (mV 2) (mC (.int 2))) (sRet (mN bTup (mCons (m2 bMul (m2 bDiv (mV 3) (mV 1)) (mV 1)) (mCons (m2 bMul (m2 bDiv (mV 4) (mV 1)) (mV 1)) mNil)))) (sK .nx)) (sSeq (sIf (m2 bEq (mV 2) (mC (.int 3))) (sRet (mN bTup (mCons (m2 bAdd (m2 bMul (m2 bDiv (mV 3) (mV 1)) (mV 1)) (m2 bDiv (mV 1) (mC (.int 2)))) (mCons (mV 4) mNil)))) (sK .nx)) (sRet (mN bTup (mCons (mV 3) (mCons (mV 4) mNil)))))))))
def F__law_point : Fn := runF [.ol (.ol .sh .sh) .sh, .sh] 3 B__law_point
def B__law_unlike : MS := (sSeq (sIf (m2 bEq (mV 0) (mV 1)) (sRet (mN bTup (mCons (mV 0) (mCons (mN bTup (mCons (m2 bAdd (m2 bIx (mV 0) (mC (.int 0))) (mC (.int 1))) (mCons (m2 bIx (mV 0) (mC (.int 1))) mNil))) mNil)))) (sK .nx)) (sRet (mN bTup (mCons (mV 0) (mCons (mV 1) mNil)))))
def F__law_unlike : List D → Res D := runP 0 B__law_unlike
def B__law_beside : MS := (sSeq (sAsg (pN 4) (mCall F__law_draw (.io 0 :: (.e (mC (.int 6)) :: [])))) (sSeq (sPar 5 6 (mCons (m2 bSub (mCall F__law_draw (.io 0 :: (.e (mC (.int 4)) :: []))) (mC (.int 1))) (mCons (m2 bAdd (mC (.int 1)) (mCall F__law_draw (.io 0 :: (.e (mC (.int 2)) :: [])))) mNil))) (sSeq (sAsg (pT 2 (psC (pT 2 (psC (pN 7) (psC (pN 8) psN))) (psC (pT 2 (psC (pN 9) (psC (pN 10) psN))) psN))) (mV 1)) (sSeq (sIf (m2 bEq (mV 4) (mC (.int 0))) (sRet (mCallP F__law_unlike (mCons (mN bTup (mCons (mV 9) (mCons (mV 10) mNil))) (mCons (mV 3) mNil)))) (sK .nx)) (sSeq (sIf (m2 bEq (mV 4) (mC (.int 1))) (sRet (mCallP F__law_unlike (mCons (mV 2) (mCons (mN bTup (mCons (m2 bSub (m2 bAdd (mV 7) (mV 9)) (m2 bIx (mV 2) (mC (.int 0)))) (mCons (m2 bSub (m2 bAdd (mV 8) (mV 10)) (m2 bIx (mV 2) (mC (.int 1)))) mNil))) mNil)))) (sK .nx)) (sSeq (sIf (m2 bEq (mV 4) (mC (.int 2))) (sRet (mN bTuple (mCons (mComp [11] (pN 11) (mIt (mN bTup (mCons (mV 5) (mCons (m2 bAdd (mV 5) (mV 6)) mNil)))) mYes (mN bTup (mCons (m2 bAdd (mV 7) (m2 bMul (mV 11) (m2 bSub (mV 9) (mV 7)))) (mCons (m2 bAdd (mV 8) (m2 bMul (mV 11) (m2 bSub (mV 10) (mV 8)))) mNil)))) mNil))) (sK .nx)) (sSeq (sIf (m2 bEq (mV 4) (mC (.int 3))) (sRet (mN bTup (mCons (mN bTup (mCons (m2 bAdd (mV 7) (mV 5)) (mCons (m2 bSub (m2 bAdd (mV 8) (mV 6)) (mC (.int 2))) mNil))) (mCons (mN bTup (mCons (m2 bAdd (mV 9) (mV 5)) (mCons (m2 bSub (m2 bAdd (mV 10) (mV 6)) (mC (.int 2))) mNil))) mNil)))) (sK .nx)) (sSeq (sIf (m2 bEq (mV 4) (mC (.int 4))) (sRet (mCallP F__law_unlike (mCons (mN bTup (mCons (m2 bDiv (m2 bAdd (mV 7) (mV 9)) (mC (.int 2))) (mCons (m2 bDiv (m2 bAdd (mV 8) (mV 10)) (mC (.int 2))) mNil))) (mCons (mV 3) mNil)))) (sK .nx)) (sRet (mN bTup (mCons (mN bTup (mCons (mV 9) (mCons (mV 10) mNil))) (mCons (mN bTup (mCons (mV 7) (mCons (mV 8) mNil))) mNil))))))))))))
def F__law_beside : Fn := runF [.ol (.ol .sh .sh) .sh, .sh, .sh, .sh] 8 B__law_beside
def B__law_line : MS := (sSeq (sAsg (pN 3) (mCall F__law_draw (.io 0 :: (.e (mC (.int 2)) :: [])))) (sSeq (sPar 4 5 (mCons (mCall F__law_point (.io 0 :: (.e (mV 1) :: []))) (mCons (mCall F__law_point (.io 0 :: (.e (mV 1) :: []))) mNil))) (sSeq (sIf (mOr (m2 bEq (mV 2) (mN bLst mNil)) (m2 bEq (mV 3) (mC (.int 0)))) (sRet (mCallP F__law_unlike (mCons (mV 4) (mCons (mV 5) mNil)))) (sK .nx)) (sSeq (sAsg (pN 6) (m2 bIx (mV 2) (mCall F__law_draw (.io 0 :: (.e (mN bLen (mCons (mV 2) mNil)) :: []))))) (sSeq (sIf (m2 bGt (mN bMax1 (mCons (mComp [7] (pN 7) (mIt (m2 bAdd (m2 bIx (mV 6) (mC (.int 0))) (m2 bIx (mV 6) (mC (.int 1))))) mYes (mN bAbs (mCons (mV 7) mNil))) mNil)) (m2 bMul (mC (.int 20)) (mV 1))) (sRet (mCallP F__law_unlike (mCons (mV 4) (mCons (mV 5) mNil)))) (sK .nx)) (sRet (mCall F__law_beside (.io 0 :: (.e (mV 6) :: (.e (mV 4) :: (.e (mV 5) :: [])))))))))))
def F__law_line : Fn := runF [.ol (.ol .sh .sh) .sh, .sh, .sh] 5 B__law_line
def ty__law_lines : Nat → OT := fun i => if i = 0 then .ol (.ol .sh .sh) .sh else if i = 4 then .ol .sh .sh else if i = 8 then .ol .sh .sh else .sh
theorem _root_.CL.is_ltA {a b : Nat} {P : Prop} (h : a < b ∧ P) : a < b ∧ P := h
local macro_rules | `(tactic| walk_at "o") => `(tactic| ((try simp only [backA, List.set_cons_zero, List.set_cons_succ, wipeD, List.map_cons, List.map_nil, List.cons_append, List.nil_append, List.replicate_succ, List.replicate_zero]); first | done | rfl))
local macro_rules | `(tactic| walk_at "b") => `(tactic| first
  | with_reducible exact Nb.lit
  | ((with_reducible apply Nb.mul) <;> walk_at "b")
  | ((with_reducible apply Nb.add) <;> walk_at "b")
  | ((with_reducible apply Nb.sub) <;> walk_at "b")
  | ((with_reducible apply Nb.neg) <;> walk_at "b")
  | ((with_reducible apply Nb.fdiv) <;> walk_at "b")
  | ((with_reducible apply Nb.fmod); (· walk_at "z"); (· walk_at "b"))
  | ((with_reducible apply Nb.max) <;> walk_at "b")
  | ((with_reducible apply Nb.min) <;> walk_at "b")
  | ((with_reducible apply Nb.ite) <;> walk_at "b")
  | with_reducible assumption
  | with_reducible exact Nb.le (by assumption)
  | with_reducible exact Nb.nle (by assumption)
  | with_reducible exact Nb.lt (by assumption)
  | ((with_reducible apply Nb.rng (by assumption) (by assumption)) <;> walk_at "b")
  | ((with_reducible apply Nb.rngE (by assumption) (by assumption)) <;> walk_at "b")
  | with_reducible exact Nb.self _)
local macro_rules | `(tactic| walk_at "z") => `(tactic| first | decide | assumption | omega | exact fmod_nn (by omega) | exact fmod_lt (by omega))
local macro_rules | `(tactic| walk_at "e") => `(tactic| first
  | ((with_reducible refine is_ev ?_); first
    | ((with_reducible apply mul_st); (· walk_at "b"); (· walk_at "b"); (· rfl))
    | ((with_reducible apply mul_s1); (· walk_at "b"); (· rfl))
    | ((with_reducible apply mul_s2); (· walk_at "b"); (· rfl))
    | ((with_reducible apply div_st); (· walk_at "z"); (· walk_at "b"); (· rfl))
    | ((with_reducible apply mod_st); (· walk_at "z"))
    | with_reducible apply tup_pt
    | with_reducible apply tup_ln
    | ((with_reducible apply tup_st); (· rfl))
    | ((with_reducible apply lst_st); (· rfl))
    | with_reducible apply eqi_st
    | with_reducible apply nei_st
    | with_reducible apply eqp_st
    | with_reducible apply nep_st
    | with_reducible apply eqp_st'
    | with_reducible apply nep_st'
    | with_reducible apply eqb_st
    | with_reducible apply neb_st
    | with_reducible apply isb_st
    | with_reducible apply eqs_st
    | with_reducible apply nes_st
    | with_reducible refine ix2bi (fun _ _ _ => ?_)
    | ((with_reducible refine ix4i ?_ ?_ (fun _ _ _ => ?_)); (· walk_at "z"); (· walk_at "z"))
    | ((with_reducible refine ix2i ?_ ?_ (fun _ _ _ => ?_)); (· walk_at "z"); (· walk_at "z"))
    | ((with_reducible refine ix3i ?_ ?_ (fun _ _ _ => ?_)); (· walk_at "z"); (· walk_at "z"))
    | refine ⟨_, rfl, ?_⟩)
  | ((with_reducible refine fill_st ?_); refine ⟨_, rfl, ?_⟩; (try dsimp only))
  | ((with_reducible apply and_go rfl); (· (intro _; (repeat walk_at "s"); with_reducible exact ⟨rfl, rfl⟩)))
  | ((with_reducible refine is_chain ?_); (apply chain_go rfl); (· (intro _; (repeat walk_at "s"); exact ⟨rfl, rfl⟩)))
  | ((with_reducible refine draw_step (by assumption) ?_ ?_ (fun _ _ _ _ _ => ?_)); (· walk_at "z"); (· walk_at "z"))
  | ((with_reducible refine CLY.draw_step (by assumption) ?_ ?_ (fun _ _ _ _ _ => ?_)); (· walk_at "z"); (· walk_at "z"))
  | ((with_reducible refine is_evA ?_); refine ⟨_, rfl, ?_⟩)
  | ((with_reducible refine is_evL ?_); refine ⟨_, rfl, ?_⟩)
  | ((with_reducible refine is_evI ?_); refine ⟨_, rfl, ?_⟩)
  | ((with_reducible refine is_evR ?_); refine ⟨_, rfl, ?_⟩))
local macro_rules | `(tactic| walk_at "f") => `(tactic| first
  | with_reducible refine W_mV.mpr ?_
  | with_reducible refine W_mCons.mpr ?_
  | with_reducible refine W_m2.mpr ?_
  | with_reducible refine W_mC.mpr ?_
  | with_reducible refine W_mNil.mpr ?_
  | with_reducible refine W_mN.mpr ?_
  | with_reducible refine W_sSeq.mpr ?_
  | with_reducible refine W_sAsg.mpr ?_
  | with_reducible refine W_m1.mpr ?_
  | with_reducible refine W_mCallP.mpr ?_
  | with_reducible refine W_mCall.mpr ?_
  | with_reducible refine X_evI.mpr ?_
  | with_reducible refine X_evE.mpr ?_
  | with_reducible refine X_evN.mpr ?_
  | with_reducible refine X_if ?_
  | with_reducible refine W_sRet.mpr ?_
  | with_reducible refine W_sK.mpr ?_
  | with_reducible refine X_and ?_
  | with_reducible refine X_or ?_
  | with_reducible refine W_sPar.mpr ?_
  | with_reducible refine W_mSl.mpr ?_
  | with_reducible refine W_mPtN.mpr ?_
  | with_reducible refine W_mPtS.mpr ?_
  | with_reducible refine W_mIt.mpr ?_
  | with_reducible refine W_mItN.mpr ?_
  | with_reducible refine W_mComp.mpr ?_
  | ((with_reducible refine is_comp ?_); first | (apply X_compN; (· walk_at "o")) | ((with_reducible apply X_compY); (· walk_at "o"); (· rfl)))
  | with_reducible refine W_sFor.mpr ?_
  | ((with_reducible refine is_for ?_); refine W_forNil.mpr ?_)
  | with_reducible refine X_chain ?_
  | with_reducible refine W_sExp.mpr ?_
  | with_reducible refine W_mL.mpr ?_
  | with_reducible refine X_mif ?_
  | with_reducible refine W_mIxS.mpr ?_
  | with_reducible refine W_mYes.mpr ?_
  | with_reducible refine W_sPar3.mpr ?_
  | with_reducible refine W_mApp.mpr ?_
  | with_reducible refine W_mBor.mpr ?_
  | with_reducible refine CLX.W_sFz.mpr ?_)
local macro_rules | `(tactic| walk_at "s") => `(tactic| first
  | ((with_reducible refine is_W ?_); walk_at "f")
  | ((with_reducible refine is_ex ?_); first
    | ((with_reducible refine is_evS ?_); refine ⟨_, rfl, ?_⟩)
    | ((with_reducible apply call_st); (· with_reducible assumption))
    | walk_at "e")
  | ((with_reducible apply X_nx); (· walk_at "o"))
  | with_reducible refine Kq_ret.mpr ?_
  | with_reducible refine Kq_brk.mpr ?_
  | with_reducible refine Kq_cnt.mpr ?_
  | ((with_reducible apply X_fnx); (· walk_at "o"))
  | ((with_reducible apply X_fcnt); (· walk_at "o"))
  | with_reducible refine X_fbrk ?_
  | with_reducible refine X_fret ?_
  | ((with_reducible refine is_ltA ?_); refine ⟨?_, ?_⟩; (· first | decide | omega | (simp; omega) | (simp; done)))
  | with_reducible refine parW_mk.mpr ?_
  | with_reducible refine par3W_mk.mpr ?_)
local macro_rules | `(tactic| walk_at "r") => `(tactic| repeat walk_at "s")
local macro_rules | `(tactic| walk_at "u") => `(tactic| first | ((apply X_forC); (· walk_at "o"); (· rfl)) | ((apply X_compY); (· walk_at "o"); (· rfl)) | ((apply X_compC); (· walk_at "o"); (· rfl)))
end CLY
namespace CL
open PySem PySem.Spec L2
set_option autoImplicit false
mutual
def D.pyE : D → PyData
  | .non => .none
  | .bl b => .bool b
  | .int i => .int i
  | .str x => .str x
  | .tup l => .tuple (D.pyEL l)
  | .lst l => .list (D.pyEL l)
  | .scr l => .list (l.map .int)
  | .dct ks vs => .dict ((D.pyEL ks).zip (D.pyEL vs))
  | .kdc _ _ => .none
  | .ins _ _ _ => .none
def D.pyEL : List D → List PyData
  | [] => []
  | d :: ds => D.pyE d :: D.pyEL ds
end
/-- ints that are shown -/
def bigE : Nat := 2 ^ 400
mutual
/-- data with dicts, at most so deep -/
def D.okE : Nat → D → Bool
  | _, .non => true
  | _, .bl _ => true
  | _, .int i => decide (i.natAbs < bigE)
  | _, .str _ => true
  | n + 1, .tup l => D.okEL n l
  | n + 1, .lst l => D.okEL n l
  | n + 1, .dct ks vs => D.okEL n ks && D.okEL n vs && decide (ks.length = vs.length)
  | _, _ => false
def D.okEL : Nat → List D → Bool
  | _, [] => true
  | n, d :: ds => D.okE n d && D.okEL n ds
end
mutual
/-- how much there is of it -/
def D.wtE : D → Nat
  | .str x => 1 + (reprText x).length
  | .tup l => 1 + D.wtEL l
  | .lst l => 1 + D.wtEL l
  | .dct ks vs => 1 + D.wtEL ks + D.wtEL vs
  | _ => 1
def D.wtEL : List D → Nat
  | [] => 0
  | d :: ds => D.wtE d + D.wtEL ds
end
theorem pyEL_len : ∀ l : List D, (D.pyEL l).length = l.length
  | [] => rfl
  | d :: ds => by simp [D.pyEL, pyEL_len ds]
/-- the text of repr -/
def D.shownE (d : D) : Str := d.pyE.shown
theorem piled_kv : ∀ (A B : List PyData), piled (PyData.shownKv (A.zip B)) ≤ piled (PyData.shownAll A) + piled (PyData.shownAll B)
  | [], B => by simp [PyData.shownKv, piled]
  | a :: A, [] => by simp [PyData.shownKv, piled]
  | a :: A, b :: B => by
    have h := piled_kv A B
    simp only [List.zip_cons_cons, PyData.shownKv, PyData.shownAll, piled_cons]
    have e : (PyData.shown a ++ ": " ++ PyData.shown b).length = (PyData.shown a).length + 2 + (PyData.shown b).length := by
      rw [slen, slen]
      have : ((": " : String) : Str).length = 2 := rfl
      omega
    rw [e]
    omega
theorem showable_zip : ∀ (A B : List PyData), PyData.showableAll A = true → PyData.showableAll B = true → PyData.showableKv (A.zip B) = true
  | [], B, _, _ => by simp [PyData.showableKv]
  | a :: A, [], _, _ => by simp [PyData.showableKv]
  | a :: A, b :: B, h1, h2 => by
    simp only [PyData.showableAll, Bool.and_eq_true] at h1 h2
    simp only [List.zip_cons_cons, PyData.showableKv, h1.1, h2.1, showable_zip A B h1.2 h2.2, Bool.and_self]
theorem depth_zip : ∀ (A B : List PyData), PyData.depthKv (A.zip B) ≤ max (PyData.depthAll A) (PyData.depthAll B)
  | [], B => by simp [PyData.depthKv]
  | a :: A, [] => by simp [PyData.depthKv]
  | a :: A, b :: B => by
    have h := depth_zip A B
    simp only [List.zip_cons_cons, PyData.depthKv, PyData.depthAll]
    omega
theorem tupleText_le (ts : List Str) : (tupleText ts).length ≤ piled ts + 3 := by
  have e1 : ((if ts.length == 1 then ",)" else ")" : String) : Str).length ≤ 2 := by
    split
    · exact Nat.le_of_eq rfl
    · exact Nat.le_succ_of_le (Nat.le_of_eq rfl)
  have e3 : (("(" : String) : Str).length = 1 := rfl
  unfold tupleText
  rw [slen, slen]
  by_cases hl : ts = []
  · subst hl
    have : (Str.join ", " []).length = 0 := rfl
    omega
  · have e2 := join_length_add _ hl
    omega
theorem listText_le (ts : List Str) : (listText ts).length ≤ piled ts + 3 := by
  have h := textFrom_le ts 0 "["
  have e1 : (("[" : String) : Str).length = 1 := rfl
  have e2 : (("]" : String) : Str).length = 1 := rfl
  have e : (listText ts).length = (textFrom 0 "[" ts).length + 1 := by
    show (textFrom 0 "[" ts ++ "]").length = _
    rw [slen, e2]
  omega
theorem dictText_le (ts : List Str) : (dictText ts).length ≤ piled ts + 3 := by
  have e1 : (("{" : String) : Str).length = 1 := rfl
  have e2 : (("}" : String) : Str).length = 1 := rfl
  unfold dictText
  rw [slen, slen]
  by_cases hl : ts = []
  · subst hl
    have : (Str.join ", " []).length = 0 := rfl
    omega
  · have e2 := join_length_add _ hl
    omega
theorem bigE_R {n : Nat} (h : n < bigE) : n < bigR := Nat.lt_of_lt_of_le h (Nat.pow_le_pow_right (by decide) (by decide))
theorem bigE_text {i : Int} (h : i.natAbs < bigE) : (PySem.Str.ofString (toString i)).length ≤ 151 := by
  rw [PySem.ofString_length]
  exact int_text_length_le10 (k := 150) (by decide) (Nat.lt_trans h (by decide +kernel))
mutual
theorem shownE_le : ∀ (n : Nat) (d : D), D.okE n d = true → d.pyE.showable = true ∧ d.pyE.depth ≤ n ∧ d.pyE.shown.length + 2 ≤ 160 * D.wtE d
  | _, .non, _ => by simp only [D.pyE, PyData.showable, PyData.shown, D.wtE, PyData.depth]; exact ⟨trivial, Nat.zero_le _, by decide⟩
  | _, .bl b, _ => by simp only [D.pyE, PyData.showable, PyData.shown, D.wtE, PyData.depth]; exact ⟨trivial, Nat.zero_le _, by cases b <;> decide⟩
  | _, .int i, h => by
    simp only [D.okE, decide_eq_true_eq] at h
    have e := bigE_text h
    have h := bigR_log (bigE_R h)
    simp only [D.pyE, PyData.showable, PyData.shown, D.wtE, PyData.depth]
    exact ⟨decide_eq_true h, Nat.zero_le _, by omega⟩
  | _, .str x, _ => by simp only [D.pyE, PyData.showable, PyData.shown, D.wtE, PyData.depth]; exact ⟨trivial, Nat.zero_le _, by omega⟩
  | n + 1, .tup l, o => by
    simp only [D.okE] at o
    obtain ⟨a, b, c⟩ := shownEL_le n l o
    simp only [D.pyE, PyData.showable, PyData.shown, D.wtE, PyData.depth]
    have := tupleText_le (PyData.shownAll (D.pyEL l))
    exact ⟨a, by omega, by omega⟩
  | n + 1, .lst l, o => by
    simp only [D.okE] at o
    obtain ⟨a, b, c⟩ := shownEL_le n l o
    simp only [D.pyE, PyData.showable, PyData.shown, D.wtE, PyData.depth]
    have := listText_le (PyData.shownAll (D.pyEL l))
    exact ⟨a, by omega, by omega⟩
  | n + 1, .dct ks vs, o => by
    simp only [D.okE, Bool.and_eq_true] at o
    obtain ⟨a, b, c⟩ := shownEL_le n ks o.1.1
    obtain ⟨a', b', c'⟩ := shownEL_le n vs o.1.2
    simp only [D.pyE, PyData.showable, PyData.shown, D.wtE, PyData.depth]
    have h1 := dictText_le (PyData.shownKv ((D.pyEL ks).zip (D.pyEL vs)))
    have h2 := piled_kv (D.pyEL ks) (D.pyEL vs)
    have h3 := depth_zip (D.pyEL ks) (D.pyEL vs)
    exact ⟨showable_zip _ _ a a', by omega, by omega⟩
  | 0, .tup l, o => by simp [D.okE] at o
  | 0, .lst l, o => by simp [D.okE] at o
  | 0, .dct _ _, o => by simp [D.okE] at o
  | _, .kdc _ _, o => by simp [D.okE] at o
  | _, .ins _ _ _, o => by simp [D.okE] at o
  | _, .scr _, o => by simp [D.okE] at o
theorem shownEL_le : ∀ (n : Nat) (l : List D), D.okEL n l = true → PyData.showableAll (D.pyEL l) = true ∧ PyData.depthAll (D.pyEL l) ≤ n ∧ piled (PyData.shownAll (D.pyEL l)) ≤ 160 * D.wtEL l
  | _, [], _ => by simp only [D.pyEL, PyData.showableAll, PyData.shownAll, D.wtEL, PyData.depthAll]; exact ⟨trivial, Nat.zero_le _, by simp [piled]⟩
  | n, d :: ds, o => by
    simp only [D.okEL, Bool.and_eq_true] at o
    obtain ⟨a, b, c⟩ := shownE_le n d o.1
    obtain ⟨a', b', c'⟩ := shownEL_le n ds o.2
    simp only [D.pyEL, PyData.showableAll, PyData.shownAll, D.wtEL, PyData.depthAll, a, a', Bool.and_self, piled_cons]
    exact ⟨trivial, by omega, by omega⟩
end
mutual
/-- data on the heap, each dict in it apart from the table of modules -/
inductive RdE (h : Heap) : Value → PyData → Prop
  | none : RdE h .none .none
  | bool (b) : RdE h (.bool b) (.bool b)
  | int (i t) : RdE h (.int i t) (.int i)
  | str (x t) : RdE h (.str x t) (.str x)
  | list {a o vs n xs} : h.get? a = some o → o.cls = .type "list" → o.data = .seq vs n → RdEL h vs.toList xs → RdE h (.ref a) (.list xs)
  | tuple {a o vs n xs} : h.get? a = some o → o.cls = .type "tuple" → o.data = .seq vs n → RdEL h vs.toList xs → RdE h (.ref a) (.tuple xs)
  | dict {a o es n kvs} : h.get? a = some o → o.cls = .type "dict" → o.data = .dict es n → (a == sysModules) = false → RdEL h (es.toList.map (·.key)) (kvs.map (·.1)) → RdEL h (es.toList.map (·.val)) (kvs.map (·.2)) → RdE h (.ref a) (.dict kvs)
inductive RdEL (h : Heap) : List Value → List PyData → Prop
  | nil : RdEL h [] []
  | cons {v vs d ds} : RdE h v d → RdEL h vs ds → RdEL h (v :: vs) (d :: ds)
end
mutual
theorem RdE.rd {h : Heap} : ∀ {v : Value} {d : PyData}, RdE h v d → ∃ as, Reads h v d as
  | _, _, .none => ⟨_, .none⟩
  | _, _, .bool b => ⟨_, .bool b⟩
  | _, _, .int i t => ⟨_, .int i t⟩
  | _, _, .str x t => ⟨_, .str x t⟩
  | _, _, .list h1 h2 h3 h4 => let ⟨_, r⟩ := RdEL.rd h4; ⟨_, .list h1 h2 h3 r⟩
  | _, _, .tuple h1 h2 h3 h4 => let ⟨_, r⟩ := RdEL.rd h4; ⟨_, .tuple h1 h2 h3 r⟩
  | _, _, .dict h1 h2 h3 _ h4 h5 => let ⟨_, r⟩ := RdEL.rd h4; let ⟨_, r'⟩ := RdEL.rd h5; ⟨_, .dict h1 h2 h3 r r'⟩
theorem RdEL.rd {h : Heap} : ∀ {v : List Value} {d : List PyData}, RdEL h v d → ∃ as, ReadsAll h v d as
  | _, _, .nil => ⟨_, .nil⟩
  | _, _, .cons a b => let ⟨_, r⟩ := RdE.rd a; let ⟨_, r'⟩ := RdEL.rd b; ⟨_, .cons r r'⟩
end
section
variable {prog : Program} {w : World} {h : Heap}
mutual
theorem RdE.k : ∀ {v : Value} {d : PyData}, RdE h v d → d.showable = true → d.shown.length ≤ sizeLine → ∃ bs, ReadAtMost h d.depth bs ∧ ReprK prog w bs h d.depth v d.shown
  | _, _, .none, _, _ => ⟨[], nofun, by simp only [PyData.shown]; exact .of_is ReprIs.none _ _ _⟩
  | _, _, .bool b, _, _ => ⟨[], nofun, by simp only [PyData.shown]; exact .of_is (ReprIs.bool b) _ _ _⟩
  | _, _, .int i t, hs, _ => ⟨[], nofun, by simp only [PyData.shown]; exact .of_is (ReprIs.int t (by simpa [PyData.showable] using hs)) _ _ _⟩
  | _, _, .str x t, _, z => ⟨[], nofun, by simp only [PyData.shown]; exact .of_is (ReprIs.str x t (by simpa only [PyData.shown] using z)) _ _ _⟩
  | _, _, .list (a := a) (vs := vs) (xs := xs) h1 h2 h3 h4, hs, z => by
    simp only [PyData.shown] at z
    obtain ⟨_, rx⟩ := RdEL.rd h4
    obtain ⟨bs, hb, hk⟩ := RdEL.k h4 (by simpa [PyData.showable] using hs) (fun t ht => Nat.le_trans (listText_mem_le ht) z)
    have rr : Reads h (.ref a) (.list xs) _ := .list h1 h2 h3 rx
    have na : a ∉ bs := not_mem_of_deeper rr (by simp only [PyData.depth]; omega) hb
    refine ⟨a :: bs, .cons rr (by simp only [PyData.depth]; omega) hb, ?_⟩
    simp only [PyData.depth, PyData.shown]
    obtain ⟨l⟩ := vs
    cases l with
    | nil =>
      have h5 : RdEL h [] xs := h4
      cases h5
      simp only [PyData.shownAll, listText_nil]
      exact .listEmpty h1 h2 h3
    | cons x l => exact .list h1 h2 h3 na (by simpa using hk.length_eq) (fun i y e => hk.item i y (by simpa using e))
  | _, _, .tuple (a := a) (xs := xs) h1 h2 h3 h4, hs, z => by
    simp only [PyData.shown] at z
    obtain ⟨_, rx⟩ := RdEL.rd h4
    obtain ⟨bs, hb, hk⟩ := RdEL.k h4 (by simpa [PyData.showable] using hs) (fun t ht => Nat.le_trans (tupleText_mem_le ht) z)
    have rr : Reads h (.ref a) (.tuple xs) _ := .tuple h1 h2 h3 rx
    have na : a ∉ bs := not_mem_of_deeper rr (by simp only [PyData.depth]; omega) hb
    refine ⟨a :: bs, .cons rr (by simp only [PyData.depth]; omega) hb, ?_⟩
    simp only [PyData.depth, PyData.shown]
    exact .tuple h1 h2 h3 na hk
  | _, _, .dict (a := a) (es := es) (kvs := kvs) h1 h2 h3 hy h4 h5, hs, z => by
    simp only [PyData.shown] at z
    obtain ⟨_, rx⟩ := RdEL.rd h4
    obtain ⟨_, ry⟩ := RdEL.rd h5
    obtain ⟨s1, s2⟩ := PyData.showableKv_split kvs (by simpa [PyData.showable] using hs)
    obtain ⟨b1, p1, k1⟩ := RdEL.k h4 s1 (fun t ht => let ⟨p, hp, hl⟩ := PyData.shownKv_key_le kvs t ht; Nat.le_trans hl (Nat.le_trans (dictText_mem_le hp) z))
    obtain ⟨b2, p2, k2⟩ := RdEL.k h5 s2 (fun t ht => let ⟨p, hp, hl⟩ := PyData.shownKv_val_le kvs t ht; Nat.le_trans hl (Nat.le_trans (dictText_mem_le hp) z))
    have rr : Reads h (.ref a) (.dict kvs) _ := .dict h1 h2 h3 rx ry
    have hb : ReadAtMost h (PyData.depthKv kvs) (b1 ++ b2) := (p1.mono (PyData.depthAll_keys_le kvs)).append (p2.mono (PyData.depthAll_vals_le kvs))
    have na : a ∉ b1 ++ b2 := not_mem_of_deeper rr (by simp only [PyData.depth]; omega) hb
    refine ⟨a :: (b1 ++ b2), .cons rr (by simp only [PyData.depth]; omega) hb, ?_⟩
    simp only [PyData.depth, PyData.shown, PyData.shownKv_eq]
    exact .dict h1 h2 h3 hy na (.of_two es.toList _ _ (k1.more_le (fun b m => List.mem_append_left _ m) (PyData.depthAll_keys_le kvs)) (k2.more_le (fun b m => List.mem_append_right _ m) (PyData.depthAll_vals_le kvs)))
theorem RdEL.k : ∀ {vs : List Value} {ds : List PyData}, RdEL h vs ds → PyData.showableAll ds = true → (∀ t ∈ PyData.shownAll ds, t.length ≤ sizeLine) → ∃ bs, ReadAtMost h (PyData.depthAll ds) bs ∧ ReprAllK prog w bs h (PyData.depthAll ds) vs (PyData.shownAll ds)
  | _, _, .nil, _, _ => ⟨[], nofun, by simp only [PyData.shownAll]; exact .nil⟩
  | _, _, .cons (d := d) (ds := ds) r rs, hs, z => by
    simp only [PyData.showableAll, Bool.and_eq_true] at hs
    simp only [PyData.shownAll, List.forall_mem_cons] at z
    obtain ⟨b1, p1, k1⟩ := RdE.k r hs.1 z.1
    obtain ⟨b2, p2, k2⟩ := RdEL.k rs hs.2 z.2
    simp only [PyData.depthAll, PyData.shownAll]
    refine ⟨b1 ++ b2, (p1.mono (Nat.le_max_left _ _)).append (p2.mono (Nat.le_max_right _ _)), ?_⟩
    exact .cons ((k1.more fun b m => List.mem_append_left _ m).level_le (Nat.le_max_left _ _)) (k2.more_le (fun b m => List.mem_append_right _ m) (Nat.le_max_right _ _))
end
theorem RdE.shows {a : Addr} {d : PyData} (r : RdE h (.ref a) d) (hs : d.showable = true) (z : d.shown.length ≤ sizeLine) : ∃ T idr, ShowsBy prog w h a d T idr := by
  cases r with
  | list h1 h2 h3 h4 =>
    rename_i o vs n xs
    simp only [PyData.shown] at z
    obtain ⟨_, rx⟩ := RdEL.rd h4
    obtain ⟨bs, hb, hk⟩ := RdEL.k (prog := prog) (w := w) h4 (by simpa [PyData.showable] using hs) (fun t ht => Nat.le_trans (listText_mem_le ht) z)
    have na : a ∉ bs := not_mem_of_deeper (.list h1 h2 h3 rx) (by simp only [PyData.depth]; omega) hb
    refine ⟨"list", "list.__repr__", F.slot_list_repr.toG, F.slot_list_str, F.slot_list_format, fun s k0 => ⟨o, k0 _ _ h1, h2⟩, fun A E s Q hg hu k0 hQ => ?_⟩
    simp only [PyData.depth] at hu
    simp only [PyData.shown] at hQ
    obtain ⟨l⟩ := vs
    cases l with
    | nil =>
      have h5 : RdEL h [] xs := h4
      cases h5
      simp only [PyData.shownAll, listText_nil] at hQ
      exact call_list_repr_empty ⟨o, k0 _ _ h1, h2⟩ (k0 _ _ h1) h3 (hQ s.heap _ _ fun _ _ e => e)
    | cons x l => exact call_list_reprK h1 h2 h3 na (by simpa using hk.length_eq) (fun i y e => hk.item i y (by simpa using e)) hg (fun b _ => .nil b) hu k0 hQ z
  | tuple h1 h2 h3 h4 =>
    rename_i o vs n xs
    simp only [PyData.shown] at z
    obtain ⟨_, rx⟩ := RdEL.rd h4
    obtain ⟨bs, hb, hk⟩ := RdEL.k (prog := prog) (w := w) h4 (by simpa [PyData.showable] using hs) (fun t ht => Nat.le_trans (tupleText_mem_le ht) z)
    have na : a ∉ bs := not_mem_of_deeper (.tuple h1 h2 h3 rx) (by simp only [PyData.depth]; omega) hb
    refine ⟨"tuple", "tuple.__repr__", F.slot_tuple_repr, F.slot_tuple_str, F.slot_tuple_format, fun s k0 => ⟨o, k0 _ _ h1, h2⟩, fun A E s Q hg hu k0 hQ => ?_⟩
    simp only [PyData.depth] at hu
    simp only [PyData.shown] at hQ
    exact call_tuple_reprK h1 h2 h3 na hk hg (fun b _ => .nil b) hu k0 hQ z
  | dict h1 h2 h3 hy h4 h5 =>
    rename_i o es n kvs
    simp only [PyData.shown] at z
    obtain ⟨_, rx⟩ := RdEL.rd h4
    obtain ⟨_, ry⟩ := RdEL.rd h5
    obtain ⟨s1, s2⟩ := PyData.showableKv_split kvs (by simpa [PyData.showable] using hs)
    obtain ⟨b1, p1, k1⟩ := RdEL.k (prog := prog) (w := w) h4 s1 (fun t ht => let ⟨p, hp, hl⟩ := PyData.shownKv_key_le kvs t ht; Nat.le_trans hl (Nat.le_trans (dictText_mem_le hp) z))
    obtain ⟨b2, p2, k2⟩ := RdEL.k (prog := prog) (w := w) h5 s2 (fun t ht => let ⟨p, hp, hl⟩ := PyData.shownKv_val_le kvs t ht; Nat.le_trans hl (Nat.le_trans (dictText_mem_le hp) z))
    have hb : ReadAtMost h (PyData.depthKv kvs) (b1 ++ b2) := (p1.mono (PyData.depthAll_keys_le kvs)).append (p2.mono (PyData.depthAll_vals_le kvs))
    have na : a ∉ b1 ++ b2 := not_mem_of_deeper (.dict h1 h2 h3 rx ry) (by simp only [PyData.depth]; omega) hb
    refine ⟨"dict", "dict.__repr__", F.slot_dict_repr, F.slot_dict_str, F.slot_dict_format, fun s k0 => ⟨o, k0 _ _ h1, h2⟩, fun A E s Q hg hu k0 hQ => ?_⟩
    simp only [PyData.depth] at hu
    simp only [PyData.shown, PyData.shownKv_eq] at hQ
    exact call_dict_reprK h1 h2 h3 hy na (.of_two es.toList _ _ (k1.more_le (fun b m => List.mem_append_left _ m) (PyData.depthAll_keys_le kvs)) (k2.more_le (fun b m => List.mem_append_right _ m) (PyData.depthAll_vals_le kvs))) hg (fun b _ => .nil b) hu k0 hQ (by rw [← PyData.shownKv_eq]; exact z)
theorem RdE.repr {A : Around} {E : Value → Shared → Prop} {s : Shared} {Q : Value → Shared → Prop} {a : Addr} {d : PyData} (r : RdE s.heap (.ref a) d) (hs : d.showable = true) (z : d.shown.length ≤ sizeLine) (hg : A.guards = some []) (hu : A.units + (d.depth + 1) < cLine)
    (hQ : ∀ h' u tk, (∀ b o, s.heap.get? b = some o → h'.get? b = some o) → Q (.str d.shown u) { s with heap := h', toks := tk }) : wpAny (model prog w) A (call (.builtin "repr") [.ref a]) Q E s := by
  obtain ⟨T, idr, S⟩ := RdE.shows (prog := prog) (w := w) r hs z
  exact call_repr_slot (by omega) (S.typeIs s fun _ _ e => e) S.slotRepr (S.call A.in1 E s _ hg (by show A.units + 1 + d.depth < cLine; omega) (fun _ _ e => e) fun h' u tk hk => ⟨_, _, rfl, hQ h' u tk hk⟩)
end
theorem dk_vals [Tb] {P : Program} {w : World} : ∀ {kvs : List (Key × V)} {vs : List (Key × Value)} {es : List DictEntry}, KV kvs vs → Pairs (mixKind P w) es vs → Vals (kvs.map fun p => kV p.1) (es.map (·.key)) ∧ Vals (kvs.map (·.2)) (es.map (·.val))
  | _, _, _, .nil, .nil => ⟨.nil, .nil⟩
  | _, _, _, .cons ⟨h1, h2⟩ t, .cons (e := e) k v r => by
    obtain ⟨a, b⟩ := dk_vals t r
    refine ⟨.cons ?_ a, .cons (by show RelV _ e.val; rw [v]; exact h2) b⟩
    show RelV (kV _) e.key
    rw [h1]
    rcases keyIs_shape k with ⟨i, t, e1, e2⟩ | ⟨x, t, e1, e2⟩
    · rw [e1, e2]; exact ⟨t, rfl⟩
    · rw [e1, e2]; exact ⟨t, rfl⟩
section
variable [Tb] {X : Cx} {pins : List (Addr × Obj)} {σ : St} {H : Hp} {s : Shared} {Z : Addr → Prop}
mutual
theorem RSh.rdE (I : Inv X pins σ H s) : ∀ (n : Nat) (d : D) (v : V) (u : Value), D.okE n d = true → RSh X.K Z H d v → RelV v u → RdE s.heap u d.pyE
  | _, .non, v, u, _, h, r => by
    simp only [RSh] at h; subst h; cases r; simp only [D.pyE]; exact .none
  | _, .bl b, v, u, _, h, r => by
    simp only [RSh] at h; subst h; cases r; simp only [D.pyE]; exact .bool b
  | _, .int i, v, u, _, h, r => by
    simp only [RSh] at h; subst h; obtain ⟨t, rfl⟩ := r; simp only [D.pyE]; exact .int i t
  | _, .str x, v, u, _, h, r => by
    simp only [RSh] at h; subst h; obtain ⟨t, rfl⟩ := r; simp only [D.pyE]; exact .str x t
  | n + 1, .tup l, v, u, o, h, r => by
    simp only [D.okE] at o
    simp only [RSh] at h
    obtain ⟨a, xs, rfl, hs, hl⟩ := h
    cases r
    simp only [D.pyE]
    obtain ⟨its, rv, ⟨ob, ho, hc, n, hd⟩, _⟩ := I.tuple hs
    exact .tuple ho hc hd (RShL.rdE I _ l xs its o hl rv)
  | n + 1, .lst l, v, u, o, h, r => by
    simp only [D.okE] at o
    simp only [RSh] at h
    obtain ⟨a, xs, rfl, z, hs, hl⟩ := h
    cases r
    simp only [D.pyE]
    obtain ⟨its, rv, ⟨ob, n, ho, hc, _, hd⟩, _⟩ := I.list (SqL.of hs)
    exact .list ho hc hd (RShL.rdE I _ l xs its o hl rv)
  | n + 1, .dct ks vs, v, u, o, h, r => by
    simp only [D.okE, Bool.and_eq_true, decide_eq_true_eq] at o
    simp only [RSh] at h
    obtain ⟨a, kvs, rfl, z, hs, hk, hv⟩ := h
    cases r
    simp only [D.pyE]
    obtain ⟨_, hsys, vs', kv, ob, es, ep, e1, ex, e2, _, pr, _⟩ := (show ObjOk X.prog X.w H s.heap a (.dK kvs) from I.hok a _ hs)
    obtain ⟨v1, v2⟩ := dk_vals kv pr
    have h1 := RShL.rdE I _ ks _ _ o.1.1 hk v1
    have h2 := RShL.rdE I _ vs _ _ o.1.2 hv v2
    have el : (D.pyEL ks).length = (D.pyEL vs).length := by rw [pyEL_len, pyEL_len]; exact o.2
    exact .dict (kvs := (D.pyEL ks).zip (D.pyEL vs)) e1 ex.1 e2 hsys (by rw [List.map_fst_zip (by omega)]; exact h1) (by rw [List.map_snd_zip (by omega)]; exact h2)
  | 0, .tup l, _, _, o, _, _ => by simp [D.okE] at o
  | 0, .lst l, _, _, o, _, _ => by simp [D.okE] at o
  | 0, .dct _ _, _, _, o, _, _ => by simp [D.okE] at o
  | _, .kdc _ _, _, _, o, _, _ => by simp [D.okE] at o
  | _, .ins _ _ _, _, _, o, _, _ => by simp [D.okE] at o
  | _, .scr _, _, _, o, _, _ => by simp [D.okE] at o
theorem RShL.rdE (I : Inv X pins σ H s) : ∀ (n : Nat) (l : List D) (vs : List V) (us : List Value), D.okEL n l = true → RShL X.K Z H l vs → Vals vs us → RdEL s.heap us (D.pyEL l)
  | _, [], vs, us, _, h, r => by
    simp only [RShL] at h; subst h; cases r; simp only [D.pyEL]; exact .nil
  | n, d :: ds, vs, us, o, h, r => by
    simp only [D.okEL, Bool.and_eq_true] at o
    simp only [RShL] at h
    obtain ⟨w, ws, rfl, h1, h2⟩ := h
    cases r with
    | cons r1 r2 =>
      simp only [D.pyEL]
      exact .cons (RSh.rdE I n d w _ o.1 h1 r1) (RShL.rdE I n ds ws _ o.2 h2 r2)
end
end
theorem Pk0.rdE [Tb] {X : Cx} {pins : List (Addr × Obj)} {σ : St} {H : Hp} {s : Shared} {Z : Addr → Prop} (I : Inv X pins σ H s) {n : Nat} {d : D} {v : V} {u : Value} (o : D.okE n d = true) (h : Pk0 X.K Z H d v) (r : RelV v u) : RdE s.heap u d.pyE := by
  rcases h with h | ⟨l, a, xs, rfl, rfl, hs, hl⟩
  · exact RSh.rdE I n d v u o h r
  · cases n with
    | zero => simp [D.okE] at o
    | succ n =>
      simp only [D.okE] at o
      cases r
      simp only [D.pyE]
      obtain ⟨its, rv, ⟨ob, n, ho, hc, _, hd⟩, _⟩ := I.list (SqL.of hs)
      exact .list ho hc hd (RShL.rdE I _ l xs its o hl rv)
section
variable [Tb] {X : Cx}
end
end CL
namespace CL
open PySem PySem.Spec L2
set_option autoImplicit false
local macro_rules | `(tactic| walk_at "o") => `(tactic| ((try simp only [backA, List.set_cons_zero, List.set_cons_succ, wipeD, List.map_cons, List.map_nil, List.cons_append, List.nil_append, List.replicate_succ, List.replicate_zero]); first | done | rfl))
local macro_rules | `(tactic| walk_at "b") => `(tactic| first
  | with_reducible exact Nb.lit
  | ((with_reducible apply Nb.mul) <;> walk_at "b")
  | ((with_reducible apply Nb.add) <;> walk_at "b")
  | ((with_reducible apply Nb.sub) <;> walk_at "b")
  | ((with_reducible apply Nb.neg) <;> walk_at "b")
  | ((with_reducible apply Nb.fdiv) <;> walk_at "b")
  | ((with_reducible apply Nb.fmod); (· walk_at "z"); (· walk_at "b"))
  | ((with_reducible apply Nb.max) <;> walk_at "b")
  | ((with_reducible apply Nb.min) <;> walk_at "b")
  | ((with_reducible apply Nb.ite) <;> walk_at "b")
  | with_reducible assumption
  | with_reducible exact Nb.le (by assumption)
  | with_reducible exact Nb.nle (by assumption)
  | with_reducible exact Nb.lt (by assumption)
  | ((with_reducible apply Nb.rng (by assumption) (by assumption)) <;> walk_at "b")
  | ((with_reducible apply Nb.rngE (by assumption) (by assumption)) <;> walk_at "b")
  | with_reducible exact Nb.self _)
local macro_rules | `(tactic| walk_at "z") => `(tactic| first | decide | assumption | omega | exact fmod_nn (by omega) | exact fmod_lt (by omega))
local macro_rules | `(tactic| walk_at "e") => `(tactic| first
  | ((with_reducible refine is_ev ?_); first
    | ((with_reducible apply mul_st); (· walk_at "b"); (· walk_at "b"); (· rfl))
    | ((with_reducible apply mul_s1); (· walk_at "b"); (· rfl))
    | ((with_reducible apply mul_s2); (· walk_at "b"); (· rfl))
    | ((with_reducible apply div_st); (· walk_at "z"); (· walk_at "b"); (· rfl))
    | ((with_reducible apply mod_st); (· walk_at "z"))
    | with_reducible apply tup_pt
    | with_reducible apply tup_ln
    | ((with_reducible apply tup_st); (· rfl))
    | ((with_reducible apply lst_st); (· rfl))
    | with_reducible apply eqi_st
    | with_reducible apply nei_st
    | with_reducible apply eqp_st
    | with_reducible apply nep_st
    | with_reducible apply eqp_st'
    | with_reducible apply nep_st'
    | with_reducible apply eqb_st
    | with_reducible apply neb_st
    | with_reducible apply isb_st
    | with_reducible apply eqs_st
    | with_reducible apply nes_st
    | with_reducible refine ix2bi (fun _ _ _ => ?_)
    | ((with_reducible refine ix4i ?_ ?_ (fun _ _ _ => ?_)); (· walk_at "z"); (· walk_at "z"))
    | ((with_reducible refine ix2i ?_ ?_ (fun _ _ _ => ?_)); (· walk_at "z"); (· walk_at "z"))
    | ((with_reducible refine ix3i ?_ ?_ (fun _ _ _ => ?_)); (· walk_at "z"); (· walk_at "z"))
    | refine ⟨_, rfl, ?_⟩)
  | ((with_reducible refine fill_st ?_); refine ⟨_, rfl, ?_⟩; (try dsimp only))
  | ((with_reducible apply and_go rfl); (· (intro _; (repeat walk_at "s"); with_reducible exact ⟨rfl, rfl⟩)))
  | ((with_reducible refine is_chain ?_); (apply chain_go rfl); (· (intro _; (repeat walk_at "s"); exact ⟨rfl, rfl⟩)))
  | ((with_reducible refine draw_step (by assumption) ?_ ?_ (fun _ _ _ _ _ => ?_)); (· walk_at "z"); (· walk_at "z"))
  | ((with_reducible refine CLY.draw_step (by assumption) ?_ ?_ (fun _ _ _ _ _ => ?_)); (· walk_at "z"); (· walk_at "z"))
  | ((with_reducible refine is_evA ?_); refine ⟨_, rfl, ?_⟩)
  | ((with_reducible refine is_evL ?_); refine ⟨_, rfl, ?_⟩)
  | ((with_reducible refine is_evI ?_); refine ⟨_, rfl, ?_⟩)
  | ((with_reducible refine is_evR ?_); refine ⟨_, rfl, ?_⟩))
local macro_rules | `(tactic| walk_at "f") => `(tactic| first
  | with_reducible refine W_mV.mpr ?_
  | with_reducible refine W_mCons.mpr ?_
  | with_reducible refine W_m2.mpr ?_
  | with_reducible refine W_mC.mpr ?_
  | with_reducible refine W_mNil.mpr ?_
  | with_reducible refine W_mN.mpr ?_
  | with_reducible refine W_sSeq.mpr ?_
  | with_reducible refine W_sAsg.mpr ?_
  | with_reducible refine W_m1.mpr ?_
  | with_reducible refine W_mCallP.mpr ?_
  | with_reducible refine W_mCall.mpr ?_
  | with_reducible refine X_evI.mpr ?_
  | with_reducible refine X_evE.mpr ?_
  | with_reducible refine X_evN.mpr ?_
  | with_reducible refine X_if ?_
  | with_reducible refine W_sRet.mpr ?_
  | with_reducible refine W_sK.mpr ?_
  | with_reducible refine X_and ?_
  | with_reducible refine X_or ?_
  | with_reducible refine W_sPar.mpr ?_
  | with_reducible refine W_mSl.mpr ?_
  | with_reducible refine W_mPtN.mpr ?_
  | with_reducible refine W_mPtS.mpr ?_
  | with_reducible refine W_mIt.mpr ?_
  | with_reducible refine W_mItN.mpr ?_
  | with_reducible refine W_mComp.mpr ?_
  | ((with_reducible refine is_comp ?_); first | (apply X_compN; (· walk_at "o")) | ((with_reducible apply X_compY); (· walk_at "o"); (· rfl)))
  | with_reducible refine W_sFor.mpr ?_
  | ((with_reducible refine is_for ?_); refine W_forNil.mpr ?_)
  | with_reducible refine X_chain ?_
  | with_reducible refine W_sExp.mpr ?_
  | with_reducible refine W_mL.mpr ?_
  | with_reducible refine X_mif ?_
  | with_reducible refine W_mIxS.mpr ?_
  | with_reducible refine W_mYes.mpr ?_
  | with_reducible refine W_sPar3.mpr ?_
  | with_reducible refine W_mApp.mpr ?_
  | with_reducible refine W_mBor.mpr ?_
  | with_reducible refine CLX.W_sFz.mpr ?_)
local macro_rules | `(tactic| walk_at "s") => `(tactic| first
  | ((with_reducible refine is_W ?_); walk_at "f")
  | ((with_reducible refine is_ex ?_); first
    | ((with_reducible refine is_evS ?_); refine ⟨_, rfl, ?_⟩)
    | ((with_reducible apply call_st); (· with_reducible assumption))
    | walk_at "e")
  | ((with_reducible apply X_nx); (· walk_at "o"))
  | with_reducible refine Kq_ret.mpr ?_
  | with_reducible refine Kq_brk.mpr ?_
  | with_reducible refine Kq_cnt.mpr ?_
  | ((with_reducible apply X_fnx); (· walk_at "o"))
  | ((with_reducible apply X_fcnt); (· walk_at "o"))
  | with_reducible refine X_fbrk ?_
  | with_reducible refine X_fret ?_
  | ((with_reducible refine is_ltA ?_); refine ⟨?_, ?_⟩; (· first | decide | omega | (simp; omega) | (simp; done)))
  | with_reducible refine parW_mk.mpr ?_
  | with_reducible refine par3W_mk.mpr ?_)
local macro_rules | `(tactic| walk_at "r") => `(tactic| repeat walk_at "s")
local macro_rules | `(tactic| walk_at "u") => `(tactic| first | ((apply X_forC); (· walk_at "o"); (· rfl)) | ((apply X_compY); (· walk_at "o"); (· rfl)) | ((apply X_compC); (· walk_at "o"); (· rfl)))
local macro_rules | `(tactic| walk_at "g") => `(tactic| repeat first | walk_at "s" | (with_reducible refine go_ifF (rfl : _ = false) ?_) | (with_reducible refine go_ifT (rfl : _ = true) ?_) | (refine go_ifF (rfl : _ = false) ?_) | (refine go_ifT (rfl : _ = true) ?_) | walk_at "u")
mutual
/-- data: ints below 2 ^ b, at most so deep, texts not long -/
def D.gd (b : Nat) : Nat → D → Bool
  | _, .non => true
  | _, .bl _ => true
  | _, .int i => decide (i.natAbs < 2 ^ b)
  | _, .str x => x.cps.all (· < 128) && decide (x.length ≤ 200 + b)
  | n + 1, .tup l => D.gdL b n l
  | n + 1, .lst l => D.gdL b n l
  | n + 1, .dct ks vs => D.gdL b n ks && D.gdL b n vs && decide (ks.length = vs.length)
  | _, _ => false
def D.gdL (b : Nat) : Nat → List D → Bool
  | _, [] => true
  | n, d :: ds => D.gd b n d && D.gdL b n ds
end
theorem gdL_iff {b n : Nat} : ∀ {l : List D}, D.gdL b n l = true ↔ ∀ x ∈ l, D.gd b n x = true
  | [] => by simp [D.gdL]
  | d :: l => by simp [D.gdL, gdL_iff (l := l)]
mutual
theorem gd_mono {b c : Nat} (hb : b ≤ c) : ∀ {n m : Nat} (d : D), n ≤ m → D.gd b n d = true → D.gd c m d = true
  | _, _, .non, _, _ => by simp [D.gd]
  | _, _, .bl _, _, _ => by simp [D.gd]
  | _, _, .int i, _, h => by
    simp only [D.gd, decide_eq_true_eq] at h ⊢
    exact Nat.lt_of_lt_of_le h (Nat.pow_le_pow_right (by decide) hb)
  | _, _, .str x, _, h => by
    simp only [D.gd, Bool.and_eq_true, decide_eq_true_eq] at h ⊢
    exact ⟨h.1, by omega⟩
  | n + 1, m + 1, .tup l, hn, h => by simp only [D.gd] at h ⊢; exact gdL_mono hb l (by omega) h
  | n + 1, m + 1, .lst l, hn, h => by simp only [D.gd] at h ⊢; exact gdL_mono hb l (by omega) h
  | n + 1, m + 1, .dct ks vs, hn, h => by
    simp only [D.gd, Bool.and_eq_true] at h ⊢
    exact ⟨⟨gdL_mono hb ks (by omega) h.1.1, gdL_mono hb vs (by omega) h.1.2⟩, h.2⟩
  | 0, _, .tup l, _, h => by simp [D.gd] at h
  | 0, _, .lst l, _, h => by simp [D.gd] at h
  | 0, _, .dct _ _, _, h => by simp [D.gd] at h
  | n + 1, 0, _, hn, _ => by omega
  | _, _, .kdc _ _, _, h => by simp [D.gd] at h
  | _, _, .ins _ _ _, _, h => by simp [D.gd] at h
  | _, _, .scr _, _, h => by simp [D.gd] at h
theorem gdL_mono {b c : Nat} (hb : b ≤ c) : ∀ {n m : Nat} (l : List D), n ≤ m → D.gdL b n l = true → D.gdL c m l = true
  | _, _, [], _, _ => by simp [D.gdL]
  | n, m, d :: ds, hn, h => by
    simp only [D.gdL, Bool.and_eq_true] at h ⊢
    exact ⟨gd_mono hb d hn h.1, gdL_mono hb ds hn h.2⟩
end
mutual
theorem gd_okE {b : Nat} (hb : b ≤ 400) : ∀ (n : Nat) (d : D), D.gd b n d = true → D.okE n d = true
  | _, .non, _ => by simp [D.okE]
  | _, .bl _, _ => by simp [D.okE]
  | _, .int i, h => by
    simp only [D.gd, decide_eq_true_eq] at h
    simp only [D.okE, decide_eq_true_eq]
    exact Nat.lt_of_lt_of_le h (Nat.pow_le_pow_right (by decide) hb)
  | _, .str x, h => by simp [D.okE]
  | n + 1, .tup l, h => by simp only [D.gd] at h; simp only [D.okE]; exact gdL_okE hb n l h
  | n + 1, .lst l, h => by simp only [D.gd] at h; simp only [D.okE]; exact gdL_okE hb n l h
  | n + 1, .dct ks vs, h => by
    simp only [D.gd, Bool.and_eq_true] at h
    simp only [D.okE, Bool.and_eq_true]
    exact ⟨⟨gdL_okE hb n ks h.1.1, gdL_okE hb n vs h.1.2⟩, h.2⟩
  | 0, .tup l, h => by simp [D.gd] at h
  | 0, .lst l, h => by simp [D.gd] at h
  | 0, .dct _ _, h => by simp [D.gd] at h
  | _, .kdc _ _, h => by simp [D.gd] at h
  | _, .ins _ _ _, h => by simp [D.gd] at h
  | _, .scr _, h => by simp [D.gd] at h
theorem gdL_okE {b : Nat} (hb : b ≤ 400) : ∀ (n : Nat) (l : List D), D.gdL b n l = true → D.okEL n l = true
  | _, [], _ => by simp [D.okEL]
  | n, d :: ds, h => by
    simp only [D.gdL, Bool.and_eq_true] at h
    simp only [D.okEL, Bool.and_eq_true]
    exact ⟨gd_okE hb n d h.1, gdL_okE hb n ds h.2⟩
end
theorem ixL {l : List D} {w : Int} {P : D → Prop} (h0 : 0 ≤ w) (h1 : w < l.length) (k : ∀ x ∈ l, P x) : ∃ d, bIx (.lst l) (.int w) = some d ∧ P d := by
  obtain ⟨x, e, hx⟩ := at_mem h0 h1
  exact ⟨x, e, k x hx⟩
end CL
namespace CL
end CL
namespace CL
end CL
namespace CL
end CL
namespace CLK
end CLK
namespace CLK
end CLK
namespace CL
end CL
namespace CLE
end CLE
namespace CLE
end CLE
namespace CLE
end CLE
namespace CLE
end CLE
namespace CLE
end CLE
namespace CLE
end CLE
namespace CL
end CL
namespace CLN
end CLN
namespace CLX
end CLX
namespace CLN
end CLN
namespace CLN
end CLN
namespace CLN
end CLN
namespace CLN
end CLN
namespace CL
open PySem PySem.Spec L2 PySem.W PyProof.Rows
set_option autoImplicit false
def bReprF : List D → Option D
  | [d] => if D.okE 60 d = true ∧ d.shownE.length ≤ 16777216 then some (.str d.shownE) else none
  | _ => none
theorem c_reprF [Tb] {X : Cx} (hu : X.A.units + 64 < cLine) (hg : X.A.guards = some []) : CallR X (.builtin "repr") (rFn X.K bReprF) := by
  intro pins s σ H xs us Q I r h
  obtain ⟨Z, ds, d, pl, e, k⟩ := h
  unfold bReprF at e
  split at e
  · rename_i c
    split at e
    · rename_i ho
      cases e
      obtain ⟨v, rfl, p⟩ := pl.one
      obtain ⟨u, rfl, ru⟩ := r.one
      have rd := p.rdE I ho.1 ru
      have kk : Q (.str c.pyE.shown) H := fin0 (by simp only [RSh]; rfl) k
      obtain ⟨sh1, l2, sh2⟩ := shownE_le 60 c ho.1
      have hsz : c.pyE.shown.length ≤ sizeLine := by rw [szL]; exact ho.2
      have ref : ∀ a, u = .ref a → wpAny (model X.prog X.w) X.A (call (.builtin "repr") [u]) (EP X pins σ Q) X.xe s := fun a e => by
        subst e
        exact rd.repr sh1 hsz hg (by omega) (fun h' t tk hk => ⟨.str _, H, I.kept hk, ⟨_, rfl⟩, kk⟩)
      cases c with
      | non =>
        rw [p.non] at ru
        have ru : u = Value.none := ru
        subst ru
        simp only [D.pyE, PyData.shown] at kk
        exact PySem.P.repr_of_none ⟨.str _, H, I.tok _, ⟨_, rfl⟩, kk⟩
      | bl b =>
        rw [p.bl] at ru
        have ru : u = Value.bool b := ru
        subst ru
        simp only [D.pyE, PyData.shown] at kk
        refine PySem.P.repr_of_bool ⟨.str _, H, I.tok _, ⟨_, rfl⟩, ?_⟩
        cases b <;> exact kk
      | int i =>
        rw [p.int] at ru
        obtain ⟨t, rfl⟩ := ru
        simp only [D.pyE, PyData.shown] at kk
        have hi := sh1
        simp only [D.pyE, PyData.showable, decide_eq_true_eq] at hi
        exact PySem.P.repr_of_int hi ⟨.str _, H, I.tok _, ⟨_, rfl⟩, kk⟩
      | str z =>
        rw [p.str] at ru
        obtain ⟨t, rfl⟩ := ru
        simp only [D.pyE, PyData.shown] at kk hsz
        exact PySem.P.repr_of_str ⟨.str _, H, I.tok _, ⟨_, rfl⟩, kk⟩ hsz
      | tup l =>
        obtain ⟨a, ys, rfl, _⟩ := p.tup
        exact ref a ru
      | lst l =>
        obtain ⟨a, ys, rfl, _⟩ := p.lst
        exact ref a ru
      | scr l => simp [D.okE] at ho
      | dct ks vs =>
        rcases p with p | ⟨_, _, _, e, _⟩
        · simp only [RSh] at p
          obtain ⟨a, kvs, rfl, _⟩ := p
          exact ref a ru
        · cases e
      | kdc _ _ => simp [D.okE] at ho
      | ins _ _ _ => simp [D.okE] at ho
    · cases e
  · cases e
end CL
namespace CLN
open PySem CL CLG CLX CLE
end CLN
namespace CLN
open PySem PySem.Spec L2 CL CLG CLX CLE PySem.W
local macro_rules | `(tactic| walk_at "o") => `(tactic| ((try simp only [backA, List.set_cons_zero, List.set_cons_succ, wipeD, List.map_cons, List.map_nil, List.cons_append, List.nil_append, List.replicate_succ, List.replicate_zero]); first | done | rfl))
local macro_rules | `(tactic| walk_at "b") => `(tactic| first
  | with_reducible exact Nb.lit
  | ((with_reducible apply Nb.mul) <;> walk_at "b")
  | ((with_reducible apply Nb.add) <;> walk_at "b")
  | ((with_reducible apply Nb.sub) <;> walk_at "b")
  | ((with_reducible apply Nb.neg) <;> walk_at "b")
  | ((with_reducible apply Nb.fdiv) <;> walk_at "b")
  | ((with_reducible apply Nb.fmod); (· walk_at "z"); (· walk_at "b"))
  | ((with_reducible apply Nb.max) <;> walk_at "b")
  | ((with_reducible apply Nb.min) <;> walk_at "b")
  | ((with_reducible apply Nb.ite) <;> walk_at "b")
  | with_reducible assumption
  | with_reducible exact Nb.le (by assumption)
  | with_reducible exact Nb.nle (by assumption)
  | with_reducible exact Nb.lt (by assumption)
  | ((with_reducible apply Nb.rng (by assumption) (by assumption)) <;> walk_at "b")
  | ((with_reducible apply Nb.rngE (by assumption) (by assumption)) <;> walk_at "b")
  | with_reducible exact Nb.self _)
local macro_rules | `(tactic| walk_at "z") => `(tactic| first | decide | assumption | omega | exact fmod_nn (by omega) | exact fmod_lt (by omega))
local macro_rules | `(tactic| walk_at "e") => `(tactic| first
  | ((with_reducible refine is_ev ?_); first
    | ((with_reducible apply mul_st); (· walk_at "b"); (· walk_at "b"); (· rfl))
    | ((with_reducible apply mul_s1); (· walk_at "b"); (· rfl))
    | ((with_reducible apply mul_s2); (· walk_at "b"); (· rfl))
    | ((with_reducible apply div_st); (· walk_at "z"); (· walk_at "b"); (· rfl))
    | ((with_reducible apply mod_st); (· walk_at "z"))
    | with_reducible apply tup_pt
    | with_reducible apply tup_ln
    | ((with_reducible apply tup_st); (· rfl))
    | ((with_reducible apply lst_st); (· rfl))
    | with_reducible apply eqi_st
    | with_reducible apply nei_st
    | with_reducible apply eqp_st
    | with_reducible apply nep_st
    | with_reducible apply eqp_st'
    | with_reducible apply nep_st'
    | with_reducible apply eqb_st
    | with_reducible apply neb_st
    | with_reducible apply isb_st
    | with_reducible apply eqs_st
    | with_reducible apply nes_st
    | with_reducible refine ix2bi (fun _ _ _ => ?_)
    | ((with_reducible refine ix4i ?_ ?_ (fun _ _ _ => ?_)); (· walk_at "z"); (· walk_at "z"))
    | ((with_reducible refine ix2i ?_ ?_ (fun _ _ _ => ?_)); (· walk_at "z"); (· walk_at "z"))
    | ((with_reducible refine ix3i ?_ ?_ (fun _ _ _ => ?_)); (· walk_at "z"); (· walk_at "z"))
    | refine ⟨_, rfl, ?_⟩)
  | ((with_reducible refine fill_st ?_); refine ⟨_, rfl, ?_⟩; (try dsimp only))
  | ((with_reducible apply and_go rfl); (· (intro _; (repeat walk_at "s"); with_reducible exact ⟨rfl, rfl⟩)))
  | ((with_reducible refine is_chain ?_); (apply chain_go rfl); (· (intro _; (repeat walk_at "s"); exact ⟨rfl, rfl⟩)))
  | ((with_reducible refine draw_step (by assumption) ?_ ?_ (fun _ _ _ _ _ => ?_)); (· walk_at "z"); (· walk_at "z"))
  | ((with_reducible refine CLY.draw_step (by assumption) ?_ ?_ (fun _ _ _ _ _ => ?_)); (· walk_at "z"); (· walk_at "z"))
  | ((with_reducible refine is_evA ?_); refine ⟨_, rfl, ?_⟩)
  | ((with_reducible refine is_evL ?_); refine ⟨_, rfl, ?_⟩)
  | ((with_reducible refine is_evI ?_); refine ⟨_, rfl, ?_⟩)
  | ((with_reducible refine is_evR ?_); refine ⟨_, rfl, ?_⟩))
local macro_rules | `(tactic| walk_at "f") => `(tactic| first
  | with_reducible refine W_mV.mpr ?_
  | with_reducible refine W_mCons.mpr ?_
  | with_reducible refine W_m2.mpr ?_
  | with_reducible refine W_mC.mpr ?_
  | with_reducible refine W_mNil.mpr ?_
  | with_reducible refine W_mN.mpr ?_
  | with_reducible refine W_sSeq.mpr ?_
  | with_reducible refine W_sAsg.mpr ?_
  | with_reducible refine W_m1.mpr ?_
  | with_reducible refine W_mCallP.mpr ?_
  | with_reducible refine W_mCall.mpr ?_
  | with_reducible refine X_evI.mpr ?_
  | with_reducible refine X_evE.mpr ?_
  | with_reducible refine X_evN.mpr ?_
  | with_reducible refine X_if ?_
  | with_reducible refine W_sRet.mpr ?_
  | with_reducible refine W_sK.mpr ?_
  | with_reducible refine X_and ?_
  | with_reducible refine X_or ?_
  | with_reducible refine W_sPar.mpr ?_
  | with_reducible refine W_mSl.mpr ?_
  | with_reducible refine W_mPtN.mpr ?_
  | with_reducible refine W_mPtS.mpr ?_
  | with_reducible refine W_mIt.mpr ?_
  | with_reducible refine W_mItN.mpr ?_
  | with_reducible refine W_mComp.mpr ?_
  | ((with_reducible refine is_comp ?_); first | (apply X_compN; (· walk_at "o")) | ((with_reducible apply X_compY); (· walk_at "o"); (· rfl)))
  | with_reducible refine W_sFor.mpr ?_
  | ((with_reducible refine is_for ?_); refine W_forNil.mpr ?_)
  | with_reducible refine X_chain ?_
  | with_reducible refine W_sExp.mpr ?_
  | with_reducible refine W_mL.mpr ?_
  | with_reducible refine X_mif ?_
  | with_reducible refine W_mIxS.mpr ?_
  | with_reducible refine W_mYes.mpr ?_
  | with_reducible refine W_sPar3.mpr ?_
  | with_reducible refine W_mApp.mpr ?_
  | with_reducible refine W_mBor.mpr ?_
  | with_reducible refine CLX.W_sFz.mpr ?_)
local macro_rules | `(tactic| walk_at "s") => `(tactic| first
  | ((with_reducible refine is_W ?_); walk_at "f")
  | ((with_reducible refine is_ex ?_); first
    | ((with_reducible refine is_evS ?_); refine ⟨_, rfl, ?_⟩)
    | ((with_reducible apply call_st); (· with_reducible assumption))
    | with_reducible refine ⟨_, by with_reducible assumption, ?_⟩
    | walk_at "e")
  | ((with_reducible apply X_nx); (· walk_at "o"))
  | with_reducible refine Kq_ret.mpr ?_
  | with_reducible refine Kq_brk.mpr ?_
  | with_reducible refine Kq_cnt.mpr ?_
  | ((with_reducible apply X_fnx); (· walk_at "o"))
  | ((with_reducible apply X_fcnt); (· walk_at "o"))
  | with_reducible refine X_fbrk ?_
  | with_reducible refine X_fret ?_
  | ((with_reducible refine is_ltA ?_); refine ⟨?_, ?_⟩; (· first | decide | omega | (simp; omega) | (simp; done)))
  | with_reducible refine parW_mk.mpr ?_
  | with_reducible refine par3W_mk.mpr ?_)
local macro_rules | `(tactic| walk_at "r") => `(tactic| repeat walk_at "s")
local macro_rules | `(tactic| walk_at "u") => `(tactic| first | ((apply X_forC); (· walk_at "o"); (· rfl)) | ((apply X_compY); (· walk_at "o"); (· rfl)) | ((apply X_compC); (· walk_at "o"); (· rfl)))
local macro_rules | `(tactic| walk_at "g") => `(tactic| repeat first | walk_at "s" | (with_reducible refine go_ifF (rfl : _ = false) ?_) | (with_reducible refine go_ifT (rfl : _ = true) ?_) | (refine go_ifF (rfl : _ = false) ?_) | (refine go_ifT (rfl : _ = true) ?_) | walk_at "u")
theorem eqvAll_map {α : Type} [DecidableEq α] {f : α → D} (hf : ∀ a b, (f a).eqv (f b) = decide (a = b)) : ∀ (A B : List α), PyData.eqvAll (D.pyL (A.map f)) (D.pyL (B.map f)) = decide (A = B)
  | [], [] => by simp [D.pyL, PyData.eqvAll]
  | [], b :: B => by simp [D.pyL, PyData.eqvAll]
  | a :: A, [] => by simp [D.pyL, PyData.eqvAll]
  | a :: A, b :: B => by
    have h := hf a b
    have ih := eqvAll_map hf A B
    unfold D.eqv at h
    simp only [List.map_cons, D.pyL, PyData.eqvAll, h, ih]
    by_cases h1 : a = b <;> by_cases h2 : A = B <;> simp [h1, h2]
theorem eqv_tup {α : Type} [DecidableEq α] {f : α → D} (hf : ∀ a b, (f a).eqv (f b) = decide (a = b)) (A B : List α) : (D.tup (A.map f)).eqv (.tup (B.map f)) = decide (A = B) := by
  have := eqvAll_map hf A B
  unfold D.eqv
  simp only [D.py, PyData.eqv]
  exact this
theorem okL_map {α : Type} {f : α → D} {n : Nat} (hf : ∀ a, D.okB n (f a) = true) : ∀ A : List α, D.okL n (A.map f) = true
  | [] => by simp [D.okL]
  | a :: A => by simp [D.okL, okL_map hf A, hf a]
end CLN
namespace CL
open PySem PySem.Spec L2 PySem.W PyProof.Rows
theorem reprF_gd {b n : Nat} {d : D} (h : D.gd b n d = true) (hb : b ≤ 400) (hn : n ≤ 60) (hw : d.wtE ≤ 100000) : bReprF [d] = some (.str d.shownE) := by
  have ho := gd_okE hb 60 d (gd_mono (Nat.le_refl _) d hn h)
  obtain ⟨_, _, h3⟩ := shownE_le 60 d ho
  simp only [bReprF]
  rw [if_pos ⟨ho, by unfold D.shownE; omega⟩]
end CL
namespace CLN
open PySem CL CLG CLX CLE
end CLN
namespace CLO
end CLO
namespace CLO
end CLO
namespace CL
open PySem L2
theorem ixl0 {x : D} {l : List D} {P : D → Prop} (k : P x) : ∃ d, bIx (.lst (x :: l)) (.int 0) = some d ∧ P d := ⟨x, at_nat (l := x :: l) (k := 0) rfl, k⟩
theorem ixl1 {x y : D} {l : List D} {P : D → Prop} (k : P y) : ∃ d, bIx (.lst (x :: y :: l)) (.int 1) = some d ∧ P d := ⟨y, at_nat (l := x :: y :: l) (k := 1) rfl, k⟩
end CL
namespace CL
open PySem PySem.Spec L2
set_option autoImplicit false
inductive EntF (K : PySem.W.Frag) (nm q : Str) (st : Stmt) : Prop
  | mk {od an : Option Addr} {sl : Array (Option Value)} {oc kV dc pm cd ct : Value} {f : Addr} (a : PySem.W.nsIn K mainGlobals nm = some (some (.ref f))) (l : K.lookup f = some ⟨oc, od, .func (PySem.W.fnOf q q (defArgs st) (defBody st) (defScope st) .none kV dc pm an cd ct), sl⟩) (c : PySem.W.codeIn K cd q = true) (k : PySem.W.keepIn K (.ref f) = true) : EntF K nm q st
end CL
namespace CL
open PySem PySem.Spec L2
set_option autoImplicit false
/-- what is wished of an own exception, by its class's name -/
def Wn (K : PySem.W.Frag) (W : WX) (c : Str) (σ : St) (H : Hp) : Prop := ∀ C : Addr, PySem.W.nsIn K mainGlobals c = some (some (.ref C)) → W (.ref C) none σ H
/-- what raises nothing -/
def mOk {α : Type} (m : M α) : M α := fun ρ => match m ρ with | .ok p => .ok p | _ => .bad
theorem mOk_ok {α : Type} {m : M α} {ρ : Sl} {p : α × Sl} (h : mOk m ρ = .ok p) : m ρ = .ok p := by
  unfold mOk at h
  split at h
  · rename_i q e; cases h; exact e
  · cases h
theorem mOk_no {α : Type} {m : M α} {ρ : Sl} {d : D} : mOk m ρ ≠ .exc d := fun h => by
  unfold mOk at h
  split at h <;> cases h
theorem W_mOk {α : Type} {m : M α} {ρ : Sl} {Q : α → Sl → Prop} : W (mOk m) ρ Q ↔ W m ρ Q := by
  constructor
  · rintro ⟨a, ρ', e, q⟩
    exact ⟨a, ρ', mOk_ok e, q⟩
  · rintro ⟨a, ρ', e, q⟩
    exact ⟨a, ρ', by unfold mOk; rw [e], q⟩
theorem bind_cases {α β : Type} {m : M α} {f : α → M β} {ρ : Sl} {d : D} (h : bind m f ρ = .exc d) : m ρ = .exc d ∨ ∃ a ρ1, m ρ = .ok (a, ρ1) ∧ f a ρ1 = .exc d := by
  unfold bind at h
  split at h
  · rename_i a ρ1 e
    exact .inr ⟨a, ρ1, e, h⟩
  · rename_i e
    cases h; exact .inl e
  · cases h
/-- what raises nothing and leaves the slots as they are -/
noncomputable def mOkQ {α : Type} (m : M α) : M α := fun ρ => match m ρ with
  | .ok (a, ρ') => (open Classical in if ρ' = ρ then .ok (a, ρ) else .bad)
  | _ => .bad
theorem mOkQ_ok {α : Type} {m : M α} {ρ ρ' : Sl} {a : α} (h : mOkQ m ρ = .ok (a, ρ')) : m ρ = .ok (a, ρ) ∧ ρ' = ρ := by
  unfold mOkQ at h
  split at h
  · rename_i b ρ1 e
    split at h
    · rename_i e1
      subst e1
      cases h
      exact ⟨e, rfl⟩
    · cases h
  · cases h
theorem mOkQ_no {α : Type} {m : M α} {ρ : Sl} {d : D} : mOkQ m ρ ≠ .exc d := fun h => by
  unfold mOkQ at h
  split at h
  · split at h <;> cases h
  · cases h
theorem W_mOkQ {α : Type} {m : M α} {ρ : Sl} {Q : α → Sl → Prop} : W (mOkQ m) ρ Q ↔ W m ρ fun a ρ' => ρ' = ρ ∧ Q a ρ := by
  constructor
  · rintro ⟨a, ρ', e, q⟩
    obtain ⟨e1, e2⟩ := mOkQ_ok e
    subst e2
    exact ⟨a, _, e1, rfl, q⟩
  · rintro ⟨a, ρ', e, e1, q⟩
    subst e1
    exact ⟨a, _, by unfold mOkQ; rw [e]; simp, q⟩
def tX [Tb] (K : PySem.W.Frag) (τ : Nat → OT) (W : WX) (q : Bool) (md : Md) (m : M D) : TE := fun σ H Q => ∃ Z own ρ, RS K τ Z own H ρ σ ∧
  ((∃ d ρ', m ρ = .ok (d, ρ') ∧ ∀ v Z' own' H' S, RS K τ Z' own' H' ρ' σ → Rm K Z' own' H' md d v S → NewR H Z' own' H' S → Ext q Z own H Z' own' H' → Q v H') ∨
    ∃ c, m ρ = .exc (.str c) ∧ ∀ Z' own' H', RS K τ Z' own' H' ρ σ → Ext q Z own H Z' own' H' → Wn K W c σ H')
def tSX [Tb] (K : PySem.W.Frag) (F : Fr) (W : WX) (m : MS) : TS := fun E σ H => ∃ Z own ρ, RS K F.τ Z own H ρ σ ∧
  ((∃ f ρ', m ρ = .ok (f, ρ') ∧ Out K F Z own H σ ρ' E f) ∨
    ∃ c, m ρ = .exc (.str c) ∧ ∀ σ' Z' own' H', ExtF F.fx false Z own H Z' own' H' → Wn K W c σ' H')
section
variable [Tb] {X : Cx} {t : TS} {F : Fr} {W : WX} {τ : Nat → OT} {q q1 q2 : Bool} {md : Md} {a b c e tg iter : Expr} {es : List Expr} {ma mb mc : M D} {mi : M (List D)} {pos : Pos} {st : Stmt} {sts sts2 : List Stmt} {sa sb : MS} {p : Pt}
theorem PS.nox (h : PS X.nox st t) : PS X st t := ⟨fun pins s σ H D I hw =>
  wpAny_mono (h.run pins s σ H D (I.wish _) hw) (fun _ _ q => q.unwish) fun _ _ z => False.elim z⟩
theorem sx_of (h : PS X st (tS X.K F sa)) : PS X st (tSX X.K F W (mOk sa)) := h.mono fun E σ H ⟨Z, own, ρ, rs, h⟩ => by
  rcases h with ⟨f, ρ', e, k⟩ | ⟨c, e, _⟩
  · exact ⟨Z, own, ρ, f, ρ', rs, mOk_ok e, k⟩
  · exact absurd e mOk_no
theorem ssx_nil : PSs X [] (tSX X.K F W (sK .nx)) := pss_nil.mono fun E σ H ⟨Z, own, ρ, rs, h⟩ => by
  rcases h with ⟨f, ρ', e, k⟩ | ⟨c, e, _⟩
  · unfold sK at e; cases e
    exact k σ Z own H rs Fix.refl ExtF.refl
  · cases e
theorem ssx_one (h : PS X st (tSX X.K F W sa)) : PSs X [st] (tSX X.K F W sa) := pss_one h
theorem ssx_cons (h : PS X st (tSX X.K F W sa)) (hr : PSs X sts (tSX X.K F W sb)) : PSs X (st :: sts) (tSX X.K F W (sSeq sa sb)) := (pss_cons h hr).mono fun E σ H ⟨Z, own, ρ, rs, h⟩ => by
  rcases h with ⟨f, ρ', e, o⟩ | ⟨c, e, k⟩
  · obtain ⟨f1, ρ1, e1, e⟩ := bind_ok e
    cases f1 with
    | nx => exact ⟨Z, own, ρ, rs, .inl ⟨.nx, ρ1, e1, fun σ1 Z1 own1 H1 rs1 f1 x1 => ⟨Z1, own1, ρ1, rs1, .inl ⟨f, ρ', e, o.back x1 f1⟩⟩⟩⟩
    | ret d => cases e; exact ⟨Z, own, ρ, rs, .inl ⟨_, _, e1, o⟩⟩
    | brk => cases e; exact ⟨Z, own, ρ, rs, .inl ⟨_, _, e1, o⟩⟩
    | cnt => cases e; exact ⟨Z, own, ρ, rs, .inl ⟨_, _, e1, o⟩⟩
  · rcases bind_cases e with e | ⟨f1, ρ1, e1, e⟩
    · exact ⟨Z, own, ρ, rs, .inr ⟨c, e, k⟩⟩
    · cases f1 with
      | nx => exact ⟨Z, own, ρ, rs, .inl ⟨.nx, ρ1, e1, fun σ1 Z1 own1 H1 rs1 f1 x1 => ⟨Z1, own1, ρ1, rs1, .inr ⟨c, e, fun σ' Z' own' H' x' => k σ' Z' own' H' (x1.transF x')⟩⟩⟩⟩
      | ret d => cases e
      | brk => cases e
      | cnt => cases e
theorem sx_if (hc : PT X c (tT X.K F.τ q mc)) (ha : PSs X sts (tSX X.K F W sa)) (hb : PSs X sts2 (tSX X.K F W sb)) : PS X (.If c sts sts2 pos) (tSX X.K F W (sIf (mOk mc) sa sb)) := (ps_if hc ha hb).mono fun E σ H ⟨Z, own, ρ, rs, h⟩ => by
  rcases h with ⟨f, ρ', e, o⟩ | ⟨c, e, k⟩
  · obtain ⟨x, ρ1, e1, e⟩ := bind_ok e
    cases x with
    | bl b =>
      cases b with
      | true => exact ⟨Z, own, ρ, true, ρ1, rs, mOk_ok e1, fun Z1 own1 H1 rs1 x1 => iteT ⟨Z1, own1, ρ1, rs1, .inl ⟨f, ρ', e, o.back x1.any Fix.refl⟩⟩⟩
      | false => exact ⟨Z, own, ρ, false, ρ1, rs, mOk_ok e1, fun Z1 own1 H1 rs1 x1 => iteF ⟨Z1, own1, ρ1, rs1, .inl ⟨f, ρ', e, o.back x1.any Fix.refl⟩⟩⟩
    | _ => cases e
  · rcases bind_cases e with e | ⟨x, ρ1, e1, e⟩
    · exact absurd e mOk_no
    · cases x with
      | bl b =>
        cases b with
        | true => exact ⟨Z, own, ρ, true, ρ1, rs, mOk_ok e1, fun Z1 own1 H1 rs1 x1 => iteT ⟨Z1, own1, ρ1, rs1, .inr ⟨c, e, fun σ' Z' own' H' x' => k σ' Z' own' H' (x1.any.transF x')⟩⟩⟩
        | false => exact ⟨Z, own, ρ, false, ρ1, rs, mOk_ok e1, fun Z1 own1 H1 rs1 x1 => iteF ⟨Z1, own1, ρ1, rs1, .inr ⟨c, e, fun σ' Z' own' H' x' => k σ' Z' own' H' (x1.any.transF x')⟩⟩⟩
      | _ => cases e
end
end CL
namespace CL
open PySem PySem.Spec L2
set_option autoImplicit false
section
variable [Tb] {X : Cx} {t : TS} {F : Fr} {W : WX} {τ : Nat → OT} {q q1 q2 : Bool} {md md1 md2 : Md} {a b c e tg iter : Expr} {es : List Expr} {ma mb mc : M D} {mi ms : M (List D)} {pos : Pos} {st : Stmt} {sts sts2 : List Stmt} {sa sb : MS} {p : Pt}
theorem sx_set (i : Nat) {x : Str} {pos' : Pos} (hN : X.N.Nodup) (he : PE X e (tX X.K F.τ W q .sh ma)) (ht : F.τ i = .sh := by rfl) (hfx : F.fx i = false := by rfl) (hi : X.N[i]? = some x := by rfl) (hx : Loc X.env.scope x := by first | exact Or.inl rfl | exact Or.inr rfl) (hs : swapsWith e (some (.Name x pos')) pos.line X.env = pure false := by rfl)
    (hf : X.fn x = true ∨ X.env.scope.names.lookup x = some .local := by first | exact .inl rfl | exact .inr rfl | assumption) : PS X (.Assign [.Name x pos'] e pos) (tSX X.K F W (sAsg (pN i) ma)) := (ps_set hN hi hx he hs hf).mono fun E σ H ⟨Z, own, ρ, rs, h⟩ => by
  rcases h with ⟨f, ρ', e, o⟩ | ⟨c, e, k⟩
  · obtain ⟨y, ρ1, e1, e⟩ := bind_ok e
    cases e
    exact ⟨Z, own, ρ, rs, .inl ⟨y, ρ1, e1, fun v Z1 own1 H1 S rs1 rm n x1 => o _ Z1 own1 H1 (rs1.set ht rm) (.set hfx) x1.weak.any⟩⟩
  · rcases bind_cases e with e | ⟨y, ρ1, e1, e⟩
    · exact ⟨Z, own, ρ, rs, .inr ⟨c, e, fun Z' own' H' _ x' => k σ Z' own' H' x'.weak.any⟩⟩
    · cases e
theorem x_pk (h : PE X a (tX X.K τ W q .sh ma)) : PE X a (tX X.K τ W q .pk ma) := h.mono fun σ H Q ⟨Z, own, ρ, rs, h⟩ => by
  rcases h with ⟨d, ρ', e, k⟩ | h
  · exact ⟨Z, own, ρ, rs, .inl ⟨d, ρ', e, fun v Z' own' H' S r1 r2 r3 r4 => k v Z' own' H' S r1 (.inl r2) r3 r4⟩⟩
  · exact ⟨Z, own, ρ, rs, .inr h⟩
theorem xx_ix {f : D → D → Option D} (hr : IxR X (rF2 X.K f)) (ha : PE X a (tX X.K τ W q1 .sh ma)) (hb : PE X b (tE X.K τ q2 .sh mb)) (hs : PlainIx b := by exact fun _ _ => rfl) :
    PE X (.Subscript a b pos) (tX X.K τ W (q1 && q2) .sh (m2 f ma (mOk mb))) := (pe_ix hr ha hb hs).mono fun σ H Q ⟨Z, own, ρ, rs, h⟩ => by
  rcases h with ⟨d, ρ', e, k⟩ | ⟨c, e, k⟩
  · obtain ⟨x, ρ1, e1, e⟩ := bind_ok e
    obtain ⟨y, ρ2, e2, e⟩ := bind_ok e
    obtain ⟨e3, rfl⟩ := ofO_ok e
    exact ⟨Z, own, ρ, rs, .inl ⟨x, ρ1, e1, fun v Z1 own1 H1 S1 rs1 rm1 _ x1 => ⟨Z1, own1, ρ1, y, ρ', rs1, mOk_ok e2, fun w Z2 own2 H2 S2 rs2 rm2 _ x2 =>
      ⟨Z2, x, y, d, rs1.pk0 (md := .sh) x2 trivial (.inl rfl) rm1, rm2.pk0 (md := .sh) trivial, e3, fun u H3 S g r n => fin_sh rs2 (x1.trans x2) g r n k⟩⟩⟩⟩
  · rcases bind_cases e with e | ⟨x, ρ1, e1, e⟩
    · exact ⟨Z, own, ρ, rs, .inr ⟨c, e, fun Z' own' H' r' x' => k Z' own' H' r' (by cases q1 <;> cases q2 <;> first | exact x' | exact x'.weak)⟩⟩
    · rcases bind_cases e with e | ⟨y, ρ2, e2, e⟩
      · exact absurd e mOk_no
      · unfold ofO at e
        split at e <;> cases e
theorem sx_for (hi : PI X tg iter (tI X.K F.τ q mi)) (hg : PG X tg (tG X.K F.τ F.fx p)) (hb : PSs X sts (tSX X.K F W sb)) (hp : PassesOwn (model X.prog X.w) X.A X.env X.xe) (hc : X.calm = true := by rfl)
    (hs : ∀ x, foldedSetIterable iter X.env x = pure x := by intro _; rfl) : PS X (.For tg iter sts [] pos) (tSX X.K F W (sFor p (mOk mi) sb)) := (ps_for hp hc hi hg hb hs).mono fun E σ H ⟨Z, own, ρ, rs, h⟩ => by
  have key : ∃ ds ρ0, mi ρ = .ok (ds, ρ0) ∧ ((∃ f ρ', forL p sb ds ρ0 = .ok (f, ρ') ∧ Out X.K F Z own H σ ρ' E f) ∨ ∃ c, forL p sb ds ρ0 = .exc (.str c) ∧ ∀ σ' Z' own' H', ExtF F.fx false Z own H Z' own' H' → Wn X.K W c σ' H') := by
    rcases h with ⟨f, ρ', e, o⟩ | ⟨c, e, k⟩
    · obtain ⟨ds, ρ0, e0, e⟩ := bind_ok e
      exact ⟨ds, ρ0, mOk_ok e0, .inl ⟨f, ρ', e, o⟩⟩
    · rcases bind_cases e with e | ⟨ds, ρ0, e0, e⟩
      · exact absurd e mOk_no
      · exact ⟨ds, ρ0, mOk_ok e0, .inr ⟨c, e, k⟩⟩
  obtain ⟨ds, ρ0, e0, h⟩ := key
  refine ⟨Z, own, ρ, ds, ρ0, rs, e0, fun J Z1 own1 H1 rs1 w x1 => ?_⟩
  obtain ⟨G, hG⟩ : ∃ G : Res (Fl × Sl) → Prop, G = fun r => (∃ f ρ', r = .ok (f, ρ') ∧ Out X.K F Z own H σ ρ' E f) ∨ ∃ c, r = .exc (.str c) ∧ ∀ σ' Z' own' H', ExtF F.fx false Z own H Z' own' H' → Wn X.K W c σ' H' := ⟨_, rfl⟩
  have h : G (forL p sb ds ρ0) := by rw [hG]; exact h
  refine ⟨fun i m σ' H' => m = ds.length - i ∧ i ≤ ds.length ∧ ∃ Z2 own2 ρ2, RS X.K F.τ Z2 own2 H' ρ2 σ' ∧ Fix F.fx σ σ' ∧ ExtF F.fx false Z1 own1 H1 Z2 own2 H' ∧ G (forL p sb (ds.drop i) ρ2),
    ⟨ds.length, by simp, Nat.zero_le _, Z1, own1, ρ0, rs1, Fix.refl, ExtF.refl, by simpa using h⟩, ?_⟩
  rintro i m σ2 H2 ⟨rfl, hi, Z2, own2, ρ2, rs2, f2, x2, e2⟩
  have lt := rs1.later x2
  by_cases hlt : i < ds.length
  · refine .inr ⟨w.go Z2 H2 lt i hlt, fun σ' H' => ∃ Z3 own3 ρ3, RS X.K F.τ Z3 own3 H' ρ3 σ' ∧ Fix F.fx σ σ' ∧ ExtF F.fx false Z1 own1 H1 Z3 own3 H' ∧ G (forL p sb (ds.drop (i + 1)) ρ3),
      fun σ' H' h => ⟨ds.length - (i + 1), by omega, rfl, hlt, h⟩, fun x H3 y => ?_⟩
    obtain ⟨d, hd⟩ : ∃ d, ds[i]? = some d := ⟨ds[i], by simp [hlt]⟩
    obtain ⟨g, r⟩ := w.yl Z2 H2 lt i d hd x H3 y
    have ed : ds.drop i = d :: ds.drop (i + 1) := by
      rw [List.drop_eq_getElem_cons hlt]
      have : ds[i] = d := by
        have := List.getElem?_eq_getElem hlt
        rw [hd] at this; exact (Option.some.inj this).symm
      rw [this]
    rw [ed] at e2
    have rs3 := rs2.growO g
    have x3 : ExtF F.fx false Z1 own1 H1 Z2 own2 H3 := x2.transF (ExtF.growO (q := false) g)
    have bad : ∀ r : Res (Fl × Sl), G r → r ≠ .bad := fun r hr e => by
      subst e
      rw [hG] at hr
      rcases hr with ⟨_, _, h, _⟩ | ⟨_, h, _⟩ <;> cases h
    unfold forL at e2
    split at e2
    · exact absurd rfl (bad _ e2)
    · rename_i ρ4 e4
      refine ⟨Z2, own2, ρ2, d, ρ4, rs3, r, e4, fun σ4 rs4 f4 => ⟨Z2, own2, ρ4, rs4, ?_⟩⟩
      split at e2
      · rename_i ρ5 e5
        exact .inl ⟨.nx, ρ5, e5, fun σ5 Z5 own5 H5 rs5 f5 x5 => ⟨Z5, own5, ρ5, rs5, (f2.trans f4).trans f5, x3.transF x5, e2⟩⟩
      · rename_i ρ5 e5
        exact .inl ⟨.cnt, ρ5, e5, fun σ5 Z5 own5 H5 rs5 f5 x5 => ⟨Z5, own5, ρ5, rs5, (f2.trans f4).trans f5, x3.transF x5, e2⟩⟩
      · rename_i ρ5 e5
        rw [hG] at e2
        rcases e2 with ⟨f, ρ', h, o⟩ | ⟨c, h, _⟩
        · cases h
          exact .inl ⟨.brk, _, e5, fun σ5 Z5 own5 H5 rs5 f5 x5 => o σ5 Z5 own5 H5 rs5 ((f2.trans f4).trans f5) ((x1.any).transF (x3.transF x5))⟩
        · cases h
      · rename_i d' ρ5 e5
        rw [hG] at e2
        rcases e2 with ⟨f, ρ', h, o⟩ | ⟨c, h, _⟩
        · cases h
          exact .inl ⟨.ret d', _, e5, (o.back (x1.any) Fix.refl).back (x3) (f2.trans f4)⟩
        · cases h
      · rename_i d' e5
        rw [hG] at e2
        rcases e2 with ⟨f, ρ', h, o⟩ | ⟨c, h, k⟩
        · cases h
        · cases h
          exact .inr ⟨c, e5, fun σ' Z' own' H' x' => k σ' Z' own' H' ((x1.any).transF (x3.transF x'))⟩
      · exact absurd rfl (bad _ e2)
  · have ei : i = ds.length := by omega
    subst ei
    refine .inl ⟨w.st Z2 H2 lt, ?_⟩
    rw [List.drop_length, hG] at e2
    unfold forL sK at e2
    rcases e2 with ⟨f, ρ', h, o⟩ | ⟨c, h, _⟩
    · cases h
      exact o σ2 Z2 own2 H2 rs2 f2 ((x1.any).transF x2)
    · cases h
end
end CL
namespace CL
open PySem PySem.Spec L2
set_option autoImplicit false
/-- as FnG, but an exception may leave -/
structure FnX (P : Program) (w : World) (K : PySem.W.Frag) (mg : Str → Option Value) (base : Heap) (k : Nat) (f : Addr) (fd : FuncData) (ps : List Str) (sp : Sp) : Prop where
  len : ∀ vs H Q E, sp vs H Q E → vs.length = ps.length
  run : ∀ (A : Around) (outer : List Env) (s0 : Shared) (H : Hp) (ar : Args) (us : List Value) (vs : List V) (Q : VK) (E : XK), Room k A → A.guards = some [] → Env0 P w K mg base A outer s0 H → BindsTo s0 fd ar (ps.zip us) → Vals vs us → sp vs H Q E →
    codeAny (model P w) A (.call (.ref f) ar) (CR (CX P w) outer P w H s0 Q E) s0
theorem FnX.mono {P : Program} {w : World} {K : PySem.W.Frag} {mg : Str → Option Value} {base : Heap} {j k : Nat} {f : Addr} {fd : FuncData} {ps : List Str} {sp : Sp} (F : FnX P w K mg base j f fd ps sp) (h : j ≤ k) : FnX P w K mg base k f fd ps sp := ⟨F.len, fun A o s0 H ar us vs Q E r => F.run A o s0 H ar us vs Q E (r.mono h)⟩
section
variable [Tb] {P : Program} {w : World} {K : PySem.W.Frag} {mg : Str → Option Value} {base : Heap}
theorem fnx_ok {x qual : Str} {st : Stmt} {f : Addr} {fd : FuncData} {N ps : List Str} {k : Nat} {sp : Sp} (Fu : Fun K x qual st f fd) (Sc : FnScope N ps (defScope st)) (len : ∀ vs H Q E, sp vs H Q E → vs.length = ps.length)
    (hbody : ∀ (cdv : Value) (A : Around) (outer : List Env) (s0 : Shared) (H : Hp) (vs : List V) (Q : VK) (E : XK), Room k (A.deeper (PyProof.Rows.envOfC qual (defScope st) s0.heap.objs.size f cdv)) → A.guards = some [] → fd.code = cdv → sp vs H Q E →
      ∃ t, PSs (cxOf (CX P w) P w K mg base N qual (defScope st) f cdv A outer s0 H E) (defBody st) t ∧ t { nx := fun _ H' => Q .non H', rt := Q } (L2.start N vs) H) : FnX P w K mg base (k + 1) f fd ps sp := by
  obtain ⟨oc, od, kV, doc, pm, an, cdv, ct, osl, rfl, lk, hcd⟩ := Fu.ex
  constructor
  · exact len
  intro A outer s0 H ar us vs Q E room hgu e0 hbd rel hsp
  have KIn : K.In s0.heap := e0.mod.kin.keeps fun c ob ec => (e0.bs c ob ec).1
  have limit : s0.heap.NoLimit := e0.mod.nolimit.keeps fun c ob ec => (e0.bs c ob ec).1
  apply codeAny_call_function room.depth (KIn _ _ lk) rfl Sc.co Sc.gen rfl (PySem.W.codeRec_of KIn hcd)
  apply hbd
  apply wpAny_newFunctionEnv_cells Sc.kind
  · rintro ⟨nm, vl⟩ hm
    rcases Sc.par nm (List.of_mem_zip hm).1 with lc | lc
    · exact Or.inl lc
    · exact Or.inr ⟨lc, PySem.W.cellsFrom_some _ _ _ (Or.inl lc)⟩
  · intro env he s1 ic
    subst he
    refine ⟨limit.keeps ic.toInCall.keep, codeAny_func ?_⟩
    obtain ⟨t, ht, hq⟩ := hbody cdv A outer s0 H vs Q E (room.deeper _) hgu rfl hsp
    have I0 : Inv (cxOf (CX P w) P w K mg base N qual (defScope st) f cdv A outer s0 H E) [] (L2.start N vs) H s1 := inv_start Sc room.hd e0 (len _ _ _ _ hsp) rel ic
    apply wpAny_mono (ht.run [] s1 (L2.start N vs) H _ I0 hq)
    · intro fl s2 hs
      cases fl with
      | ret u =>
        obtain ⟨v, σ2, H2, J, rv, hv⟩ := hs
        exact ⟨v, H2, J.os, J.bare, J.base, J.hok, rv, hv⟩
      | next =>
        obtain ⟨σ2, H2, J, hv⟩ := hs
        exact ⟨V.non, H2, J.os, J.bare, J.base, J.hok, rfl, hv⟩
      | brk => obtain ⟨_, _, _, hv⟩ := hs; exact hv.elim
      | cont => obtain ⟨_, _, _, hv⟩ := hs; exact hv.elim
    · exact fun _ _ hs => hs
/-- what a body's context takes -/
theorem takes_body {N : List Str} {qual : Str} {scope : Scope} {f : Addr} {cdv : Value} {A : Around} {outer : List Env} {s0 : Shared} {H : Hp} {E : XK} (hf : (PyProof.Rows.envOfC qual scope s0.heap.objs.size f cdv).frame = some (PyProof.Rows.envOfC qual scope s0.heap.objs.size f cdv).locals := by rfl) : Takes (cxOf (CX P w) P w K mg base N qual scope f cdv A outer s0 H E) (fun cls d _ H => E cls d H) :=
  takes_of (X := cxOf (CX P w) P w K mg base N qual scope f cdv A outer s0 H E) (E := E) rfl hf rfl rfl
theorem passes_body {N : List Str} {qual : Str} {scope : Scope} {f : Addr} {cdv : Value} {A : Around} {outer : List Env} {s0 : Shared} {H : Hp} {E : XK} : PassesOwn (model (cxOf (CX P w) P w K mg base N qual scope f cdv A outer s0 H E).prog (cxOf (CX P w) P w K mg base N qual scope f cdv A outer s0 H E).w) (cxOf (CX P w) P w K mg base N qual scope f cdv A outer s0 H E).A (cxOf (CX P w) P w K mg base N qual scope f cdv A outer s0 H E).env (cxOf (CX P w) P w K mg base N qual scope f cdv A outer s0 H E).xe :=
  passes_of (X := cxOf (CX P w) P w K mg base N qual scope f cdv A outer s0 H E) (K := fun e s'' => CX P w outer H s0 E e s'') rfl
end
/-- what a def that changes nothing promises, or else what it raises -/
def spX [Tb] (K : PySem.W.Frag) (n : Nat) (rt : OT) (F : List D → Res D) : Sp := fun vs H Q E => ∃ Z ds, vs.length = n ∧ RShL K Z H ds vs ∧ (∀ a, Z a → H a ≠ none) ∧ TbOk K H ∧
  ((∃ d, F ds = .ok d ∧ ∀ v Z' H' S, (∀ a, Z a → Z' a) → (∀ a, Z' a → Z a ∨ H a = none) → (∀ a, Z' a → H' a ≠ none) → Grow H H' → R K Z' H' rt d v S → (∀ a, S a → H a = none ∧ ¬ Z' a ∧ ∃ o, H' a = some o ∧ Mut o) → Q v H') ∨
    ∃ c, F ds = .exc (.str c) ∧ ∀ C : Addr, PySem.W.nsIn K mainGlobals c = some (some (.ref C)) → ∀ H', Grow H H' → E (.ref C) none H')
section
variable [Tb] {P : Program} {w : World} {K : PySem.W.Frag} {mg : Str → Option Value} {base : Heap}
theorem ok_x {x qual : Str} {st : Stmt} {f : Addr} {fd : FuncData} {N ps : List Str} {k n nl : Nat} {F : Fr} {b : MS} (Fu : Fun K x qual st f fd) (S : FnScope N ps (defScope st)) (hF : ∀ i, i < n → F.τ i = .sh) (hn : ps.length = n) (hl : n + nl = N.length) (hrt : F.rt = .sh ∨ ∀ (ds : List D) (ρ : Sl), b (ds.map some ++ List.replicate nl none) ≠ .ok (.nx, ρ))
    (hb : ∀ (cdv : Value) (A : Around) (outer : List Env) (s : Shared) (H : Hp) (E : XK), Room k (A.deeper (PyProof.Rows.envOfC qual (defScope st) s.heap.objs.size f cdv)) → A.guards = some [] → fd.code = cdv → PSs (cxOf (CX P w) P w K mg base N qual (defScope st) f cdv A outer s H E) (defBody st) (tSX K F (fun cls d _ H => E cls d H) b)) :
    FnX P w K mg base (k + 1) f fd ps (spX K n F.rt (runP nl b)) := by
  refine fnx_ok Fu S (fun vs H Q E h => ?_) (fun cdv A outer s H vs Q E hr hgu hcd h => ?_)
  · obtain ⟨Z, ds, h1, _⟩ := h
    rw [h1, hn]
  · obtain ⟨Z, ds, h1, rl, zt, tb, h⟩ := h
    refine ⟨_, hb cdv A outer s H E hr hgu hcd, ?_⟩
    have hlen := rl.len
    have hvl : vs.length ≤ N.length := by omega
    have rs : RS K F.τ Z (fun _ => none) H (ds.map some ++ List.replicate nl none) (L2.start N vs) := by
      refine ⟨fun i d e => ?_, fun a i e => (by cases e), fun a i e => (by cases e), zt, by rw [start_len hvl]; simp; omega, tb⟩
      have e := getElem?_app e
      obtain ⟨v, hv, r⟩ := rl.get e
      refine ⟨v, start_get hv, ?_⟩
      rw [hF i (by have := (List.getElem?_eq_some_iff.mp e).1; omega)]
      exact r
    rcases h with ⟨d, e, kk⟩ | ⟨c, e, kk⟩
    · unfold runP at e
      split at e
      · rename_i d' ρ' e'
        cases e
        refine ⟨Z, fun _ => none, _, rs, .inl ⟨_, ρ', e', fun v σ' Z' own' H' S rs' fx r gv x => kk v Z' H' S x.z (fun a z => ?_) rs'.zt ⟨fun a o e n => x.keep a o e (.inl rfl), x.tk, x.live⟩ r fun a s => ?_⟩⟩
        · rcases x.zn a z with z | z | ⟨i, z, _⟩
          · exact .inl z
          · exact .inr z
          · cases z
        · obtain ⟨g1, g2, g3, g4⟩ := gv a s
          refine ⟨?_, g3, g4⟩
          rcases g1 with g | ⟨i, g, _⟩
          · exact g
          · cases g
      · rename_i ρ' e'
        cases e
        rcases hrt with hrt | hrt
        · refine ⟨Z, fun _ => none, _, rs, .inl ⟨_, ρ', e', fun σ' Z' own' H' rs' fx x => kk .non Z' H' (fun _ => False) x.z (fun a z => ?_) rs'.zt ⟨fun a o e n => x.keep a o e (.inl rfl), x.tk, x.live⟩ (by rw [hrt]; simp only [R, RSh]) fun a s => s.elim⟩⟩
          rcases x.zn a z with z | z | ⟨i, z, _⟩
          · exact .inl z
          · exact .inr z
          · cases z
        · exact absurd e' (hrt ds ρ')
      · cases e
      · cases e
    · unfold runP at e
      split at e
      · cases e
      · cases e
      · rename_i d' e'
        cases e
        exact ⟨Z, fun _ => none, _, rs, .inr ⟨c, e', fun σ' Z' own' H' x C hC => kk C hC H' ⟨fun a o e n => x.keep a o e (.inl rfl), x.tk, x.live⟩⟩⟩
      · cases e
end
section
variable [Tb] {X : Cx} {W : WX} {τ : Nat → OT} {q : Bool} {k : Nat} {f : Addr} {fd : FuncData} {ps : List Str} {sp : Sp} {x : Str} {p pos : Pos} {e : Expr} {es : List Expr} {t : TA} {ms : M (List D)} {rt : OT} {n : Nat} {G : List D → Res D}
theorem pe_callX (F : FnX X.prog X.w X.K X.mg X.base k f fd ps sp) (tk : Takes X W) (hr : Room k X.A) (hgu : X.A.guards = some []) (hg : Gl X x) (hm : X.mg x = some (.ref f)) (hk : PySem.W.keepIn X.K (.ref f) = true) (hb : Binds X.K fd ps [])
    (ha : PA X (e :: es) t) (hdb : (x == ("__debug__" : Str)) = false := by decide) (he : starEach (e :: es) X.env = (false, eval e X.env) :: starEach es X.env := by rfl) (hpl : (backTo pos (starEach es X.env)).any (·.1) = false := by rfl) :
    PE X (.Call (.Name x p) (e :: es) [] pos) (fun σ H Q => t σ H fun vs H1 => sp vs H1 Q fun cls d H' => W cls d σ H') := by
  constructor
  intro pins s0 σ H Q I0 hw
  apply wpAny_Call_Name_kw (ld_glob I0 hg hm _ hdb)
  apply PySem.W.callWith_K (h₀ := X.base) I0.ok.mod.kin hk _ he hpl
  apply thn (ha.run pos pins s0 σ H _ I0 hw)
  rintro us s1 ⟨vs, H1, I1, rel, hsp⟩
  refine ⟨I1.kIn, ?_⟩
  have hl : (us ++ []).length = ps.length := by rw [List.append_nil, ← rel.length]; exact F.len _ _ _ _ hsp
  have hbd := hb s1 us I1.kIn hl
  rw [List.append_nil] at hbd
  apply wpAny_call
  apply codeAny_mono (F.run X.A X.stack s1 H1 ⟨us, []⟩ us vs Q _ hr hgu I1.env0 hbd rel hsp)
  intro res s2 hres
  cases res with
  | error er => exact tk _ _ (XE.of_call I1 (fun cls d H' h => h) hres)
  | ok fl =>
    cases fl with
    | ret u => exact I1.after hres
    | next => exact hres.elim
    | brk => exact hres.elim
    | cont => exact hres.elim
theorem callX_of : ∀ σ H Q, tX X.K τ W q (.ow rt) (mCallP G (mOkQ ms)) σ H Q → (∀ ds (d : D) ρ ρ', ms ρ = .ok (ds, ρ') → ds.length = n) → tAs X.K τ q ms σ H fun vs H1 => spX X.K n rt G vs H1 Q fun cls d H' => W cls d σ H' := fun σ H Q ⟨Z, own, ρ, rs, h⟩ hn => by
  have key : ∃ ds, ms ρ = .ok (ds, ρ) ∧ ((∃ d, G ds = .ok d ∧ ∀ v Z' own' H' S, RS X.K τ Z' own' H' ρ σ → Rm X.K Z' own' H' (.ow rt) d v S → NewR H Z' own' H' S → Ext q Z own H Z' own' H' → Q v H') ∨ ∃ c, G ds = .exc (.str c) ∧ ∀ Z' own' H', RS X.K τ Z' own' H' ρ σ → Ext q Z own H Z' own' H' → Wn X.K W c σ H') := by
    rcases h with ⟨d, ρ', e, kk⟩ | ⟨c, e, kk⟩
    · obtain ⟨ds, ρ1, e1, e⟩ := bind_ok e
      split at e
      · rename_i d' e2
        cases e
        obtain ⟨e3, rfl⟩ := mOkQ_ok e1
        exact ⟨ds, e3, .inl ⟨_, e2, kk⟩⟩
      · cases e
      · cases e
    · rcases bind_cases e with e | ⟨ds, ρ1, e1, e⟩
      · exact absurd e mOkQ_no
      · split at e
        · cases e
        · rename_i d' e2
          cases e
          exact ⟨ds, (mOkQ_ok e1).1, .inr ⟨c, e2, kk⟩⟩
        · cases e
  obtain ⟨ds, e1, h⟩ := key
  refine ⟨Z, own, ρ, ds, _, rs, e1, fun vs Z1 own1 H1 rs1 rl x1 => ?_⟩
  refine ⟨Z1, ds, by rw [← rl.len]; exact hn ds .non ρ _ e1, rl, rs1.zt, rs1.tb, ?_⟩
  rcases h with ⟨d, e2, kk⟩ | ⟨c, e2, kk⟩
  · refine .inl ⟨d, e2, fun v Z2 H2 S h1 h2 h3 g r hS => ?_⟩
    have ow : ∀ a, H1 a = none → own1 a = none := fun a e => by
      cases ho : own1 a with
      | none => rfl
      | some i => obtain ⟨ys, hy, _⟩ := rs1.ls a i ho; rw [e] at hy; cases hy
    refine kk v Z2 own1 H2 S ⟨fun i d e => ?_, fun a i e => ?_, fun a i e z => ?_, h3, rs1.len, g.tk.ok rs1.tb⟩ r (fun a s => ⟨x1.back (hS a s).1, ow a (hS a s).1, (hS a s).2⟩)
      (x1.trans' (fun z => ⟨z, rfl⟩) (⟨h1, fun a z => (h2 a z).elim .inl fun z => .inr (.inl z), fun a i z => .inl z, fun a o e _ n => g.at_ a o e n, g.live, g.tk⟩ : ExtF fxT true Z1 own1 H1 Z2 own1 H2))
    · obtain ⟨w, a1, a2⟩ := rs1.sl i d e
      exact ⟨w, a1, R.pres h1 (fun a o e _ n => g.at_ a o e n) (fun a o _ e n => g.at_ a o e n) (fun a xs _ e n => g.at_ a _ e n) a2⟩
    · obtain ⟨xs, hx, hm⟩ := rs1.ls a i e
      exact ⟨xs, g.at_ a _ hx hm.nt, hm⟩
    · rcases h2 a z with z | z
      · exact rs1.dz a i e z
      · obtain ⟨xs, hx, _⟩ := rs1.ls a i e
        rw [z] at hx; cases hx
  · exact .inr ⟨c, e2, fun C hC H2 g => kk Z1 own1 H2 (rs1.growO g) (x1.trans' (fun z => ⟨z, rfl⟩) (ExtF.growO g)) C hC⟩
/-- a call that may raise -/
theorem x_call (Fu : FnX X.prog X.w X.K X.mg X.base k f fd ps (spX X.K n rt G)) (tk : Takes X W) (hk : PySem.W.keepIn X.K (.ref f) = true) (hb : Binds X.K fd ps []) (hr : Room k X.A) (hgu : X.A.guards = some []) (hm : X.mg x = some (.ref f)) (ha : PA X (e :: es) (tAs X.K τ q ms)) (hn : ∀ ds (d : D) ρ ρ', ms ρ = .ok (ds, ρ') → ds.length = n) (hg : Gl X x := by rfl)
    (hdb : (x == ("__debug__" : Str)) = false := by decide) (he : starEach (e :: es) X.env = (false, eval e X.env) :: starEach es X.env := by rfl) (hpl : (backTo pos (starEach es X.env)).any (·.1) = false := by rfl) :
    PE X (.Call (.Name x p) (e :: es) [] pos) (tX X.K τ W q (.ow rt) (mCallP G (mOkQ ms))) := (pe_callX Fu tk hr hgu hg hm hk hb ha hdb he hpl).mono fun σ H Q h => callX_of σ H Q h hn
end
end CL
namespace CL
open PySem PySem.Spec L2
set_option autoImplicit false
/-- what is known of an own class of exceptions -/
structure ExcF (K : PySem.W.Frag) (mg : Str → Option Value) (x : Str) (C : Addr) : Prop where
  q : PySem.W.excIn K C [.type "ValueError", .type "Exception", .type "BaseException", .type "object"] "ValueError.__new__" = true
  g : mg x = some (.ref C)
  k : PySem.W.keepIn K (.ref C) = true
  s : PySem.W.subIn K (.ref C) (.type "BaseException") = some true
  t : PySem.W.typeIn K (.ref C) = some (.type "type")
  n : PySem.W.nsIn K mainGlobals x = some (some (.ref C))
def sRaise (c : Str) (m : M D) : MS := bind m fun _ => fun _ => .exc (.str c)
section
variable [Tb] {X : Cx} {F : Fr} {W : WX} {τ : Nat → OT} {q : Bool} {e : Expr} {ma me : M D} {pos p cp : Pos} {x : Str} {C : Addr}
theorem sx_raise (hE : ExcF X.K X.mg x C) (tk : Takes X W) (he : PE X e (tE X.K F.τ q .sh me)) (hg : Gl X x := by rfl) (hc : X.calm = true := by rfl) (hs : starEach [e] X.env = (false, eval e X.env) :: starEach [] X.env := by rfl) (hdb : (x == ("__debug__" : Str)) = false := by decide) :
    PS X (.Raise (some (.Call (.Name x p) [e] [] cp)) none pos) (tSX X.K F W (sRaise x (mOk me))) :=
  (ps_raise hc tk (SkE.pmk_own1 PySem.F.excBase_ValueError hE.q hE.g hE.k (raises_own hE.s hE.t) hg he hs hdb)).mono fun E σ H ⟨Z, own, ρ, rs, h⟩ => by
    rcases h with ⟨f, ρ', e, o⟩ | ⟨c, e, k⟩
    · obtain ⟨y, ρ1, e1, e⟩ := bind_ok e
      cases e
    · rcases bind_cases e with e | ⟨y, ρ1, e1, e⟩
      · exact absurd e mOk_no
      · cases e
        exact ⟨Z, own, ρ, y, ρ1, rs, mOk_ok e1, fun v Z1 own1 H1 S rs1 rm n x1 => k σ Z1 own1 H1 x1.weak.any C hE.n⟩
end
theorem FnX.toG [Tb] {P : Program} {w : World} {K : PySem.W.Frag} {mg : Str → Option Value} {base : Heap} {k : Nat} {f : Addr} {fd : FuncData} {ps : List Str} {n : Nat} {rt : OT} {G : List D → Res D} (F : FnX P w K mg base k f fd ps (spX K n rt G)) : FnG P w K mg base k f fd ps (spP K n rt G) where
  len := fun vs H Q E h => by
    obtain ⟨Z, ds, d, h1, h2, h3, h4, h5, h6⟩ := h
    exact F.len vs H Q E ⟨Z, ds, h1, h2, h3, h4, .inl ⟨d, h5, h6⟩⟩
  run := fun A outer s0 H ar us vs Q E hr hgu e0 hb hv h => by
    obtain ⟨Z, ds, d, h1, h2, h3, h4, h5, h6⟩ := h
    refine codeAny_mono (F.run A outer s0 H ar us vs Q (fun _ _ _ => False) hr hgu e0 hb hv ⟨Z, ds, h1, h2, h3, h4, .inl ⟨d, h5, h6⟩⟩) fun res s2 hres => ?_
    cases res with
    | error er =>
      obtain ⟨_, _, _, _, _, _, _, _, _, _, _, _, hf⟩ := hres
      exact hf.elim
    | ok fl => cases fl <;> exact hres
def CalX [Tb] (P : Program) (w : World) (K : PySem.W.Frag) (mg : Str → Option Value) (base : Heap) (k : Nat) (x : Str) (n : Nat) (rt : OT) (G : List D → Res D) : Prop :=
  ∃ f fd ps, FnX P w K mg base k f fd ps (spX K n rt G) ∧ PySem.W.keepIn K (.ref f) = true ∧ Binds K fd ps [] ∧ mg x = some (.ref f)
theorem CalX.toP [Tb] {P : Program} {w : World} {K : PySem.W.Frag} {mg : Str → Option Value} {base : Heap} {k : Nat} {x : Str} {n : Nat} {rt : OT} {G : List D → Res D} (c : CalX P w K mg base k x n rt G) : CalP P w K mg base k x n rt G := by
  obtain ⟨f, fd, ps, h1, h2⟩ := c
  exact ⟨f, fd, ps, h1.toG, h2⟩
section
variable [Tb] {X : Cx} {F : Fr} {W : WX} {τ : Nat → OT} {q : Bool} {k j n : Nat} {x y : Str} {p pos np pos' epos : Pos} {e ec : Expr} {es : List Expr} {ms : M (List D)} {rt : OT} {G : List D → Res D} {m : M D} {sh : MS} {c : Value} {suite : List Stmt} {b0 : Stmt}
theorem x_c (cl : CalX X.prog X.w X.K X.mg X.base k x n rt G) (tk : Takes X W) (hr : Room j X.A) (hgu : X.A.guards = some []) (ha : PA X (e :: es) (tAs X.K τ q ms)) (hn : ∀ ds (d : D) ρ ρ', ms ρ = .ok (ds, ρ') → ds.length = n) (hj : k ≤ j := by decide) (hg : Gl X x := by rfl)
    (hdb : (x == ("__debug__" : Str)) = false := by decide) (he : starEach (e :: es) X.env = (false, eval e X.env) :: starEach es X.env := by rfl) (hpl : (backTo pos (starEach es X.env)).any (·.1) = false := by rfl) :
    PE X (.Call (.Name x p) (e :: es) [] pos) (tX X.K τ W q (.ow rt) (mCallP G (mOkQ ms))) := by
  obtain ⟨f, fd, ps, h1, h2, h3, h4⟩ := cl
  exact x_call (h1.mono hj) tk h2 h3 hr hgu h4 ha hn hg hdb he hpl
/-- try: e / except y: suite -/
def sTry (cs : Str → Bool) (m : M D) (sh : MS) : MS := fun ρ => match m ρ with
  | .ok (_, ρ') => .ok (.nx, ρ')
  | .exc (.str k) => if cs k = true then sh ρ else .bad
  | _ => .bad
theorem s_try (cs : Str → Bool) (hcs : ∀ k C, cs k = true → PySem.W.nsIn X.K mainGlobals k = some (some (.ref C)) → PySem.W.exmOne X.K (.ref C) c = some true) (tk : Takes X (fun _ _ _ _ => False))
    (hb : ∀ (W : WX) (pn : List (Addr × Obj)) (xe : Value → Shared → Prop), Takes (X.tr pn xe) W → PassesOwn (model X.prog X.w) X.A X.env xe → PE (X.tr pn xe) ec (tX X.K F.τ W q .pk m))
    (hsu : ∀ (a : Addr) (oe : Obj) (pn : List (Addr × Obj)), PSs (X.suite a ((a, oe) :: pn)) (b0 :: suite) (tS X.K F sh))
    (hc : Names X y c) (hst : X.stack = X.env :: X.outer := by rfl) (hf : X.env.frame = some X.env.locals := by rfl) (hsw : swapsWith ec none epos.line X.env = pure false := by rfl) :
    PS X (.Try [.Expr ec epos] [.ExceptHandler (some (.Name y np)) none (b0 :: suite) pos'] [] [] pos) (tS X.K F (sTry cs m sh)) :=
  (ps_try_only (tb := fun W => fun D σ H => tX X.K F.τ W q .pk m σ H fun _ H1 => D.nx σ H1) (ts := fun _ _ _ => tS X.K F sh) hst hf hc tk (fun W pn xe t hp => pss_one (ps_expr (hb W pn xe t hp) hsw)) fun a oe cls d pn _ _ => hsu a oe pn).mono fun D σ H ⟨Z, own, ρ, f, ρ', rs, e, o⟩ => by
    unfold sTry at e
    split at e
    · rename_i d ρ1 e1
      cases e
      exact ⟨Z, own, ρ, rs, .inl ⟨d, _, e1, fun v Z1 own1 H1 S rs1 rm nn x1 => o σ Z1 own1 H1 rs1 Fix.refl x1.weak.any⟩⟩
    · rename_i k e1
      split at e
      · rename_i hk
        refine ⟨Z, own, ρ, rs, .inr ⟨k, e1, fun Z1 own1 H1 rs1 x1 C hC => ⟨true, hcs k C hk hC, fun _ a _ => ?_, fun h => by cases h⟩⟩⟩
        exact ⟨Z1, own1, ρ, f, ρ', rs1, e, o.back x1.weak.any Fix.refl⟩
      · cases e
    · cases e
end
end CL
namespace CL
open PySem PySem.Spec L2
set_option autoImplicit false
def bStarts : D → D → Option D
  | .str a, .str b => some (.bl (Txt.startswith a b))
  | _, _ => none
def bSplit : D → D → Option D
  | .str a, .str b => if (b.length == 0) = false ∧ a.length + 2 ≤ 16777216 then some (.lst ((Txt.split a b).map .str)) else none
  | _, _ => none
def txsOf : List D → Option (List Str)
  | [] => some []
  | .str x :: r => (txsOf r).map (x :: ·)
  | _ => none
def bJoin : D → D → Option D
  | .str a, .lst l => (txsOf l).bind fun ys => if (ys.map (·.length)).sum + ys.length * a.length ≤ 16777216 then some (.str (Txt.join a ys)) else none
  | .str a, .tup l => (txsOf l).bind fun ys => if (ys.map (·.length)).sum + ys.length * a.length ≤ 16777216 then some (.str (Txt.join a ys)) else none
  | _, _ => none
def bIntS : List D → Option D
  | [.str a] => if a.length ≤ 640 then (PySem.intText? a).map .int else none
  | _ => none
def bInS : D → D → Option D
  | .str i, .str j => some (.bl (!(Builtin.Str.occurrences j i 0 j.length 1).isEmpty))
  | _, _ => none
theorem txsOf_rel [Tb] {K : PySem.W.Frag} {Z : Addr → Prop} {H : Hp} : ∀ {l : List D} {ys : List Str} {xs : List V}, txsOf l = some ys → RShL K Z H l xs → xs = ys.map V.str
  | [], ys, xs, h, r => by
    simp only [txsOf] at h; cases h
    simp only [RShL] at r
    exact r
  | .str x :: l, ys, xs, h, r => by
    simp only [txsOf] at h
    obtain ⟨zs, h1, rfl⟩ := Option.map_eq_some_iff.mp h
    simp only [RShL, RSh] at r
    obtain ⟨v, vs, rfl, rfl, r2⟩ := r
    rw [txsOf_rel h1 r2]
    rfl
  | .non :: _, _, _, h, _ => by simp [txsOf] at h
  | .bl _ :: _, _, _, h, _ => by simp [txsOf] at h
  | .int _ :: _, _, _, h, _ => by simp [txsOf] at h
  | .tup _ :: _, _, _, h, _ => by simp [txsOf] at h
  | .lst _ :: _, _, _, h, _ => by simp [txsOf] at h
  | .scr _ :: _, _, _, h, _ => by simp [txsOf] at h
  | .dct _ _ :: _, _, _, h, _ => by simp [txsOf] at h
  | .kdc _ _ :: _, _, _, h, _ => by simp [txsOf] at h
  | .ins _ _ _ :: _, _, _, h, _ => by simp [txsOf] at h
theorem strs_rel [Tb] {K : PySem.W.Frag} {Z : Addr → Prop} {H : Hp} : ∀ {ys : List Str}, RShL K Z H (ys.map D.str) (ys.map V.str)
  | [] => by simp [RShL]
  | y :: ys => by
    simp only [List.map_cons, RShL, RSh]
    exact ⟨_, _, rfl, rfl, strs_rel⟩
section
variable [Tb] {X : Cx} {τ : Nat → OT} {q q1 q2 : Bool} {o e : Expr} {es : List Expr} {mo me : M D} {ms : M (List D)} {apos pos : Pos}
theorem e_starts (ho : PE X o (tE X.K τ q1 .sh mo)) (he : PE X e (tE X.K τ q2 .sh me)) (hs : starEach [e] X.env = [(false, eval e X.env)] := by rfl) (hbase : attributeBase o "startswith" X.env (eval o X.env) = eval o X.env := by rfl) (hline : (apos.endLine == pos.line) = true := by rfl) :
    PE X (.Call (.Attribute o "startswith" apos) [e] [] pos) (tE X.K τ (q1 && q2) .sh (m2 bStarts mo me)) := (pe_m1 F.slot_str_startswith F.type_str_startswith mt_startswith ho he hs hbase hline).mono fun σ H Q ⟨Z, own, ρ, d, ρ', rs, e, k⟩ => by
  obtain ⟨x, ρ1, e1, f1⟩ := bind_ok e
  obtain ⟨y, ρ2, e2, f2⟩ := bind_ok f1
  obtain ⟨e3, rfl⟩ := ofO_ok f2
  clear f1 f2 e
  unfold bStarts at e3
  split at e3
  · rename_i a b
    cases e3
    refine ⟨Z, own, ρ, _, ρ1, rs, e1, fun v Z1 own1 H1 S1 rs1 rm1 _ x1 => ⟨⟨a, by simpa only [Rm, R, RSh] using rm1⟩, Z1, own1, ρ1, _, ρ', rs1, e2, fun w Z2 own2 H2 S2 rs2 rm2 _ x2 => ?_⟩⟩
    exact ⟨a, b, by simpa only [Rm, R, RSh] using rm1, congrArg (fun z => [z]) (show w = .str b by simpa only [Rm, R, RSh] using rm2), fin_sh rs2 (x1.trans x2) Grow.refl (.inl (by simp only [RSh])) NewS.none k⟩
  · cases e3
theorem e_split (ho : PE X o (tE X.K τ q1 .sh mo)) (he : PE X e (tE X.K τ q2 .sh me)) (hs : starEach [e] X.env = [(false, eval e X.env)] := by rfl) (hbase : attributeBase o "split" X.env (eval o X.env) = eval o X.env := by rfl) (hline : (apos.endLine == pos.line) = true := by rfl) :
    PE X (.Call (.Attribute o "split" apos) [e] [] pos) (tE X.K τ (q1 && q2) .sh (m2 bSplit mo me)) := (pe_split ho he hs hbase hline).mono fun σ H Q ⟨Z, own, ρ, d, ρ', rs, e, k⟩ => by
  obtain ⟨x, ρ1, e1, f1⟩ := bind_ok e
  obtain ⟨y, ρ2, e2, f2⟩ := bind_ok f1
  obtain ⟨e3, rfl⟩ := ofO_ok f2
  clear f1 f2 e
  unfold bSplit at e3
  split at e3
  · rename_i a b
    split at e3
    · rename_i hab
      cases e3
      refine ⟨Z, own, ρ, _, ρ1, rs, e1, fun v Z1 own1 H1 S1 rs1 rm1 _ x1 => ⟨⟨a, by simpa only [Rm, R, RSh] using rm1⟩, Z1, own1, ρ1, _, ρ', rs1, e2, fun w Z2 own2 H2 S2 rs2 rm2 _ x2 => ?_⟩⟩
      refine ⟨a, b, by simpa only [Rm, R, RSh] using rm1, congrArg (fun z => [z]) (show w = .str b by simpa only [Rm, R, RSh] using rm2), hab.1, hab.2, fun p hp => ?_⟩
      exact finL hp strs_rel fun v H' S g r n => fin_sh rs2 (x1.trans x2) g r n k
    · cases e3
  · cases e3
theorem e_join (ho : PE X o (tE X.K τ q1 .sh mo)) (he : PE X e (tE X.K τ q2 .sh me)) (hs : starEach [e] X.env = [(false, eval e X.env)] := by rfl) (hbase : attributeBase o "join" X.env (eval o X.env) = eval o X.env := by rfl) (hline : (apos.endLine == pos.line) = true := by rfl) :
    PE X (.Call (.Attribute o "join" apos) [e] [] pos) (tE X.K τ (q1 && q2) .sh (m2 bJoin mo me)) := (pe_join ho he hs hbase hline).mono fun σ H Q ⟨Z, own, ρ, d, ρ', rs, e, k⟩ => by
  obtain ⟨x, ρ1, e1, f1⟩ := bind_ok e
  obtain ⟨y, ρ2, e2, f2⟩ := bind_ok f1
  obtain ⟨e3, rfl⟩ := ofO_ok f2
  clear f1 f2 e
  unfold bJoin at e3
  split at e3
  · rename_i a l
    obtain ⟨ys, hy, e3⟩ := Option.bind_eq_some_iff.mp e3
    split at e3
    · rename_i hz
      cases e3
      refine ⟨Z, own, ρ, _, ρ1, rs, e1, fun v Z1 own1 H1 S1 rs1 rm1 _ x1 => ⟨⟨a, by simpa only [Rm, R, RSh] using rm1⟩, Z1, own1, ρ1, _, ρ', rs1, e2, fun w Z2 own2 H2 S2 rs2 rm2 _ x2 => ?_⟩⟩
      obtain ⟨p, xs, rfl, s1, l1⟩ := (rm2.pk0 (md := .sh) trivial).lst
      have ex := txsOf_rel hy l1
      subst ex
      exact ⟨a, p, ys, by simpa only [Rm, R, RSh] using rm1, rfl, .inl (SqL.of s1), hz, fin_sh rs2 (x1.trans x2) Grow.refl (.inl (by simp only [RSh])) NewS.none k⟩
    · cases e3
  · rename_i a l
    obtain ⟨ys, hy, e3⟩ := Option.bind_eq_some_iff.mp e3
    split at e3
    · rename_i hz
      cases e3
      refine ⟨Z, own, ρ, _, ρ1, rs, e1, fun v Z1 own1 H1 S1 rs1 rm1 _ x1 => ⟨⟨a, by simpa only [Rm, R, RSh] using rm1⟩, Z1, own1, ρ1, _, ρ', rs1, e2, fun w Z2 own2 H2 S2 rs2 rm2 _ x2 => ?_⟩⟩
      obtain ⟨p, xs, rfl, s1, l1⟩ := (rm2.pk0 (md := .sh) trivial).tup
      have ex := txsOf_rel hy l1
      subst ex
      exact ⟨a, p, ys, by simpa only [Rm, R, RSh] using rm1, rfl, .inr s1, hz, fin_sh rs2 (x1.trans x2) Grow.refl (.inl (by simp only [RSh])) NewS.none k⟩
    · cases e3
  · cases e3
theorem c_intS : CallR X (.type "int") (rFn X.K bIntS) := by
  intro pins s σ H xs us Q I r h
  obtain ⟨Z, ds, d, pl, e, k⟩ := h
  unfold bIntS at e
  split at e
  · rename_i a
    split at e
    · rename_i hl
      obtain ⟨n, hn, rfl⟩ := Option.map_eq_some_iff.mp e
      obtain ⟨v, vs, rfl, p1, p2⟩ := pl
      have hvs : vs = [] := p2
      subst hvs
      have hv : v = .str a := p1.str
      subst hv
      exact call_int_str pins s σ H _ us Q I r ⟨a, n, rfl, hn, hl, fin0 (by simp only [RSh]) k⟩
    · cases e
  · cases e
theorem o_inS : OpR X (compareOp .In) (rF2 X.K bInS) := by
  intro pins s σ H x y v u Q I r1 r2 h
  obtain ⟨Z, a, b, d, p1, p2, e, k⟩ := h
  unfold bInS at e
  split at e
  · rename_i i j
    cases e
    exact op_in_str pins s σ H x y v u Q I r1 r2 ⟨i, j, p1.str, p2.str, fin0 (by simp only [RSh]) k⟩
  · cases e
end
end CL
namespace CL
open PySem PySem.Spec L2
set_option autoImplicit false
theorem takes_no {X : Cx} : Takes X (fun _ _ _ _ => False) := fun _ _ h => by
  obtain ⟨_, _, _, _, _, _, _, _, _, _, _, _, _, _, _, _, w⟩ := h
  exact w.elim
theorem cs_one {K : PySem.W.Frag} {c : Value} {x : Str} {C0 : Addr} (h1 : PySem.W.nsIn K mainGlobals x = some (some (.ref C0))) (h2 : PySem.W.exmOne K (.ref C0) c = some true) : ∀ (k : Str) (C : Addr), (k == x) = true → PySem.W.nsIn K mainGlobals k = some (some (.ref C)) → PySem.W.exmOne K (.ref C) c = some true := fun k C hk hn => by
  have e := eq_of_beq hk
  subst e
  rw [h1] at hn
  cases hn
  exact h2
end CL
namespace CLTX
open PySem PySem.Spec L2 CL TL
set_option autoImplicit false
/-- the text of a number -/
def numT (n : Int) : Str := Str.ofString (toString n)
/-- its signs -/
def sgL (n : Int) : List Nat := if n < 0 then 45 :: numL n.natAbs else numL n.natAbs
theorem tl_numT (n : Int) : tl (numT n) = sgL n := by
  cases n with
  | ofNat m =>
    have h : ¬ (Int.ofNat m < 0) := by simp
    unfold sgL
    rw [if_neg h]
    exact tl_num m
  | negSucc k =>
    have h : Int.negSucc k < 0 := Int.negSucc_lt_zero k
    unfold sgL
    rw [if_pos h]
    unfold numT
    rw [tl_ofString]
    show ("-" ++ Nat.repr (k + 1)).toList.map Char.toNat = _
    rw [String.toList_append, List.map_append, Nat.toList_repr]
    rfl
theorem sgL_free {n : Int} {s : Nat} (h : s < 48 ∨ 57 < s) (h2 : s ≠ 45) : s ∉ sgL n := by
  unfold sgL
  split
  · intro hm
    rcases List.mem_cons.mp hm with e | hm
    · exact h2 e
    · exact numL_free h hm
  · exact numL_free h
theorem numL_head {m : Nat} {r : List Nat} : numL m = 48 :: r → m = 0 := by
  induction m using Nat.strongRecOn generalizing r with
  | _ m ih =>
    intro h
    by_cases hm : m < 10
    · rw [numL_lt hm] at h
      injection h with h1 _
      omega
    · rw [numL_step (by omega)] at h
      cases e : numL (m / 10) with
      | nil => exact absurd e (numL_ne _)
      | cons c t =>
        rw [e, List.cons_append] at h
        injection h with h1 h2
        have := ih (m / 10) (by omega) (r := t) (by rw [e, h1])
        omega
theorem numL_len30 {m : Nat} (h : m < 10 ^ 30) : (numL m).length ≤ 30 := numL_len (by decide) h
theorem sgL_len {n : Int} (h : n.natAbs < 10 ^ 30) : (sgL n).length ≤ 31 := by
  have := numL_len30 h
  unfold sgL
  split
  · rw [List.length_cons]; omega
  · omega
theorem numT_len {n : Int} (h : n.natAbs < 10 ^ 30) : (numT n).length ≤ 31 := by
  rw [len_tl, tl_numT]; exact sgL_len h
theorem numT_reads {n : Int} (h : n.natAbs < 10 ^ 30) : PySem.intText? (numT n) = some n := by
  have hl := numT_len h
  have e := tl_numT n
  unfold sgL at e
  by_cases hn : n < 0
  · rw [if_pos hn] at e
    rw [intText_neg e (numL_digits _) (numL_ne _) (by omega), numL_val]
    congr 1
    omega
  · rw [if_neg hn] at e
    rw [intText_digits (by rw [show (numT n).cps.toList = _ from e]; exact numL_digits _) (by rw [show (numT n).cps.toList = _ from e]; exact numL_ne _) (by omega), show (numT n).cps.toList = _ from e, numL_val]
    congr 1
    omega
theorem c_intS {n : Int} (h : n.natAbs < 10 ^ 30) : bIntS [.str (numT n)] = some (.int n) := by
  have hl := numT_len h
  unfold bIntS
  dsimp only
  rw [if_pos (by omega), numT_reads h]
  rfl
theorem c_str {n : Int} (h : n.natAbs < 10 ^ 30) : bStr [.int n] = some (.str (numT n)) := by
  have : n.natAbs < bigR := Nat.lt_of_lt_of_le h (by unfold bigR; exact Nat.le_trans (by decide) (Nat.pow_le_pow_right (by decide) (show 100 ≤ 1900 by decide)))
  unfold bStr
  dsimp only
  rw [if_pos this]
  rfl
theorem starts_tl (x y : Str) : Txt.startswith x y = decide ((tl x).take (tl y).length = tl y) := by
  unfold Txt.startswith
  rw [StrLaws.subAt_eq, List.drop_zero, len_tl y, len_tl x, Nat.zero_add]
  by_cases h : (tl x).take (tl y).length = tl y
  · have hl : (tl y).length ≤ (tl x).length := by
      have := congrArg List.length h
      rw [List.length_take] at this
      omega
    rw [decide_eq_true hl, decide_eq_true h, Bool.true_and, h]
    exact beq_self_eq_true _
  · simp only [h, decide_false, Bool.and_eq_false_iff]
    exact .inr (beq_false_of_ne h)
theorem tl_cutS (z : Str) (lo hi : Option Int) : tl (cutS z lo hi) = cutD (tl z) lo hi := by
  unfold cutD
  rw [← len_tl z]
  rfl
theorem cutD_from {α : Type} (l : List α) (k : Nat) : cutD l (some (k : Int)) none = l.drop k := by
  unfold cutD
  rw [HT.sIx_nat, HT.sIx_none]
  rcases Nat.le_total k l.length with h | h
  · rw [Nat.min_eq_left h]
    exact List.take_of_length_le (by rw [List.length_drop]; omega)
  · rw [Nat.min_eq_right h, List.drop_length, List.drop_eq_nil_of_le h, List.take_nil]
theorem starts_minus (n : Int) : Txt.startswith (numT n) "-" = decide (n < 0) := by
  rw [starts_tl, tl_numT]
  unfold sgL
  split
  · rename_i h
    rw [decide_eq_true h]
    exact decide_eq_true rfl
  · rename_i h
    rw [decide_eq_false h]
    refine decide_eq_false fun e => ?_
    have e1 : tl (Str.ofString "-") = [45] := by rw [tl_ofString]; rfl
    rw [e1] at e
    cases hc : numL n.natAbs with
    | nil => exact numL_ne _ hc
    | cons c t =>
      rw [hc] at e
      injection e with e2 _
      exact numL_free (n := n.natAbs) (s := 45) (by decide) (by rw [hc, e2]; simp)
/-- the figures of a number's text -/
theorem figures_is (n : Int) : (if n < 0 then cutS (numT n) (some 1) none else numT n) = ⟨(numL n.natAbs).toArray⟩ := by
  apply ext_tl
  split
  · rename_i h
    rw [tl_cutS, tl_numT, show (1 : Int) = ((1 : Nat) : Int) from rfl, cutD_from]
    unfold sgL
    rw [if_pos h]
    rfl
  · rename_i h
    rw [tl_numT]
    unfold sgL
    rw [if_neg h]
theorem fig_in : ∀ c : Nat, 48 ≤ c → c ≤ 57 → bInS (.str ⟨#[c]⟩) (.str "0123456789") = some (.bl true) := by
  intro c h1 h2
  obtain ⟨k, rfl, hk⟩ : ∃ k, c = 48 + k ∧ k < 10 := ⟨c - 48, by omega, by omega⟩
  clear h1 h2
  have : ∀ k : Fin 10, Builtin.Str.occurrences (Str.ofString "0123456789") ⟨#[48 + k.val]⟩ 0 (Str.ofString "0123456789").length 1 = [k.val] := by decide +kernel
  unfold bInS
  dsimp only
  rw [this ⟨k, hk⟩]
  rfl
theorem zero_word (n : Int) : numT n = Str.ofString "0" ↔ n = 0 := by
  constructor
  · intro h
    have e := tl_numT n
    rw [h, tl_ofString] at e
    unfold sgL at e
    split at e
    · injection e with e1 _
      exact absurd e1 (by decide)
    · have := numL_head (m := n.natAbs) (r := []) e.symm
      omega
  · rintro rfl; rfl
/-- a row of numbers -/
def rowT (ns : List Int) : Str := Txt.join " " (ns.map numT)
theorem tl_sp : tl (Str.ofString " ") = [32] := by rw [tl_ofString]; rfl
theorem tl_nl : tl (Str.ofString "\n") = [10] := by rw [tl_ofString]; rfl
theorem split_row {ns : List Int} (h : ns ≠ []) : Txt.split (rowT ns) " " = ns.map numT := by
  refine split_join tl_sp (by decide +kernel) (fun e => h (List.map_eq_nil_iff.mp e)) fun p hp => ?_
  obtain ⟨n, _, rfl⟩ := List.mem_map.mp hp
  rw [tl_numT]
  exact sgL_free (by decide) (by decide)
theorem joinL_mem {S : List Nat} {c : Nat} : ∀ {L : List (List Nat)}, c ∈ joinL S L → c ∈ S ∨ ∃ p ∈ L, c ∈ p
  | [], h => by simp [joinL] at h
  | [p], h => .inr ⟨p, by simp, h⟩
  | p :: q :: r, h => by
    simp only [joinL, List.mem_append] at h
    rcases h with h | h | h
    · exact .inr ⟨p, by simp, h⟩
    · exact .inl h
    · rcases joinL_mem h with h | ⟨z, hz, h⟩
      · exact .inl h
      · exact .inr ⟨z, List.mem_cons_of_mem _ hz, h⟩
theorem joinL_len {S : List Nat} {k : Nat} : ∀ {L : List (List Nat)}, (∀ p ∈ L, p.length ≤ k) → (joinL S L).length ≤ L.length * (k + S.length)
  | [], _ => by simp [joinL]
  | [p], h => by
    have := h p (by simp)
    simp only [joinL, List.length_singleton]; omega
  | p :: q :: r, h => by
    have h1 := h p (by simp)
    have h2 := joinL_len (S := S) (k := k) (L := q :: r) fun z hz => h z (List.mem_cons_of_mem _ hz)
    simp only [joinL, List.length_append]
    rw [List.length_cons, Nat.add_mul]
    omega
theorem joinL_snoc {S p : List Nat} : ∀ {L : List (List Nat)}, L ≠ [] → joinL S (L ++ [p]) = joinL S L ++ (S ++ p)
  | [], h => absurd rfl h
  | [q], _ => by simp [joinL]
  | q :: r :: t, _ => by
    have := joinL_snoc (S := S) (p := p) (L := r :: t) (by simp)
    simp only [List.cons_append] at this ⊢
    simp only [joinL, this, List.append_assoc]
theorem tl_joinT (y : Str) (parts : List Str) : tl (Txt.join y parts) = joinL (tl y) (parts.map tl) := by rw [join_eq, tl_join]
theorem join_snoc {y p : Str} {L : List Str} (h : L ≠ []) : Txt.join y (L ++ [p]) = Txt.join y L ++ y ++ p := by
  apply ext_tl
  rw [tl_joinT, List.map_append, List.map_singleton, joinL_snoc (by simpa using h), tl_append, tl_append, tl_joinT, List.append_assoc]
theorem row_free {ns : List Int} {s : Nat} (h : s < 48 ∨ 57 < s) (h2 : s ≠ 45) (h3 : s ≠ 32) : s ∉ tl (rowT ns) := by
  unfold rowT
  rw [tl_joinT, tl_sp]
  intro hm
  rcases joinL_mem hm with hm | ⟨p, hp, hm⟩
  · rw [List.mem_singleton] at hm; exact h3 hm
  · rw [List.map_map] at hp
    obtain ⟨n, _, rfl⟩ := List.mem_map.mp hp
    rw [Function.comp_apply, tl_numT] at hm
    exact sgL_free h h2 hm
theorem row_len {ns : List Int} (h : ∀ n ∈ ns, n.natAbs < 10 ^ 30) : (rowT ns).length ≤ ns.length * 32 := by
  rw [len_tl]
  unfold rowT
  rw [tl_joinT, tl_sp]
  have := joinL_len (S := [32]) (k := 31) (L := (ns.map numT).map tl) (by
    intro p hp
    rw [List.map_map] at hp
    obtain ⟨n, hn, rfl⟩ := List.mem_map.mp hp
    rw [Function.comp_apply, tl_numT]
    exact sgL_len (h n hn))
  simpa using this
theorem txs_strs : ∀ ys : List Str, txsOf (ys.map D.str) = some ys
  | [] => rfl
  | y :: ys => by simp [txsOf, txs_strs ys]
theorem sum_le_of {k : Nat} : ∀ {l : List Nat}, (∀ x ∈ l, x ≤ k) → l.sum ≤ l.length * k
  | [], _ => by simp
  | a :: l, h => by
    have h1 := h a (by simp)
    have h2 := sum_le_of (l := l) fun x hx => h x (List.mem_cons_of_mem _ hx)
    simp only [List.sum_cons, List.length_cons, Nat.add_mul]
    omega
/-- join, of texts that are not too long -/
theorem join_st {y : Str} {ys : List Str} {k : Nat} (h : ∀ x ∈ ys, x.length ≤ k) (hk : ys.length * (k + y.length) ≤ 16777216) : bJoin (.str y) (.lst (ys.map .str)) = some (.str (Txt.join y ys)) := by
  unfold bJoin
  dsimp only
  rw [txs_strs]
  have h1 := sum_le_of (k := k) (l := ys.map (·.length)) (by
    intro x hx
    obtain ⟨z, hz, rfl⟩ := List.mem_map.mp hx
    exact h z hz)
  rw [List.length_map] at h1
  rw [Nat.mul_add] at hk
  simp only [Option.bind_some]
  rw [if_pos (by omega)]
theorem split_st {a b : Str} (h : a.length ≤ 16777000) (hb : tl b ≠ []) : bSplit (.str a) (.str b) = some (.lst ((Txt.split a b).map .str)) := by
  have h0 : (b.length == 0) = false := by
    refine beq_false_of_ne fun e => hb ?_
    rw [len_tl] at e
    exact List.length_eq_zero_iff.mp e
  unfold bSplit
  dsimp only
  rw [if_pos ⟨h0, by omega⟩]
end CLTX
namespace CLTX
open PySem PySem.Spec L2 CL TL
set_option autoImplicit false
section
variable {α β : Type} {m : M α} {f : α → M β} {ρ : Sl} {c : Str}
/-- m raises -/
def Xc {α : Type} (m : M α) (ρ : Sl) (c : Str) : Prop := m ρ = .exc (.str c)
theorem Xc_bindL (h : Xc m ρ c) : Xc (bind m f) ρ c := by
  unfold Xc at h ⊢
  unfold CL.bind
  rw [h]
theorem Xc_bindR (h : W m ρ fun a ρ' => Xc (f a) ρ' c) : Xc (bind m f) ρ c := by
  obtain ⟨a, ρ', e, q⟩ := h
  unfold Xc at q ⊢
  unfold CL.bind
  rw [e]
  exact q
theorem Xc_seqL {a b : MS} (h : Xc a ρ c) : Xc (sSeq a b) ρ c := Xc_bindL h
theorem Xc_seqR {a b : MS} (h : W a ρ fun f ρ' => f = .nx ∧ Xc b ρ' c) : Xc (sSeq a b) ρ c := Xc_bindR (h.mono fun f ρ' ⟨e, q⟩ => by subst e; exact q)
theorem Xc_if {cc : M D} {a b : MS} (h : W cc ρ fun x ρ' => (x = .bl true ∧ Xc a ρ' c) ∨ (x = .bl false ∧ Xc b ρ' c)) : Xc (sIf cc a b) ρ c := Xc_bindR (h.mono fun x ρ' q => by
  rcases q with ⟨rfl, q⟩ | ⟨rfl, q⟩ <;> exact q)
theorem Xc_raise {md : M D} (h : W md ρ fun _ _ => True) : Xc (sRaise c md) ρ c := Xc_bindR (h.mono fun _ _ _ => rfl)
theorem Xc_asg {p : Pt} {e : M D} (h : Xc e ρ c) : Xc (sAsg p e) ρ c := Xc_bindL h
theorem Xc_for {p : Pt} {it : M (List D)} {b : MS} (h : W it ρ fun l ρ' => Xc (forL p b l) ρ' c) : Xc (sFor p it b) ρ c := Xc_bindR h
theorem Xc_forX {p : Pt} {b : MS} {x : D} {xs : List D} {ρ1 : Sl} (hp : p x ρ = some ρ1) (h : Xc b ρ1 c) : Xc (forL p b (x :: xs)) ρ c := by
  unfold Xc at h ⊢
  rw [forL]
  simp only [hp, h]
theorem Xc_forN {p : Pt} {b : MS} {x : D} {xs : List D} {ρ1 : Sl} (hp : p x ρ = some ρ1) (h : W b ρ1 fun f ρ2 => f = .nx ∧ Xc (forL p b xs) ρ2 c) : Xc (forL p b (x :: xs)) ρ c := by
  obtain ⟨f, ρ2, e, rfl, q⟩ := h
  unfold Xc at q ⊢
  rw [forL]
  simp only [hp, e]
  exact q
theorem Xc_call {F : List D → Res D} {ms : M (List D)} (h : W ms ρ fun ds _ => F ds = .exc (.str c)) : Xc (mCallP F ms) ρ c := Xc_bindR (h.mono fun ds ρ' q => by
  unfold Xc
  dsimp only
  rw [q])
theorem Xc_runP {nl : Nat} {b : MS} {ds : List D} (h : Xc b (ds.map some ++ List.replicate nl none) c) : runP nl b ds = .exc (.str c) := by
  unfold runP
  rw [h]
def AtQ (ρ' ρ : Sl) (P : Prop) : Prop := ρ' = ρ ∧ P
theorem AtQ_mk {P : Prop} (h : P) : AtQ ρ ρ P := ⟨rfl, h⟩
theorem W_mOkQ' {Q : α → Sl → Prop} : W (mOkQ m) ρ Q ↔ W m ρ fun a ρ' => AtQ ρ' ρ (Q a ρ) := W_mOkQ
end
def B_is_number_word : MS := (sSeq (sAsg (pN 1) (mV 0)) (sSeq (sIf (m2 bStarts (mV 0) (mC (.str "-"))) (sAsg (pN 1) (mSl (mV 0) (some (mC (.int 1))) none)) (sK .nx)) (sSeq (sIf (mOr (m1 bNot (mChain bLe bLe (mC (.int 1)) (mN bLen (mCons (mV 1) mNil)) (mC (.int 30)))) (m1 bNot (mN bAll (mCons (mComp [2] (pN 2) (mIt (mV 1)) mYes (m2 bInS (mV 2) (mC (.str "0123456789")))) mNil)))) (sRet (mC (.bl false))) (sK .nx)) (sRet (mOr (m2 bEq (mV 0) (mC (.str "0"))) (m2 bNe (m2 bIx (mV 1) (mC (.int 0))) (mC (.str "0"))))))))
def F_is_number_word : List D → Res D := runP 2 B_is_number_word
def B_numbers_of : MS := (sSeq (mOk (sAsg (pN 2) (m2 bSplit (mV 0) (mC (.str " "))))) (sSeq (sIf (mOk (mOr (m2 bNe (mN bLen (mCons (mV 2) mNil)) (mV 1)) (m1 bNot (mN bAll (mCons (mComp [3] (pN 3) (mIt (mV 2)) mYes (mCallP F_is_number_word (mCons (mV 3) mNil))) mNil))))) (sRaise "NoText" (mOk (mC (.str "no row of so many numbers")))) (sK .nx)) (mOk (sRet (mN bTuple (mCons (mComp [3] (pN 3) (mIt (mV 2)) mYes (mN bIntS (mCons (mV 3) mNil))) mNil))))))
def F_numbers_of : List D → Res D := runP 2 B_numbers_of
def B_show_row : MS := (sRet (m2 bJoin (mC (.str " ")) (mComp [1] (pN 1) (mIt (mV 0)) mYes (mN bStr (mCons (mV 1) mNil)))))
def F_show_row : List D → Res D := runP 1 B_show_row
theorem runP_is {nl : Nat} {b : MS} {ds : List D} {d : D} (h : W b (ds.map some ++ List.replicate nl none) fun f _ => f = .ret d) : runP nl b ds = .ok d := by
  obtain ⟨f, ρ', e, rfl⟩ := h
  unfold runP
  rw [e]
local macro_rules | `(tactic| walk_at "o") => `(tactic| ((try simp only [backA, List.set_cons_zero, List.set_cons_succ, wipeD, List.map_cons, List.map_nil, List.cons_append, List.nil_append, List.replicate_succ, List.replicate_zero]); first | done | rfl))
local macro_rules | `(tactic| walk_at "b") => `(tactic| first
  | with_reducible exact Nb.lit
  | ((with_reducible apply Nb.mul) <;> walk_at "b")
  | ((with_reducible apply Nb.add) <;> walk_at "b")
  | ((with_reducible apply Nb.sub) <;> walk_at "b")
  | ((with_reducible apply Nb.neg) <;> walk_at "b")
  | ((with_reducible apply Nb.fdiv) <;> walk_at "b")
  | ((with_reducible apply Nb.fmod); (· walk_at "z"); (· walk_at "b"))
  | ((with_reducible apply Nb.max) <;> walk_at "b")
  | ((with_reducible apply Nb.min) <;> walk_at "b")
  | ((with_reducible apply Nb.ite) <;> walk_at "b")
  | with_reducible assumption
  | with_reducible exact Nb.le (by assumption)
  | with_reducible exact Nb.nle (by assumption)
  | with_reducible exact Nb.lt (by assumption)
  | ((with_reducible apply Nb.rng (by assumption) (by assumption)) <;> walk_at "b")
  | ((with_reducible apply Nb.rngE (by assumption) (by assumption)) <;> walk_at "b")
  | with_reducible exact Nb.self _)
local macro_rules | `(tactic| walk_at "z") => `(tactic| first | decide | with_reducible assumption | omega | exact fmod_nn (by omega) | exact fmod_lt (by omega))
local macro_rules | `(tactic| walk_at "e") => `(tactic| first
  | ((with_reducible refine is_ev ?_); first
    | ((with_reducible apply mul_st); (· walk_at "b"); (· walk_at "b"); (· rfl))
    | ((with_reducible apply mul_s1); (· walk_at "b"); (· rfl))
    | ((with_reducible apply mul_s2); (· walk_at "b"); (· rfl))
    | ((with_reducible apply div_st); (· walk_at "z"); (· walk_at "b"); (· rfl))
    | ((with_reducible apply mod_st); (· walk_at "z"))
    | with_reducible apply tup_pt
    | with_reducible apply tup_ln
    | ((with_reducible apply tup_st); (· rfl))
    | ((with_reducible apply lst_st); (· rfl))
    | with_reducible apply eqi_st
    | with_reducible apply nei_st
    | with_reducible apply eqp_st
    | with_reducible apply nep_st
    | with_reducible apply eqp_st'
    | with_reducible apply nep_st'
    | with_reducible apply eqb_st
    | with_reducible apply neb_st
    | with_reducible apply isb_st
    | with_reducible apply eqs_st
    | with_reducible apply nes_st
    | with_reducible refine ixl0 ?_
    | with_reducible refine ixl1 ?_
    | with_reducible refine ix2bi (fun _ _ _ => ?_)
    | ((with_reducible refine ix4i ?_ ?_ (fun _ _ _ => ?_)); (· walk_at "z"); (· walk_at "z"))
    | ((with_reducible refine ix2i ?_ ?_ (fun _ _ _ => ?_)); (· walk_at "z"); (· walk_at "z"))
    | ((with_reducible refine ix3i ?_ ?_ (fun _ _ _ => ?_)); (· walk_at "z"); (· walk_at "z"))
    | refine ⟨_, rfl, ?_⟩)
  | ((with_reducible refine fill_st ?_); refine ⟨_, rfl, ?_⟩; (try dsimp only))
  | ((with_reducible apply and_go rfl); (· (intro _; (repeat walk_at "s"); with_reducible exact ⟨rfl, rfl⟩)))
  | ((with_reducible refine is_chain ?_); (apply chain_go rfl); (· (intro _; (repeat walk_at "s"); exact ⟨rfl, rfl⟩)))
  | ((with_reducible refine draw_step (by assumption) ?_ ?_ (fun _ _ _ _ _ => ?_)); (· walk_at "z"); (· walk_at "z"))
  | ((with_reducible refine CLY.draw_step (by assumption) ?_ ?_ (fun _ _ _ _ _ => ?_)); (· walk_at "z"); (· walk_at "z"))
  | ((with_reducible refine is_evA ?_); refine ⟨_, rfl, ?_⟩)
  | ((with_reducible refine is_evL ?_); refine ⟨_, rfl, ?_⟩)
  | ((with_reducible refine is_evI ?_); refine ⟨_, rfl, ?_⟩)
  | ((with_reducible refine is_evR ?_); refine ⟨_, rfl, ?_⟩))
local macro_rules | `(tactic| walk_at "f") => `(tactic| first
  | with_reducible refine W_mV.mpr ?_
  | with_reducible refine W_mCons.mpr ?_
  | with_reducible refine W_m2.mpr ?_
  | with_reducible refine W_mC.mpr ?_
  | with_reducible refine W_mNil.mpr ?_
  | with_reducible refine W_mN.mpr ?_
  | with_reducible refine W_sSeq.mpr ?_
  | with_reducible refine W_sAsg.mpr ?_
  | with_reducible refine W_m1.mpr ?_
  | with_reducible refine W_mCallP.mpr ?_
  | with_reducible refine W_mCall.mpr ?_
  | with_reducible refine X_evI.mpr ?_
  | with_reducible refine X_evE.mpr ?_
  | with_reducible refine X_evN.mpr ?_
  | with_reducible refine X_if ?_
  | with_reducible refine W_sRet.mpr ?_
  | with_reducible refine W_sK.mpr ?_
  | with_reducible refine X_and ?_
  | with_reducible refine X_or ?_
  | with_reducible refine W_sPar.mpr ?_
  | with_reducible refine W_mSl.mpr ?_
  | with_reducible refine W_mPtN.mpr ?_
  | with_reducible refine W_mPtS.mpr ?_
  | with_reducible refine W_mIt.mpr ?_
  | with_reducible refine W_mItN.mpr ?_
  | with_reducible refine W_mComp.mpr ?_
  | ((with_reducible refine is_comp ?_); first | (apply X_compN; (· walk_at "o")) | ((with_reducible apply X_compY); (· walk_at "o"); (· rfl)))
  | with_reducible refine W_sFor.mpr ?_
  | ((with_reducible refine is_for ?_); refine W_forNil.mpr ?_)
  | with_reducible refine X_chain ?_
  | with_reducible refine W_sExp.mpr ?_
  | with_reducible refine W_mL.mpr ?_
  | with_reducible refine X_mif ?_
  | with_reducible refine W_mIxS.mpr ?_
  | with_reducible refine W_mYes.mpr ?_
  | with_reducible refine W_sPar3.mpr ?_
  | with_reducible refine W_mApp.mpr ?_
  | with_reducible refine W_mBor.mpr ?_
  | with_reducible refine CLX.W_sFz.mpr ?_)
local macro_rules | `(tactic| walk_at "s") => `(tactic| first
  | ((with_reducible refine is_W ?_); walk_at "f")
  | ((with_reducible refine is_ex ?_); first
    | ((with_reducible refine is_evS ?_); refine ⟨_, rfl, ?_⟩)
    | ((with_reducible apply call_st); (· with_reducible assumption))
    | with_reducible refine ⟨_, by with_reducible assumption, ?_⟩
    | walk_at "e")
  | ((with_reducible apply X_nx); (· walk_at "o"))
  | with_reducible refine Kq_ret.mpr ?_
  | with_reducible refine Kq_brk.mpr ?_
  | with_reducible refine Kq_cnt.mpr ?_
  | ((with_reducible apply X_fnx); (· walk_at "o"))
  | ((with_reducible apply X_fcnt); (· walk_at "o"))
  | with_reducible refine X_fbrk ?_
  | with_reducible refine X_fret ?_
  | ((with_reducible refine is_ltA ?_); refine ⟨?_, ?_⟩; (· first | decide | omega | (simp; omega) | (simp; done)))
  | with_reducible refine parW_mk.mpr ?_
  | with_reducible refine par3W_mk.mpr ?_)
local macro_rules | `(tactic| walk_at "r") => `(tactic| repeat walk_at "s")
local macro_rules | `(tactic| walk_at "u") => `(tactic| first | ((apply X_forC); (· walk_at "o"); (· rfl)) | ((apply X_compY); (· walk_at "o"); (· rfl)) | ((apply X_compC); (· walk_at "o"); (· rfl)))
local macro_rules | `(tactic| walk_at "g") => `(tactic| repeat first | walk_at "s" | (with_reducible refine go_ifF (rfl : _ = false) ?_) | (with_reducible refine go_ifT (rfl : _ = true) ?_) | (refine go_ifF (rfl : _ = false) ?_) | (refine go_ifT (rfl : _ = true) ?_) | walk_at "u")
local macro_rules | `(tactic| walk_at "f") => `(tactic| first | with_reducible refine W_mOk.mpr ?_ | with_reducible refine W_mOkQ'.mpr ?_)
local macro_rules | `(tactic| walk_at "s") => `(tactic| with_reducible refine AtQ_mk ?_)
theorem all_true {α : Type} : ∀ (l : List α), bAll [.lst (l.map fun _ => D.bl true)] = some (.bl true)
  | [] => rfl
  | a :: l => by
    have := all_true l
    simp only [bAll] at this ⊢
    cases e : blsOf (l.map fun _ => D.bl true) with
    | none => rw [e] at this; cases this
    | some bs =>
      rw [e] at this
      simp only [Option.map_some, Option.some.injEq, D.bl.injEq] at this
      simp [blsOf, e, this]
theorem figs_ok {fs : Str} {m : Nat} (hf : fs = ⟨(numL m).toArray⟩) (hm : m < 10 ^ 30) : bLen [.str fs] = some (.int (numL m).length) ∧ itemsOf (.str fs) = some ((numL m).map fun c => .str ⟨#[c]⟩) := by
  subst hf
  have := numL_len30 hm
  have hl : (⟨(numL m).toArray⟩ : Str).length = (numL m).length := by rw [len_tl]
  constructor
  · unfold bLen
    dsimp only
    rw [hl, if_pos (by omega)]
  · unfold itemsOf
    dsimp only
    rw [if_pos (by rw [List.size_toArray]; omega)]
    rfl
def wordR : MS := (sSeq (sIf (mOr (m1 bNot (mChain bLe bLe (mC (.int 1)) (mN bLen (mCons (mV 1) mNil)) (mC (.int 30)))) (m1 bNot (mN bAll (mCons (mComp [2] (pN 2) (mIt (mV 1)) mYes (m2 bInS (mV 2) (mC (.str "0123456789")))) mNil)))) (sRet (mC (.bl false))) (sK .nx)) (sRet (mOr (m2 bEq (mV 0) (mC (.str "0"))) (m2 bNe (m2 bIx (mV 1) (mC (.int 0))) (mC (.str "0"))))))
theorem word_eq : B_is_number_word = sSeq (sAsg (pN 1) (mV 0)) (sSeq (sIf (m2 bStarts (mV 0) (mC (.str "-"))) (sAsg (pN 1) (mSl (mV 0) (some (mC (.int 1))) none)) (sK .nx)) wordR) := rfl
set_option maxHeartbeats 0 in
theorem word_ok {n : Int} (h : n.natAbs < 10 ^ 30) : F_is_number_word [.str (numT n)] = .ok (.bl true) := by
  refine runP_is ?_
  rw [word_eq]
  have hl := numT_len h
  have S1 : bStarts (.str (numT n)) (.str "-") = some (.bl (decide (n < 0))) := by
    unfold bStarts
    dsimp only
    rw [starts_minus]
  have S2 : bSl (.str (numT n)) (some 1) none = some (.str (cutS (numT n) (some 1) none)) := by
    unfold bSl
    dsimp only
    rw [if_pos (by omega)]
  have key : ∀ (fs : Str), fs = ⟨(numL n.natAbs).toArray⟩ → W wordR [some (.str (numT n)), some (.str fs), none] fun f _ => f = .ret (.bl true) := by
    intro fs hf
    unfold wordR
    obtain ⟨L1, I1⟩ := figs_ok hf h
    have l30 := numL_len30 h
    have l1 : 1 ≤ (numL n.natAbs).length := by
      rcases Nat.eq_zero_or_pos (numL n.natAbs).length with e | e
      · exact absurd (List.length_eq_zero_iff.mp e) (numL_ne _)
      · exact e
    generalize hlen : ((numL n.natAbs).length : Int) = k at *
    walk_at "r"
    refine ⟨_, false, rfl, fun _ => ?_, ?_⟩
    · walk_at "r"
      refine X_compM (xs := numL n.natAbs) (g := fun c => D.str ⟨#[c]⟩) (h := fun _ => D.bl true) (fun c hc => ⟨_, rfl, ?_⟩) ?_
      · have F1 := fig_in c (numL_digits _ c hc).1 (numL_digits _ c hc).2
        walk_at "r"
        exact ⟨rfl, rfl⟩
      · have A1 := all_true (numL n.natAbs)
        walk_at "r"
        exact ⟨rfl, rfl⟩
    · rw [show (!(decide (1 ≤ k) && decide (k ≤ 30))) = false by simp; omega]
      refine go_ifF rfl ?_
      walk_at "r"
      by_cases hz : n = 0
      · subst hz
        have Z1 : bEq (.str (numT 0)) (.str "0") = some (.bl true) := rfl
        walk_at "r"
        exact ⟨true, true, rfl, fun h => (by cases h), rfl⟩
      · have Z1 : bEq (.str (numT n)) (.str "0") = some (.bl false) := by
          unfold bEq
          dsimp only
          rw [decide_eq_false fun e => hz ((zero_word n).mp e)]
        obtain ⟨c, t, hc⟩ : ∃ c t, numL n.natAbs = c :: t := by
          cases e : numL n.natAbs with
          | nil => exact absurd e (numL_ne _)
          | cons c t => exact ⟨c, t, rfl⟩
        have X1 : bIx (.str fs) (.int 0) = some (.str ⟨#[c]⟩) := by
          subst hf
          have hlf : (⟨(numL n.natAbs).toArray⟩ : Str).length = (numL n.natAbs).length := by rw [len_tl]
          unfold bIx
          dsimp only
          rw [if_pos (by omega), hc]
          have : atI (c :: t) 0 = some c := by simp [atI, ixN]
          rw [this]
          rfl
        have N1 : bNe (.str ⟨#[c]⟩) (.str "0") = some (.bl true) := by
          unfold bNe
          dsimp only
          rw [decide_eq_false]
          · rfl
          intro e
          have e2 : c = 48 := by
            have := congrArg tl e
            rw [tl_ofString] at this
            injection this
          subst e2
          have := numL_head hc
          omega
        walk_at "r"
        exact congrArg (fun b => Fl.ret (D.bl b)) (Bool.or_true _)
  have fi := figures_is n
  by_cases hn : n < 0
  · rw [if_pos hn] at fi
    rw [decide_eq_true hn] at S1
    have kk := key _ fi
    walk_at "r"
    refine go_ifT rfl ?_
    walk_at "r"
    exact kk
  · rw [if_neg hn] at fi
    rw [decide_eq_false hn] at S1
    have kk := key _ fi
    walk_at "r"
    refine go_ifF rfl ?_
    walk_at "r"
    exact kk
set_option maxHeartbeats 0 in
theorem row_is {ns : List Int} (h : ∀ n ∈ ns, n.natAbs < 10 ^ 30) (hl : ns.length ≤ 1000) : F_show_row [.tup (ns.map .int)] = .ok (.str (rowT ns)) := by
  refine runP_is ?_
  unfold B_show_row
  have J : bJoin (.str " ") (.lst (ns.map fun n => .str (numT n))) = some (.str (rowT ns)) := by
    have := join_st (y := Str.ofString " ") (ys := ns.map numT) (k := 31) (fun x hx => by
      obtain ⟨n, hn, rfl⟩ := List.mem_map.mp hx
      exact numT_len (h n hn)) (by rw [List.length_map, len_tl, tl_sp]; simp; omega)
    rwa [List.map_map] at this
  walk_at "r"
  refine X_compM (xs := ns) (g := D.int) (h := fun n => .str (numT n)) (fun n hn => ⟨_, rfl, ?_⟩) ?_
  · have C1 := c_str (h n hn)
    walk_at "r"
    exact ⟨rfl, rfl⟩
  · walk_at "r"
    rfl
set_option maxHeartbeats 0 in
theorem nums_is {ns : List Int} {k : Int} (h : ∀ n ∈ ns, n.natAbs < 10 ^ 30) (hl : ns.length ≤ 1000) (hk : (ns.length : Int) = k) (h0 : ns ≠ []) : F_numbers_of [.str (rowT ns), .int k] = .ok (.tup (ns.map .int)) := by
  refine runP_is ?_
  unfold B_numbers_of
  have hr := row_len h
  have S : bSplit (.str (rowT ns)) (.str " ") = some (.lst (ns.map fun n => .str (numT n))) := by
    rw [split_st (by omega) (by rw [tl_sp]; simp), split_row h0, List.map_map]
    rfl
  walk_at "r"
  refine ⟨_, false, rfl, fun _ => ?_, ?_⟩
  · walk_at "r"
    refine X_compM (xs := ns) (g := fun n => .str (numT n)) (h := fun _ => D.bl true) (fun n hn => ⟨_, rfl, ?_⟩) ?_
    · have C1 := word_ok (h n hn)
      walk_at "r"
      exact ⟨rfl, rfl⟩
    · have A1 := all_true ns
      walk_at "r"
      exact ⟨rfl, rfl⟩
  · rw [List.length_map, decide_eq_true hk]
    refine go_ifF rfl ?_
    walk_at "r"
    refine X_compM (xs := ns) (g := fun n => .str (numT n)) (h := D.int) (fun n hn => ⟨_, rfl, ?_⟩) ?_
    · have C1 := c_intS (h n hn)
      walk_at "r"
      exact ⟨rfl, rfl⟩
    · walk_at "r"
      rfl
set_option maxHeartbeats 0 in
/-- a row that has not so many words -/
theorem nums_no {x : Str} {k : Int} {ws : List Str} (hx : x.length ≤ 16777000) (e : Txt.split x " " = ws) (hk : (ws.length : Int) ≠ k) : F_numbers_of [.str x, .int k] = .exc (.str "NoText") := by
  refine Xc_runP ?_
  unfold B_numbers_of
  have S : bSplit (.str x) (.str " ") = some (.lst (ws.map .str)) := by
    rw [split_st hx (by rw [tl_sp]; simp), e]
  refine Xc_seqR ?_
  walk_at "r"
  refine ⟨rfl, ?_⟩
  refine Xc_seqL ?_
  refine Xc_if ?_
  walk_at "r"
  refine ⟨true, true, ?_, fun h => (by cases h), .inl ⟨rfl, Xc_raise ?_⟩⟩
  · rw [List.length_map, decide_eq_false hk]
    rfl
  · walk_at "r"
    trivial
end CLTX
namespace LW
open PySem PySem.Spec L2 CL
def topS (i : Nat) : Stmt := PySem.Challenge.pw_cornerlines_k05_lines_written_and_read.main.body.getD i (.Pass ⟨0, 0, 0, 0⟩)
section
variable [Tb] {P : Program} {w : World} {K : PySem.W.Frag} {mg : Str → Option Value} {base : Heap}
abbrev s_is_whole : Stmt := topS 4
theorem sc_is_whole : FnScope ["thing"] ["thing"] (defScope s_is_whole) := ⟨rfl, rfl, rfl, by decide +kernel, rfl, by decide +kernel, by decide +kernel⟩
def B_is_whole : MS := (sRet (mAnd (m1 (bIsi "int") (mV 0)) (m1 bNot (m1 (bIsi "bool") (mV 0)))))
def F_is_whole : List D → Res D := runP 0 B_is_whole
theorem ok_is_whole (t : TxF K mg "is_whole" s_is_whole ["thing"]) (hm_bool : mg "bool" = none) (hm_int : mg "int" = none) (hm_isinstance : mg "isinstance" = none) : CalP P w K mg base 1 "is_whole" 1 (.sh) F_is_whole := by
  obtain ⟨f, fd, Fu, bd, hm⟩ := t
  refine ⟨f, fd, _, ok_p (n := 1) (nl := 0) (F := ⟨fun i => .sh, fun i => false, .sh⟩) (b := B_is_whole) Fu sc_is_whole (sh_ok _ _ (by decide)) rfl rfl (.inl rfl) ?_, Fu.kp, bd, hm⟩
  intro cdv A outer s H E hr hg hcd
  exact (ss_one (s_ret (e_and (e_isi_int (e_v 0) hm_isinstance hm_int) (e_one (e_not (e_isi_bool (e_v 0) hm_isinstance hm_bool))))))
abbrev s_is_grain : Stmt := topS 5
theorem sc_is_grain : FnScope ["thing"] ["thing"] (defScope s_is_grain) := ⟨rfl, rfl, rfl, by decide +kernel, rfl, by decide +kernel, by decide +kernel⟩
def B_is_grain : MS := (sRet (mAnd (mCallP F_is_whole (mCons (mV 0) mNil)) (m2 bGe (mV 0) (mC (.int 1)))))
def F_is_grain : List D → Res D := runP 0 B_is_grain
theorem ok_is_grain (t : TxF K mg "is_grain" s_is_grain ["thing"]) (h_is_whole : CalP P w K mg base 1 "is_whole" 1 (.sh) F_is_whole) : CalP P w K mg base 2 "is_grain" 1 (.sh) F_is_grain := by
  obtain ⟨f, fd, Fu, bd, hm⟩ := t
  refine ⟨f, fd, _, ok_p (n := 1) (nl := 0) (F := ⟨fun i => .sh, fun i => false, .sh⟩) (b := B_is_grain) Fu sc_is_grain (sh_ok _ _ (by decide)) rfl rfl (.inl rfl) ?_, Fu.kp, bd, hm⟩
  intro cdv A outer s H E hr hg hcd
  exact (ss_one (s_ret (e_and (e_c h_is_whole hr hg (as_cons (e_v 0) as_nil) (len_cons len_nil)) (e_one (e_cmp o_ge (e_v 0) e_int)))))
abbrev s_is_point : Stmt := topS 6
theorem sc_is_point : FnScope ["thing"] ["thing"] (defScope s_is_point) := ⟨rfl, rfl, rfl, by decide +kernel, rfl, by decide +kernel, by decide +kernel⟩
def B_is_point : MS := (sRet (mAnd (m1 (bIsi "tuple") (mV 0)) (mAnd (m2 bEq (mN bLen (mCons (mV 0) mNil)) (mC (.int 2))) (mAnd (mCallP F_is_whole (mCons (m2 bIx (mV 0) (mC (.int 0))) mNil)) (mCallP F_is_whole (mCons (m2 bIx (mV 0) (mC (.int 1))) mNil))))))
def F_is_point : List D → Res D := runP 0 B_is_point
theorem ok_is_point (t : TxF K mg "is_point" s_is_point ["thing"]) (h_is_whole : CalP P w K mg base 1 "is_whole" 1 (.sh) F_is_whole) (hm_isinstance : mg "isinstance" = none) (hm_len : mg "len" = none) (hm_tuple : mg "tuple" = none) : CalP P w K mg base 2 "is_point" 1 (.sh) F_is_point := by
  obtain ⟨f, fd, Fu, bd, hm⟩ := t
  refine ⟨f, fd, _, ok_p (n := 1) (nl := 0) (F := ⟨fun i => .sh, fun i => false, .sh⟩) (b := B_is_point) Fu sc_is_point (sh_ok _ _ (by decide)) rfl rfl (.inl rfl) ?_, Fu.kp, bd, hm⟩
  intro cdv A outer s H E hr hg hcd
  exact (ss_one (s_ret (e_and (e_isi_tuple (e_v 0) hm_isinstance hm_tuple) (e_and (e_cmp (o_eq hr.units) (e_callB c_len (a_cons (e_v 0) a_nil) (hm := hm_len)) e_int) (e_and (e_c h_is_whole hr hg (as_cons (e_ix x_ix (e_v 0) e_int) as_nil) (len_cons len_nil)) (e_one (e_c h_is_whole hr hg (as_cons (e_ix x_ix (e_v 0) e_int) as_nil) (len_cons len_nil))))))))
abbrev s_is_line : Stmt := topS 7
theorem sc_is_line : FnScope ["thing"] ["thing"] (defScope s_is_line) := ⟨rfl, rfl, rfl, by decide +kernel, rfl, by decide +kernel, by decide +kernel⟩
def B_is_line : MS := (sSeq (sIf (mOr (m1 bNot (m1 (bIsi "tuple") (mV 0))) (m2 bNe (mN bLen (mCons (mV 0) mNil)) (mC (.int 2)))) (sRet (mC (.bl false))) (sK .nx)) (sRet (mAnd (mCallP F_is_point (mCons (m2 bIx (mV 0) (mC (.int 0))) mNil)) (mAnd (mCallP F_is_point (mCons (m2 bIx (mV 0) (mC (.int 1))) mNil)) (m2 bNe (m2 bIx (mV 0) (mC (.int 0))) (m2 bIx (mV 0) (mC (.int 1))))))))
def F_is_line : List D → Res D := runP 0 B_is_line
theorem ok_is_line (t : TxF K mg "is_line" s_is_line ["thing"]) (h_is_point : CalP P w K mg base 2 "is_point" 1 (.sh) F_is_point) (hm_isinstance : mg "isinstance" = none) (hm_len : mg "len" = none) (hm_tuple : mg "tuple" = none) : CalP P w K mg base 3 "is_line" 1 (.sh) F_is_line := by
  obtain ⟨f, fd, Fu, bd, hm⟩ := t
  refine ⟨f, fd, _, ok_p (n := 1) (nl := 0) (F := ⟨fun i => .sh, fun i => false, .sh⟩) (b := B_is_line) Fu sc_is_line (sh_ok _ _ (by decide)) rfl rfl (.inl rfl) ?_, Fu.kp, bd, hm⟩
  intro cdv A outer s H E hr hg hcd
  exact (ss_cons (s_if (w_or (t_not (t_val (e_isi_tuple (e_v 0) hm_isinstance hm_tuple))) (w_or1 (t_cmp (o_ne hr.units) (e_callB c_len (a_cons (e_v 0) a_nil) (hm := hm_len)) e_int))).pt
    (ss_one (s_ret e_bl))
    ss_nil)
    (ss_one (s_ret (e_and (e_c h_is_point hr hg (as_cons (e_ix x_ix (e_v 0) e_int) as_nil) (len_cons len_nil)) (e_and (e_c h_is_point hr hg (as_cons (e_ix x_ix (e_v 0) e_int) as_nil) (len_cons len_nil)) (e_one (e_cmp (o_ne hr.units) (e_ix x_ix (e_v 0) e_int) (e_ix x_ix (e_v 0) e_int))))))))
abbrev s_are_lines : Stmt := topS 8
theorem sc_are_lines : FnScope ["thing", "one"] ["thing"] (defScope s_are_lines) := ⟨rfl, rfl, rfl, by decide +kernel, rfl, by decide +kernel, by decide +kernel⟩
def B_are_lines : MS := (sRet (mAnd (m1 (bIsi "tuple") (mV 0)) (mN bAll (mCons (mComp [1] (pN 1) (mIt (mV 0)) mYes (mCallP F_is_line (mCons (mV 1) mNil))) mNil))))
def F_are_lines : List D → Res D := runP 1 B_are_lines
theorem ok_are_lines (t : TxF K mg "are_lines" s_are_lines ["thing"]) (h_is_line : CalP P w K mg base 3 "is_line" 1 (.sh) F_is_line) (hm_all : mg "all" = none) (hm_isinstance : mg "isinstance" = none) (hm_tuple : mg "tuple" = none) : CalP P w K mg base 4 "are_lines" 1 (.sh) F_are_lines := by
  obtain ⟨f, fd, Fu, bd, hm⟩ := t
  refine ⟨f, fd, _, ok_p (n := 1) (nl := 1) (F := ⟨fun i => .sh, fun i => false, .sh⟩) (b := B_are_lines) Fu sc_are_lines (sh_ok _ _ (by decide)) rfl rfl (.inl rfl) ?_, Fu.kp, bd, hm⟩
  intro cdv A outer s H E hr hg hcd
  exact (ss_one (s_ret (e_and (e_isi_tuple (e_v 0) hm_isinstance hm_tuple) (e_one (e_callB (c_all rfl) (a_cons (e_sh (e_lcO (own' := [("one", 1)]) (vs := [1]) sc_are_lines.nd (blkOk_by (by kernel_rfl)) (i_any (e_v 0)) (fun _ _ _ _ _ => (g_n 1 sc_are_lines.nd)) (fun _ _ _ _ _ => ts_nil) (fun _ _ _ _ _ => (e_c h_is_line hr hg (as_cons (e_v 1) as_nil) (len_cons len_nil))))) a_nil) (hm := hm_all))))))
abbrev s_is_number_word : Stmt := topS 12
theorem sc_is_number_word : FnScope ["word", "figures", "sign"] ["word"] (defScope s_is_number_word) := ⟨rfl, rfl, rfl, by decide +kernel, rfl, by decide +kernel, by decide +kernel⟩
def B_is_number_word : MS := (sSeq (sAsg (pN 1) (mV 0)) (sSeq (sIf (m2 bStarts (mV 0) (mC (.str "-"))) (sAsg (pN 1) (mSl (mV 0) (some (mC (.int 1))) none)) (sK .nx)) (sSeq (sIf (mOr (m1 bNot (mChain bLe bLe (mC (.int 1)) (mN bLen (mCons (mV 1) mNil)) (mC (.int 30)))) (m1 bNot (mN bAll (mCons (mComp [2] (pN 2) (mIt (mV 1)) mYes (m2 bInS (mV 2) (mC (.str "0123456789")))) mNil)))) (sRet (mC (.bl false))) (sK .nx)) (sRet (mOr (m2 bEq (mV 0) (mC (.str "0"))) (m2 bNe (m2 bIx (mV 1) (mC (.int 0))) (mC (.str "0"))))))))
def F_is_number_word : List D → Res D := runP 2 B_is_number_word
theorem ok_is_number_word (t : TxF K mg "is_number_word" s_is_number_word ["word"]) (hm_all : mg "all" = none) (hm_len : mg "len" = none) (hc_FIGURES : ∃ t, mg "FIGURES" = some (.str "0123456789" t)) (hc_MOST_FIGURES : ∃ t, mg "MOST_FIGURES" = some (.int 30 t)) : CalP P w K mg base 1 "is_number_word" 1 (.sh) F_is_number_word := by
  obtain ⟨f, fd, Fu, bd, hm⟩ := t
  obtain ⟨tk_FIGURES, hv_FIGURES⟩ := hc_FIGURES
  obtain ⟨tk_MOST_FIGURES, hv_MOST_FIGURES⟩ := hc_MOST_FIGURES
  refine ⟨f, fd, _, ok_p (n := 1) (nl := 2) (F := ⟨fun i => .sh, fun i => false, .sh⟩) (b := B_is_number_word) Fu sc_is_number_word (sh_ok _ _ (by decide)) rfl rfl (.inl rfl) ?_, Fu.kp, bd, hm⟩
  intro cdv A outer s H E hr hg hcd
  exact (ss_cons (s_set 1 sc_is_number_word.nd (e_v 0))
    (ss_cons (s_if (t_val (e_starts (e_v 0) e_str))
    (ss_one (s_set 1 sc_is_number_word.nd (e_sl (e_v 0) (po_s e_int) po_n)))
    ss_nil)
    (ss_cons (s_if (w_or (t_not (t_chain o_le o_le e_int (e_callB c_len (a_cons (e_v 1) a_nil) (hm := hm_len)) (e_gl (v := .int 30) hv_MOST_FIGURES ⟨_, rfl⟩ (fun _ _ => by simp only [RSh])))) (w_or1 (t_not (t_val (e_callB (c_all rfl) (a_cons (e_sh (e_lcO (own' := [("sign", 2)]) (vs := [2]) sc_is_number_word.nd (blkOk_by (by kernel_rfl)) (i_any (e_v 1)) (fun _ _ _ _ _ => (g_n 2 sc_is_number_word.nd)) (fun _ _ _ _ _ => ts_nil) (fun _ _ _ _ _ => (e_cmp o_inS (e_v 2) (e_gl (v := .str "0123456789") hv_FIGURES ⟨_, rfl⟩ (fun _ _ => by simp only [RSh])))))) a_nil) (hm := hm_all)))))).pt
    (ss_one (s_ret e_bl))
    ss_nil)
    (ss_one (s_ret (e_or (e_cmp (o_eq hr.units) (e_v 0) e_str) (e_one (e_cmp (o_ne hr.units) (e_ix x_ix (e_v 1) e_int) e_str))))))))
abbrev s_numbers_of : Stmt := topS 13
theorem sc_numbers_of : FnScope ["text", "many", "words", "word"] ["text", "many"] (defScope s_numbers_of) := ⟨rfl, rfl, rfl, by decide +kernel, rfl, by decide +kernel, by decide +kernel⟩
def B_numbers_of : MS := (sSeq (mOk (sAsg (pN 2) (m2 bSplit (mV 0) (mC (.str " "))))) (sSeq (sIf (mOk (mOr (m2 bNe (mN bLen (mCons (mV 2) mNil)) (mV 1)) (m1 bNot (mN bAll (mCons (mComp [3] (pN 3) (mIt (mV 2)) mYes (mCallP F_is_number_word (mCons (mV 3) mNil))) mNil))))) (sRaise "NoText" (mOk (mC (.str "no row of so many numbers")))) (sK .nx)) (mOk (sRet (mN bTuple (mCons (mComp [3] (pN 3) (mIt (mV 2)) mYes (mN bIntS (mCons (mV 3) mNil))) mNil))))))
def F_numbers_of : List D → Res D := runP 2 B_numbers_of
theorem ok_numbers_of (t : TxF K mg "numbers_of" s_numbers_of ["text", "many"]) (h_is_number_word : CalP P w K mg base 1 "is_number_word" 1 (.sh) F_is_number_word) (hm_all : mg "all" = none) (hm_int : mg "int" = none) (hm_len : mg "len" = none) (hm_tuple : mg "tuple" = none) {C_NoText : Addr} (hE_NoText : ExcF K mg "NoText" C_NoText) : CalX P w K mg base 2 "numbers_of" 2 (.sh) F_numbers_of := by
  obtain ⟨f, fd, Fu, bd, hm⟩ := t
  refine ⟨f, fd, _, ok_x (n := 2) (nl := 2) (F := ⟨fun i => .sh, fun i => false, .sh⟩) (b := B_numbers_of) Fu sc_numbers_of (sh_ok _ _ (by decide)) rfl rfl (.inl rfl) ?_, Fu.kp, bd, hm⟩
  intro cdv A outer s H E hr hg hcd
  exact (ssx_cons (sx_of (PS.nox (s_set 2 sc_numbers_of.nd (e_split (e_v 0) e_str))))
    (ssx_cons (sx_if (PT.nox (w_or (t_cmp (o_ne hr.units) (e_callB c_len (a_cons (e_v 2) a_nil) (hm := hm_len)) (e_v 1)) (w_or1 (t_not (t_val (e_callB (c_all rfl) (a_cons (e_sh (e_lcO (own' := [("word", 3)]) (vs := [3]) sc_numbers_of.nd (blkOk_by (by kernel_rfl)) (i_any (e_v 2)) (fun _ _ _ _ _ => (g_n 3 sc_numbers_of.nd)) (fun _ _ _ _ _ => ts_nil) (fun _ _ _ _ _ => (e_c h_is_number_word hr hg (as_cons (e_v 3) as_nil) (len_cons len_nil))))) a_nil) (hm := hm_all)))))).pt)
    (ssx_one (sx_raise hE_NoText takes_body (PE.nox e_str)))
    ssx_nil)
    (ssx_one (sx_of (PS.nox (s_ret (e_callTy c_tuple (a_cons (e_sh (e_lcO (own' := [("word", 3)]) (vs := [3]) sc_numbers_of.nd (blkOk_by (by kernel_rfl)) (i_any (e_v 2)) (fun _ _ _ _ _ => (g_n 3 sc_numbers_of.nd)) (fun _ _ _ _ _ => ts_nil) (fun _ _ _ _ _ => (e_callTy c_intS (a_cons (e_v 3) a_nil) (hm := hm_int))))) a_nil) (hm := hm_tuple))))))))
abbrev s_show_row : Stmt := topS 14
theorem sc_show_row : FnScope ["numbers", "number"] ["numbers"] (defScope s_show_row) := ⟨rfl, rfl, rfl, by decide +kernel, rfl, by decide +kernel, by decide +kernel⟩
def B_show_row : MS := (sRet (m2 bJoin (mC (.str " ")) (mComp [1] (pN 1) (mIt (mV 0)) mYes (mN bStr (mCons (mV 1) mNil)))))
def F_show_row : List D → Res D := runP 1 B_show_row
theorem ok_show_row (t : TxF K mg "show_row" s_show_row ["numbers"]) (hm_str : mg "str" = none) : CalP P w K mg base 1 "show_row" 1 (.sh) F_show_row := by
  obtain ⟨f, fd, Fu, bd, hm⟩ := t
  refine ⟨f, fd, _, ok_p (n := 1) (nl := 1) (F := ⟨fun i => .sh, fun i => false, .sh⟩) (b := B_show_row) Fu sc_show_row (sh_ok _ _ (by decide)) rfl rfl (.inl rfl) ?_, Fu.kp, bd, hm⟩
  intro cdv A outer s H E hr hg hcd
  exact (ss_one (s_ret (e_join e_str (e_sh (e_lcO (own' := [("number", 1)]) (vs := [1]) sc_show_row.nd (blkOk_by (by kernel_rfl)) (i_any (e_v 0)) (fun _ _ _ _ _ => (g_n 1 sc_show_row.nd)) (fun _ _ _ _ _ => ts_nil) (fun _ _ _ _ _ => (e_callTy c_str (a_cons (e_v 1) a_nil) (hm := hm_str))))))))
abbrev s_show_lines : Stmt := topS 15
theorem sc_show_lines : FnScope ["grain", "lines", "rows", "one", "other"] ["grain", "lines"] (defScope s_show_lines) := ⟨rfl, rfl, rfl, by decide +kernel, rfl, by decide +kernel, by decide +kernel⟩
def B_show_lines : MS := (sSeq (sAsg (pN 2) (mN bLst (mCons (m2 bAdd (mC (.str "grain ")) (mN bStr (mCons (mV 0) mNil))) mNil))) (sSeq (sFor (pT 2 (psC (pN 3) (psC (pN 4) psN))) (mIt (mV 1)) (sExp (mApp 2 (mCallP F_show_row (mCons (m2 bAdd (mV 3) (mV 4)) mNil))))) (sFz 2 (sRet (m2 bJoin (mC (.str "\n")) (mV 2))))))
def F_show_lines : List D → Res D := runP 3 B_show_lines
theorem ok_show_lines (t : TxF K mg "show_lines" s_show_lines ["grain", "lines"]) (h_show_row : CalP P w K mg base 1 "show_row" 1 (.sh) F_show_row) (hm_str : mg "str" = none) : CalP P w K mg base 2 "show_lines" 2 (.sh) F_show_lines := by
  obtain ⟨f, fd, Fu, bd, hm⟩ := t
  refine ⟨f, fd, _, ok_p (n := 2) (nl := 3) (F := ⟨fun i => if i = 2 then .ol .sh .sh else .sh, fun i => false, .sh⟩) (b := B_show_lines) Fu sc_show_lines (sh_ok _ _ (by decide)) rfl rfl (.inl rfl) ?_, Fu.kp, bd, hm⟩
  intro cdv A outer s H E hr hg hcd
  exact (ss_cons (s_setO 2 sc_show_lines.nd (e_lstO (as_cons (e_2 o_add e_str (e_callTy c_str (a_cons (e_v 0) a_nil) (hm := hm_str))) as_nil)))
    (ss_cons (s_for (i_any (e_v 1)) (g_t (gs_cons (g_n 3 sc_show_lines.nd) (gs_cons (g_n 4 sc_show_lines.nd) gs_nil)))
    (ss_one (s_exp (e_pk (e_app 2 (as_cons (e_c h_show_row hr hg (as_cons (e_2 o_add (e_v 3) (e_v 4)) as_nil) (len_cons len_nil)) as_nil))))))
    (ss_fz 2 rfl (ss_one (s_ret (e_join e_str (e_v 2)))))))
abbrev s_read_lines : Stmt := topS 16
theorem sc_read_lines : FnScope ["text", "rows", "grain", "found", "row", "numbers", "lines"] ["text"] (defScope s_read_lines) := ⟨rfl, rfl, rfl, by decide +kernel, rfl, by decide +kernel, by decide +kernel⟩
noncomputable def B_read_lines : MS := (sSeq (sIf (mOk (m1 bNot (m1 (bIsi "str") (mV 0)))) (sRaise "NoText" (mOk (mC (.str "no text")))) (sK .nx)) (sSeq (mOk (sAsg (pN 1) (m2 bSplit (mV 0) (mC (.str "\n"))))) (sSeq (sIf (mOk (m1 bNot (m2 bStarts (m2 bIx (mV 1) (mC (.int 0))) (mC (.str "grain "))))) (sRaise "NoText" (mOk (mC (.str "no row of a grain")))) (sK .nx)) (sSeq (sAsg (pN 2) (m2 bIx (mCallP F_numbers_of (mOkQ (mCons (mSl (m2 bIx (mV 1) (mC (.int 0))) (some (mN bLen (mCons (mC (.str "grain ")) mNil))) none) (mCons (mC (.int 1)) mNil)))) (mOk (mC (.int 0))))) (sSeq (mOk (sAsg (pN 3) (mN bLst mNil))) (sSeq (sFor (pN 4) (mOk (mIt (mSl (mV 1) (some (mC (.int 1))) none))) (sSeq (sAsg (pN 5) (mCallP F_numbers_of (mOkQ (mCons (mV 4) (mCons (mC (.int 4)) mNil))))) (mOk (sExp (mApp 3 (mN bTup (mCons (mSl (mV 5) none (some (mC (.int 2)))) (mCons (mSl (mV 5) (some (mC (.int 2))) none) mNil)))))))) (sSeq (mOk (sAsg (pN 6) (mN bTuple (mCons (mV 3) mNil)))) (sSeq (sIf (mOk (mOr (m1 bNot (mCallP F_is_grain (mCons (mV 2) mNil))) (m1 bNot (mCallP F_are_lines (mCons (mV 6) mNil))))) (sRaise "NoText" (mOk (mC (.str "no grain, or a line without two points")))) (sK .nx)) (mOk (sRet (mN bTup (mCons (mV 2) (mCons (mV 6) mNil)))))))))))))
noncomputable def F_read_lines : List D → Res D := runP 6 B_read_lines
theorem ok_read_lines (t : TxF K mg "read_lines" s_read_lines ["text"]) (h_numbers_of : CalX P w K mg base 2 "numbers_of" 2 (.sh) F_numbers_of) (h_is_grain : CalP P w K mg base 2 "is_grain" 1 (.sh) F_is_grain) (h_are_lines : CalP P w K mg base 4 "are_lines" 1 (.sh) F_are_lines) (hm_isinstance : mg "isinstance" = none) (hm_len : mg "len" = none) (hm_str : mg "str" = none) (hm_tuple : mg "tuple" = none) {C_NoText : Addr} (hE_NoText : ExcF K mg "NoText" C_NoText) : CalX P w K mg base 5 "read_lines" 1 (.sh) F_read_lines := by
  obtain ⟨f, fd, Fu, bd, hm⟩ := t
  refine ⟨f, fd, _, ok_x (n := 1) (nl := 6) (F := ⟨fun i => if i = 3 then .ol .sh .sh else .sh, fun i => false, .sh⟩) (b := B_read_lines) Fu sc_read_lines (sh_ok _ _ (by decide)) rfl rfl (.inl rfl) ?_, Fu.kp, bd, hm⟩
  intro cdv A outer s H E hr hg hcd
  exact (ssx_cons (sx_if (PT.nox (t_not (t_val (e_isi_str (e_v 0) hm_isinstance hm_str))))
    (ssx_one (sx_raise hE_NoText takes_body (PE.nox e_str)))
    ssx_nil)
    (ssx_cons (sx_of (PS.nox (s_set 1 sc_read_lines.nd (e_split (e_v 0) e_str))))
    (ssx_cons (sx_if (PT.nox (t_not (t_val (e_starts (e_ix x_ix (e_v 1) e_int) e_str))))
    (ssx_one (sx_raise hE_NoText takes_body (PE.nox e_str)))
    ssx_nil)
    (ssx_cons (sx_set 2 sc_read_lines.nd (xx_ix x_ix (x_c h_numbers_of takes_body hr hg (as_cons (e_sl (e_ix x_ix (e_v 1) e_int) (po_s (e_callB c_len (a_cons e_str a_nil) (hm := hm_len))) po_n) (as_cons e_int as_nil)) (len_cons (len_cons len_nil))) e_int))
    (ssx_cons (sx_of (PS.nox (s_setO 3 sc_read_lines.nd (e_lstO as_nil))))
    (ssx_cons (sx_for (i_any (e_sl (e_v 1) (po_s e_int) po_n)) (g_n 4 sc_read_lines.nd)
    (ssx_cons (sx_set 5 sc_read_lines.nd (x_c h_numbers_of takes_body hr hg (as_cons (e_v 4) (as_cons e_int as_nil)) (len_cons (len_cons len_nil))))
    (ssx_one (sx_of (PS.nox (s_exp (e_pk (e_app 3 (as_cons (e_tup (as_cons (e_sl (e_v 5) po_n (po_s e_int)) (as_cons (e_sl (e_v 5) (po_s e_int) po_n) as_nil))) as_nil)))))))) passes_body)
    (ssx_cons (sx_of (PS.nox (s_set 6 sc_read_lines.nd (e_callTy c_tuple (a_cons (e_vp 3) a_nil) (hm := hm_tuple)))))
    (ssx_cons (sx_if (PT.nox (w_or (t_not (t_val (e_c h_is_grain hr hg (as_cons (e_v 2) as_nil) (len_cons len_nil)))) (w_or1 (t_not (t_val (e_c h_are_lines hr hg (as_cons (e_v 6) as_nil) (len_cons len_nil)))))).pt)
    (ssx_one (sx_raise hE_NoText takes_body (PE.nox e_str)))
    ssx_nil)
    (ssx_one (sx_of (PS.nox (s_ret (e_tup (as_cons (e_v 2) (as_cons (e_v 6) as_nil)))))))))))))))
abbrev s__law_deck : Stmt := topS 18
theorem sc__law_deck : FnScope ["_law_script", "_law_cell"] ["_law_script"] (defScope s__law_deck) := ⟨rfl, rfl, rfl, by decide +kernel, rfl, by decide +kernel, by decide +kernel⟩
def B__law_deck : MS := (sRet (mN bLst (mCons (m1 bRev (mL listOfD (mCons (mSl (mV 0) none (some (mC (.int 63)))) mNil))) (mCons (m2 bAdd (mN bSum (mCons (mComp [1] (pN 1) (mIt (mSl (mV 0) none (some (mC (.int 63))))) mYes (m2 bMod (mV 1) (mC (.int 1000003)))) mNil)) (m2 bMul (mC (.int 7919)) (mN bLen (mCons (mSl (mV 0) none (some (mC (.int 63)))) mNil)))) (mCons (mC (.int 0)) mNil)))))
def F__law_deck : List D → Res D := runP 1 B__law_deck
theorem ok__law_deck (t : TxF K mg "_law_deck" s__law_deck ["_law_script"]) (hm_len : mg "len" = none) (hm_list : mg "list" = none) (hm_sum : mg "sum" = none) : CalP P w K mg base 1 "_law_deck" 1 (.ol (.ol .sh .sh) .sh) F__law_deck := by
  obtain ⟨f, fd, Fu, bd, hm⟩ := t
  refine ⟨f, fd, _, ok_p (n := 1) (nl := 1) (F := ⟨fun i => .sh, fun i => false, .ol (.ol .sh .sh) .sh⟩) (b := B__law_deck) Fu sc__law_deck (sh_ok _ _ (by decide)) rfl rfl (.inr (fun ds ρ => (NoNx.ret : NoNx B__law_deck) _ ρ)) ?_, Fu.kp, bd, hm⟩
  intro cdv A outer s H E hr hg hcd
  exact (ss_one (s_ret (e_lstH (e_revO (e_sh (e_callTyO c_list (a_cons (e_sl (e_v 0) po_n (po_s e_int)) a_nil) (hm := hm_list)))) (as_cons (e_2 o_add (e_callB (c_sum rfl) (a_cons (e_sh (e_lcO (own' := [("_law_cell", 1)]) (vs := [1]) sc__law_deck.nd (blkOk_by (by kernel_rfl)) (i_any (e_sl (e_v 0) po_n (po_s e_int))) (fun _ _ _ _ _ => (g_n 1 sc__law_deck.nd)) (fun _ _ _ _ _ => ts_nil) (fun _ _ _ _ _ => (e_2 o_mod (e_v 1) e_int)))) a_nil) (hm := hm_sum)) (e_2 o_mul e_int (e_callB c_len (a_cons (e_sl (e_v 0) po_n (po_s e_int)) a_nil) (hm := hm_len)))) (as_cons e_int as_nil)))))
abbrev s__law_draw : Stmt := topS 19
theorem sc__law_draw : FnScope ["_law_deck_here", "_law_most", "_law_cell", "_law_number"] ["_law_deck_here", "_law_most"] (defScope s__law_draw) := ⟨rfl, rfl, rfl, by decide +kernel, rfl, by decide +kernel, by decide +kernel⟩
def B__law_draw : MS := (sSeq (sSto 0 1 (m2 bAdd (mIxS 0 1) (mC (.int 1)))) (sSeq (sAsg (pN 2) (mIxS 0 0)) (sSeq (sIf (m2 bNe (mIx0 0) (mN bLst mNil)) (sSeq (sAsg (pN 2) (mPop0 0)) (sIf (m2 bGe (mV 2) (m2 bPow (mC (.int 10)) (mC (.int 18)))) (sSeq (sExp (mApp0 0 (m2 bDiv (mV 2) (mV 1)))) (sRet (m2 bMod (mV 2) (mV 1)))) (sK .nx))) (sK .nx)) (sSeq (sAsg (pN 3) (m2 bMod (m2 bMul (m2 bAdd (m2 bAdd (m2 bMod (mV 2) (mC (.int 2147483629))) (m2 bMul (mC (.int 65537)) (mIxS 0 1))) (mC (.int 3))) (mC (.int 48271))) (mC (.int 2147483647)))) (sSeq (sAsg (pN 3) (m2 bMod (m2 bAdd (m2 bAdd (m2 bMul (mV 3) (mV 3)) (m2 bMul (mC (.int 69621)) (mIxS 0 1))) (mC (.int 17))) (mC (.int 2147483587)))) (sRet (m2 bMod (m2 bDiv (m2 bMod (m2 bAdd (m2 bMul (mV 3) (mV 3)) (mC (.int 39373))) (mC (.int 2147483563))) (mC (.int 64))) (mV 1))))))))
def F__law_draw : Fn := runF [.ol (.ol .sh .sh) .sh, .sh] 2 B__law_draw
theorem ok__law_draw (t : TxF K mg "_law_draw" s__law_draw ["_law_deck_here", "_law_most"]) : CalF P w K mg base 1 "_law_draw" [.ol (.ol .sh .sh) .sh, .sh] (.sh) F__law_draw := by
  obtain ⟨f, fd, Fu, bd, hm⟩ := t
  refine ⟨f, fd, _, ok_d (ts := [.ol (.ol .sh .sh) .sh, .sh]) (nl := 2) (F := ⟨fun i => if i = 0 then .ol (.ol .sh .sh) .sh else .sh, fun i => i == 0, .sh⟩) (b := B__law_draw) Fu sc__law_draw (τs_ok _ _ (by decide)) (fx_ok _ _ (by decide)) rfl rfl (.inl rfl) ?_, Fu.kp, bd, hm⟩
  intro cdv A outer s H E hr hg hcd
  exact (ss_cons (s_sto 0 1 (e_2 o_add (e_ixS 0 1) e_int))
    (ss_cons (s_set 2 sc__law_draw.nd (e_ixS 0 0))
    (ss_cons (s_if (t_cmp (o_ne hr.units) (e_ix0 0) (e_sh (e_lstO as_nil)))
    (ss_cons (s_set 2 sc__law_draw.nd (e_pop0 0))
    (ss_one (s_if (t_cmp o_ge (e_v 2) (e_2 o_pow e_int e_int))
    (ss_cons (s_exp (e_pk (e_app0 0 (as_cons (e_2 o_div (e_v 2) (e_v 1)) as_nil))))
    (ss_one (s_ret (e_2 o_mod (e_v 2) (e_v 1)))))
    ss_nil)))
    ss_nil)
    (ss_cons (s_set 3 sc__law_draw.nd (e_2 o_mod (e_2 o_mul (e_2 o_add (e_2 o_add (e_2 o_mod (e_v 2) e_int) (e_2 o_mul e_int (e_ixS 0 1))) e_int) e_int) e_int))
    (ss_cons (s_set 3 sc__law_draw.nd (e_2 o_mod (e_2 o_add (e_2 o_add (e_2 o_mul (e_v 3) (e_v 3)) (e_2 o_mul e_int (e_ixS 0 1))) e_int) e_int))
    (ss_one (s_ret (e_2 o_mod (e_2 o_div (e_2 o_mod (e_2 o_add (e_2 o_mul (e_v 3) (e_v 3)) e_int) e_int) e_int) (e_v 1)))))))))
abbrev s__law_whole : Stmt := topS 20
theorem sc__law_whole : FnScope ["_law_deck_here", "_law_way", "_law_turned", "_law_number", "_law_k"] ["_law_deck_here", "_law_way"] (defScope s__law_whole) := ⟨rfl, rfl, rfl, by decide +kernel, rfl, by decide +kernel, by decide +kernel⟩
def B__law_whole : MS := (sSeq (sAsg (pN 2) (mCall F__law_draw (.io 0 :: (.e (mC (.int 2)) :: [])))) (sSeq (sAsg (pN 3) (mCall F__law_draw (.io 0 :: (.e (m2 bIx (mN bLst (mCons (mC (.int 4)) (mCons (mC (.int 12)) (mCons (mC (.int 1000001)) (mCons (mC (.int 1000000)) (mCons (mC (.int 1)) mNil)))))) (mV 1)) :: [])))) (sSeq (sFor (pN 4) (mItN range1 (mCons (m2 bMul (mC (.int 4)) (mN bInt (mCons (m2 bEq (mV 1) (mC (.int 3))) mNil))) mNil)) (sAsg (pN 3) (m2 bAdd (m2 bMul (mV 3) (m2 bPow (mC (.int 10)) (mC (.int 6)))) (mCall F__law_draw (.io 0 :: (.e (m2 bPow (mC (.int 10)) (mC (.int 6))) :: [])))))) (sSeq (sIf (m2 bEq (mV 1) (mC (.int 4))) (sAsg (pN 3) (m2 bSub (m2 bPow (mC (.int 10)) (mC (.int 30))) (mC (.int 1)))) (sK .nx)) (sRet (m2 bIx (mN bLst (mCons (mV 3) (mCons (m2 bSub (mC (.int 0)) (mV 3)) mNil))) (mV 2)))))))
def F__law_whole : Fn := runF [.ol (.ol .sh .sh) .sh, .sh] 3 B__law_whole
theorem ok__law_whole (t : TxF K mg "_law_whole" s__law_whole ["_law_deck_here", "_law_way"]) (h__law_draw : CalF P w K mg base 1 "_law_draw" [.ol (.ol .sh .sh) .sh, .sh] (.sh) F__law_draw) (hm_int : mg "int" = none) (hm_range : mg "range" = none) : CalF P w K mg base 2 "_law_whole" [.ol (.ol .sh .sh) .sh, .sh] (.sh) F__law_whole := by
  obtain ⟨f, fd, Fu, bd, hm⟩ := t
  refine ⟨f, fd, _, ok_d (ts := [.ol (.ol .sh .sh) .sh, .sh]) (nl := 3) (F := ⟨fun i => if i = 0 then .ol (.ol .sh .sh) .sh else .sh, fun i => i == 0, .sh⟩) (b := B__law_whole) Fu sc__law_whole (τs_ok _ _ (by decide)) (fx_ok _ _ (by decide)) rfl rfl (.inl rfl) ?_, Fu.kp, bd, hm⟩
  intro cdv A outer s H E hr hg hcd
  exact (ss_cons (s_set 2 sc__law_whole.nd (e_cF h__law_draw hr hg (ag_io 0 (ag_e e_int ag_nil))))
    (ss_cons (s_set 3 sc__law_whole.nd (e_cF h__law_draw hr hg (ag_io 0 (ag_e (e_ix x_ix (e_sh (e_lstO (as_cons e_int (as_cons e_int (as_cons e_int (as_cons e_int (as_cons e_int as_nil))))))) (e_v 1)) ag_nil))))
    (ss_cons (s_for (i_range1 (a_cons (e_2 o_mul e_int (e_callTy c_int (a_cons (e_cmp (o_eq hr.units) (e_v 1) e_int) a_nil) (hm := hm_int))) a_nil) (hm := hm_range)) (g_n 4 sc__law_whole.nd)
    (ss_one (s_set 3 sc__law_whole.nd (e_2 o_add (e_2 o_mul (e_v 3) (e_2 o_pow e_int e_int)) (e_cF h__law_draw hr hg (ag_io 0 (ag_e (e_2 o_pow e_int e_int) ag_nil)))))))
    (ss_cons (s_if (t_cmp (o_eq hr.units) (e_v 1) e_int)
    (ss_one (s_set 3 sc__law_whole.nd (e_2 o_sub (e_2 o_pow e_int e_int) e_int)))
    ss_nil)
    (ss_one (s_ret (e_ix x_ix (e_sh (e_lstO (as_cons (e_v 3) (as_cons (e_2 o_sub e_int (e_v 3)) as_nil)))) (e_v 2))))))))
abbrev s__law_pair : Stmt := topS 21
theorem sc__law_pair : FnScope ["_law_deck_here", "_law_way"] ["_law_deck_here", "_law_way"] (defScope s__law_pair) := ⟨rfl, rfl, rfl, by decide +kernel, rfl, by decide +kernel, by decide +kernel⟩
def B__law_pair : MS := (sRet (mN bTup (mCons (mCall F__law_whole (.io 0 :: (.e (mV 1) :: []))) (mCons (mCall F__law_whole (.io 0 :: (.e (mV 1) :: []))) mNil))))
def F__law_pair : Fn := runF [.ol (.ol .sh .sh) .sh, .sh] 0 B__law_pair
theorem ok__law_pair (t : TxF K mg "_law_pair" s__law_pair ["_law_deck_here", "_law_way"]) (h__law_whole : CalF P w K mg base 2 "_law_whole" [.ol (.ol .sh .sh) .sh, .sh] (.sh) F__law_whole) : CalF P w K mg base 3 "_law_pair" [.ol (.ol .sh .sh) .sh, .sh] (.sh) F__law_pair := by
  obtain ⟨f, fd, Fu, bd, hm⟩ := t
  refine ⟨f, fd, _, ok_d (ts := [.ol (.ol .sh .sh) .sh, .sh]) (nl := 0) (F := ⟨fun i => if i = 0 then .ol (.ol .sh .sh) .sh else .sh, fun i => i == 0, .sh⟩) (b := B__law_pair) Fu sc__law_pair (τs_ok _ _ (by decide)) (fx_ok _ _ (by decide)) rfl rfl (.inl rfl) ?_, Fu.kp, bd, hm⟩
  intro cdv A outer s H E hr hg hcd
  exact (ss_one (s_ret (e_tup (as_cons (e_cF h__law_whole hr hg (ag_io 0 (ag_e (e_v 1) ag_nil))) (as_cons (e_cF h__law_whole hr hg (ag_io 0 (ag_e (e_v 1) ag_nil))) as_nil)))))
abbrev s__law_lines : Stmt := topS 22
theorem sc__law_lines : FnScope ["_law_deck_here", "_law_many", "_law_way", "_law_found", "_law_k", "_law_one", "_law_other"] ["_law_deck_here", "_law_many", "_law_way"] (defScope s__law_lines) := ⟨rfl, rfl, rfl, by decide +kernel, rfl, by decide +kernel, by decide +kernel⟩
def B__law_lines : MS := (sSeq (sAsg (pN 3) (mN bLst mNil)) (sSeq (sFor (pN 4) (mItN range1 (mCons (mV 1) mNil)) (sSeq (sPar 5 6 (mCons (mCall F__law_pair (.io 0 :: (.e (mV 2) :: []))) (mCons (mCall F__law_pair (.io 0 :: (.e (mV 2) :: []))) mNil))) (sSeq (sIf (m2 bEq (mV 5) (mV 6)) (sAsg (pN 6) (mN bTup (mCons (m2 bIx (mV 5) (mC (.int 0))) (mCons (m2 bSub (mC (.int 1)) (mN bAbs (mCons (m2 bIx (mV 5) (mC (.int 1))) mNil))) mNil)))) (sK .nx)) (sExp (mApp 3 (mN bTup (mCons (mV 5) (mCons (mV 6) mNil)))))))) (sRet (mN bTuple (mCons (mV 3) mNil)))))
def F__law_lines : Fn := runF [.ol (.ol .sh .sh) .sh, .sh, .sh] 4 B__law_lines
theorem ok__law_lines (t : TxF K mg "_law_lines" s__law_lines ["_law_deck_here", "_law_many", "_law_way"]) (h__law_pair : CalF P w K mg base 3 "_law_pair" [.ol (.ol .sh .sh) .sh, .sh] (.sh) F__law_pair) (hm_abs : mg "abs" = none) (hm_range : mg "range" = none) (hm_tuple : mg "tuple" = none) : CalF P w K mg base 4 "_law_lines" [.ol (.ol .sh .sh) .sh, .sh, .sh] (.sh) F__law_lines := by
  obtain ⟨f, fd, Fu, bd, hm⟩ := t
  refine ⟨f, fd, _, ok_d (ts := [.ol (.ol .sh .sh) .sh, .sh, .sh]) (nl := 4) (F := ⟨fun i => if i = 0 then .ol (.ol .sh .sh) .sh else if i = 3 then .ol .sh .sh else .sh, fun i => i == 0, .sh⟩) (b := B__law_lines) Fu sc__law_lines (τs_ok _ _ (by decide)) (fx_ok _ _ (by decide)) rfl rfl (.inl rfl) ?_, Fu.kp, bd, hm⟩
  intro cdv A outer s H E hr hg hcd
  exact (ss_cons (s_setO 3 sc__law_lines.nd (e_lstO as_nil))
    (ss_cons (s_for (i_range1 (a_cons (e_v 1) a_nil) (hm := hm_range)) (g_n 4 sc__law_lines.nd)
    (ss_cons (s_par 5 6 sc__law_lines.nd (as_cons (e_cF h__law_pair hr hg (ag_io 0 (ag_e (e_v 2) ag_nil))) (as_cons (e_cF h__law_pair hr hg (ag_io 0 (ag_e (e_v 2) ag_nil))) as_nil)))
    (ss_cons (s_if (t_cmp (o_eq hr.units) (e_v 5) (e_v 6))
    (ss_one (s_set 6 sc__law_lines.nd (e_tup (as_cons (e_ix x_ix (e_v 5) e_int) (as_cons (e_2 o_sub e_int (e_callB c_abs (a_cons (e_ix x_ix (e_v 5) e_int) a_nil) (hm := hm_abs))) as_nil)))))
    ss_nil)
    (ss_one (s_exp (e_pk (e_app 3 (as_cons (e_tup (as_cons (e_v 5) (as_cons (e_v 6) as_nil))) as_nil))))))))
    (ss_one (s_ret (e_callTy c_tuple (a_cons (e_vp 3) a_nil) (hm := hm_tuple))))))
abbrev s__law_lines_text : Stmt := topS 23
theorem sc__law_lines_text : FnScope ["_law_grain", "_law_lines_here", "_law_text", "_law_x", "_law_y", "_law_u", "_law_v", "_law_number"] ["_law_grain", "_law_lines_here"] (defScope s__law_lines_text) := ⟨rfl, rfl, rfl, by decide +kernel, rfl, by decide +kernel, by decide +kernel⟩
def B__law_lines_text : MS := (sSeq (sAsg (pN 2) (m2 bAdd (mC (.str "grain ")) (mN bStr (mCons (mV 0) mNil)))) (sSeq (sFor (pT 2 (psC (pT 2 (psC (pN 3) (psC (pN 4) psN))) (psC (pT 2 (psC (pN 5) (psC (pN 6) psN))) psN))) (mIt (mV 1)) (sAsg (pN 2) (m2 bAdd (m2 bAdd (mV 2) (mC (.str "\n"))) (m2 bJoin (mC (.str " ")) (mComp [7] (pN 7) (mIt (mN bTup (mCons (mV 3) (mCons (mV 4) (mCons (mV 5) (mCons (mV 6) mNil)))))) mYes (mN bStr (mCons (mV 7) mNil))))))) (sRet (mV 2))))
def F__law_lines_text : List D → Res D := runP 6 B__law_lines_text
theorem ok__law_lines_text (t : TxF K mg "_law_lines_text" s__law_lines_text ["_law_grain", "_law_lines_here"]) (hm_str : mg "str" = none) : CalP P w K mg base 1 "_law_lines_text" 2 (.sh) F__law_lines_text := by
  obtain ⟨f, fd, Fu, bd, hm⟩ := t
  refine ⟨f, fd, _, ok_p (n := 2) (nl := 6) (F := ⟨fun i => .sh, fun i => false, .sh⟩) (b := B__law_lines_text) Fu sc__law_lines_text (sh_ok _ _ (by decide)) rfl rfl (.inl rfl) ?_, Fu.kp, bd, hm⟩
  intro cdv A outer s H E hr hg hcd
  exact (ss_cons (s_set 2 sc__law_lines_text.nd (e_2 o_add e_str (e_callTy c_str (a_cons (e_v 0) a_nil) (hm := hm_str))))
    (ss_cons (s_for (i_any (e_v 1)) (g_t (gs_cons (g_t (gs_cons (g_n 3 sc__law_lines_text.nd) (gs_cons (g_n 4 sc__law_lines_text.nd) gs_nil))) (gs_cons (g_t (gs_cons (g_n 5 sc__law_lines_text.nd) (gs_cons (g_n 6 sc__law_lines_text.nd) gs_nil))) gs_nil)))
    (ss_one (s_set 2 sc__law_lines_text.nd (e_2 o_add (e_2 o_add (e_v 2) e_str) (e_join e_str (e_sh (e_lcO (own' := [("_law_number", 7)]) (vs := [7]) sc__law_lines_text.nd (blkOk_by (by kernel_rfl)) (i_any (e_tup (as_cons (e_v 3) (as_cons (e_v 4) (as_cons (e_v 5) (as_cons (e_v 6) as_nil)))))) (fun _ _ _ _ _ => (g_n 7 sc__law_lines_text.nd)) (fun _ _ _ _ _ => ts_nil) (fun _ _ _ _ _ => (e_callTy c_str (a_cons (e_v 7) a_nil) (hm := hm_str))))))))))
    (ss_one (s_ret (e_v 2)))))
abbrev s__law_refused : Stmt := topS 24
theorem sc__law_refused : FnScope ["_law_text", "_law_refused_here"] ["_law_text"] (defScope s__law_refused) := ⟨rfl, rfl, rfl, by decide +kernel, rfl, by decide +kernel, by decide +kernel⟩
noncomputable def B__law_refused : MS := (sSeq (sAsg (pN 1) (mC (.bl false))) (sSeq (sTry (fun k => k == "NoText") (mCallP F_read_lines (mOkQ (mCons (mV 0) mNil))) (sAsg (pN 1) (mC (.bl true)))) (sRet (mV 1))))
noncomputable def F__law_refused : List D → Res D := runP 1 B__law_refused
theorem ok__law_refused (t : TxF K mg "_law_refused" s__law_refused ["_law_text"]) (h_read_lines : CalX P w K mg base 5 "read_lines" 1 (.sh) F_read_lines) {C_DrawError : Addr} {C_NoText : Addr} (hY_DrawError : mg "DrawError" = some (.ref C_DrawError)) (hN_NoText : PySem.W.nsIn K mainGlobals "NoText" = some (some (.ref C_NoText))) (hx_NoText_DrawError : PySem.W.exmOne K (.ref C_NoText) (.ref C_DrawError) = some true) : CalP P w K mg base 6 "_law_refused" 1 (.sh) F__law_refused := by
  obtain ⟨f, fd, Fu, bd, hm⟩ := t
  refine ⟨f, fd, _, ok_p (n := 1) (nl := 1) (F := ⟨fun i => .sh, fun i => false, .sh⟩) (b := B__law_refused) Fu sc__law_refused (sh_ok _ _ (by decide)) rfl rfl (.inl rfl) ?_, Fu.kp, bd, hm⟩
  intro cdv A outer s H E hr hg hcd
  exact (ss_cons (s_set 1 sc__law_refused.nd e_bl)
    (ss_cons (s_try (fun k => k == "NoText") (cs_one hN_NoText hx_NoText_DrawError) takes_no (fun W pn xe tk hp => x_pk (x_c h_read_lines tk hr hg (as_cons (e_v 0) as_nil) (len_cons len_nil))) (fun a oe pn => (ss_one (s_set 1 sc__law_refused.nd e_bl))) ⟨rfl, by decide, .inl hY_DrawError⟩)
    (ss_one (s_ret (e_v 1)))))
abbrev s_law : Stmt := topS 25
theorem sc_law : FnScope ["_law_script", "_law_deck_here", "_law_kept", "_law_turn", "_law_great", "_law_way", "_law_grain", "_law_sort", "_law_many", "_law_lines_here", "_law_text", "_law_found", "_law_one"] ["_law_script"] (defScope s_law) := ⟨rfl, rfl, rfl, by decide +kernel, rfl, by decide +kernel, by decide +kernel⟩
noncomputable def B_law : MS := (sSeq (sAsg (pN 1) (mCallP F__law_deck (mCons (mV 0) mNil))) (sSeq (sAsg (pN 2) (mN bLst mNil)) (sSeq (sFor (pN 3) (mItN range1 (mCons (mC (.int 5)) mNil)) (sSeq (sAsg (pN 4) (m2 bEq (mCall F__law_draw (.io 1 :: (.e (mC (.int 4)) :: []))) (mC (.int 1)))) (sSeq (sAsg (pN 5) (mCall F__law_draw (.io 1 :: (.e (mC (.int 5)) :: [])))) (sSeq (sAsg (pN 6) (m2 bAdd (mC (.int 1)) (mCall F__law_draw (.io 1 :: (.e (m2 bIx (mN bLst (mCons (mC (.int 10)) (mCons (mC (.int 1000)) mNil))) (mCall F__law_draw (.io 1 :: (.e (mC (.int 2)) :: [])))) :: []))))) (sSeq (sIf (mV 4) (sAsg (pN 6) (mN bMax2 (mCons (mC (.int 1)) (mCons (mN bAbs (mCons (mCall F__law_whole (.io 1 :: (.e (mV 5) :: []))) mNil)) mNil)))) (sK .nx)) (sSeq (sAsg (pN 7) (mCall F__law_draw (.io 1 :: (.e (mC (.int 8)) :: [])))) (sSeq (sAsg (pN 8) (m2 bIx (mN bLst (mCons (mC (.int 0)) (mCons (mC (.int 1)) (mCons (mC (.int 2)) (mCons (mC (.int 3)) (mCons (mC (.int 4)) (mCons (mC (.int 12)) (mCons (mC (.int 12)) (mCons (mC (.int 5)) mNil))))))))) (mV 7))) (sSeq (sIf (m2 bEq (mV 7) (mC (.int 7))) (sSeq (sAsg (pN 8) (m2 bAdd (mC (.int 13)) (mCall F__law_draw (.io 1 :: (.e (mC (.int 288)) :: []))))) (sAsg (pN 5) (mC (.int 0)))) (sK .nx)) (sSeq (sAsg (pN 9) (mCall F__law_lines (.io 1 :: (.e (mV 8) :: (.e (mV 5) :: []))))) (sSeq (sAsg (pN 10) (mCallP F__law_lines_text (mCons (mV 6) (mCons (mV 9) mNil)))) (sSeq (sAsg (pN 11) (mCallP F_read_lines (mCons (mV 10) mNil))) (sSeq (sIf (mOr (m2 bNe (mN bReprF (mCons (mV 11) mNil)) (mN bReprF (mCons (mN bTup (mCons (mV 6) (mCons (mV 9) mNil))) mNil))) (m2 bNe (mCallP F_show_lines (mCons (m2 bIx (mV 11) (mC (.int 0))) (mCons (m2 bIx (mV 11) (mC (.int 1))) mNil))) (mV 10))) (sRet (mC (.bl false))) (sK .nx)) (sSeq (sIf (mOr (m1 bNot (mCallP F__law_refused (mCons (m2 bAdd (mV 10) (mC (.str "\n"))) mNil))) (mOr (m1 bNot (mCallP F__law_refused (mCons (mSl (mV 10) (some (mC (.int 1))) none) mNil))) (m2 bNe (mN bReprF (mCons (mCallP F_read_lines (mCons (mV 10) mNil)) mNil)) (mN bReprF (mCons (mV 11) mNil))))) (sRet (mC (.bl false))) (sK .nx)) (sExp (mApp 2 (mN bTup (mCons (mV 6) (mCons (mV 9) (mCons (mV 10) mNil))))))))))))))))))) (sFz 2 (sSeq (sFor (pT 3 (psC (pN 6) (psC (pN 9) (psC (pN 10) psN)))) (mIt (mV 2)) (sSeq (sIf (m2 bNe (mCallP F_show_lines (mCons (mV 6) (mCons (mV 9) mNil))) (mV 10)) (sRet (mC (.bl false))) (sK .nx)) (sIf (m2 bNe (mComp [12] (pN 12) (mIt (mV 2)) (m2 bNe (m2 bEq (m2 bIx (mV 12) (mC (.int 2))) (mV 10)) (m2 bEq (mSl (mV 12) none (some (mC (.int 2)))) (mN bTup (mCons (mV 6) (mCons (mV 9) mNil))))) (mV 12)) (mN bLst mNil)) (sRet (mC (.bl false))) (sK .nx)))) (sRet (mAnd (m2 bEq (mCallP F_show_lines (mCons (mC (.int 1)) (mCons (mN bTup mNil) mNil))) (mC (.str "grain 1"))) (m2 bEq (mCallP F_read_lines (mCons (mC (.str "grain 1")) mNil)) (mN bTup (mCons (mC (.int 1)) (mCons (mN bTup mNil) mNil)))))))))))
noncomputable def F_law : List D → Res D := runP 12 B_law
theorem ok_law {f : Addr} {fd : FuncData} (Fu : Fun K "law" "law" s_law f fd) (h__law_deck : CalP P w K mg base 1 "_law_deck" 1 (.ol (.ol .sh .sh) .sh) F__law_deck) (h__law_draw : CalF P w K mg base 1 "_law_draw" [.ol (.ol .sh .sh) .sh, .sh] (.sh) F__law_draw) (h__law_lines : CalF P w K mg base 4 "_law_lines" [.ol (.ol .sh .sh) .sh, .sh, .sh] (.sh) F__law_lines) (h__law_lines_text : CalP P w K mg base 1 "_law_lines_text" 2 (.sh) F__law_lines_text) (h_read_lines : CalX P w K mg base 5 "read_lines" 1 (.sh) F_read_lines) (h_show_lines : CalP P w K mg base 2 "show_lines" 2 (.sh) F_show_lines) (h__law_refused : CalP P w K mg base 6 "_law_refused" 1 (.sh) F__law_refused) (h__law_whole : CalF P w K mg base 2 "_law_whole" [.ol (.ol .sh .sh) .sh, .sh] (.sh) F__law_whole) (hm_abs : mg "abs" = none) (hm_max : mg "max" = none) (hm_range : mg "range" = none) (hm_repr : mg "repr" = none) : FnG P w K mg base 7 f fd ["_law_script"] (spP K 1 .sh F_law) := by
  refine ok_p (n := 1) (nl := 12) (F := ⟨fun i => if i = 1 then .ol (.ol .sh .sh) .sh else if i = 2 then .ol .sh .sh else .sh, fun i => false, .sh⟩) (b := B_law) Fu sc_law (sh_ok _ _ (by decide)) rfl rfl (.inl rfl) ?_
  intro cdv A outer s H E hr hg hcd
  exact (ss_cons (s_setO 1 sc_law.nd (e_c h__law_deck hr hg (as_cons (e_v 0) as_nil) (len_cons len_nil)))
    (ss_cons (s_setO 2 sc_law.nd (e_lstO as_nil))
    (ss_cons (s_for (i_range1 (a_cons e_int a_nil) (hm := hm_range)) (g_n 3 sc_law.nd)
    (ss_cons (s_set 4 sc_law.nd (e_cmp (o_eq hr.units) (e_cF h__law_draw hr hg (ag_io 1 (ag_e e_int ag_nil))) e_int))
    (ss_cons (s_set 5 sc_law.nd (e_cF h__law_draw hr hg (ag_io 1 (ag_e e_int ag_nil))))
    (ss_cons (s_set 6 sc_law.nd (e_2 o_add e_int (e_cF h__law_draw hr hg (ag_io 1 (ag_e (e_ix x_ix (e_sh (e_lstO (as_cons e_int (as_cons e_int as_nil)))) (e_cF h__law_draw hr hg (ag_io 1 (ag_e e_int ag_nil)))) ag_nil)))))
    (ss_cons (s_if (t_val (e_v 4))
    (ss_one (s_set 6 sc_law.nd (e_callB (c_max2 rfl) (a_cons e_int (a_cons (e_callB c_abs (a_cons (e_cF h__law_whole hr hg (ag_io 1 (ag_e (e_v 5) ag_nil))) a_nil) (hm := hm_abs)) a_nil)) (hm := hm_max))))
    ss_nil)
    (ss_cons (s_set 7 sc_law.nd (e_cF h__law_draw hr hg (ag_io 1 (ag_e e_int ag_nil))))
    (ss_cons (s_set 8 sc_law.nd (e_ix x_ix (e_sh (e_lstO (as_cons e_int (as_cons e_int (as_cons e_int (as_cons e_int (as_cons e_int (as_cons e_int (as_cons e_int (as_cons e_int as_nil)))))))))) (e_v 7)))
    (ss_cons (s_if (t_cmp (o_eq hr.units) (e_v 7) e_int)
    (ss_cons (s_set 8 sc_law.nd (e_2 o_add e_int (e_cF h__law_draw hr hg (ag_io 1 (ag_e e_int ag_nil)))))
    (ss_one (s_set 5 sc_law.nd e_int)))
    ss_nil)
    (ss_cons (s_set 9 sc_law.nd (e_cF h__law_lines hr hg (ag_io 1 (ag_e (e_v 8) (ag_e (e_v 5) ag_nil)))))
    (ss_cons (s_set 10 sc_law.nd (e_c h__law_lines_text hr hg (as_cons (e_v 6) (as_cons (e_v 9) as_nil)) (len_cons (len_cons len_nil))))
    (ss_cons (s_set 11 sc_law.nd (e_c (CalX.toP h_read_lines) hr hg (as_cons (e_v 10) as_nil) (len_cons len_nil)))
    (ss_cons (s_if (w_or (t_cmp (o_ne hr.units) (e_callB (c_reprF hr.units hg) (a_cons (e_v 11) a_nil) (hm := hm_repr)) (e_callB (c_reprF hr.units hg) (a_cons (e_tup (as_cons (e_v 6) (as_cons (e_v 9) as_nil))) a_nil) (hm := hm_repr))) (w_or1 (t_cmp (o_ne hr.units) (e_c h_show_lines hr hg (as_cons (e_ix x_ix (e_v 11) e_int) (as_cons (e_ix x_ix (e_v 11) e_int) as_nil)) (len_cons (len_cons len_nil))) (e_v 10)))).pt
    (ss_one (s_ret e_bl))
    ss_nil)
    (ss_cons (s_if (w_or (t_not (t_val (e_c h__law_refused hr hg (as_cons (e_2 o_add (e_v 10) e_str) as_nil) (len_cons len_nil)))) (w_or (t_not (t_val (e_c h__law_refused hr hg (as_cons (e_sl (e_v 10) (po_s e_int) po_n) as_nil) (len_cons len_nil)))) (w_or1 (t_cmp (o_ne hr.units) (e_callB (c_reprF hr.units hg) (a_cons (e_c (CalX.toP h_read_lines) hr hg (as_cons (e_v 10) as_nil) (len_cons len_nil)) a_nil) (hm := hm_repr)) (e_callB (c_reprF hr.units hg) (a_cons (e_v 11) a_nil) (hm := hm_repr)))))).pt
    (ss_one (s_ret e_bl))
    ss_nil)
    (ss_one (s_exp (e_pk (e_app 2 (as_cons (e_tup (as_cons (e_v 6) (as_cons (e_v 9) (as_cons (e_v 10) as_nil)))) as_nil))))))))))))))))))
    (ss_fz 2 rfl (ss_cons (s_for (i_any (e_v 2)) (g_t (gs_cons (g_n 6 sc_law.nd) (gs_cons (g_n 9 sc_law.nd) (gs_cons (g_n 10 sc_law.nd) gs_nil))))
    (ss_cons (s_if (t_cmp (o_ne hr.units) (e_c h_show_lines hr hg (as_cons (e_v 6) (as_cons (e_v 9) as_nil)) (len_cons (len_cons len_nil))) (e_v 10))
    (ss_one (s_ret e_bl))
    ss_nil)
    (ss_one (s_if (t_cmp (o_ne hr.units) (e_sh (e_lcO (own' := [("_law_one", 12)]) (vs := [12]) sc_law.nd (blkOk_by (by kernel_rfl)) (i_any (e_v 2)) (fun _ _ _ _ _ => (g_n 12 sc_law.nd)) (fun _ _ _ _ _ => (ts_one (t_cmp (o_ne hr.units) (e_cmp (o_eq hr.units) (e_ix x_ix (e_v 12) e_int) (e_v 10)) (e_cmp (o_eq hr.units) (e_sl (e_v 12) po_n (po_s e_int)) (e_tup (as_cons (e_v 6) (as_cons (e_v 9) as_nil))))))) (fun _ _ _ _ _ => (e_v 12)))) (e_sh (e_lstO as_nil)))
    (ss_one (s_ret e_bl))
    ss_nil))))
    (ss_one (s_ret (e_and (e_cmp (o_eq hr.units) (e_c h_show_lines hr hg (as_cons e_int (as_cons (e_tup as_nil) as_nil)) (len_cons (len_cons len_nil))) e_str) (e_one (e_cmp (o_eq hr.units) (e_c (CalX.toP h_read_lines) hr hg (as_cons e_str as_nil) (len_cons len_nil)) (e_tup (as_cons e_int (as_cons (e_tup as_nil) as_nil)))))))))))))
end
theorem tx_is_whole {K : PySem.W.Frag} {h : Heap} {mg : Str → Option Value} (X : K.In h) (G : h.Ns mainGlobals mg) (e : EntF K "is_whole" "is_whole" s_is_whole) [Tb] : TxF K mg "is_whole" s_is_whole ["thing"] := by
  obtain ⟨a, l, c, k⟩ := e
  exact ⟨_, _, fun_mk (st := s_is_whole) l c k, (fun_mk (st := s_is_whole) l c k).binds (ps := ["thing"]) fun _ _ _ _ _ _ us hl => match us, hl with | [_], _ => rfl, PySem.W.mg_of X G a⟩
theorem tx_is_grain {K : PySem.W.Frag} {h : Heap} {mg : Str → Option Value} (X : K.In h) (G : h.Ns mainGlobals mg) (e : EntF K "is_grain" "is_grain" s_is_grain) [Tb] : TxF K mg "is_grain" s_is_grain ["thing"] := by
  obtain ⟨a, l, c, k⟩ := e
  exact ⟨_, _, fun_mk (st := s_is_grain) l c k, (fun_mk (st := s_is_grain) l c k).binds (ps := ["thing"]) fun _ _ _ _ _ _ us hl => match us, hl with | [_], _ => rfl, PySem.W.mg_of X G a⟩
theorem tx_is_point {K : PySem.W.Frag} {h : Heap} {mg : Str → Option Value} (X : K.In h) (G : h.Ns mainGlobals mg) (e : EntF K "is_point" "is_point" s_is_point) [Tb] : TxF K mg "is_point" s_is_point ["thing"] := by
  obtain ⟨a, l, c, k⟩ := e
  exact ⟨_, _, fun_mk (st := s_is_point) l c k, (fun_mk (st := s_is_point) l c k).binds (ps := ["thing"]) fun _ _ _ _ _ _ us hl => match us, hl with | [_], _ => rfl, PySem.W.mg_of X G a⟩
theorem tx_is_line {K : PySem.W.Frag} {h : Heap} {mg : Str → Option Value} (X : K.In h) (G : h.Ns mainGlobals mg) (e : EntF K "is_line" "is_line" s_is_line) [Tb] : TxF K mg "is_line" s_is_line ["thing"] := by
  obtain ⟨a, l, c, k⟩ := e
  exact ⟨_, _, fun_mk (st := s_is_line) l c k, (fun_mk (st := s_is_line) l c k).binds (ps := ["thing"]) fun _ _ _ _ _ _ us hl => match us, hl with | [_], _ => rfl, PySem.W.mg_of X G a⟩
theorem tx_are_lines {K : PySem.W.Frag} {h : Heap} {mg : Str → Option Value} (X : K.In h) (G : h.Ns mainGlobals mg) (e : EntF K "are_lines" "are_lines" s_are_lines) [Tb] : TxF K mg "are_lines" s_are_lines ["thing"] := by
  obtain ⟨a, l, c, k⟩ := e
  exact ⟨_, _, fun_mk (st := s_are_lines) l c k, (fun_mk (st := s_are_lines) l c k).binds (ps := ["thing"]) fun _ _ _ _ _ _ us hl => match us, hl with | [_], _ => rfl, PySem.W.mg_of X G a⟩
theorem tx_is_number_word {K : PySem.W.Frag} {h : Heap} {mg : Str → Option Value} (X : K.In h) (G : h.Ns mainGlobals mg) (e : EntF K "is_number_word" "is_number_word" s_is_number_word) [Tb] : TxF K mg "is_number_word" s_is_number_word ["word"] := by
  obtain ⟨a, l, c, k⟩ := e
  exact ⟨_, _, fun_mk (st := s_is_number_word) l c k, (fun_mk (st := s_is_number_word) l c k).binds (ps := ["word"]) fun _ _ _ _ _ _ us hl => match us, hl with | [_], _ => rfl, PySem.W.mg_of X G a⟩
theorem tx_numbers_of {K : PySem.W.Frag} {h : Heap} {mg : Str → Option Value} (X : K.In h) (G : h.Ns mainGlobals mg) (e : EntF K "numbers_of" "numbers_of" s_numbers_of) [Tb] : TxF K mg "numbers_of" s_numbers_of ["text", "many"] := by
  obtain ⟨a, l, c, k⟩ := e
  exact ⟨_, _, fun_mk (st := s_numbers_of) l c k, (fun_mk (st := s_numbers_of) l c k).binds (ps := ["text", "many"]) fun _ _ _ _ _ _ us hl => match us, hl with | [_, _], _ => rfl, PySem.W.mg_of X G a⟩
theorem tx_show_row {K : PySem.W.Frag} {h : Heap} {mg : Str → Option Value} (X : K.In h) (G : h.Ns mainGlobals mg) (e : EntF K "show_row" "show_row" s_show_row) [Tb] : TxF K mg "show_row" s_show_row ["numbers"] := by
  obtain ⟨a, l, c, k⟩ := e
  exact ⟨_, _, fun_mk (st := s_show_row) l c k, (fun_mk (st := s_show_row) l c k).binds (ps := ["numbers"]) fun _ _ _ _ _ _ us hl => match us, hl with | [_], _ => rfl, PySem.W.mg_of X G a⟩
theorem tx_show_lines {K : PySem.W.Frag} {h : Heap} {mg : Str → Option Value} (X : K.In h) (G : h.Ns mainGlobals mg) (e : EntF K "show_lines" "show_lines" s_show_lines) [Tb] : TxF K mg "show_lines" s_show_lines ["grain", "lines"] := by
  obtain ⟨a, l, c, k⟩ := e
  exact ⟨_, _, fun_mk (st := s_show_lines) l c k, (fun_mk (st := s_show_lines) l c k).binds (ps := ["grain", "lines"]) fun _ _ _ _ _ _ us hl => match us, hl with | [_, _], _ => rfl, PySem.W.mg_of X G a⟩
theorem tx_read_lines {K : PySem.W.Frag} {h : Heap} {mg : Str → Option Value} (X : K.In h) (G : h.Ns mainGlobals mg) (e : EntF K "read_lines" "read_lines" s_read_lines) [Tb] : TxF K mg "read_lines" s_read_lines ["text"] := by
  obtain ⟨a, l, c, k⟩ := e
  exact ⟨_, _, fun_mk (st := s_read_lines) l c k, (fun_mk (st := s_read_lines) l c k).binds (ps := ["text"]) fun _ _ _ _ _ _ us hl => match us, hl with | [_], _ => rfl, PySem.W.mg_of X G a⟩
theorem tx__law_deck {K : PySem.W.Frag} {h : Heap} {mg : Str → Option Value} (X : K.In h) (G : h.Ns mainGlobals mg) (e : EntF K "_law_deck" "_law_deck" s__law_deck) [Tb] : TxF K mg "_law_deck" s__law_deck ["_law_script"] := by
  obtain ⟨a, l, c, k⟩ := e
  exact ⟨_, _, fun_mk (st := s__law_deck) l c k, (fun_mk (st := s__law_deck) l c k).binds (ps := ["_law_script"]) fun _ _ _ _ _ _ us hl => match us, hl with | [_], _ => rfl, PySem.W.mg_of X G a⟩
theorem tx__law_draw {K : PySem.W.Frag} {h : Heap} {mg : Str → Option Value} (X : K.In h) (G : h.Ns mainGlobals mg) (e : EntF K "_law_draw" "_law_draw" s__law_draw) [Tb] : TxF K mg "_law_draw" s__law_draw ["_law_deck_here", "_law_most"] := by
  obtain ⟨a, l, c, k⟩ := e
  exact ⟨_, _, fun_mk (st := s__law_draw) l c k, (fun_mk (st := s__law_draw) l c k).binds (ps := ["_law_deck_here", "_law_most"]) fun _ _ _ _ _ _ us hl => match us, hl with | [_, _], _ => rfl, PySem.W.mg_of X G a⟩
theorem tx__law_whole {K : PySem.W.Frag} {h : Heap} {mg : Str → Option Value} (X : K.In h) (G : h.Ns mainGlobals mg) (e : EntF K "_law_whole" "_law_whole" s__law_whole) [Tb] : TxF K mg "_law_whole" s__law_whole ["_law_deck_here", "_law_way"] := by
  obtain ⟨a, l, c, k⟩ := e
  exact ⟨_, _, fun_mk (st := s__law_whole) l c k, (fun_mk (st := s__law_whole) l c k).binds (ps := ["_law_deck_here", "_law_way"]) fun _ _ _ _ _ _ us hl => match us, hl with | [_, _], _ => rfl, PySem.W.mg_of X G a⟩
theorem tx__law_pair {K : PySem.W.Frag} {h : Heap} {mg : Str → Option Value} (X : K.In h) (G : h.Ns mainGlobals mg) (e : EntF K "_law_pair" "_law_pair" s__law_pair) [Tb] : TxF K mg "_law_pair" s__law_pair ["_law_deck_here", "_law_way"] := by
  obtain ⟨a, l, c, k⟩ := e
  exact ⟨_, _, fun_mk (st := s__law_pair) l c k, (fun_mk (st := s__law_pair) l c k).binds (ps := ["_law_deck_here", "_law_way"]) fun _ _ _ _ _ _ us hl => match us, hl with | [_, _], _ => rfl, PySem.W.mg_of X G a⟩
theorem tx__law_lines {K : PySem.W.Frag} {h : Heap} {mg : Str → Option Value} (X : K.In h) (G : h.Ns mainGlobals mg) (e : EntF K "_law_lines" "_law_lines" s__law_lines) [Tb] : TxF K mg "_law_lines" s__law_lines ["_law_deck_here", "_law_many", "_law_way"] := by
  obtain ⟨a, l, c, k⟩ := e
  exact ⟨_, _, fun_mk (st := s__law_lines) l c k, (fun_mk (st := s__law_lines) l c k).binds (ps := ["_law_deck_here", "_law_many", "_law_way"]) fun _ _ _ _ _ _ us hl => match us, hl with | [_, _, _], _ => rfl, PySem.W.mg_of X G a⟩
theorem tx__law_lines_text {K : PySem.W.Frag} {h : Heap} {mg : Str → Option Value} (X : K.In h) (G : h.Ns mainGlobals mg) (e : EntF K "_law_lines_text" "_law_lines_text" s__law_lines_text) [Tb] : TxF K mg "_law_lines_text" s__law_lines_text ["_law_grain", "_law_lines_here"] := by
  obtain ⟨a, l, c, k⟩ := e
  exact ⟨_, _, fun_mk (st := s__law_lines_text) l c k, (fun_mk (st := s__law_lines_text) l c k).binds (ps := ["_law_grain", "_law_lines_here"]) fun _ _ _ _ _ _ us hl => match us, hl with | [_, _], _ => rfl, PySem.W.mg_of X G a⟩
theorem tx__law_refused {K : PySem.W.Frag} {h : Heap} {mg : Str → Option Value} (X : K.In h) (G : h.Ns mainGlobals mg) (e : EntF K "_law_refused" "_law_refused" s__law_refused) [Tb] : TxF K mg "_law_refused" s__law_refused ["_law_text"] := by
  obtain ⟨a, l, c, k⟩ := e
  exact ⟨_, _, fun_mk (st := s__law_refused) l c k, (fun_mk (st := s__law_refused) l c k).binds (ps := ["_law_text"]) fun _ _ _ _ _ _ us hl => match us, hl with | [_], _ => rfl, PySem.W.mg_of X G a⟩
set_option maxHeartbeats 0 in
theorem all_mk {P : Program} {w : World} {K : PySem.W.Frag} {h : Heap} {mg : Str → Option Value} {fa : Addr} (X : K.In h) (G : h.Ns mainGlobals mg) (hfa : mg "law" = some (.ref fa))
    (e0 : EntF K "is_whole" "is_whole" s_is_whole)
    (e1 : EntF K "is_grain" "is_grain" s_is_grain)
    (e2 : EntF K "is_point" "is_point" s_is_point)
    (e3 : EntF K "is_line" "is_line" s_is_line)
    (e4 : EntF K "are_lines" "are_lines" s_are_lines)
    (e5 : EntF K "is_number_word" "is_number_word" s_is_number_word)
    (e6 : EntF K "numbers_of" "numbers_of" s_numbers_of)
    (e7 : EntF K "show_row" "show_row" s_show_row)
    (e8 : EntF K "show_lines" "show_lines" s_show_lines)
    (e9 : EntF K "read_lines" "read_lines" s_read_lines)
    (e10 : EntF K "_law_deck" "_law_deck" s__law_deck)
    (e11 : EntF K "_law_draw" "_law_draw" s__law_draw)
    (e12 : EntF K "_law_whole" "_law_whole" s__law_whole)
    (e13 : EntF K "_law_pair" "_law_pair" s__law_pair)
    (e14 : EntF K "_law_lines" "_law_lines" s__law_lines)
    (e15 : EntF K "_law_lines_text" "_law_lines_text" s__law_lines_text)
    (e16 : EntF K "_law_refused" "_law_refused" s__law_refused)
    {od17 an17 : Option Addr} {sl17 : Array (Option Value)} {oc17 kV17 dc17 pm17 cd17 ct17 : Value} {f17 : Addr} (a17 : PySem.W.nsIn K mainGlobals "law" = some (some (.ref f17))) (l17 : K.lookup f17 = some ⟨oc17, od17, .func (PySem.W.fnOf "law" "law" (defArgs s_law) (defBody s_law) (defScope s_law) .none kV17 dc17 pm17 an17 cd17 ct17), sl17⟩) (c17 : PySem.W.codeIn K cd17 "law" = true) (k17 : PySem.W.keepIn K (.ref f17) = true)
    {C_DrawError : Addr} (xa_DrawError : PySem.W.nsIn K mainGlobals "DrawError" = some (some (.ref C_DrawError)))
    {C_NoText : Addr} (xa_NoText : PySem.W.nsIn K mainGlobals "NoText" = some (some (.ref C_NoText)))
    (xq_NoText : PySem.W.excIn K C_NoText [.type "ValueError", .type "Exception", .type "BaseException", .type "object"] "ValueError.__new__" = true) (xk_NoText : PySem.W.keepIn K (.ref C_NoText) = true) (xs_NoText : PySem.W.subIn K (.ref C_NoText) (.type "BaseException") = some true) (xt_NoText : PySem.W.typeIn K (.ref C_NoText) = some (.type "type"))
    (xx_NoText_DrawError : PySem.W.exmOne K (.ref C_NoText) (.ref C_DrawError) = some true)
    (z_abs : PySem.W.nsIn K mainGlobals "abs" = some none) (z_all : PySem.W.nsIn K mainGlobals "all" = some none) (z_bool : PySem.W.nsIn K mainGlobals "bool" = some none) (z_int : PySem.W.nsIn K mainGlobals "int" = some none) (z_isinstance : PySem.W.nsIn K mainGlobals "isinstance" = some none) (z_len : PySem.W.nsIn K mainGlobals "len" = some none) (z_list : PySem.W.nsIn K mainGlobals "list" = some none) (z_max : PySem.W.nsIn K mainGlobals "max" = some none) (z_range : PySem.W.nsIn K mainGlobals "range" = some none) (z_repr : PySem.W.nsIn K mainGlobals "repr" = some none) (z_str : PySem.W.nsIn K mainGlobals "str" = some none) (z_sum : PySem.W.nsIn K mainGlobals "sum" = some none) (z_tuple : PySem.W.nsIn K mainGlobals "tuple" = some none) {t_FIGURES : Tok} (y_FIGURES : PySem.W.nsIn K mainGlobals "FIGURES" = some (some (.str "0123456789" t_FIGURES))) {t_MOST_FIGURES : Tok} (y_MOST_FIGURES : PySem.W.nsIn K mainGlobals "MOST_FIGURES" = some (some (.int 30 t_MOST_FIGURES))) :
    ∃ (cs : List (Addr × Addr × Str)) (fd : FuncData), (∀ c ∈ cs, h.get? c.2.1 = some { cls := .none, data := .fields #[] }) ∧ (∀ c ∈ cs, K.lookup c.2.1 = none) ∧ (∀ c ∈ cs, PySem.W.CodeHd h c.1 c.2.1) ∧ (∀ (s : Shared) (v : Value), BindsTo s fd ⟨[v], []⟩ [("_law_script", v)]) ∧ ∀ base : Heap, K.In base → base.Ns mainGlobals mg → (∀ c ∈ cs, LamX.TabB base mg c.1 c.2.1) → FnG P w K mg base 7 fa fd ["_law_script"] (@spP (tbOf cs) K 1 .sh F_law) := by
  letI : Tb := tbOf []
  have e := hfa.symm.trans (PySem.W.mg_of X G a17)
  cases e
  have T0 := tx_is_whole X G e0
  have T1 := tx_is_grain X G e1
  have T2 := tx_is_point X G e2
  have T3 := tx_is_line X G e3
  have T4 := tx_are_lines X G e4
  have T5 := tx_is_number_word X G e5
  have T6 := tx_numbers_of X G e6
  have T7 := tx_show_row X G e7
  have T8 := tx_show_lines X G e8
  have T9 := tx_read_lines X G e9
  have T10 := tx__law_deck X G e10
  have T11 := tx__law_draw X G e11
  have T12 := tx__law_whole X G e12
  have T13 := tx__law_pair X G e13
  have T14 := tx__law_lines X G e14
  have T15 := tx__law_lines_text X G e15
  have T16 := tx__law_refused X G e16
  have T17 : TxF K mg "law" s_law ["_law_script"] := ⟨_, _, fun_mk (st := s_law) l17 c17 k17, (fun_mk (st := s_law) l17 c17 k17).binds (ps := ["_law_script"]) fun _ _ _ _ _ _ us hl => match us, hl with | [_], _ => rfl, PySem.W.mg_of X G a17⟩
  have E_NoText : ExcF K mg "NoText" C_NoText := ⟨xq_NoText, PySem.W.mg_of X G xa_NoText, xk_NoText, xs_NoText, xt_NoText, xa_NoText⟩
  refine ⟨[], PySem.W.fnOf "law" "law" (defArgs s_law) (defBody s_law) (defScope s_law) .none kV17 dc17 pm17 an17 cd17 ct17, (fun c hc => by
    cases hc), (fun c hc => by
    cases hc), (fun c hc => by
    cases hc), fun s v => .of_eq rfl, fun base _ _ hTB => ?_⟩
  have H_is_whole : CalP P w K mg base 1 "is_whole" 1 (.sh) F_is_whole := ok_is_whole (P := P) (w := w) (base := base) T0 (PySem.W.mg_none_of X G z_bool) (PySem.W.mg_none_of X G z_int) (PySem.W.mg_none_of X G z_isinstance)
  have H_is_grain : CalP P w K mg base 2 "is_grain" 1 (.sh) F_is_grain := ok_is_grain (P := P) (w := w) (base := base) T1 H_is_whole
  have H_is_point : CalP P w K mg base 2 "is_point" 1 (.sh) F_is_point := ok_is_point (P := P) (w := w) (base := base) T2 H_is_whole (PySem.W.mg_none_of X G z_isinstance) (PySem.W.mg_none_of X G z_len) (PySem.W.mg_none_of X G z_tuple)
  have H_is_line : CalP P w K mg base 3 "is_line" 1 (.sh) F_is_line := ok_is_line (P := P) (w := w) (base := base) T3 H_is_point (PySem.W.mg_none_of X G z_isinstance) (PySem.W.mg_none_of X G z_len) (PySem.W.mg_none_of X G z_tuple)
  have H_are_lines : CalP P w K mg base 4 "are_lines" 1 (.sh) F_are_lines := ok_are_lines (P := P) (w := w) (base := base) T4 H_is_line (PySem.W.mg_none_of X G z_all) (PySem.W.mg_none_of X G z_isinstance) (PySem.W.mg_none_of X G z_tuple)
  have H_is_number_word : CalP P w K mg base 1 "is_number_word" 1 (.sh) F_is_number_word := ok_is_number_word (P := P) (w := w) (base := base) T5 (PySem.W.mg_none_of X G z_all) (PySem.W.mg_none_of X G z_len) ⟨_, PySem.W.mg_of X G y_FIGURES⟩ ⟨_, PySem.W.mg_of X G y_MOST_FIGURES⟩
  have H_numbers_of : CalX P w K mg base 2 "numbers_of" 2 (.sh) F_numbers_of := ok_numbers_of (P := P) (w := w) (base := base) T6 H_is_number_word (PySem.W.mg_none_of X G z_all) (PySem.W.mg_none_of X G z_int) (PySem.W.mg_none_of X G z_len) (PySem.W.mg_none_of X G z_tuple) E_NoText
  have H_show_row : CalP P w K mg base 1 "show_row" 1 (.sh) F_show_row := ok_show_row (P := P) (w := w) (base := base) T7 (PySem.W.mg_none_of X G z_str)
  have H_show_lines : CalP P w K mg base 2 "show_lines" 2 (.sh) F_show_lines := ok_show_lines (P := P) (w := w) (base := base) T8 H_show_row (PySem.W.mg_none_of X G z_str)
  have H_read_lines : CalX P w K mg base 5 "read_lines" 1 (.sh) F_read_lines := ok_read_lines (P := P) (w := w) (base := base) T9 H_numbers_of H_is_grain H_are_lines (PySem.W.mg_none_of X G z_isinstance) (PySem.W.mg_none_of X G z_len) (PySem.W.mg_none_of X G z_str) (PySem.W.mg_none_of X G z_tuple) E_NoText
  have H__law_deck : CalP P w K mg base 1 "_law_deck" 1 (.ol (.ol .sh .sh) .sh) F__law_deck := ok__law_deck (P := P) (w := w) (base := base) T10 (PySem.W.mg_none_of X G z_len) (PySem.W.mg_none_of X G z_list) (PySem.W.mg_none_of X G z_sum)
  have H__law_draw : CalF P w K mg base 1 "_law_draw" [.ol (.ol .sh .sh) .sh, .sh] (.sh) F__law_draw := ok__law_draw (P := P) (w := w) (base := base) T11
  have H__law_whole : CalF P w K mg base 2 "_law_whole" [.ol (.ol .sh .sh) .sh, .sh] (.sh) F__law_whole := ok__law_whole (P := P) (w := w) (base := base) T12 H__law_draw (PySem.W.mg_none_of X G z_int) (PySem.W.mg_none_of X G z_range)
  have H__law_pair : CalF P w K mg base 3 "_law_pair" [.ol (.ol .sh .sh) .sh, .sh] (.sh) F__law_pair := ok__law_pair (P := P) (w := w) (base := base) T13 H__law_whole
  have H__law_lines : CalF P w K mg base 4 "_law_lines" [.ol (.ol .sh .sh) .sh, .sh, .sh] (.sh) F__law_lines := ok__law_lines (P := P) (w := w) (base := base) T14 H__law_pair (PySem.W.mg_none_of X G z_abs) (PySem.W.mg_none_of X G z_range) (PySem.W.mg_none_of X G z_tuple)
  have H__law_lines_text : CalP P w K mg base 1 "_law_lines_text" 2 (.sh) F__law_lines_text := ok__law_lines_text (P := P) (w := w) (base := base) T15 (PySem.W.mg_none_of X G z_str)
  have H__law_refused : CalP P w K mg base 6 "_law_refused" 1 (.sh) F__law_refused := ok__law_refused (P := P) (w := w) (base := base) T16 H_read_lines (PySem.W.mg_of X G xa_DrawError) xa_NoText xx_NoText_DrawError
  exact ok_law (fun_mk (st := s_law) l17 c17 k17) H__law_deck H__law_draw H__law_lines H__law_lines_text H_read_lines H_show_lines H__law_refused H__law_whole (PySem.W.mg_none_of X G z_abs) (PySem.W.mg_none_of X G z_max) (PySem.W.mg_none_of X G z_range) (PySem.W.mg_none_of X G z_repr)
end LW

namespace LW
open PySem PySem.Spec L2 CL CLG CLX CLTX TL
theorem word_is : F_is_number_word = CLTX.F_is_number_word := rfl
theorem nums_eq : F_numbers_of = CLTX.F_numbers_of := rfl
theorem row_eq : F_show_row = CLTX.F_show_row := rfl
theorem draw_is : F__law_draw = drawF := rfl
local macro_rules | `(tactic| walk_at "o") => `(tactic| ((try simp only [backA, List.set_cons_zero, List.set_cons_succ, wipeD, List.map_cons, List.map_nil, List.cons_append, List.nil_append, List.replicate_succ, List.replicate_zero]); first | done | rfl))
local macro_rules | `(tactic| walk_at "b") => `(tactic| first
  | with_reducible exact Nb.lit
  | ((with_reducible apply Nb.mul) <;> walk_at "b")
  | ((with_reducible apply Nb.add) <;> walk_at "b")
  | ((with_reducible apply Nb.sub) <;> walk_at "b")
  | ((with_reducible apply Nb.neg) <;> walk_at "b")
  | ((with_reducible apply Nb.fdiv) <;> walk_at "b")
  | ((with_reducible apply Nb.fmod); (· walk_at "z"); (· walk_at "b"))
  | ((with_reducible apply Nb.max) <;> walk_at "b")
  | ((with_reducible apply Nb.min) <;> walk_at "b")
  | ((with_reducible apply Nb.ite) <;> walk_at "b")
  | with_reducible assumption
  | with_reducible exact Nb.le (by assumption)
  | with_reducible exact Nb.nle (by assumption)
  | with_reducible exact Nb.lt (by assumption)
  | ((with_reducible apply Nb.rng (by assumption) (by assumption)) <;> walk_at "b")
  | ((with_reducible apply Nb.rngE (by assumption) (by assumption)) <;> walk_at "b")
  | with_reducible exact Nb.self _)
local macro_rules | `(tactic| walk_at "z") => `(tactic| first | decide | with_reducible assumption | omega | exact fmod_nn (by omega) | exact fmod_lt (by omega))
local macro_rules | `(tactic| walk_at "e") => `(tactic| first
  | ((with_reducible refine is_ev ?_); first
    | ((with_reducible apply mul_st); (· walk_at "b"); (· walk_at "b"); (· rfl))
    | ((with_reducible apply mul_s1); (· walk_at "b"); (· rfl))
    | ((with_reducible apply mul_s2); (· walk_at "b"); (· rfl))
    | ((with_reducible apply div_st); (· walk_at "z"); (· walk_at "b"); (· rfl))
    | ((with_reducible apply mod_st); (· walk_at "z"))
    | with_reducible apply tup_pt
    | with_reducible apply tup_ln
    | ((with_reducible apply tup_st); (· rfl))
    | ((with_reducible apply lst_st); (· rfl))
    | with_reducible apply eqi_st
    | with_reducible apply nei_st
    | with_reducible apply eqp_st
    | with_reducible apply nep_st
    | with_reducible apply eqp_st'
    | with_reducible apply nep_st'
    | with_reducible apply eqb_st
    | with_reducible apply neb_st
    | with_reducible apply isb_st
    | with_reducible apply eqs_st
    | with_reducible apply nes_st
    | with_reducible refine ixl0 ?_
    | with_reducible refine ixl1 ?_
    | with_reducible refine ix2bi (fun _ _ _ => ?_)
    | ((with_reducible refine ix4i ?_ ?_ (fun _ _ _ => ?_)); (· walk_at "z"); (· walk_at "z"))
    | ((with_reducible refine ix2i ?_ ?_ (fun _ _ _ => ?_)); (· walk_at "z"); (· walk_at "z"))
    | ((with_reducible refine ix3i ?_ ?_ (fun _ _ _ => ?_)); (· walk_at "z"); (· walk_at "z"))
    | refine ⟨_, rfl, ?_⟩)
  | ((with_reducible refine fill_st ?_); refine ⟨_, rfl, ?_⟩; (try dsimp only))
  | ((with_reducible apply and_go rfl); (· (intro _; (repeat walk_at "s"); with_reducible exact ⟨rfl, rfl⟩)))
  | ((with_reducible refine is_chain ?_); (apply chain_go rfl); (· (intro _; (repeat walk_at "s"); exact ⟨rfl, rfl⟩)))
  | ((with_reducible refine draw_step (by assumption) ?_ ?_ (fun _ _ _ _ _ => ?_)); (· walk_at "z"); (· walk_at "z"))
  | ((with_reducible refine CLY.draw_step (by assumption) ?_ ?_ (fun _ _ _ _ _ => ?_)); (· walk_at "z"); (· walk_at "z"))
  | ((with_reducible refine is_evA ?_); refine ⟨_, rfl, ?_⟩)
  | ((with_reducible refine is_evL ?_); refine ⟨_, rfl, ?_⟩)
  | ((with_reducible refine is_evI ?_); refine ⟨_, rfl, ?_⟩)
  | ((with_reducible refine is_evR ?_); refine ⟨_, rfl, ?_⟩))
local macro_rules | `(tactic| walk_at "f") => `(tactic| first
  | with_reducible refine W_mV.mpr ?_
  | with_reducible refine W_mCons.mpr ?_
  | with_reducible refine W_m2.mpr ?_
  | with_reducible refine W_mC.mpr ?_
  | with_reducible refine W_mNil.mpr ?_
  | with_reducible refine W_mN.mpr ?_
  | with_reducible refine W_sSeq.mpr ?_
  | with_reducible refine W_sAsg.mpr ?_
  | with_reducible refine W_m1.mpr ?_
  | with_reducible refine W_mCallP.mpr ?_
  | with_reducible refine W_mCall.mpr ?_
  | with_reducible refine X_evI.mpr ?_
  | with_reducible refine X_evE.mpr ?_
  | with_reducible refine X_evN.mpr ?_
  | with_reducible refine X_if ?_
  | with_reducible refine W_sRet.mpr ?_
  | with_reducible refine W_sK.mpr ?_
  | with_reducible refine X_and ?_
  | with_reducible refine X_or ?_
  | with_reducible refine W_sPar.mpr ?_
  | with_reducible refine W_mSl.mpr ?_
  | with_reducible refine W_mPtN.mpr ?_
  | with_reducible refine W_mPtS.mpr ?_
  | with_reducible refine W_mIt.mpr ?_
  | with_reducible refine W_mItN.mpr ?_
  | with_reducible refine W_mComp.mpr ?_
  | ((with_reducible refine is_comp ?_); first | (apply X_compN; (· walk_at "o")) | ((with_reducible apply X_compY); (· walk_at "o"); (· rfl)))
  | with_reducible refine W_sFor.mpr ?_
  | ((with_reducible refine is_for ?_); refine W_forNil.mpr ?_)
  | with_reducible refine X_chain ?_
  | with_reducible refine W_sExp.mpr ?_
  | with_reducible refine W_mL.mpr ?_
  | with_reducible refine X_mif ?_
  | with_reducible refine W_mIxS.mpr ?_
  | with_reducible refine W_mYes.mpr ?_
  | with_reducible refine W_sPar3.mpr ?_
  | with_reducible refine W_mApp.mpr ?_
  | with_reducible refine W_mBor.mpr ?_
  | with_reducible refine CLX.W_sFz.mpr ?_)
local macro_rules | `(tactic| walk_at "s") => `(tactic| first
  | ((with_reducible refine is_W ?_); walk_at "f")
  | ((with_reducible refine is_ex ?_); first
    | ((with_reducible refine is_evS ?_); refine ⟨_, rfl, ?_⟩)
    | ((with_reducible apply call_st); (· with_reducible assumption))
    | with_reducible refine ⟨_, by with_reducible assumption, ?_⟩
    | walk_at "e")
  | ((with_reducible apply X_nx); (· walk_at "o"))
  | with_reducible refine Kq_ret.mpr ?_
  | with_reducible refine Kq_brk.mpr ?_
  | with_reducible refine Kq_cnt.mpr ?_
  | ((with_reducible apply X_fnx); (· walk_at "o"))
  | ((with_reducible apply X_fcnt); (· walk_at "o"))
  | with_reducible refine X_fbrk ?_
  | with_reducible refine X_fret ?_
  | ((with_reducible refine is_ltA ?_); refine ⟨?_, ?_⟩; (· first | decide | omega | (simp; omega) | (simp; done)))
  | with_reducible refine parW_mk.mpr ?_
  | with_reducible refine par3W_mk.mpr ?_)
local macro_rules | `(tactic| walk_at "r") => `(tactic| repeat walk_at "s")
local macro_rules | `(tactic| walk_at "u") => `(tactic| first | ((apply X_forC); (· walk_at "o"); (· rfl)) | ((apply X_compY); (· walk_at "o"); (· rfl)) | ((apply X_compC); (· walk_at "o"); (· rfl)))
local macro_rules | `(tactic| walk_at "g") => `(tactic| repeat first | walk_at "s" | (with_reducible refine go_ifF (rfl : _ = false) ?_) | (with_reducible refine go_ifT (rfl : _ = true) ?_) | (refine go_ifF (rfl : _ = false) ?_) | (refine go_ifT (rfl : _ = true) ?_) | walk_at "u")
local macro_rules | `(tactic| walk_at "f") => `(tactic| first | with_reducible refine W_mOk.mpr ?_ | with_reducible refine W_mOkQ'.mpr ?_)
local macro_rules | `(tactic| walk_at "s") => `(tactic| with_reducible refine AtQ_mk ?_)
structure G30 (p : Li) : Prop where
  x : p.x.natAbs < 10 ^ 30
  y : p.y.natAbs < 10 ^ 30
  u : p.u.natAbs < 10 ^ 30
  v : p.v.natAbs < 10 ^ 30
  ne : ¬ (p.x = p.u ∧ p.y = p.v)
def lnI (p : Li) : List Int := [p.x, p.y, p.u, p.v]
theorem lnI_lt {p : Li} (h : G30 p) : ∀ n ∈ lnI p, n.natAbs < 10 ^ 30 := by
  intro n hn
  simp only [lnI, List.mem_cons, List.not_mem_nil, or_false] at hn
  rcases hn with rfl | rfl | rfl | rfl
  · exact h.x
  · exact h.y
  · exact h.u
  · exact h.v
def lnR (p : Li) : Str := rowT (lnI p)
def g0 (g : Int) : Str := Str.ofString "grain " ++ numT g
def lrows (g : Int) (ps : List Li) : List Str := g0 g :: ps.map lnR
def linesT (g : Int) (ps : List Li) : Str := Txt.join "\n" (lrows g ps)
theorem tl_gr : tl (Str.ofString "grain ") = [103, 114, 97, 105, 110, 32] := by rw [tl_ofString]; rfl
theorem tl_g0 (g : Int) : tl (g0 g) = [103, 114, 97, 105, 110, 32] ++ sgL g := by
  unfold g0
  rw [tl_append, tl_gr, tl_numT]
theorem g0_len {g : Int} (h : g.natAbs < 10 ^ 30) : (g0 g).length ≤ 40 := by
  rw [len_tl, tl_g0, List.length_append]
  have := sgL_len h
  simp only [List.length_cons, List.length_nil]
  omega
theorem lnR_len {p : Li} (h : G30 p) : (lnR p).length ≤ 128 := row_len (lnI_lt h)
theorem lrows_len {g : Int} {ps : List Li} (hg : g.natAbs < 10 ^ 30) (hp : ∀ p ∈ ps, G30 p) : ∀ x ∈ lrows g ps, x.length ≤ 128 := by
  intro x hx
  rcases List.mem_cons.mp hx with rfl | hx
  · have := g0_len hg; omega
  · obtain ⟨p, h, rfl⟩ := List.mem_map.mp hx
    exact lnR_len (hp p h)
theorem row10 {p : Li} : 10 ∉ tl (lnR p) := row_free (by decide) (by decide) (by decide)
theorem g010 {g : Int} : 10 ∉ tl (g0 g) := by
  rw [tl_g0]
  intro h
  rcases List.mem_append.mp h with h | h
  · simp at h
  · exact sgL_free (by decide) (by decide) h
theorem nl_k : (Str.ofString "\n").cps.all (· < 256) = true := by decide +kernel
theorem split_is {g : Int} {ps : List Li} : Txt.split (linesT g ps) "\n" = lrows g ps := by
  refine split_join tl_nl nl_k (by simp [lrows]) fun p hp => ?_
  rcases List.mem_cons.mp hp with rfl | hp
  · exact g010
  · obtain ⟨q, _, rfl⟩ := List.mem_map.mp hp
    exact row10
theorem joinL_le {S : List Nat} {k : Nat} {L : List (List Nat)} (h : ∀ p ∈ L, p.length ≤ k) : (joinL S L).length ≤ L.length * (k + S.length) := joinL_len h
theorem linesT_len {g : Int} {ps : List Li} (hg : g.natAbs < 10 ^ 30) (hp : ∀ p ∈ ps, G30 p) (hl : ps.length ≤ 300) : (linesT g ps).length ≤ 40000 := by
  rw [len_tl]
  unfold linesT
  rw [tl_joinT, tl_nl]
  have := joinL_le (S := [10]) (k := 128) (L := (lrows g ps).map tl) (by
    intro p hp'
    obtain ⟨x, hx, rfl⟩ := List.mem_map.mp hp'
    rw [← len_tl]
    exact lrows_len hg hp x hx)
  rw [List.length_map] at this
  have e : (lrows g ps).length = ps.length + 1 := by simp [lrows]
  rw [e] at this
  simp only [List.length_singleton] at this
  omega
theorem append_empty (x : Str) : x ++ Str.ofString "" = x := by
  apply ext_tl
  rw [tl_append]
  have : tl (Str.ofString "") = [] := by rw [tl_ofString]; rfl
  rw [this, List.append_nil]
theorem split_nl {g : Int} {ps : List Li} : Txt.split (linesT g ps ++ Str.ofString "\n") "\n" = lrows g ps ++ [Str.ofString ""] := by
  have e : linesT g ps ++ Str.ofString "\n" = Txt.join "\n" (lrows g ps ++ [Str.ofString ""]) := by
    rw [join_snoc (by simp [lrows]), append_empty]
    rfl
  rw [e]
  refine split_join tl_nl nl_k (by simp [lrows]) fun p hp => ?_
  rcases List.mem_append.mp hp with hp | hp
  · rcases List.mem_cons.mp hp with rfl | hp
    · exact g010
    · obtain ⟨q, _, rfl⟩ := List.mem_map.mp hp
      exact row10
  · rw [List.mem_singleton.mp hp, tl_ofString]
    simp
/-- the first row without its first sign -/
def g1 (g : Int) : Str := ⟨([114, 97, 105, 110, 32] ++ sgL g).toArray⟩
theorem cut_is {g : Int} {ps : List Li} : cutS (linesT g ps) (some 1) none = Txt.join "\n" (g1 g :: ps.map lnR) := by
  apply ext_tl
  rw [tl_cutS, show (1 : Int) = ((1 : Nat) : Int) from rfl, cutD_from]
  unfold linesT lrows
  rw [tl_joinT, tl_joinT, List.map_cons, List.map_cons, tl_g0, show tl (g1 g) = [114, 97, 105, 110, 32] ++ sgL g from rfl]
  cases ps with
  | nil => rfl
  | cons p t => rfl
theorem split_cut {g : Int} {ps : List Li} : Txt.split (cutS (linesT g ps) (some 1) none) "\n" = g1 g :: ps.map lnR := by
  rw [cut_is]
  refine split_join tl_nl nl_k (by simp) fun p hp => ?_
  rcases List.mem_cons.mp hp with rfl | hp
  · show 10 ∉ [114, 97, 105, 110, 32] ++ sgL g
    intro h
    rcases List.mem_append.mp h with h | h
    · simp at h
    · exact sgL_free (by decide) (by decide) h
  · obtain ⟨q, _, rfl⟩ := List.mem_map.mp hp
    exact row10
theorem starts_g0 {g : Int} : bStarts (.str (g0 g)) (.str "grain ") = some (.bl true) := by
  unfold bStarts
  dsimp only
  rw [starts_tl, tl_g0, tl_gr]
  rw [decide_eq_true]
  rfl
theorem starts_g1 {g : Int} : bStarts (.str (g1 g)) (.str "grain ") = some (.bl false) := by
  unfold bStarts
  dsimp only
  rw [starts_tl, tl_gr, decide_eq_false]
  intro h
  rw [show tl (g1 g) = [114, 97, 105, 110, 32] ++ sgL g from rfl] at h
  injection h with h1 _
  exact absurd h1 (by decide)
theorem cut_g0 {g : Int} (h : g.natAbs < 10 ^ 30) : bSl (.str (g0 g)) (some 6) none = some (.str (numT g)) := by
  have := g0_len h
  unfold bSl
  dsimp only
  rw [if_pos (by omega)]
  congr 2
  apply ext_tl
  rw [tl_cutS, show (6 : Int) = ((6 : Nat) : Int) from rfl, cutD_from, tl_g0, tl_numT]
  rfl
theorem split_stL {g : Int} {ps : List Li} (hg : g.natAbs < 10 ^ 30) (hp : ∀ p ∈ ps, G30 p) (hl : ps.length ≤ 300) : bSplit (.str (linesT g ps)) (.str "\n") = some (.lst (.str (g0 g) :: ps.map fun p => .str (lnR p))) := by
  have := linesT_len hg hp hl
  rw [split_st (by omega) (by rw [tl_nl]; simp), split_is]
  simp [lrows, Function.comp_def]
set_option maxHeartbeats 0 in
theorem show_is {g : Int} {ps : List Li} (hg : g.natAbs < 10 ^ 30) (hp : ∀ p ∈ ps, G30 p) (hl : ps.length ≤ 300) : F_show_lines [.int g, .tup (ps.map lnD)] = .ok (.str (linesT g ps)) := by
  refine runP_is ?_
  unfold B_show_lines
  rw [row_eq]
  have C1 := c_str hg
  have hn := numT_len hg
  have A1 : bAdd (.str "grain ") (.str (numT g)) = some (.str (g0 g)) := by
    unfold bAdd
    dsimp only
    rw [if_pos]
    · rfl
    · rw [len_tl, tl_gr]; simp; omega
  walk_at "r"
  refine X_forI (xs := ps) (g := lnD) (fun B ρ => ∃ (A : List Li) (o3 o4 : Option D), A ++ B = ps ∧ ρ = [some (.int g), some (.tup (ps.map lnD)), some (.lst (.str (g0 g) :: A.map fun p => .str (lnR p))), o3, o4]) ⟨[], _, _, rfl, rfl⟩ (fun ρ' h' => ?_) fun p B ρ hρ => ?_
  · obtain ⟨A, o3, o4, e, rfl⟩ := h'
    rw [List.append_nil] at e
    subst e
    have J : bJoin (.str "\n") (.lst (.str (g0 g) :: A.map fun p => .str (lnR p))) = some (.str (linesT g A)) := by
      have := join_st (y := Str.ofString "\n") (ys := lrows g A) (k := 128) (lrows_len hg hp) (by rw [len_tl, tl_nl]; simp [lrows]; omega)
      have e : (lrows g A).map D.str = .str (g0 g) :: A.map fun p => .str (lnR p) := by simp [lrows, Function.comp_def]
      rw [e] at this
      exact this
    walk_at "r"
    rfl
  · obtain ⟨A, o3, o4, e, rfl⟩ := hρ
    have hpp := hp p (by rw [← e]; simp)
    refine ⟨_, rfl, ?_⟩
    have A2 : bAdd (.tup [.int p.x, .int p.y]) (.tup [.int p.u, .int p.v]) = some (.tup ((lnI p).map .int)) := by
      unfold bAdd
      dsimp only
      rw [if_pos (by simp)]
      rfl
    have R2 := CLTX.row_is (lnI_lt hpp) (by simp [lnI])
    walk_at "r"
    have hA : A.length ≤ 300 := by
      have := congrArg List.length e
      simp at this
      omega
    refine ⟨_, R2, _, rfl, by simp; omega, .inl ⟨.inl rfl, A ++ [p], some (pt p.x p.y), some (pt p.u p.v), by simpa using e, ?_⟩⟩
    simp [lnR, lnD]
set_option maxHeartbeats 0 in
theorem ltext_is {g : Int} {ps : List Li} (hg : g.natAbs < 10 ^ 30) (hp : ∀ p ∈ ps, G30 p) (hl : ps.length ≤ 300) : F__law_lines_text [.int g, .tup (ps.map lnD)] = .ok (.str (linesT g ps)) := by
  refine runP_is ?_
  unfold B__law_lines_text
  have C1 := c_str hg
  have hn := numT_len hg
  have A1 : bAdd (.str "grain ") (.str (numT g)) = some (.str (g0 g)) := by
    unfold bAdd
    dsimp only
    rw [if_pos]
    · rfl
    · rw [len_tl, tl_gr]; simp; omega
  walk_at "r"
  refine X_forI (xs := ps) (g := lnD) (fun B ρ => ∃ (A : List Li) (o3 o4 o5 o6 : Option D), A ++ B = ps ∧ ρ = [some (.int g), some (.tup (ps.map lnD)), some (.str (linesT g A)), o3, o4, o5, o6, none]) ⟨[], _, _, _, _, rfl, rfl⟩ (fun ρ' h' => ?_) fun p B ρ hρ => ?_
  · obtain ⟨A, o3, o4, o5, o6, e, rfl⟩ := h'
    rw [List.append_nil] at e
    subst e
    walk_at "r"
    rfl
  · obtain ⟨A, o3, o4, o5, o6, e, rfl⟩ := hρ
    have hpp := hp p (by rw [← e]; simp)
    have hA : A.length ≤ 300 := by
      have := congrArg List.length e
      simp at this
      omega
    have hLT := linesT_len hg (fun q hq => hp q (by rw [← e]; simp [hq])) hA
    refine ⟨_, rfl, ?_⟩
    have A2 : bAdd (.str (linesT g A)) (.str "\n") = some (.str (linesT g A ++ Str.ofString "\n")) := by
      unfold bAdd
      dsimp only
      rw [if_pos]
      rw [len_tl (Str.ofString "\n"), tl_nl]; simp; omega
    have A3 : bAdd (.str (linesT g A ++ Str.ofString "\n")) (.str (lnR p)) = some (.str (linesT g (A ++ [p]))) := by
      unfold bAdd
      dsimp only
      rw [if_pos]
      · congr 2
        unfold linesT lrows
        rw [List.map_append, ← List.cons_append, List.map_singleton, join_snoc (by simp)]
      · have h2 := lnR_len hpp
        rw [len_tl, tl_append, tl_nl, List.length_append, ← len_tl]
        simp; omega
    have J := join_st (y := Str.ofString " ") (ys := (lnI p).map numT) (k := 31) (fun x hx => by
      obtain ⟨n, hn, rfl⟩ := List.mem_map.mp hx
      exact numT_len (lnI_lt hpp n hn)) (by rw [List.length_map, len_tl, tl_sp]; simp [lnI])
    have J2 : bJoin (.str " ") (.lst [.str (numT p.x), .str (numT p.y), .str (numT p.u), .str (numT p.v)]) = some (.str (lnR p)) := J
    have C2 := c_str hpp.x
    have C3 := c_str hpp.y
    have C4 := c_str hpp.u
    have C5 := c_str hpp.v
    walk_at "r"
    exact .inl ⟨.inl rfl, A ++ [p], _, _, _, _, by simpa using e, rfl⟩
theorem whole_is {i : Int} : F_is_whole [.int i] = .ok (.bl true) := by
  refine runP_is ?_
  unfold B_is_whole
  have I1 := isi_int_int (i := i)
  have I2 := isi_bool_int (i := i)
  walk_at "r"
  rfl
theorem grain_ok {g : Int} (h : 1 ≤ g) : F_is_grain [.int g] = .ok (.bl true) := by
  refine runP_is ?_
  unfold B_is_grain
  have I1 := whole_is (i := g)
  have I2 : bGe (.int g) (.int 1) = some (.bl true) := by simp [bGe, h]
  walk_at "r"
  rfl
theorem point_ok {a b : Int} : F_is_point [pt a b] = .ok (.bl true) := by
  refine runP_is ?_
  unfold B_is_point
  have I1 := whole_is (i := a)
  have I2 := whole_is (i := b)
  have I3 : bIsi "tuple" (pt a b) = some (.bl true) := isi_tuple_tup
  walk_at "r"
  rfl
theorem line_ok {p : Li} (h : G30 p) : F_is_line [lnD p] = .ok (.bl true) := by
  refine runP_is ?_
  unfold B_is_line
  have I1 := point_ok (a := p.x) (b := p.y)
  have I2 := point_ok (a := p.u) (b := p.v)
  have I3 : bIsi "tuple" (lnD p) = some (.bl true) := isi_tuple_tup
  walk_at "r"
  refine go_ifF rfl ?_
  walk_at "r"
  have hne := h.ne
  by_cases e1 : p.x = p.u
  · have e2 : ¬ p.y = p.v := fun e => hne ⟨e1, e⟩
    simp [e1, e2]
  · simp [e1]
theorem lines_ok {ps : List Li} (h : ∀ p ∈ ps, G30 p) : F_are_lines [.tup (ps.map lnD)] = .ok (.bl true) := by
  refine runP_is ?_
  unfold B_are_lines
  have I3 : bIsi "tuple" (.tup (ps.map lnD)) = some (.bl true) := isi_tuple_tup
  walk_at "r"
  refine ⟨_, true, rfl, fun _ => ?_, rfl⟩
  walk_at "r"
  refine X_compM (xs := ps) (g := lnD) (h := fun _ => D.bl true) (fun p hp => ⟨_, rfl, ?_⟩) ?_
  · have I1 := line_ok (h p hp)
    walk_at "r"
    exact ⟨rfl, rfl⟩
  · have A1 := all_true ps
    walk_at "r"
    exact ⟨rfl, rfl⟩
noncomputable def loopR : MS := (sSeq (sAsg (pN 5) (mCallP CLTX.F_numbers_of (mOkQ (mCons (mV 4) (mCons (mC (.int 4)) mNil))))) (mOk (sExp (mApp 3 (mN bTup (mCons (mSl (mV 5) none (some (mC (.int 2)))) (mCons (mSl (mV 5) (some (mC (.int 2))) none) mNil)))))))
noncomputable def readR : MS := (sSeq (mOk (sAsg (pN 3) (mN bLst mNil))) (sSeq (sFor (pN 4) (mOk (mIt (mSl (mV 1) (some (mC (.int 1))) none))) loopR) (sSeq (mOk (sAsg (pN 6) (mN bTuple (mCons (mV 3) mNil)))) (sSeq (sIf (mOk (mOr (m1 bNot (mCallP F_is_grain (mCons (mV 2) mNil))) (m1 bNot (mCallP F_are_lines (mCons (mV 6) mNil))))) (sRaise "NoText" (mOk (mC (.str "no grain, or a line without two points")))) (sK .nx)) (mOk (sRet (mN bTup (mCons (mV 2) (mCons (mV 6) mNil)))))))))
noncomputable def readG : MS := (sSeq (sIf (mOk (m1 bNot (m2 bStarts (m2 bIx (mV 1) (mC (.int 0))) (mC (.str "grain "))))) (sRaise "NoText" (mOk (mC (.str "no row of a grain")))) (sK .nx)) (sSeq (sAsg (pN 2) (m2 bIx (mCallP CLTX.F_numbers_of (mOkQ (mCons (mSl (m2 bIx (mV 1) (mC (.int 0))) (some (mN bLen (mCons (mC (.str "grain ")) mNil))) none) (mCons (mC (.int 1)) mNil)))) (mOk (mC (.int 0))))) readR))
theorem read_eq : B_read_lines = (sSeq (sIf (mOk (m1 bNot (m1 (bIsi "str") (mV 0)))) (sRaise "NoText" (mOk (mC (.str "no text")))) (sK .nx)) (sSeq (mOk (sAsg (pN 1) (m2 bSplit (mV 0) (mC (.str "\n"))))) readG)) := rfl
theorem isi_st {x : Str} : bIsi "str" (.str x) = some (.bl true) := by
  show (kitB "str" "str").map D.bl = _
  rw [show kitB "str" "str" = some true by decide +kernel]

  rfl
def found (A : List Li) : D := .lst (A.map lnD)
set_option maxHeartbeats 0 in
theorem loop_step {T R : D} {g : Int} {p : Li} {A : List Li} {o5 o6 : Option D} (h : G30 p) (hA : A.length ≤ 300) : W loopR [some T, some R, some (.int g), some (found A), some (.str (lnR p)), o5, o6] fun f ρ => f = .nx ∧ ρ = [some T, some R, some (.int g), some (found (A ++ [p])), some (.str (lnR p)), some (.tup ((lnI p).map .int)), o6] := by
  unfold loopR found
  have N := nums_is (k := 4) (lnI_lt h) (by simp [lnI]) rfl (by simp [lnI])
  have N2 : CLTX.F_numbers_of [.str (lnR p), .int 4] = .ok (.tup ((lnI p).map .int)) := N
  walk_at "r"
  have e1 : cutD (List.map D.int (lnI p)) none (some 2) = [.int p.x, .int p.y] := by simp [lnI]; rfl
  have e2 : cutD (List.map D.int (lnI p)) (some 2) none = [.int p.u, .int p.v] := by simp [lnI]; rfl
  rw [e1, e2, List.map_append]
  exact ⟨rfl, rfl⟩
theorem six : bLen [.str "grain "] = some (.int 6) := by
  unfold bLen
  dsimp only
  rw [len_tl, tl_gr]
  rfl
set_option maxHeartbeats 0 in
theorem read_is {g : Int} {ps : List Li} (h1 : 1 ≤ g) (hg : g.natAbs < 10 ^ 30) (hp : ∀ p ∈ ps, G30 p) (hl : ps.length ≤ 300) : F_read_lines [.str (linesT g ps)] = .ok (.tup [.int g, .tup (ps.map lnD)]) := by
  refine runP_is ?_
  rw [read_eq]
  unfold readG readR
  have I1 := isi_st (x := linesT g ps)
  have S1 := split_stL hg hp hl
  have S2 := starts_g0 (g := g)
  have S3 := cut_g0 hg
  have S4 := six
  have N : CLTX.F_numbers_of [.str (numT g), .int 1] = .ok (.tup [.int g]) := nums_is (ns := [g]) (k := 1) (by simpa using hg) (by simp) rfl (by simp)
  walk_at "r"
  refine go_ifF rfl ?_
  walk_at "r"
  refine go_ifF rfl ?_
  walk_at "r"
  have e3 : cutD (D.str (g0 g) :: List.map (fun p => D.str (lnR p)) ps) (some 1) none = List.map (fun p => D.str (lnR p)) ps := by
    rw [show (1 : Int) = ((1 : Nat) : Int) from rfl, cutD_from]
    rfl
  rw [e3]
  refine X_forI (xs := ps) (g := fun p => D.str (lnR p)) (fun B ρ => ∃ (A : List Li) (o4 o5 : Option D), A ++ B = ps ∧ ρ = [some (.str (linesT g ps)), some (.lst (.str (g0 g) :: ps.map fun p => .str (lnR p))), some (.int g), some (found A), o4, o5, none]) ⟨[], _, _, rfl, rfl⟩ (fun ρ' h' => ?_) fun p B ρ hρ => ?_
  · obtain ⟨A, o4, o5, e, rfl⟩ := h'
    rw [List.append_nil] at e
    subst e
    have G1 := grain_ok h1
    have G2 := lines_ok hp
    unfold found
    walk_at "r"
    refine go_ifF rfl ?_
    walk_at "r"
    rfl
  · obtain ⟨A, o4, o5, e, rfl⟩ := hρ
    have hA : A.length ≤ 300 := by
      have := congrArg List.length e
      simp at this
      omega
    refine ⟨_, rfl, ?_⟩
    exact (loop_step (hp p (by rw [← e]; simp)) hA).mono fun f ρ2 ⟨hf, hρ⟩ => .inl ⟨.inl hf, A ++ [p], _, _, by simpa using e, hρ⟩
theorem empty_no : CLTX.F_numbers_of [.str (Str.ofString ""), .int 4] = .exc (.str "NoText") := by
  refine nums_no (ws := [Str.ofString ""]) (by decide +kernel) (by decide +kernel) (by decide)
set_option maxHeartbeats 0 in
theorem loop_no {T R : D} {g : Int} : ∀ {ps A : List Li} {o4 o5 o6 : Option D}, (∀ p ∈ ps, G30 p) → A.length + ps.length ≤ 300 → Xc (forL (pN 4) loopR (ps.map (fun p => D.str (lnR p)) ++ [.str (Str.ofString "")])) [some T, some R, some (.int g), some (found A), o4, o5, o6] "NoText"
  | [], A, o4, o5, o6, _, _ => by
    refine Xc_forX (ρ1 := [some T, some R, some (.int g), some (found A), some (.str (Str.ofString "")), o5, o6]) rfl ?_
    unfold loopR
    refine Xc_seqL (Xc_asg (Xc_call ?_))
    walk_at "r"
    exact empty_no
  | p :: ps, A, o4, o5, o6, hp, hl => by
    rw [List.length_cons] at hl
    refine Xc_forN (ρ1 := [some T, some R, some (.int g), some (found A), some (.str (lnR p)), o5, o6]) rfl ?_
    exact (loop_step (hp p (by simp)) (by omega)).mono fun f ρ2 ⟨hf, hρ⟩ => ⟨hf, by subst hρ; exact loop_no (fun q hq => hp q (by simp [hq])) (by simp; omega)⟩
set_option maxHeartbeats 0 in
theorem read_nl {g : Int} {ps : List Li} (hg : g.natAbs < 10 ^ 30) (hp : ∀ p ∈ ps, G30 p) (hl : ps.length ≤ 300) : F_read_lines [.str (linesT g ps ++ Str.ofString "\n")] = .exc (.str "NoText") := by
  refine Xc_runP ?_
  rw [read_eq]
  have I1 := isi_st (x := linesT g ps ++ Str.ofString "\n")
  have S1 : bSplit (.str (linesT g ps ++ Str.ofString "\n")) (.str "\n") = some (.lst (.str (g0 g) :: (ps.map (fun p => D.str (lnR p)) ++ [.str (Str.ofString "")]))) := by
    have := linesT_len hg hp hl
    rw [split_st (by rw [len_tl, tl_append, tl_nl, List.length_append, ← len_tl]; simp; omega) (by rw [tl_nl]; simp), split_nl]
    simp [lrows, Function.comp_def]
  have S2 := starts_g0 (g := g)
  have S3 := cut_g0 hg
  have S4 := six
  have N : CLTX.F_numbers_of [.str (numT g), .int 1] = .ok (.tup [.int g]) := nums_is (ns := [g]) (k := 1) (by simpa using hg) (by simp) rfl (by simp)
  refine Xc_seqR ?_
  walk_at "r"
  refine go_ifF rfl ?_
  walk_at "r"
  refine ⟨rfl, ?_⟩
  refine Xc_seqR ?_
  walk_at "r"
  refine ⟨rfl, ?_⟩
  unfold readG
  refine Xc_seqR ?_
  walk_at "r"
  refine go_ifF rfl ?_
  walk_at "r"
  refine ⟨rfl, ?_⟩
  refine Xc_seqR ?_
  walk_at "r"
  refine ⟨rfl, ?_⟩
  unfold readR
  refine Xc_seqR ?_
  walk_at "r"
  refine ⟨rfl, ?_⟩
  refine Xc_seqL (Xc_for ?_)
  walk_at "r"
  have e3 : cutD (D.str (g0 g) :: (List.map (fun p => D.str (lnR p)) ps ++ [.str (Str.ofString "")])) (some 1) none = List.map (fun p => D.str (lnR p)) ps ++ [.str (Str.ofString "")] := by
    rw [show (1 : Int) = ((1 : Nat) : Int) from rfl, cutD_from]
    rfl
  rw [e3]
  exact loop_no (A := []) hp (by simpa using hl)
theorem read_cut {g : Int} {ps : List Li} (hg : g.natAbs < 10 ^ 30) (hp : ∀ p ∈ ps, G30 p) (hl : ps.length ≤ 300) : F_read_lines [.str (cutS (linesT g ps) (some 1) none)] = .exc (.str "NoText") := by
  refine Xc_runP ?_
  rw [read_eq]
  have I1 := isi_st (x := cutS (linesT g ps) (some 1) none)
  have S1 : bSplit (.str (cutS (linesT g ps) (some 1) none)) (.str "\n") = some (.lst (.str (g1 g) :: ps.map (fun p => D.str (lnR p)))) := by
    have := linesT_len hg hp hl
    have := cutS_length (linesT g ps) (some 1) none
    rw [split_st (by omega) (by rw [tl_nl]; simp), split_cut]
    simp [Function.comp_def]
  have S2 := starts_g1 (g := g)
  refine Xc_seqR ?_
  walk_at "r"
  refine go_ifF rfl ?_
  walk_at "r"
  refine ⟨rfl, ?_⟩
  refine Xc_seqR ?_
  walk_at "r"
  refine ⟨rfl, ?_⟩
  unfold readG
  refine Xc_seqL (Xc_if ?_)
  walk_at "r"
  refine .inl ⟨rfl, Xc_raise ?_⟩
  walk_at "r"
  trivial
theorem W_try_exc {cs : Str → Bool} {m : M D} {sh : MS} {ρ : Sl} {c : Str} {Q : Fl → Sl → Prop} (h : Xc m ρ c) (hc : cs c = true) (q : W sh ρ Q) : W (sTry cs m sh) ρ Q := by
  obtain ⟨a, ρ', e, q⟩ := q
  refine ⟨a, ρ', ?_, q⟩
  unfold Xc at h
  unfold sTry
  rw [h]
  simp only [hc, if_true]
  exact e
theorem refused_is {x : Str} (h : F_read_lines [.str x] = .exc (.str "NoText")) : F__law_refused [.str x] = .ok (.bl true) := by
  refine runP_is ?_
  unfold B__law_refused
  walk_at "r"
  refine W_try_exc (c := "NoText") (Xc_call ?_) (by decide +kernel) ?_
  · walk_at "r"
    exact h
  · walk_at "r"
    rfl
end LW

namespace LW
open PySem PySem.Spec L2 CL CLG CLX CLTX TL
theorem deck_eq : F__law_deck = runP 1 deckB := rfl
local macro_rules | `(tactic| walk_at "o") => `(tactic| ((try simp only [backA, List.set_cons_zero, List.set_cons_succ, wipeD, List.map_cons, List.map_nil, List.cons_append, List.nil_append, List.replicate_succ, List.replicate_zero]); first | done | rfl))
local macro_rules | `(tactic| walk_at "b") => `(tactic| first
  | with_reducible exact Nb.lit
  | ((with_reducible apply Nb.mul) <;> walk_at "b")
  | ((with_reducible apply Nb.add) <;> walk_at "b")
  | ((with_reducible apply Nb.sub) <;> walk_at "b")
  | ((with_reducible apply Nb.neg) <;> walk_at "b")
  | ((with_reducible apply Nb.fdiv) <;> walk_at "b")
  | ((with_reducible apply Nb.fmod); (· walk_at "z"); (· walk_at "b"))
  | ((with_reducible apply Nb.max) <;> walk_at "b")
  | ((with_reducible apply Nb.min) <;> walk_at "b")
  | ((with_reducible apply Nb.ite) <;> walk_at "b")
  | with_reducible assumption
  | with_reducible exact Nb.le (by assumption)
  | with_reducible exact Nb.nle (by assumption)
  | with_reducible exact Nb.lt (by assumption)
  | ((with_reducible apply Nb.rng (by assumption) (by assumption)) <;> walk_at "b")
  | ((with_reducible apply Nb.rngE (by assumption) (by assumption)) <;> walk_at "b")
  | with_reducible exact Nb.self _)
local macro_rules | `(tactic| walk_at "z") => `(tactic| first | decide | with_reducible assumption | omega | exact fmod_nn (by omega) | exact fmod_lt (by omega))
local macro_rules | `(tactic| walk_at "e") => `(tactic| first
  | ((with_reducible refine is_ev ?_); first
    | ((with_reducible apply mul_st); (· walk_at "b"); (· walk_at "b"); (· rfl))
    | ((with_reducible apply mul_s1); (· walk_at "b"); (· rfl))
    | ((with_reducible apply mul_s2); (· walk_at "b"); (· rfl))
    | ((with_reducible apply div_st); (· walk_at "z"); (· walk_at "b"); (· rfl))
    | ((with_reducible apply mod_st); (· walk_at "z"))
    | with_reducible apply tup_pt
    | with_reducible apply tup_ln
    | ((with_reducible apply tup_st); (· rfl))
    | ((with_reducible apply lst_st); (· rfl))
    | with_reducible apply eqi_st
    | with_reducible apply nei_st
    | with_reducible apply eqp_st
    | with_reducible apply nep_st
    | with_reducible apply eqp_st'
    | with_reducible apply nep_st'
    | with_reducible apply eqb_st
    | with_reducible apply neb_st
    | with_reducible apply isb_st
    | with_reducible apply eqs_st
    | with_reducible apply nes_st
    | with_reducible refine ixl0 ?_
    | with_reducible refine ixl1 ?_
    | with_reducible refine ix2bi (fun _ _ _ => ?_)
    | ((with_reducible refine ix4i ?_ ?_ (fun _ _ _ => ?_)); (· walk_at "z"); (· walk_at "z"))
    | ((with_reducible refine ix2i ?_ ?_ (fun _ _ _ => ?_)); (· walk_at "z"); (· walk_at "z"))
    | ((with_reducible refine ix3i ?_ ?_ (fun _ _ _ => ?_)); (· walk_at "z"); (· walk_at "z"))
    | refine ⟨_, rfl, ?_⟩)
  | ((with_reducible refine fill_st ?_); refine ⟨_, rfl, ?_⟩; (try dsimp only))
  | ((with_reducible apply and_go rfl); (· (intro _; (repeat walk_at "s"); with_reducible exact ⟨rfl, rfl⟩)))
  | ((with_reducible refine is_chain ?_); (apply chain_go rfl); (· (intro _; (repeat walk_at "s"); exact ⟨rfl, rfl⟩)))
  | ((with_reducible refine draw_step (by assumption) ?_ ?_ (fun _ _ _ _ _ => ?_)); (· walk_at "z"); (· walk_at "z"))
  | ((with_reducible refine CLY.draw_step (by assumption) ?_ ?_ (fun _ _ _ _ _ => ?_)); (· walk_at "z"); (· walk_at "z"))
  | ((with_reducible refine is_evA ?_); refine ⟨_, rfl, ?_⟩)
  | ((with_reducible refine is_evL ?_); refine ⟨_, rfl, ?_⟩)
  | ((with_reducible refine is_evI ?_); refine ⟨_, rfl, ?_⟩)
  | ((with_reducible refine is_evR ?_); refine ⟨_, rfl, ?_⟩))
local macro_rules | `(tactic| walk_at "f") => `(tactic| first
  | with_reducible refine W_mV.mpr ?_
  | with_reducible refine W_mCons.mpr ?_
  | with_reducible refine W_m2.mpr ?_
  | with_reducible refine W_mC.mpr ?_
  | with_reducible refine W_mNil.mpr ?_
  | with_reducible refine W_mN.mpr ?_
  | with_reducible refine W_sSeq.mpr ?_
  | with_reducible refine W_sAsg.mpr ?_
  | with_reducible refine W_m1.mpr ?_
  | with_reducible refine W_mCallP.mpr ?_
  | with_reducible refine W_mCall.mpr ?_
  | with_reducible refine X_evI.mpr ?_
  | with_reducible refine X_evE.mpr ?_
  | with_reducible refine X_evN.mpr ?_
  | with_reducible refine X_if ?_
  | with_reducible refine W_sRet.mpr ?_
  | with_reducible refine W_sK.mpr ?_
  | with_reducible refine X_and ?_
  | with_reducible refine X_or ?_
  | with_reducible refine W_sPar.mpr ?_
  | with_reducible refine W_mSl.mpr ?_
  | with_reducible refine W_mPtN.mpr ?_
  | with_reducible refine W_mPtS.mpr ?_
  | with_reducible refine W_mIt.mpr ?_
  | with_reducible refine W_mItN.mpr ?_
  | with_reducible refine W_mComp.mpr ?_
  | ((with_reducible refine is_comp ?_); first | (apply X_compN; (· walk_at "o")) | ((with_reducible apply X_compY); (· walk_at "o"); (· rfl)))
  | with_reducible refine W_sFor.mpr ?_
  | ((with_reducible refine is_for ?_); refine W_forNil.mpr ?_)
  | with_reducible refine X_chain ?_
  | with_reducible refine W_sExp.mpr ?_
  | with_reducible refine W_mL.mpr ?_
  | with_reducible refine X_mif ?_
  | with_reducible refine W_mIxS.mpr ?_
  | with_reducible refine W_mYes.mpr ?_
  | with_reducible refine W_sPar3.mpr ?_
  | with_reducible refine W_mApp.mpr ?_
  | with_reducible refine W_mBor.mpr ?_
  | with_reducible refine CLX.W_sFz.mpr ?_)
local macro_rules | `(tactic| walk_at "s") => `(tactic| first
  | ((with_reducible refine is_W ?_); walk_at "f")
  | ((with_reducible refine is_ex ?_); first
    | ((with_reducible refine is_evS ?_); refine ⟨_, rfl, ?_⟩)
    | ((with_reducible apply call_st); (· with_reducible assumption))
    | with_reducible refine ⟨_, by with_reducible assumption, ?_⟩
    | walk_at "e")
  | ((with_reducible apply X_nx); (· walk_at "o"))
  | with_reducible refine Kq_ret.mpr ?_
  | with_reducible refine Kq_brk.mpr ?_
  | with_reducible refine Kq_cnt.mpr ?_
  | ((with_reducible apply X_fnx); (· walk_at "o"))
  | ((with_reducible apply X_fcnt); (· walk_at "o"))
  | with_reducible refine X_fbrk ?_
  | with_reducible refine X_fret ?_
  | ((with_reducible refine is_ltA ?_); refine ⟨?_, ?_⟩; (· first | decide | omega | (simp; omega) | (simp; done)))
  | with_reducible refine parW_mk.mpr ?_
  | with_reducible refine par3W_mk.mpr ?_)
local macro_rules | `(tactic| walk_at "r") => `(tactic| repeat walk_at "s")
local macro_rules | `(tactic| walk_at "u") => `(tactic| first | ((apply X_forC); (· walk_at "o"); (· rfl)) | ((apply X_compY); (· walk_at "o"); (· rfl)) | ((apply X_compC); (· walk_at "o"); (· rfl)))
local macro_rules | `(tactic| walk_at "g") => `(tactic| repeat first | walk_at "s" | (with_reducible refine go_ifF (rfl : _ = false) ?_) | (with_reducible refine go_ifT (rfl : _ = true) ?_) | (refine go_ifF (rfl : _ = false) ?_) | (refine go_ifT (rfl : _ = true) ?_) | walk_at "u")
local macro_rules | `(tactic| walk_at "f") => `(tactic| first | with_reducible refine W_mOk.mpr ?_ | with_reducible refine W_mOkQ'.mpr ?_)
local macro_rules | `(tactic| walk_at "s") => `(tactic| with_reducible refine AtQ_mk ?_)
def N30 (n : Int) : Prop := n.natAbs < 10 ^ 30
set_option maxHeartbeats 0 in
theorem whole_step {dk : D} {w : Int} {Q : D → List D → Prop} (hd : Deck dk) (w0 : 0 ≤ w) (w1 : w < 5) (k : ∀ n dk', N30 n → Deck dk' → Q (.int n) [dk', .int w]) : ∃ r out, F__law_whole [dk, .int w] = .ok (r, out) ∧ Q r out := by
  refine runF_ex ?_
  unfold B__law_whole
  rw [draw_is]
  have hw : w = 0 ∨ w = 1 ∨ w = 2 ∨ w = 3 ∨ w = 4 := by omega
  rcases hw with rfl | rfl | rfl | rfl | rfl
  · walk_at "g"
    rename_i t dk1 t0 t1 hd1 a dk2 a0 a1 hd2 x hx hN
    clear hN
    exact ⟨_, _, rfl, rfl, k x dk2 (by unfold N30; omega) hd2⟩
  · walk_at "g"
    rename_i t dk1 t0 t1 hd1 a dk2 a0 a1 hd2 x hx hN
    clear hN
    exact ⟨_, _, rfl, rfl, k x dk2 (by unfold N30; omega) hd2⟩
  · walk_at "g"
    rename_i t dk1 t0 t1 hd1 a dk2 a0 a1 hd2 x hx hN
    clear hN
    exact ⟨_, _, rfl, rfl, k x dk2 (by unfold N30; omega) hd2⟩
  · walk_at "g"
    rename_i t dk1 t0 t1 hd1 a dk2 a0 a1 hd2 b dk3 b0 b1 hd3 c dk4 c0 c1 hd4 e dk5 e0 e1 hd5 f dk6 f0 f1 hd6 x hx hN
    clear hN
    have e6 : (10 : Int) ^ Int.toNat 6 = 1000000 := rfl
    rw [e6] at b1 c1 e1 f1
    simp only [e6] at hx
    exact ⟨_, _, rfl, rfl, k x dk6 (by unfold N30; omega) hd6⟩
  · walk_at "g"
    rename_i t dk1 t0 t1 hd1 a dk2 a0 a1 hd2 x hx hN
    clear hN
    have e6 : (10 : Int) ^ Int.toNat 30 = 1000000000000000000000000000000 := rfl
    simp only [e6] at hx
    exact ⟨_, _, rfl, rfl, k x dk2 (by unfold N30; omega) hd2⟩
def Gd (p : Li) : Prop := G30 p
set_option maxHeartbeats 0 in
theorem pair_step {dk : D} {w : Int} {Q : D → List D → Prop} (hd : Deck dk) (w0 : 0 ≤ w) (w1 : w < 5) (k : ∀ a b dk', N30 a → N30 b → Deck dk' → Q (pt a b) [dk', .int w]) : ∃ r out, F__law_pair [dk, .int w] = .ok (r, out) ∧ Q r out := by
  refine runF_ex ?_
  unfold B__law_pair
  walk_at "r"
  refine whole_step hd w0 w1 fun a dk1 ha hd1 => ?_
  walk_at "r"
  refine whole_step hd1 w0 w1 fun b dk2 hb hd2 => ?_
  walk_at "r"
  exact ⟨_, _, rfl, rfl, k a b dk2 ha hb hd2⟩
theorem range_ok {n : Int} (h0 : 0 ≤ n) (h1 : n ≤ 1000) : ∃ xs, range1 [.int n] = some xs ∧ xs.length = n.toNat := by
  refine ⟨rangeL 0 n, by simp [range1]; omega, by simp [rangeL]⟩
set_option maxHeartbeats 0 in
theorem lines_step {dk : D} {m w : Int} {Q : D → List D → Prop} (hd : Deck dk) (m0 : 0 ≤ m) (m1 : m ≤ 300) (w0 : 0 ≤ w) (w1 : w < 5) (k : ∀ (ps : List Li) dk', (∀ p ∈ ps, G30 p) → ps.length ≤ 300 → Deck dk' → Q (.tup (ps.map lnD)) [dk', .int m, .int w]) : ∃ r out, F__law_lines [dk, .int m, .int w] = .ok (r, out) ∧ Q r out := by
  refine runF_ex ?_
  unfold B__law_lines
  walk_at "r"
  obtain ⟨xs, RG, hxs⟩ := range_ok (n := m) (by omega) (by omega)
  refine ⟨xs, RG, ?_⟩
  rw [← List.map_id xs]
  refine X_forI (xs := xs) (g := id) (fun B ρ => ∃ (A : List Li) (dk : D) (o4 o5 o6 : Option D), A.length + B.length = xs.length ∧ (∀ p ∈ A, G30 p) ∧ Deck dk ∧ ρ = [some dk, some (.int m), some (.int w), some (.lst (A.map lnD)), o4, o5, o6]) ⟨[], _, _, _, _, by simp, by simp, hd, rfl⟩ (fun ρ' h' => ?_) fun z B ρ hρ => ?_
  · obtain ⟨A, dk4, o4, o5, o6, hll, hL, hd4, rfl⟩ := h'
    simp only [List.length_nil] at hll
    walk_at "r"
    exact ⟨_, _, rfl, rfl, k A dk4 hL (by omega) hd4⟩
  · obtain ⟨A, dk4, o4, o5, o6, hll, hL, hd4, rfl⟩ := hρ
    rw [List.length_cons] at hll
    refine ⟨_, rfl, ?_⟩
    walk_at "r"
    refine pair_step hd4 w0 w1 fun a b dk5 ha hb hd5 => ?_
    walk_at "r"
    refine pair_step hd5 w0 w1 fun c e dk6 hc he hd6 => ?_
    walk_at "r"
    have hA : A.length + 1 ≤ 300 := by omega
    have A1 : bAbs [.int b] = some (.int (if b < 0 then -b else b)) := rfl
    have hb' : ∀ v : Int, v = (if b < 0 then -b else b) → N30 (1 - v) ∧ 1 - v ≠ b := by
      intro v hv
      unfold N30 at hb ⊢
      split at hv <;> omega
    generalize (if b < 0 then -b else b) = v at *
    obtain ⟨hv1, hv2⟩ := hb' v rfl
    refine go_ifP (fun hce => ?_) fun hce => ?_
    · walk_at "r"
      refine .inl ⟨.inl rfl, A ++ [⟨a, b, a, 1 - v⟩], dk6, _, _, _, by simp; omega, ?_, hd6, by rw [List.map_append]; rfl⟩
      intro q hq
      rcases List.mem_append.mp hq with hq | hq
      · exact hL q hq
      · rw [List.mem_singleton.mp hq]
        exact ⟨ha, hb, ha, hv1, fun e => hv2 e.2.symm⟩
    · walk_at "r"
      refine .inl ⟨.inl rfl, A ++ [⟨a, b, c, e⟩], dk6, _, _, _, by simp; omega, ?_, hd6, by rw [List.map_append]; rfl⟩
      intro q hq
      rcases List.mem_append.mp hq with hq | hq
      · exact hL q hq
      · rw [List.mem_singleton.mp hq]
        exact ⟨ha, hb, hc, he, hce⟩
theorem eqv_ln {a b : Li} : (lnD a).eqv (lnD b) = decide (a = b) := by
  have h : (a = b) ↔ (a.x = b.x ∧ a.y = b.y ∧ a.u = b.u ∧ a.v = b.v) := by
    constructor
    · rintro rfl; exact ⟨rfl, rfl, rfl, rfl⟩
    · rintro ⟨h1, h2, h3, h4⟩
      cases a; cases b; simp_all
  simp [lnD, ln, pt, D.eqv, D.py, D.pyL, PyData.eqv, PyData.eqvAll, h]
  by_cases h1 : a.x = b.x <;> by_cases h2 : a.y = b.y <;> by_cases h3 : a.u = b.u <;> by_cases h4 : a.v = b.v <;> simp [h1, h2, h3, h4]
abbrev Kp := Int × List Li
def gpD (k : Kp) : D := .tup [.int k.1, .tup (k.2.map lnD)]
def kpT (k : Kp) : Str := linesT k.1 k.2
def kpD (k : Kp) : D := .tup [.int k.1, .tup (k.2.map lnD), .str (kpT k)]
structure KOk (k : Kp) : Prop where
  g1 : 1 ≤ k.1
  g2 : k.1.natAbs < 10 ^ 30
  ls : ∀ p ∈ k.2, G30 p
  ln : k.2.length ≤ 300
theorem eqv_gp {a b : Kp} : (gpD a).eqv (gpD b) = decide (a = b) := by
  have h : (a = b) ↔ (a.1 = b.1 ∧ a.2 = b.2) := Prod.ext_iff
  have e := CLN.eqv_tup (f := lnD) (fun _ _ => eqv_ln) a.2 b.2
  unfold D.eqv at e
  simp only [D.py, PyData.eqv] at e
  simp only [gpD, D.eqv, D.py, D.pyL, PyData.eqv, PyData.eqvAll, e, h]
  by_cases h1 : a.1 = b.1 <;> by_cases h2 : a.2 = b.2 <;> simp [h1, h2]
theorem okB_gp {a : Kp} : D.okB 60 (gpD a) = true := by
  have := CLN.okL_map (n := 58) (f := lnD) (fun p => rfl) a.2
  simp [gpD, D.okB, D.okL, this]
theorem read_kp {k : Kp} (h : KOk k) : F_read_lines [.str (kpT k)] = .ok (gpD k) := read_is h.g1 h.g2 h.ls h.ln
theorem kp_inj {a b : Kp} (ha : KOk a) (hb : KOk b) (h : kpT a = kpT b) : a = b := by
  have e1 := read_kp ha
  rw [h, read_kp hb] at e1
  have e2 : gpD b = gpD a := by injection e1
  have := eqv_gp (a := b) (b := a)
  rw [e2, eqv_gp (a := a) (b := a)] at this
  simp at this
  exact this.symm
theorem gd_ln {p : Li} (h : G30 p) : D.gd 400 40 (lnD p) = true := by
  have e : ∀ n : Int, n.natAbs < 10 ^ 30 → n.natAbs < 2 ^ 400 := fun n h => Nat.lt_of_lt_of_le h (Nat.le_trans (by decide) (Nat.pow_le_pow_right (by decide) (show 100 ≤ 400 by decide)))
  simp only [lnD, ln, pt, D.gd, D.gdL, Bool.and_eq_true, decide_eq_true_eq]
  exact ⟨⟨e _ h.x, e _ h.y, trivial⟩, ⟨e _ h.u, e _ h.v, trivial⟩, trivial⟩
theorem wt_lns : ∀ l : List Li, D.wtEL (l.map lnD) = l.length * 7
  | [] => rfl
  | p :: l => by
    simp only [List.map_cons, D.wtEL, wt_lns l, List.length_cons]
    simp only [lnD, ln, pt, D.wtE, D.wtEL]
    omega
theorem repr_kp {k : Kp} (h : KOk k) : bReprF [gpD k] = some (.str (gpD k).shownE) := by
  refine reprF_gd (b := 400) (n := 42) ?_ (by decide) (by decide) ?_
  · simp only [gpD, D.gd, D.gdL, Bool.and_eq_true, decide_eq_true_eq]
    refine ⟨Nat.lt_of_lt_of_le h.g2 (Nat.le_trans (by decide) (Nat.pow_le_pow_right (by decide) (show 100 ≤ 400 by decide))), gdL_iff.mpr fun x hx => ?_, trivial⟩
    obtain ⟨p, hp, rfl⟩ := List.mem_map.mp hx
    exact gd_ln (h.ls p hp)
  · have := h.ln
    simp only [gpD, D.wtE, D.wtEL, wt_lns]
    omega
theorem one_is : linesT 1 [] = Str.ofString "grain 1" := by decide +kernel
noncomputable def finB : MS := (sSeq (sIf (m2 bNe (mCallP F_show_lines (mCons (mV 6) (mCons (mV 9) mNil))) (mV 10)) (sRet (mC (.bl false))) (sK .nx)) (sIf (m2 bNe (mComp [12] (pN 12) (mIt (mV 2)) (m2 bNe (m2 bEq (m2 bIx (mV 12) (mC (.int 2))) (mV 10)) (m2 bEq (mSl (mV 12) none (some (mC (.int 2)))) (mN bTup (mCons (mV 6) (mCons (mV 9) mNil))))) (mV 12)) (mN bLst mNil)) (sRet (mC (.bl false))) (sK .nx)))
noncomputable def finA : MS := (sSeq (sFor (pT 3 (psC (pN 6) (psC (pN 9) (psC (pN 10) psN)))) (mIt (mV 2)) finB) (sRet (mAnd (m2 bEq (mCallP F_show_lines (mCons (mC (.int 1)) (mCons (mN bTup mNil) mNil))) (mC (.str "grain 1"))) (m2 bEq (mCallP F_read_lines (mCons (mC (.str "grain 1")) mNil)) (mN bTup (mCons (mC (.int 1)) (mCons (mN bTup mNil) mNil)))))))
noncomputable def turnB : MS := (sSeq (sAsg (pN 9) (mCall F__law_lines (.io 1 :: (.e (mV 8) :: (.e (mV 5) :: []))))) (sSeq (sAsg (pN 10) (mCallP F__law_lines_text (mCons (mV 6) (mCons (mV 9) mNil)))) (sSeq (sAsg (pN 11) (mCallP F_read_lines (mCons (mV 10) mNil))) (sSeq (sIf (mOr (m2 bNe (mN bReprF (mCons (mV 11) mNil)) (mN bReprF (mCons (mN bTup (mCons (mV 6) (mCons (mV 9) mNil))) mNil))) (m2 bNe (mCallP F_show_lines (mCons (m2 bIx (mV 11) (mC (.int 0))) (mCons (m2 bIx (mV 11) (mC (.int 1))) mNil))) (mV 10))) (sRet (mC (.bl false))) (sK .nx)) (sSeq (sIf (mOr (m1 bNot (mCallP F__law_refused (mCons (m2 bAdd (mV 10) (mC (.str "\n"))) mNil))) (mOr (m1 bNot (mCallP F__law_refused (mCons (mSl (mV 10) (some (mC (.int 1))) none) mNil))) (m2 bNe (mN bReprF (mCons (mCallP F_read_lines (mCons (mV 10) mNil)) mNil)) (mN bReprF (mCons (mV 11) mNil))))) (sRet (mC (.bl false))) (sK .nx)) (sExp (mApp 2 (mN bTup (mCons (mV 6) (mCons (mV 9) (mCons (mV 10) mNil)))))))))))
noncomputable def turnA : MS := (sSeq (sAsg (pN 7) (mCall drawF (.io 1 :: (.e (mC (.int 8)) :: [])))) (sSeq (sAsg (pN 8) (m2 bIx (mN bLst (mCons (mC (.int 0)) (mCons (mC (.int 1)) (mCons (mC (.int 2)) (mCons (mC (.int 3)) (mCons (mC (.int 4)) (mCons (mC (.int 12)) (mCons (mC (.int 12)) (mCons (mC (.int 5)) mNil))))))))) (mV 7))) (sSeq (sIf (m2 bEq (mV 7) (mC (.int 7))) (sSeq (sAsg (pN 8) (m2 bAdd (mC (.int 13)) (mCall drawF (.io 1 :: (.e (mC (.int 288)) :: []))))) (sAsg (pN 5) (mC (.int 0)))) (sK .nx)) turnB)))
theorem law_eq : B_law = (sSeq (sAsg (pN 1) (mCallP (runP 1 deckB) (mCons (mV 0) mNil))) (sSeq (sAsg (pN 2) (mN bLst mNil)) (sSeq (sFor (pN 3) (mItN range1 (mCons (mC (.int 5)) mNil)) (sSeq (sAsg (pN 4) (m2 bEq (mCall drawF (.io 1 :: (.e (mC (.int 4)) :: []))) (mC (.int 1)))) (sSeq (sAsg (pN 5) (mCall drawF (.io 1 :: (.e (mC (.int 5)) :: [])))) (sSeq (sAsg (pN 6) (m2 bAdd (mC (.int 1)) (mCall drawF (.io 1 :: (.e (m2 bIx (mN bLst (mCons (mC (.int 10)) (mCons (mC (.int 1000)) mNil))) (mCall drawF (.io 1 :: (.e (mC (.int 2)) :: [])))) :: []))))) (sSeq (sIf (mV 4) (sAsg (pN 6) (mN bMax2 (mCons (mC (.int 1)) (mCons (mN bAbs (mCons (mCall F__law_whole (.io 1 :: (.e (mV 5) :: []))) mNil)) mNil)))) (sK .nx)) turnA))))) (sFz 2 finA)))) := rfl

theorem show_kp {k : Kp} (h : KOk k) : F_show_lines [.int k.1, .tup (k.2.map lnD)] = .ok (.str (kpT k)) := show_is h.g2 h.ls h.ln
def I1 (ns : List Int) (m : Nat) (ρ : Sl) : Prop := ∃ (dk : D) (ks : List Kp) (o3 o4 o5 o6 o7 o8 o9 o10 o11 : Option D), Deck dk ∧ (∀ k ∈ ks, KOk k) ∧ ks.length = m ∧ ρ = [some (.scr ns), some dk, some (.lst (ks.map kpD)), o3, o4, o5, o6, o7, o8, o9, o10, o11, none]
set_option maxHeartbeats 0 in
theorem turnB_ok {ns : List Int} {dk : D} {ks : List Kp} {g m w : Int} {o3 o4 o7 o9 o10 o11 : Option D} (hd : Deck dk) (hk : ∀ k ∈ ks, KOk k) (hl : ks.length ≤ 4) (g1 : 1 ≤ g) (g2 : N30 g) (m0 : 0 ≤ m) (m1 : m ≤ 300) (w0 : 0 ≤ w) (w1 : w < 5) : W turnB [some (.scr ns), some dk, some (.lst (ks.map kpD)), o3, o4, some (.int w), some (.int g), o7, some (.int m), o9, o10, o11, none] fun f ρ => f = .nx ∧ I1 ns (ks.length + 1) ρ := by
  unfold turnB
  walk_at "r"
  refine lines_step hd m0 m1 w0 w1 fun ps dk1 hp hpl hd1 => ?_
  walk_at "r"
  have ko : KOk (g, ps) := ⟨g1, g2, hp, hpl⟩
  have T1 := ltext_is g2 hp hpl
  have R1 : F_read_lines [.str (linesT g ps)] = .ok (.tup [.int g, .tup (ps.map lnD)]) := read_is g1 g2 hp hpl
  have S1 := show_is g2 hp hpl
  have P1 : bReprF [.tup [.int g, .tup (ps.map lnD)]] = some (.str (gpD (g, ps)).shownE) := repr_kp ko
  have hT := linesT_len g2 hp hpl
  have A1 : bAdd (.str (linesT g ps)) (.str "\n") = some (.str (linesT g ps ++ Str.ofString "\n")) := by
    unfold bAdd
    dsimp only
    rw [if_pos]
    rw [len_tl (Str.ofString "\n"), tl_nl]; simp; omega
  have C1 : bSl (.str (linesT g ps)) (some 1) none = some (.str (cutS (linesT g ps) (some 1) none)) := by
    unfold bSl
    dsimp only
    rw [if_pos (by omega)]
  have F1 := refused_is (read_nl g2 hp hpl)
  have F2 := refused_is (read_cut g2 hp hpl)
  have E1 : bNe (.str (gpD (g, ps)).shownE) (.str (gpD (g, ps)).shownE) = some (.bl false) := by simp [bNe]
  have E2 : bNe (.str (linesT g ps)) (.str (linesT g ps)) = some (.bl false) := by simp [bNe]
  walk_at "r"
  refine go_ifF rfl ?_
  walk_at "r"
  refine go_ifF rfl ?_
  walk_at "r"
  have hk2 : ∀ q ∈ ks ++ [(g, ps)], KOk q := by
    intro q hq
    rcases List.mem_append.mp hq with hq | hq
    · exact hk q hq
    · rw [List.mem_singleton.mp hq]
      exact ko
  exact ⟨rfl, dk1, ks ++ [(g, ps)], _, _, _, _, _, _, _, _, _, hd1, hk2, by simp, by rw [List.map_append]; rfl⟩
set_option maxHeartbeats 0 in
theorem turnA_ok {ns : List Int} {dk : D} {ks : List Kp} {g w : Int} {o3 o4 o7 o8 o9 o10 o11 : Option D} (hd : Deck dk) (hk : ∀ k ∈ ks, KOk k) (hl : ks.length ≤ 4) (g1 : 1 ≤ g) (g2 : N30 g) (w0 : 0 ≤ w) (w1 : w < 5) : W turnA [some (.scr ns), some dk, some (.lst (ks.map kpD)), o3, o4, some (.int w), some (.int g), o7, o8, o9, o10, o11, none] fun f ρ => f = .nx ∧ I1 ns (ks.length + 1) ρ := by
  unfold turnA
  walk_at "r"
  rename_i a dk1 a0 a1 hd1
  refine CL.ixL a0 a1 fun x hx => ?_
  have hx' : ∃ m : Int, x = .int m ∧ 0 ≤ m ∧ m ≤ 300 := by
    simp only [List.mem_cons, List.not_mem_nil, or_false] at hx
    rcases hx with rfl | rfl | rfl | rfl | rfl | rfl | rfl | rfl <;> exact ⟨_, rfl, by decide, by decide⟩
  obtain ⟨m, rfl, m0, m1⟩ := hx'
  clear hx
  walk_at "r"
  refine go_ifP (fun h7 => ?_) fun h7 => ?_
  · walk_at "r"
    rename_i b dk2 b0 b1 hd2
    exact turnB_ok hd2 hk hl g1 g2 (by omega) (by omega) (by decide) (by decide)
  · walk_at "r"
    exact turnB_ok hd1 hk hl g1 g2 m0 m1 w0 w1
set_option maxHeartbeats 0 in
theorem finB_ok {ns : List Int} {dk : D} {ks : List Kp} {k : Kp} {o3 o4 o5 o7 o8 o11 : Option D} (hk : ∀ k ∈ ks, KOk k) (h : KOk k) : W finB [some (.scr ns), some dk, some (.lst (ks.map kpD)), o3, o4, o5, some (.int k.1), o7, o8, some (.tup (k.2.map lnD)), some (.str (kpT k)), o11, none] fun f ρ => f = .nx ∧ ρ = [some (.scr ns), some dk, some (.lst (ks.map kpD)), o3, o4, o5, some (.int k.1), o7, o8, some (.tup (k.2.map lnD)), some (.str (kpT k)), o11, none] := by
  unfold finB
  have S1 := show_kp h
  have E2 : bNe (.str (kpT k)) (.str (kpT k)) = some (.bl false) := by simp [bNe]
  walk_at "r"
  refine go_ifF rfl ?_
  walk_at "r"
  refine X_compFM (xs := ks) (g := kpD) (f := fun _ => false) (h := fun _ => .non) (fun q hq => ⟨_, rfl, ?_, rfl, fun h => (by cases h)⟩) ?_
  · have B1 : bEq (.str (kpT q)) (.str (kpT k)) = some (.bl (decide (q = k))) := by
      simp only [bEq]
      have : (kpT q = kpT k) ↔ q = k := ⟨kp_inj (hk q hq) h, fun e => by rw [e]⟩
      simp [this]
    have B2 : bEq (gpD q) (gpD k) = some (.bl (decide (q = k))) := by
      have e : bEq (gpD q) (gpD k) = if D.okB 60 (gpD q) = true ∧ D.okB 60 (gpD k) = true then some (.bl ((gpD q).eqv (gpD k))) else none := rfl
      rw [e, if_pos ⟨okB_gp, okB_gp⟩, eqv_gp]
    have B3 : bNe (.bl (decide (q = k))) (.bl (decide (q = k))) = some (.bl false) := by
      cases decide (q = k) <;> rfl
    have C1 : bSl (kpD q) none (some 2) = some (gpD q) := by
      have : cutD [D.int q.1, D.tup (q.2.map lnD), D.str (kpT q)] none (some 2) = [D.int q.1, D.tup (q.2.map lnD)] := rfl
      simp only [bSl, kpD, gpD, this]
    have X1 : bIx (kpD q) (.int 2) = some (.str (kpT q)) := rfl
    have G1 : bTup [.int k.1, .tup (k.2.map lnD)] = some (gpD k) := rfl
    walk_at "r"
    exact ⟨rfl, rfl⟩
  · rw [show ks.filter (fun _ => false) = [] from List.filter_eq_nil_iff.mpr fun _ _ => by simp]
    walk_at "r"
    refine go_ifF rfl ?_
    walk_at "r"
    exact ⟨rfl, rfl⟩
set_option maxHeartbeats 0 in
theorem law_true : ∀ ns : List Int, ns.length ≤ 63 → (∀ z ∈ ns, Builtin.Int.intBits z ≤ 1048576) → F_law [.scr ns] = .ok (.bl true) := by
  intro ns hl _
  obtain ⟨dk, h1, h2⟩ := CL.deck_ok hl
  refine runP_of ?_
  rw [law_eq]
  walk_at "r"
  rw [← List.map_id (rangeL 0 5)]
  refine X_forI (xs := rangeL 0 5) (g := id) (fun B ρ => ∃ (dk : D) (ks : List Kp) (o3 o4 o5 o6 o7 o8 o9 o10 o11 : Option D), Deck dk ∧ (∀ k ∈ ks, KOk k) ∧ ks.length + B.length = 5 ∧ ρ = [some (.scr ns), some dk, some (.lst (ks.map kpD)), o3, o4, o5, o6, o7, o8, o9, o10, o11, none]) ⟨dk, [], _, _, _, _, _, _, _, _, _, h2, by simp, rfl, rfl⟩ (fun ρ' h' => ?_) fun z B ρ hρ => ?_
  · obtain ⟨dk, ks, o3, o4, o5, o6, o7, o8, o9, o10, o11, hd, hk, hkl, rfl⟩ := h'
    rw [List.length_nil] at hkl
    walk_at "r"
    have k0 : KOk (1, []) := ⟨by decide, by decide, by simp, by decide⟩
    have S0 : F_show_lines [.int 1, .tup []] = .ok (.str (Str.ofString "grain 1")) := by
      have := show_kp k0
      rw [← one_is]
      exact this
    have R0 : F_read_lines [.str (Str.ofString "grain 1")] = .ok (.tup [.int 1, .tup []]) := by
      have := read_kp k0
      rw [← one_is]
      exact this
    have E0 : bEq (.str (Str.ofString "grain 1")) (.str (Str.ofString "grain 1")) = some (.bl true) := by simp [bEq]
    have E1 : bEq (.tup [.int 1, .tup []]) (.tup [.int 1, .tup []]) = some (.bl true) := rfl
    unfold finA
    walk_at "r"
    refine X_forI (xs := ks) (g := kpD) (fun B ρ => (∀ k ∈ B, KOk k) ∧ ∃ (o3 o4 o5 o6 o7 o8 o9 o10 o11 : Option D), ρ = [some (.scr ns), some dk, some (.lst (ks.map kpD)), o3, o4, o5, o6, o7, o8, o9, o10, o11, none]) ⟨hk, _, _, _, _, _, _, _, _, _, rfl⟩ (fun ρ' h' => ?_) fun k B ρ hρ => ?_
    · obtain ⟨_, o3, o4, o5, o6, o7, o8, o9, o10, o11, rfl⟩ := h'
      walk_at "r"
      rfl
    · obtain ⟨hB, o3, o4, o5, o6, o7, o8, o9, o10, o11, rfl⟩ := hρ
      refine ⟨_, rfl, ?_⟩
      exact (finB_ok hk (hB k (by simp))).mono fun f ρ2 ⟨hf, hρ⟩ => .inl ⟨.inl hf, fun q hq => hB q (by simp [hq]), _, _, _, _, _, _, _, _, _, hρ⟩
  · obtain ⟨dk, ks, o3, o4, o5, o6, o7, o8, o9, o10, o11, hd, hk, hkl, rfl⟩ := hρ
    rw [List.length_cons] at hkl
    refine ⟨_, rfl, ?_⟩
    walk_at "r"
    rename_i a dk1 a0 a1 hd1 b dk2 b0 b1 hd2 c dk3 c0 c1 hd3 m hm hmN e dk4 e0 e1 hd4
    clear hmN
    have he : e < 1000 := by omega
    have fin : ∀ {f : Fl} {ρ2 : Sl}, f = .nx ∧ I1 ns (ks.length + 1) ρ2 → (f = .nx ∨ f = .cnt) ∧ ∃ (dk : D) (ks : List Kp) (o3 o4 o5 o6 o7 o8 o9 o10 o11 : Option D), Deck dk ∧ (∀ k ∈ ks, KOk k) ∧ ks.length + B.length = 5 ∧ ρ2 = [some (.scr ns), some dk, some (.lst (ks.map kpD)), o3, o4, o5, o6, o7, o8, o9, o10, o11, none] := by
      rintro f ρ2 ⟨hf, dk, ks', o3, o4, o5, o6, o7, o8, o9, o10, o11, h1, h2, h3, h4⟩
      exact ⟨.inl hf, dk, ks', o3, o4, o5, o6, o7, o8, o9, o10, o11, h1, h2, by omega, h4⟩
    refine go_ifP (fun _ => ?_) fun _ => ?_
    · walk_at "r"
      refine whole_step hd4 b0 b1 fun n dk5 hn hd5 => ?_
      have A1 : bAbs [.int n] = some (.int (if n < 0 then -n else n)) := rfl
      have hv : ∀ v : Int, v = (if n < 0 then -n else n) → N30 (if v > 1 then v else 1) ∧ 1 ≤ (if v > 1 then v else 1) := by
        intro v hv
        unfold N30 at hn ⊢
        constructor <;> split <;> split at hv <;> omega
      generalize (if n < 0 then -n else n) = v at *
      have hv1 := hv v rfl
      walk_at "r"
      exact (turnA_ok hd5 hk (by omega) hv1.2 hv1.1 b0 b1).mono fun f ρ2 h => .inl (fin h)
    · walk_at "r"
      exact (turnA_ok hd4 hk (by omega) (by omega) (by unfold N30; omega) b0 b1).mono fun f ρ2 h => .inl (fin h)
end LW

open PySem PySem.W PyProof.Rows
set_option maxHeartbeats 0 in
theorem PySem.Challenge.cw_cornerlines_k05_lines_written_and_read_holds : PySem.Challenge.rw_cornerlines_k05_lines_written_and_read.Holds := by
  w_on; o_law; k_head; (case hw => w_witness2)
  k_fill
  refine CL.walk_cl (l := PySem.Challenge.rw_cornerlines_k05_lines_written_and_read) (n := 63) (k := 7) (x := "_law_script") (G := LW.F_law) rfl (by decide) rfl ⟨rfl, by decide, by decide⟩ (fun w h Y => PySem.W.kIn_of Y) ?F LW.law_true
  case F =>
    intro w mg fa h Y KX G hmg
    refine' LW.all_mk KX G hmg (.mk ?a0 ?l0 ?c0 ?k0) (.mk ?a1 ?l1 ?c1 ?k1) (.mk ?a2 ?l2 ?c2 ?k2) (.mk ?a3 ?l3 ?c3 ?k3) (.mk ?a4 ?l4 ?c4 ?k4) (.mk ?a5 ?l5 ?c5 ?k5) (.mk ?a6 ?l6 ?c6 ?k6) (.mk ?a7 ?l7 ?c7 ?k7) (.mk ?a8 ?l8 ?c8 ?k8) (.mk ?a9 ?l9 ?c9 ?k9) (.mk ?a10 ?l10 ?c10 ?k10) (.mk ?a11 ?l11 ?c11 ?k11) (.mk ?a12 ?l12 ?c12 ?k12) (.mk ?a13 ?l13 ?c13 ?k13) (.mk ?a14 ?l14 ?c14 ?k14) (.mk ?a15 ?l15 ?c15 ?k15) (.mk ?a16 ?l16 ?c16 ?k16) ?a17 ?l17 ?c17 ?k17 ?xa_DrawError ?xa_NoText ?xq_NoText ?xk_NoText ?xs_NoText ?xt_NoText ?xx_NoText_DrawError ?z_abs ?z_all ?z_bool ?z_int ?z_isinstance ?z_len ?z_list ?z_max ?z_range ?z_repr ?z_str ?z_sum ?z_tuple ?y_FIGURES ?y_MOST_FIGURES
    (case a0 => k_is); (case l0 => k_is); (case c0 => k_is); (case k0 => k_is); (case a1 => k_is); (case l1 => k_is); (case c1 => k_is); (case k1 => k_is); (case a2 => k_is); (case l2 => k_is); (case c2 => k_is); (case k2 => k_is); (case a3 => k_is); (case l3 => k_is); (case c3 => k_is); (case k3 => k_is); (case a4 => k_is); (case l4 => k_is); (case c4 => k_is); (case k4 => k_is); (case a5 => k_is); (case l5 => k_is); (case c5 => k_is); (case k5 => k_is); (case a6 => k_is); (case l6 => k_is); (case c6 => k_is); (case k6 => k_is); (case a7 => k_is); (case l7 => k_is); (case c7 => k_is); (case k7 => k_is); (case a8 => k_is); (case l8 => k_is); (case c8 => k_is); (case k8 => k_is); (case a9 => k_is); (case l9 => k_is); (case c9 => k_is); (case k9 => k_is); (case a10 => k_is); (case l10 => k_is); (case c10 => k_is); (case k10 => k_is); (case a11 => k_is); (case l11 => k_is); (case c11 => k_is); (case k11 => k_is); (case a12 => k_is); (case l12 => k_is); (case c12 => k_is); (case k12 => k_is); (case a13 => k_is); (case l13 => k_is); (case c13 => k_is); (case k13 => k_is); (case a14 => k_is); (case l14 => k_is); (case c14 => k_is); (case k14 => k_is); (case a15 => k_is); (case l15 => k_is); (case c15 => k_is); (case k15 => k_is); (case a16 => k_is); (case l16 => k_is); (case c16 => k_is); (case k16 => k_is); (case a17 => k_is); (case l17 => k_is); (case c17 => k_is); (case k17 => k_is); (case xa_DrawError => k_is); (case xa_NoText => k_is); (case xq_NoText => kernel_rfl); (case xk_NoText => k_is); (case xs_NoText => k_is); (case xt_NoText => k_is); (case xx_NoText_DrawError => kernel_rfl); (case z_abs => k_is); (case z_all => k_is); (case z_bool => k_is); (case z_int => k_is); (case z_isinstance => k_is); (case z_len => k_is); (case z_list => k_is); (case z_max => k_is); (case z_range => k_is); (case z_repr => k_is); (case z_str => k_is); (case z_sum => k_is); (case z_tuple => k_is); (case y_FIGURES => k_is); (case y_MOST_FIGURES => k_is)

