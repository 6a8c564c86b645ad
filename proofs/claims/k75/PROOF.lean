import PyProof.Rows.All
import Wide.All
import OpenK.AllK
import Wide.FinOn
import HandS.ForMost
import HandS.Exc
import HandS.TryOnly
import HandS.ExcOwn
import HandS.WordsExc
import HandS.CallSlots
import HandS.Defaults
import HandS.TupAny
import HandS.Deep
import HandS.IsInst
import HandS.ExcInit
import HandS.ExcField
import HandS.ExcIs
import HandS.TupLe
import HandS.More
import KE.GoesEnum
import KE.GoesMore
import HandS.Wide
import KE.KExcIs
import HandS.Sort
import KE.SortData
import KE.KStateDown
import HandS.Head0
import HandS.Head1
import HandS.Head2
import HandS.HeadEnd
import HandS.HeadHook1
import HandS.HeadHook2
import PySem.Challenge.RW_formsbrief_k75_paths_and_parts
set_option Elab.async false
set_option linter.all false
set_option maxRecDepth 100000
set_option maxHeartbeats 4000000
/-! The value layer: readings without a heap. D: a value as a tree; F: what is frozen; S: what may still be written. -/
namespace L3
open PySem PySem.Spec PyProof.Rows L2

/-- a value as a tree; ref: an object that stands in the store, or a class -/
inductive D where
  | non | bl (b : Bool) | int (i : Int) | str (x : Str) | ref (a : Addr) | ty (n : String)
  | tup (xs : List D) | lst (xs : List D) | fix (xs : List D) | ins (C : Addr) (ns : List Str) (xs : List D)
  /-- the exception that an except suite holds: where, its class, its own dict, what it carries -/
  | exc (a Cl dd : Addr) (x : D)

/-- a written tuple begins with a text or an object (so it is no key) -/
def wr : List V → Bool
  | .str _ :: _ => true
  | .ref _ :: _ => true
  | _ => false
def TupAt (K : PySem.W.Frag) (F : Hp) (a : Addr) (vs : List V) : Prop := F a = some (.tup vs) ∨ (SqT K F a vs ∧ wr vs = true)
section
variable (K : PySem.W.Frag) (F : Hp)
mutual
def Rep : D → V → Prop
  | .non, v => v = .non
  | .bl b, v => v = .bl b
  | .int i, v => v = .int i
  | .str x, v => v = .str x
  | .ref a, v => v = .ref a
  | .ty n, v => v = .ty n
  | .exc a _ dd x, v => v = .ref a ∧ ∃ u, F dd = some (.xd [(("what" : Str), u)]) ∧ Rep x u
  | .tup xs, v => ∃ a vs, v = .ref a ∧ TupAt K F a vs ∧ Reps xs vs
  | .lst xs, v => ∃ a vs, v = .ref a ∧ F a = some (.lst vs) ∧ Reps xs vs
  | .fix xs, v => ∃ a vs, v = .ref a ∧ SqL K F a vs ∧ Reps xs vs
  | .ins C ns xs, v => ∃ a dx fs, v = .ref a ∧ F a = some (.ins C dx fs) ∧ fs.map (·.1) = ns ∧ Reps xs (fs.map (·.2))
def Reps : List D → List V → Prop
  | [], vs => vs = []
  | d :: ds, vs => ∃ v r, vs = v :: r ∧ Rep d v ∧ Reps ds r
end
end

theorem same_sqt {K : PySem.W.Frag} {H H' : Hp} {a : Addr} {xs : List V} (e : Same H H') (h : SqT K H a xs) : SqT K H' a xs := by
  rcases h with (h | ⟨o, h⟩) | h
  · exact .inl (.inl (e _ _ h))
  · exact .inl (.inr ⟨o, e _ _ h⟩)
  · exact .inr h
theorem TupAt.sq {K : PySem.W.Frag} {F : Hp} {a : Addr} {vs : List V} (h : TupAt K F a vs) : SqT K F a vs := h.elim SqT.of fun z => z.1
theorem TupAt.mono {K : PySem.W.Frag} {F F' : Hp} {a : Addr} {vs : List V} (e : Same F F') (h : TupAt K F a vs) : TupAt K F' a vs := h.elim (fun z => .inl (e _ _ z)) fun z => .inr ⟨same_sqt e z.1, z.2⟩
mutual
theorem Rep.mono {K : PySem.W.Frag} {F F' : Hp} (e : Same F F') : ∀ (d : D) (v : V), Rep K F d v → Rep K F' d v
  | .non, _, h => h
  | .bl _, _, h => h
  | .int _, _, h => h
  | .str _, _, h => h
  | .ref _, _, h => h
  | .ty _, _, h => h
  | .exc a c dd x, v, h => by
    obtain ⟨h1, u, h2, h3⟩ := h
    exact ⟨h1, u, e _ _ h2, Rep.mono e x u h3⟩
  | .tup xs, v, h => by
    obtain ⟨a, vs, h1, h2, h3⟩ := h
    exact ⟨a, vs, h1, h2.mono e, Reps.mono e xs vs h3⟩
  | .lst xs, v, h => by
    obtain ⟨a, vs, h1, h2, h3⟩ := h
    exact ⟨a, vs, h1, e _ _ h2, Reps.mono e xs vs h3⟩
  | .fix xs, v, h => by
    obtain ⟨a, vs, h1, h2, h3⟩ := h
    exact ⟨a, vs, h1, e.seq h2, Reps.mono e xs vs h3⟩
  | .ins C ns xs, v, h => by
    obtain ⟨a, dx, fs, h1, h2, h3, h4⟩ := h
    exact ⟨a, dx, fs, h1, e _ _ h2, h3, Reps.mono e xs _ h4⟩
theorem Reps.mono {K : PySem.W.Frag} {F F' : Hp} (e : Same F F') : ∀ (ds : List D) (vs : List V), Reps K F ds vs → Reps K F' ds vs
  | [], _, h => h
  | d :: ds, vs, h => by
    obtain ⟨v, r, h1, h2, h3⟩ := h
    exact ⟨v, r, h1, Rep.mono e d v h2, Reps.mono e ds r h3⟩
end
theorem Reps.length {K : PySem.W.Frag} {F : Hp} : ∀ {ds : List D} {vs : List V}, Reps K F ds vs → ds.length = vs.length
  | [], _, h => by cases h; rfl
  | d :: ds, vs, h => by
    obtain ⟨v, r, rfl, _, h3⟩ := h
    simp [Reps.length h3]
theorem Reps.get {K : PySem.W.Frag} {F : Hp} : ∀ {ds : List D} {vs : List V} {i : Nat} {d : D}, Reps K F ds vs → ds[i]? = some d → ∃ v, vs[i]? = some v ∧ Rep K F d v
  | [], _, _, _, _, e => by simp at e
  | d :: ds, vs, 0, d', h, e => by
    obtain ⟨v, r, rfl, h2, _⟩ := h
    simp at e; subst e
    exact ⟨v, by simp, h2⟩
  | d :: ds, vs, i + 1, d', h, e => by
    obtain ⟨v, r, rfl, _, h3⟩ := h
    obtain ⟨v', h4, h5⟩ := Reps.get (i := i) h3 (by simpa using e)
    exact ⟨v', by simpa using h4, h5⟩
theorem Reps.get' {K : PySem.W.Frag} {F : Hp} {ds : List D} {vs : List V} {i : Nat} {v : V} (h : Reps K F ds vs) (e : vs[i]? = some v) : ∃ d, ds[i]? = some d ∧ Rep K F d v := by
  have hl := h.length
  obtain ⟨hi, _⟩ := List.getElem?_eq_some_iff.mp e
  have hd : ds[i]? = some ds[i] := List.getElem?_eq_getElem (by omega)
  obtain ⟨v', h1, h2⟩ := h.get hd
  rw [e] at h1; cases h1
  exact ⟨_, hd, h2⟩
theorem Reps.append {K : PySem.W.Frag} {F : Hp} : ∀ {ds es : List D} {vs ws : List V}, Reps K F ds vs → Reps K F es ws → Reps K F (ds ++ es) (vs ++ ws)
  | [], _, _, _, h, h' => by cases h; exact h'
  | d :: ds, _, _, _, h, h' => by
    obtain ⟨v, r, rfl, h2, h3⟩ := h
    exact ⟨v, _, rfl, h2, Reps.append h3 h'⟩
theorem Reps.take {K : PySem.W.Frag} {F : Hp} : ∀ {ds : List D} {vs : List V} (n : Nat), Reps K F ds vs → Reps K F (ds.take n) (vs.take n)
  | _, _, 0, _ => rfl
  | [], _, n + 1, h => by cases h; rfl
  | d :: ds, _, n + 1, h => by
    obtain ⟨v, r, rfl, h2, h3⟩ := h
    exact ⟨v, _, rfl, h2, Reps.take n h3⟩
theorem Reps.drop {K : PySem.W.Frag} {F : Hp} : ∀ {ds : List D} {vs : List V} (n : Nat), Reps K F ds vs → Reps K F (ds.drop n) (vs.drop n)
  | _, _, 0, h => h
  | [], _, n + 1, h => by cases h; rfl
  | d :: ds, _, n + 1, h => by
    obtain ⟨v, r, rfl, h2, h3⟩ := h
    exact Reps.drop n h3
theorem Reps.set {K : PySem.W.Frag} {F : Hp} {d : D} {v : V} (r : Rep K F d v) : ∀ {ds : List D} {vs : List V} (n : Nat), Reps K F ds vs → Reps K F (ds.set n d) (vs.set n v)
  | [], _, _, h => by cases h; rfl
  | d :: ds, _, 0, h => by
    obtain ⟨v, r', rfl, h2, h3⟩ := h
    exact ⟨_, _, rfl, r, h3⟩
  | d :: ds, _, n + 1, h => by
    obtain ⟨v, r', rfl, h2, h3⟩ := h
    exact ⟨v, _, rfl, h2, Reps.set r n h3⟩
theorem Reps.reverse {K : PySem.W.Frag} {F : Hp} : ∀ {ds : List D} {vs : List V}, Reps K F ds vs → Reps K F ds.reverse vs.reverse
  | [], _, h => by cases h; rfl
  | d :: ds, _, h => by
    obtain ⟨v, r, rfl, h2, h3⟩ := h
    rw [List.reverse_cons, List.reverse_cons]
    exact Reps.append (Reps.reverse h3) ⟨v, [], rfl, h2, rfl⟩
theorem Reps.one {K : PySem.W.Frag} {F : Hp} {d : D} {v : V} (h : Rep K F d v) : Reps K F [d] [v] := ⟨v, [], rfl, h, rfl⟩
theorem Reps.ints {K : PySem.W.Frag} {F : Hp} : ∀ {ns : List Int} {vs : List V}, Reps K F (ns.map D.int) vs → vs = ns.map V.int
  | [], _, h => h
  | n :: ns, _, h => by
    obtain ⟨v, r, rfl, h2, h3⟩ := h
    rw [Reps.ints h3, show v = V.int n from h2] <;> rfl
theorem Reps.ofInts {K : PySem.W.Frag} {F : Hp} : ∀ (ns : List Int), Reps K F (ns.map D.int) (ns.map V.int)
  | [] => rfl
  | n :: ns => ⟨_, _, rfl, rfl, Reps.ofInts ns⟩

/-! ### the store -/
inductive SO where
  | lst (xs : List D) | ins (C : Addr) (ns : List Str) (xs : List D)
  | dK (ks : List Key) (xs : List D) | dT (ks : List (List Key)) (xs : List D)
abbrev Sto := Addr → Option SO
def sup (S : Sto) (a : Addr) (o : SO) : Sto := fun b => if b = a then some o else S b
def sdel (S : Sto) (a : Addr) : Sto := fun b => if b = a then none else S b
theorem sup_same {S : Sto} {a : Addr} {o : SO} : sup S a o a = some o := if_pos rfl
theorem sup_ne {S : Sto} {a b : Addr} {o : SO} (h : b ≠ a) : sup S a o b = S b := if_neg h
theorem sdel_same {S : Sto} {a : Addr} : sdel S a a = none := if_pos rfl
theorem sdel_ne {S : Sto} {a b : Addr} (h : b ≠ a) : sdel S a b = S b := if_neg h
theorem sup_sup {S : Sto} {a : Addr} {o u : SO} : sup (sup S a o) a u = sup S a u := by
  funext b; unfold sup; split <;> rfl
def RepO (K : PySem.W.Frag) (F : Hp) : SO → HO → Prop
  | .lst xs, h => ∃ vs, h = .lst vs ∧ Reps K F xs vs
  | .ins C ns xs, h => ∃ dx fs, h = .ins C dx fs ∧ fs.map (·.1) = ns ∧ Reps K F xs (fs.map (·.2))
  | .dK ks xs, h => ∃ kvs, h = .dK kvs ∧ kvs.map (·.1) = ks ∧ Reps K F xs (kvs.map (·.2))
  | .dT ks xs, h => ∃ kvs, h = .dT kvs ∧ kvs.map (·.1) = ks ∧ Reps K F xs (kvs.map (·.2))
theorem RepO.mono {K : PySem.W.Frag} {F F' : Hp} (e : Same F F') : ∀ {o : SO} {h : HO}, RepO K F o h → RepO K F' o h
  | .lst xs, h, ⟨vs, h1, h2⟩ => ⟨vs, h1, Reps.mono e _ _ h2⟩
  | .ins C ns xs, h, ⟨dx, fs, h1, h2, h3⟩ => ⟨dx, fs, h1, h2, Reps.mono e _ _ h3⟩
  | .dK ks xs, h, ⟨kvs, h1, h2, h3⟩ => ⟨kvs, h1, h2, Reps.mono e _ _ h3⟩
  | .dT ks xs, h, ⟨kvs, h1, h2, h3⟩ => ⟨kvs, h1, h2, Reps.mono e _ _ h3⟩

/-- the abstract heap holds what is frozen, what is around (untouched), and what stands in the store, apart -/
structure Ok (K : PySem.W.Frag) (F Z : Hp) (S : Sto) (H : Hp) : Prop where
  fro : Same F H
  own : ∀ a o, S a = some o → F a = none ∧ ∃ h, H a = some h ∧ RepO K F o h
  zed : ∀ a o, Z a = some o → F a = none ∧ S a = none ∧ H a = some o
section
variable {K : PySem.W.Frag} {F Z : Hp} {S : Sto} {H : Hp} {p : Addr}
theorem Ok.newF (ok : Ok K F Z S H) (hp : H p = none) : F p = none := ok.fro.free hp
theorem Ok.newS (ok : Ok K F Z S H) (hp : H p = none) : S p = none := by
  cases e : S p with
  | none => rfl
  | some o =>
    obtain ⟨_, h, q, _⟩ := ok.own _ _ e
    rw [hp] at q; cases q
theorem Ok.newZ (ok : Ok K F Z S H) (hp : H p = none) : Z p = none := by
  cases e : Z p with
  | none => rfl
  | some o =>
    have q := (ok.zed _ _ e).2.2
    rw [hp] at q; cases q
theorem same_upd {H : Hp} {p : Addr} (h : H p = none) (o : HO) : Same H (upd H p o) := fun b u q => by rw [upd_ne (ne_of_none q h)]; exact q
/-- a new object, frozen -/
theorem Ok.frz (ok : Ok K F Z S H) (hp : H p = none) (o : HO) : Ok K (upd F p o) Z S (upd H p o) := by
  refine ⟨fun b u q => ?_, fun a so e => ?_, fun a u e => ?_⟩
  · by_cases hb : b = p
    · subst hb; rw [upd_same] at q ⊢; exact q
    · rw [upd_ne hb] at q ⊢; exact ok.fro _ _ q
  · obtain ⟨h1, h, h2, h3⟩ := ok.own a so e
    have hne : a ≠ p := ne_of_none h2 hp
    exact ⟨by rw [upd_ne hne]; exact h1, h, by rw [upd_ne hne]; exact h2, h3.mono (same_upd (ok.newF hp) o)⟩
  · obtain ⟨h1, h2, h3⟩ := ok.zed a u e
    have hne : a ≠ p := ne_of_none h3 hp
    exact ⟨by rw [upd_ne hne]; exact h1, h2, by rw [upd_ne hne]; exact h3⟩
/-- a new object of the store -/
theorem Ok.new (ok : Ok K F Z S H) (hp : H p = none) {o : HO} {so : SO} (r : RepO K F so o) : Ok K F Z (sup S p so) (upd H p o) := by
  have hf := ok.newF hp
  refine ⟨fun b u q => ?_, fun a s e => ?_, fun a u e => ?_⟩
  · rw [upd_ne (ne_of_none q hf)]; exact ok.fro _ _ q
  · by_cases ha : a = p
    · subst ha; rw [sup_same] at e; cases e
      exact ⟨hf, o, upd_same, r⟩
    · rw [sup_ne ha] at e
      obtain ⟨h1, h, h2, h3⟩ := ok.own a s e
      exact ⟨h1, h, by rw [upd_ne ha]; exact h2, h3⟩
  · obtain ⟨h1, h2, h3⟩ := ok.zed a u e
    have hne : a ≠ p := ne_of_none h3 hp
    exact ⟨h1, by rw [sup_ne hne]; exact h2, by rw [upd_ne hne]; exact h3⟩
/-- an object of the store is written -/
theorem Ok.put (ok : Ok K F Z S H) {s0 : SO} (hp : S p = some s0) {o : HO} {so : SO} (r : RepO K F so o) : Ok K F Z (sup S p so) (upd H p o) := by
  have hf := (ok.own _ _ hp).1
  refine ⟨fun b u q => ?_, fun a s e => ?_, fun a u e => ?_⟩
  · rw [upd_ne (ne_of_none q hf)]; exact ok.fro _ _ q
  · by_cases ha : a = p
    · subst ha; rw [sup_same] at e; cases e
      exact ⟨hf, o, upd_same, r⟩
    · rw [sup_ne ha] at e
      obtain ⟨h1, h, h2, h3⟩ := ok.own a s e
      exact ⟨h1, h, by rw [upd_ne ha]; exact h2, h3⟩
  · obtain ⟨h1, h2, h3⟩ := ok.zed a u e
    have hne : a ≠ p := fun z => by rw [z, hp] at h2; cases h2
    exact ⟨h1, by rw [sup_ne hne]; exact h2, by rw [upd_ne hne]; exact h3⟩
/-- an object of the store is frozen -/
theorem Ok.freeze (ok : Ok K F Z S H) {s0 : SO} (hp : S p = some s0) : ∃ h, H p = some h ∧ RepO K F s0 h ∧ Same F (upd F p h) ∧ Ok K (upd F p h) Z (sdel S p) H := by
  obtain ⟨hf, h, hh, r⟩ := ok.own _ _ hp
  have sm := same_upd hf h
  refine ⟨h, hh, r, sm, fun b u q => ?_, fun a s e => ?_, fun a u e => ?_⟩
  · by_cases hb : b = p
    · subst hb; rw [upd_same] at q; cases q; exact hh
    · rw [upd_ne hb] at q; exact ok.fro _ _ q
  · by_cases ha : a = p
    · subst ha; rw [sdel_same] at e; cases e
    · rw [sdel_ne ha] at e
      obtain ⟨h1, h', h2, h3⟩ := ok.own a s e
      exact ⟨by rw [upd_ne ha]; exact h1, h', h2, h3.mono sm⟩
  · obtain ⟨h1, h2, h3⟩ := ok.zed a u e
    have hne : a ≠ p := fun z => by rw [z, hp] at h2; cases h2
    exact ⟨by rw [upd_ne hne]; exact h1, by rw [sdel_ne hne]; exact h2, h3⟩
/-- a smaller store -/
theorem Ok.less {S' : Sto} (ok : Ok K F Z S H) (h : ∀ a o, S' a = some o → S a = some o) : Ok K F Z S' H := ⟨ok.fro, fun a o e => ok.own a o (h a o e), fun a u e => by
  obtain ⟨h1, h2, h3⟩ := ok.zed a u e
  refine ⟨h1, ?_, h3⟩
  cases q : S' a with
  | none => rfl
  | some o => rw [h a o q] at h2; cases h2⟩
/-- a smaller around -/
theorem Ok.lessZ {Z' : Hp} (ok : Ok K F Z S H) (h : Same Z' Z) : Ok K F Z' S H := ⟨ok.fro, ok.own, fun a u e => ok.zed a u (h a u e)⟩
/-- the whole store is set aside: what stands there is around -/
def around (Z : Hp) (S : Sto) (H : Hp) : Hp := fun a => match S a with
  | some _ => H a
  | none => Z a
theorem Ok.aside (ok : Ok K F Z S H) : Ok K F (around Z S H) (fun _ => none) H := by
  refine ⟨ok.fro, (fun a o e => nomatch e), fun a u e => ?_⟩
  unfold around at e
  cases q : S a with
  | some o =>
    rw [q] at e
    exact ⟨(ok.own _ _ q).1, rfl, e⟩
  | none =>
    rw [q] at e
    obtain ⟨h1, _, h3⟩ := ok.zed a u e
    exact ⟨h1, rfl, h3⟩
/-- .. and taken back -/
theorem Ok.back {F' H' : Hp} (ok : Ok K F Z S H) (ok' : Ok K F' (around Z S H) (fun _ => none) H') (sm : Same F F') : Ok K F' Z S H' := by
  refine ⟨ok'.fro, fun a o e => ?_, fun a u e => ?_⟩
  · obtain ⟨h1, h, h2, h3⟩ := ok.own a o e
    have q : around Z S H a = some h := by unfold around; rw [e]; exact h2
    obtain ⟨g1, _, g3⟩ := ok'.zed a h q
    exact ⟨g1, h, g3, h3.mono sm⟩
  · obtain ⟨h1, h2, h3⟩ := ok.zed a u e
    have q : around Z S H a = some u := by unfold around; rw [h2]; exact e
    obtain ⟨g1, _, g3⟩ := ok'.zed a u q
    exact ⟨g1, h2, g3⟩
theorem Rep.inH (ok : Ok K F Z S H) {d : D} {v : V} (r : Rep K F d v) : Rep K H d v := Rep.mono ok.fro _ _ r
end

/-! ### slots -/
abbrev Env := List (Option D)
/-- slots: what the layer knows of them -/
inductive Envs (K : PySem.W.Frag) (F : Hp) : L2.St → Env → Prop where
  | nil : Envs K F [] []
  | cons {v : V} {d : D} {σ : L2.St} {e : Env} : Rep K F d v → Envs K F σ e → Envs K F (some v :: σ) (some d :: e)
  | skip {v : Option V} {σ : L2.St} {e : Env} : Envs K F σ e → Envs K F (v :: σ) (none :: e)
@[simp] def nth : Env → Nat → Option D
  | [], _ => none
  | x :: _, 0 => x
  | _ :: r, n + 1 => nth r n
@[simp] def put : Env → Nat → D → Env
  | [], _, _ => []
  | _ :: r, 0, d => .some d :: r
  | x :: r, n + 1, d => x :: put r n d
@[simp] def forget : Env → Nat → Env
  | [], _ => []
  | _ :: r, 0 => .none :: r
  | x :: r, n + 1 => x :: forget r n
section
variable {K : PySem.W.Frag} {F F' : Hp}
theorem Envs.mono (e : Same F F') : ∀ {σ : L2.St} {env : Env}, Envs K F σ env → Envs K F' σ env := fun {σ env} h => by
  induction h with
  | nil => exact .nil
  | cons r _ ih => exact .cons (Rep.mono e _ _ r) ih
  | skip _ ih => exact .skip ih
theorem Envs.get : ∀ {σ : L2.St} {env : Env} {i : Nat} {d : D}, Envs K F σ env → nth env i = some d → ∃ v, σ[i]? = some (some v) ∧ Rep K F d v := fun {σ env i d} h => by
  induction h generalizing i with
  | nil => intro q; cases i <;> cases q
  | @cons v d0 σ e r _ ih =>
    intro q
    cases i with
    | zero => cases q; exact ⟨v, rfl, r⟩
    | succ i => exact ih q
  | skip _ ih =>
    intro q
    cases i with
    | zero => cases q
    | succ i => exact ih q
theorem Envs.put {d : D} {v : V} (r : Rep K F d v) : ∀ {σ : L2.St} {env : Env} (i : Nat), Envs K F σ env → Envs K F (σ.set i (some v)) (put env i d) := fun {σ env} i h => by
  induction h generalizing i with
  | nil => cases i <;> exact .nil
  | @cons v' d0 σ e r' h' ih =>
    cases i with
    | zero => exact .cons r h'
    | succ i => exact .cons r' (ih i)
  | @skip v' σ e h' ih =>
    cases i with
    | zero => exact .cons r h'
    | succ i => exact .skip (ih i)
theorem Envs.gone {o : Option V} : ∀ {σ : L2.St} {env : Env} (i : Nat), Envs K F σ env → Envs K F (σ.set i o) (forget env i) := fun {σ env} i h => by
  induction h generalizing i with
  | nil => cases i <;> exact .nil
  | @cons v' d0 σ e r' h' ih =>
    cases i with
    | zero => exact .skip h'
    | succ i => exact .cons r' (ih i)
  | @skip v' σ e h' ih =>
    cases i with
    | zero => exact .skip h'
    | succ i => exact .skip (ih i)
@[simp] def start (N : Nat) (ds : List D) : Env := ds.map some ++ List.replicate (N - ds.length) none
theorem envs_none : ∀ (n : Nat), Envs K F (List.replicate n none) (List.replicate n none)
  | 0 => .nil
  | n + 1 => .skip (envs_none n)
theorem Envs.start {N : List Str} : ∀ {ds : List D} {vs : List V}, Reps K F ds vs → Envs K F (L2.start N vs) (L3.start N.length ds) := fun {ds vs} h => by
  have hl := h.length
  unfold L2.start L3.start
  rw [← hl]
  have key : ∀ {ds : List D} {vs : List V} {k : Nat}, Reps K F ds vs → Envs K F (vs.map some ++ List.replicate k none) (ds.map some ++ List.replicate k none) := by
    intro ds
    induction ds with
    | nil => intro vs k h; cases h; exact envs_none k
    | cons d ds ih =>
      intro vs k h
      obtain ⟨v, r, rfl, h2, h3⟩ := h
      exact .cons h2 (ih h3)
  exact key h
end

/-! ### judgements -/
abbrev VQ := D → Sto → Prop
/-- an own exception: its class, what it holds -/
abbrev EX := Addr → D → Sto → Prop
abbrev WE := Env → Sto → VQ → EX → Prop
abbrev WT := Env → Sto → (Bool → Sto → Prop) → EX → Prop
abbrev WA := Env → Sto → (List D → Sto → Prop) → EX → Prop
/-- the exception's own dict -/
def XdAt (F : Hp) (dd : Addr) (v : V) : Prop := F dd = some (.xd [(("what" : Str), v)])
/-- what the layer wants of exceptions goes to what L2 wants -/
def Thr (K : PySem.W.Frag) (F Z : Hp) (W : WX) (σ : L2.St) (Ex : EX) : Prop := ∀ C x S' H' F' dd v, Same F F' → Ok K F' Z S' H' → XdAt F' dd v → Rep K F' x v → Ex C x S' → W (.ref C) (some dd) σ H'
def KQ (K : PySem.W.Frag) (F Z : Hp) (Q : VQ) (R : V → Hp → Prop) : Prop := ∀ v H' F' S' d, Same F F' → Ok K F' Z S' H' → Rep K F' d v → Q d S' → R v H'
def KB (K : PySem.W.Frag) (F Z : Hp) (Q : Bool → Sto → Prop) (R : Bool → Hp → Prop) : Prop := ∀ b H' F' S', Same F F' → Ok K F' Z S' H' → Q b S' → R b H'
def KA (K : PySem.W.Frag) (F Z : Hp) (Q : List D → Sto → Prop) (R : List V → Hp → Prop) : Prop := ∀ vs H' F' S' ds, Same F F' → Ok K F' Z S' H' → Reps K F' ds vs → Q ds S' → R vs H'
section
variable {K : PySem.W.Frag} {F F1 Z : Hp}
theorem Thr.mono {W : WX} {σ : L2.St} {Ex : EX} (h : Thr K F Z W σ Ex) (e : Same F F1) : Thr K F1 Z W σ Ex := fun C x S' H' F' dd v sm => h C x S' H' F' dd v (e.trans sm)
theorem KQ.mono {Q : VQ} {R : V → Hp → Prop} (h : KQ K F Z Q R) (e : Same F F1) : KQ K F1 Z Q R := fun v H' F' S' d sm => h v H' F' S' d (e.trans sm)
theorem KB.mono {Q : Bool → Sto → Prop} {R : Bool → Hp → Prop} (h : KB K F Z Q R) (e : Same F F1) : KB K F1 Z Q R := fun v H' F' S' sm => h v H' F' S' (e.trans sm)
theorem KA.mono {Q : List D → Sto → Prop} {R : List V → Hp → Prop} (h : KA K F Z Q R) (e : Same F F1) : KA K F1 Z Q R := fun v H' F' S' d sm => h v H' F' S' d (e.trans sm)
end
def SndE (K : PySem.W.Frag) (W : WX) (t : WE) (u : TE) : Prop := ∀ σ H F Z env S Q Ex R, Ok K F Z S H → Envs K F σ env → Thr K F Z W σ Ex → KQ K F Z Q R → t env S Q Ex → u σ H R
def SndT (K : PySem.W.Frag) (W : WX) (t : WT) (u : TT) : Prop := ∀ σ H F Z env S Q Ex R, Ok K F Z S H → Envs K F σ env → Thr K F Z W σ Ex → KB K F Z Q R → t env S Q Ex → u σ H R
def SndA (K : PySem.W.Frag) (W : WX) (t : WA) (u : TA) : Prop := ∀ σ H F Z env S Q Ex R, Ok K F Z S H → Envs K F σ env → Thr K F Z W σ Ex → KA K F Z Q R → t env S Q Ex → u σ H R
/-- what is common to the contexts of a proof; the rest of a context -/
structure Cmn where
  P : Program
  w : World
  K : PySem.W.Frag
  mg : Str → Option Value
  base : Heap
structure Rst where
  A : Around
  N : List Str
  s_0 : Shared
  H_0 : Hp
  env : PySem.Env
  outer : List PySem.Env
  stack : List PySem.Env
  ex : List Addr
  fn : Str → Bool
  calm : Bool
  pn : List (Addr × Obj)
  xe : Value → Shared → Prop
abbrev Cmn.at (C : Cmn) (r : Rst) : Cx where
  prog := C.P
  w := C.w
  K := C.K
  mg := C.mg
  base := C.base
  A := r.A
  N := r.N
  s_0 := r.s_0
  H_0 := r.H_0
  env := r.env
  outer := r.outer
  stack := r.stack
  ex := r.ex
  fn := r.fn
  calm := r.calm
  pn := r.pn
  xe := r.xe
section
variable {ι : Type}
/-- e is read by t in all contexts R -/
def VE (C : Cmn) (R : ι → Rst) (e : Expr) (t : WE) : Prop := ∀ W, ∃ u, (∀ i, Takes (C.at (R i)) W → PE (C.at (R i)) e u) ∧ SndE C.K W t u
def VT (C : Cmn) (R : ι → Rst) (e : Expr) (t : WT) : Prop := ∀ W, ∃ u, (∀ i, Takes (C.at (R i)) W → PT (C.at (R i)) e u) ∧ SndT C.K W t u
def VW (C : Cmn) (R : ι → Rst) (e : Expr) (t : WT) : Prop := ∀ W, ∃ u, (∀ i, Takes (C.at (R i)) W → PW (C.at (R i)) e u) ∧ SndT C.K W t u
def VA (C : Cmn) (R : ι → Rst) (es : List Expr) (t : WA) : Prop := ∀ W, ∃ u, (∀ i, Takes (C.at (R i)) W → PA (C.at (R i)) es u) ∧ SndA C.K W t u
end

/-! ### statements -/
structure VEnds where
  nx : Env → Sto → Prop
  rt : VQ
  bk : Env → Sto → Prop
  ct : Env → Sto → Prop
  ex : Env → EX
abbrev WS := VEnds → Env → Sto → Prop
def KN (K : PySem.W.Frag) (F Z : Hp) (P : Env → Sto → Prop) (R : L2.St → Hp → Prop) : Prop := ∀ F' σ H env S, Same F F' → Ok K F' Z S H → Envs K F' σ env → P env S → R σ H
theorem KN.mono {K : PySem.W.Frag} {F F1 Z : Hp} {P : Env → Sto → Prop} {R : L2.St → Hp → Prop} (h : KN K F Z P R) (e : Same F F1) : KN K F1 Z P R := fun F' σ H env S sm => h F' σ H env S (e.trans sm)
/-- what the layer wants behind a statement goes to what L2 wants -/
structure Lk (K : PySem.W.Frag) (F Z : Hp) (W : WX) (E : VEnds) (R : Ends) : Prop where
  nx : KN K F Z E.nx R.nx
  rt : KQ K F Z E.rt R.rt
  bk : KN K F Z E.bk R.bk
  ct : KN K F Z E.ct R.ct
  ex : ∀ F' σ env, Same F F' → Envs K F' σ env → Thr K F' Z W σ (E.ex env)
theorem Lk.mono {K : PySem.W.Frag} {F F1 Z : Hp} {W : WX} {E : VEnds} {R : Ends} (h : Lk K F Z W E R) (e : Same F F1) : Lk K F1 Z W E R :=
  ⟨h.nx.mono e, h.rt.mono e, h.bk.mono e, h.ct.mono e, fun F' σ env sm => h.ex F' σ env (e.trans sm)⟩
def SndS (K : PySem.W.Frag) (W : WX) (t : WS) (u : TS) : Prop := ∀ σ H F Z env S E R, Ok K F Z S H → Envs K F σ env → Lk K F Z W E R → t E env S → u R σ H
section
variable {ι : Type}
/-- what a statement's rule may ask of a context -/
structure Tk (C : Cmn) (r : Rst) (W : WX) : Prop where
  tk : Takes (C.at r) W
  ps : PassesOwn (model C.P C.w) r.A r.env r.xe
def VS (C : Cmn) (R : ι → Rst) (st : Stmt) (t : WS) : Prop := ∀ W, ∃ u, (∀ i, Tk C (R i) W → PS (C.at (R i)) st u) ∧ SndS C.K W t u
def VSs (C : Cmn) (R : ι → Rst) (st : List Stmt) (t : WS) : Prop := ∀ W, ∃ u, (∀ i, Tk C (R i) W → PSs (C.at (R i)) st u) ∧ SndS C.K W t u
end
end L3

set_option Elab.async false
set_option linter.all false
set_option maxRecDepth 100000
set_option maxHeartbeats 4000000
/-! The value layer: expressions. -/
namespace L3
open PySem PySem.Spec PyProof.Rows L2

section
variable {C : Cmn} {ι : Type} {R : ι → Rst} {K : PySem.W.Frag}
/-- a rule of L2 that stands in every context -/
theorem VE.of {e : Expr} {t : WE} {u : TE} (h : ∀ i, PE (C.at (R i)) e u) (s : ∀ W, SndE C.K W t u) : VE C R e t := fun W => ⟨u, fun i _ => h i, s W⟩

/-! ### names, constants -/
def vVar (i : Nat) : WE := fun env S Q _ => match nth env i with
  | some d => Q d S
  | none => False
@[simp ↓] theorem vVar_eq (i : Nat) (env) (S) (Q) (z0) : vVar i env S Q z0 = (match nth env i with
  | some d => Q d S
  | none => False) := id rfl
def vC (d : D) : WE := fun _ S Q _ => Q d S
@[simp ↓] theorem vC_eq (d : D) (z0) (S) (Q) (z1) : vC d z0 S Q z1 = (Q d S) := id rfl
theorem ve_var {i : Nat} {x : Str} {pos : Pos} (hN : ∀ j, (R j).N[i]? = some x := by exact fun _ => rfl) (hv : ∀ j, Vis (R j).env.scope x := by first | exact fun _ => .inl rfl | exact fun _ => .inr (.inl rfl) | exact fun _ => .inr (.inr rfl)) (hd : (x == ("__debug__" : Str)) = false := by decide) (hcd : (x == ("__classdict__" : Str)) = false := by decide) :
    VE C R (.Name x pos) (vVar i) := by
  refine .of (fun j => pe_var (X := C.at (R j)) (hN j) (hv j) hd hcd) fun W σ H F Z env S Q Ex R ok en th k h => ?_
  unfold vVar at h
  cases e : nth env i with
  | none => rw [e] at h; exact h.elim
  | some d =>
    rw [e] at h
    obtain ⟨v, h1, h2⟩ := en.get e
    exact ⟨v, h1, k v H F S d (Same.refl F) ok h2 h⟩
theorem snd_c {W : WX} {d : D} {v : V} (r : ∀ F, Rep K F d v) : SndE K W (vC d) (tC v) := fun σ H F Z env S Q Ex R ok en th k h => k v H F S d (Same.refl F) ok (r F) h
theorem ve_int {i : Int} {j pos} : VE C R (.Constant (.int i) j pos) (vC (.int i)) := .of (fun i => pe_int) fun W => snd_c fun _ => rfl
theorem ve_bl {i : Bool} {j pos} : VE C R (.Constant (.bool i) j pos) (vC (.bl i)) := .of (fun i => pe_bl) fun W => snd_c fun _ => rfl
theorem ve_non {j pos} : VE C R (.Constant .none j pos) (vC .non) := .of (fun i => pe_non) fun W => snd_c fun _ => rfl
theorem ve_str {x j pos} : VE C R (.Constant (.str x) j pos) (vC (.str x)) := .of (fun i => pe_str) fun W => snd_c fun _ => rfl
/-- a module's name that stands for something written -/
theorem ve_glob {x : Str} {d : D} {v : V} {u : Value} {pos : Pos} (hm : C.mg x = some u) (r : RelV v u) (rd : ∀ F, Rep C.K F d v) (hg : ∀ i, Gl (C.at (R i)) x := by exact fun _ => rfl) (hd : (x == ("__debug__" : Str)) = false := by decide) : VE C R (.Name x pos) (vC d) :=
  .of (fun i => pe_glob (X := C.at (R i)) (hg i) hm r hd) fun W => snd_c rd

/-! ### operators -/
/-- what simp shall keep off -/
inductive Hold {α : Type} (a : α) : Type
  | mk : Hold a
/-- an item, if there is one -/
def AtC {α : Type} (o : Option α) (Q : α → Prop) (_ : Hold Q) : Prop := match o with
  | some d => Q d
  | none => False
@[simp] theorem atC_some {α : Type} {d : α} {Q : α → Prop} {h : Hold Q} : AtC (some d) Q h = Q d := rfl
/-- an answer that P allows -/
def ExC (P : Bool → Prop) (Q : Bool → Prop) (_ : Hold Q) : Prop := ∃ b, P b ∧ Q b
abbrev R2V := D → D → Sto → VQ → Prop
def vOp (r : R2V) (ta tb : WE) : WE := fun env S Q E => ta env S (fun x S1 => tb env S1 (fun y S2 => r x y S2 Q) E) E
@[simp ↓] theorem vOp_eq (r : R2V) (ta tb : WE) (env) (S) (Q) (E) : vOp r ta tb env S Q E = (ta env S (fun x S1 => tb env S1 (fun y S2 => r x y S2 Q) E) E) := id rfl
def SndR (K : PySem.W.Frag) (r : R2V) (u : R2) : Prop := ∀ F Z S H x y d e Q R, Ok K F Z S H → Rep K F d x → Rep K F e y → KQ K F Z Q R → r d e S Q → u x y H R
def OpV (C : Cmn) (R : ι → Rst) (f : Value → Value → Sem Value) (r : R2V) : Prop := ∃ u, (∀ i, OpR (C.at (R i)) f u) ∧ SndR C.K r u
theorem snd_op {W : WX} {r : R2V} {u : R2} {ta tb : WE} {ua ub : TE} (hr : SndR K r u) (sa : SndE K W ta ua) (sb : SndE K W tb ub) : SndE K W (vOp r ta tb) (tOp u ua ub) := fun σ H F Z env S Q Ex R ok en th k h =>
  sa σ H F Z env S _ Ex _ ok en th (fun x H1 F1 S1 d sm1 ok1 r1 h1 => sb σ H1 F1 Z env S1 _ Ex _ ok1 (en.mono sm1) (th.mono sm1)
    (fun y H2 F2 S2 e sm2 ok2 r2 h2 => hr F2 Z S2 H2 x y d e _ _ ok2 (Rep.mono sm2 _ _ r1) r2 (k.mono (sm1.trans sm2)) h2) h1) h
theorem ve_op {op : Operator} {r : R2V} {a b : Expr} {ta tb : WE} {pos : Pos} (ho : OpV C R (binaryOp op) r) (ha : VE C R a ta) (hb : VE C R b tb) : VE C R (.BinOp a op b pos) (vOp r ta tb) := fun W => by
  obtain ⟨ua, pa, sa⟩ := ha W
  obtain ⟨ub, pb, sb⟩ := hb W
  obtain ⟨u, hu, su⟩ := ho
  exact ⟨_, fun i tk => pe_op (hu i) (pa i tk) (pb i tk), snd_op su sa sb⟩
/-- two rules for one operator -/
theorem OpV.of {f : Value → Value → Sem Value} {r : R2V} (u : R2) (h : ∀ i, OpR (C.at (R i)) f u) (s : SndR C.K r u) : OpV C R f r := ⟨u, h, s⟩

def rAdd : R2V := fun x y S Q => match x, y with
  | .int i, .int j => Q (.int (i + j)) S
  | .str a, .str b => a.length + b.length ≤ sizeLine ∧ Q (.str (a ++ b)) S
  | .tup xs, .tup ys => xs.length + ys.length ≤ sizeLine ∧ Q (.tup (xs ++ ys)) S
  | .lst xs, .lst ys => xs.length + ys.length ≤ sizeLine ∧ Q (.lst (xs ++ ys)) S
  | _, _ => False
@[simp ↓] theorem rAdd_eq (x) (y) (S) (Q) : rAdd x y S Q = (match x, y with
  | .int i, .int j => Q (.int (i + j)) S
  | .str a, .str b => a.length + b.length ≤ sizeLine ∧ Q (.str (a ++ b)) S
  | .tup xs, .tup ys => xs.length + ys.length ≤ sizeLine ∧ Q (.tup (xs ++ ys)) S
  | .lst xs, .lst ys => xs.length + ys.length ≤ sizeLine ∧ Q (.lst (xs ++ ys)) S
  | _, _ => False) := id rfl
theorem KQ.tup {F Z : Hp} {S : Sto} {H : Hp} {Q : VQ} {R : V → Hp → Prop} {xs : List D} {vs : List V} {p : Addr} (k : KQ K F Z Q R) (ok : Ok K F Z S H) (hp : H p = none) (r : Reps K F xs vs) (h : Q (.tup xs) S) : R (.ref p) (upd H p (.tup vs)) :=
  k _ _ _ _ (.tup xs) (same_upd (ok.newF hp) _) (ok.frz hp _) ⟨p, vs, rfl, .inl upd_same, Reps.mono (same_upd (ok.newF hp) _) _ _ r⟩ h
theorem KQ.lst {F Z : Hp} {S : Sto} {H : Hp} {Q : VQ} {R : V → Hp → Prop} {xs : List D} {vs : List V} {p : Addr} (k : KQ K F Z Q R) (ok : Ok K F Z S H) (hp : H p = none) (r : Reps K F xs vs) (h : Q (.lst xs) S) : R (.ref p) (upd H p (.lst vs)) :=
  k _ _ _ _ (.lst xs) (same_upd (ok.newF hp) _) (ok.frz hp _) ⟨p, vs, rfl, upd_same, Reps.mono (same_upd (ok.newF hp) _) _ _ r⟩ h
theorem KQ.own {F Z : Hp} {S : Sto} {H : Hp} {Q : VQ} {R : V → Hp → Prop} {xs : List D} {vs : List V} {p : Addr} (k : KQ K F Z Q R) (ok : Ok K F Z S H) (hp : H p = none) (r : Reps K F xs vs) (h : Q (.ref p) (sup S p (.lst xs))) : R (.ref p) (upd H p (.lst vs)) :=
  k _ _ _ _ (.ref p) (Same.refl F) (ok.new (so := .lst xs) hp ⟨vs, rfl, r⟩) rfl h
theorem reps_nil {F : Hp} {ds : List D} {vs : List V} (h : Reps K F ds vs) : ds = [] ↔ vs = [] := by
  have := h.length
  constructor
  · intro e; subst e; simpa using this.symm
  · intro e; subst e; simpa using this
theorem ov_add : OpV C R (binaryOp .Add) rAdd := by
  refine .of (fun x y H Q => (rI0 fun i j => .int (i + j)) x y H Q ∨ (∃ i j, x = .str i ∧ y = .str j ∧ i.length + j.length ≤ sizeLine ∧ Q (.str (i ++ j)) H) ∨ rCatA C.K x y H Q ∨ rCat x y H Q) (fun i => (op_add.or (op_add_str.or (OpR.or (X := C.at (R i)) op_catA op_cat)))) fun F Z S H x y d e Q R ok rx ry k h => ?_
  unfold rAdd at h
  split at h
  · exact .inl ⟨_, _, rx, ry, k _ _ _ _ (.int _) (Same.refl F) ok rfl h⟩
  · exact .inr (.inl ⟨_, _, rx, ry, h.1, k _ _ _ _ (.str _) (Same.refl F) ok rfl h.2⟩)
  · obtain ⟨a, vs, rfl, h1, h2⟩ := rx
    obtain ⟨b, ws, rfl, h3, h4⟩ := ry
    refine .inr (.inr (.inl ⟨a, b, vs, ws, rfl, rfl, same_sqt ok.fro h1.sq, same_sqt ok.fro h3.sq, by rw [← h2.length, ← h4.length]; exact h.1, fun e => ?_, fun _ e => ?_, fun _ _ p hp => k.tup ok hp (h2.append h4) h.2⟩))
    · have e1 := (reps_nil h2).mpr e
      subst e1
      exact k _ _ _ _ (.tup _) (Same.refl F) ok ⟨b, ws, rfl, h3, h4⟩ h.2
    · have e1 := (reps_nil h4).mpr e
      subst e1
      refine k _ _ _ _ (.tup _) (Same.refl F) ok ⟨a, vs, rfl, h1, ?_⟩ h.2
      rw [List.append_nil]; exact h2
  · obtain ⟨a, vs, rfl, h1, h2⟩ := rx
    obtain ⟨b, ws, rfl, h3, h4⟩ := ry
    exact .inr (.inr (.inr ⟨a, b, vs, ws, rfl, rfl, ok.fro _ _ h1, ok.fro _ _ h3, by rw [← h2.length, ← h4.length]; exact h.1, fun p hp => k.lst ok hp (h2.append h4) h.2⟩))
  · exact h.elim
def rI2 (C : Int → Int → Prop) (g : Int → Int → D) : R2V := fun x y S Q => match x, y with
  | .int i, .int j => C i j ∧ Q (g i j) S
  | _, _ => False
@[simp ↓] theorem rI2_eq (C : Int → Int → Prop) (g : Int → Int → D) (x) (y) (S) (Q) : rI2 C g x y S Q = (match x, y with
  | .int i, .int j => C i j ∧ Q (g i j) S
  | _, _ => False) := id rfl
def rI20 (g : Int → Int → D) : R2V := fun x y S Q => match x, y with
  | .int i, .int j => Q (g i j) S
  | _, _ => False
@[simp ↓] theorem rI20_eq (g : Int → Int → D) (x) (y) (S) (Q) : rI20 g x y S Q = (match x, y with
  | .int i, .int j => Q (g i j) S
  | _, _ => False) := id rfl
theorem snd_i2 {C : Int → Int → Prop} {g : Int → Int → D} {gv : Int → Int → V} (hg : ∀ F i j, Rep K F (g i j) (gv i j)) : SndR K (rI2 C g) (rI C gv) := fun F Z S H x y d e Q R ok rx ry k h => by
  unfold rI2 at h
  split at h
  · exact ⟨_, _, rx, ry, h.1, k _ _ _ _ _ (Same.refl F) ok (hg _ _ _) h.2⟩
  · exact h.elim
theorem snd_i20 {g : Int → Int → D} {gv : Int → Int → V} (hg : ∀ F i j, Rep K F (g i j) (gv i j)) : SndR K (rI20 g) (rI0 gv) := fun F Z S H x y d e Q R ok rx ry k h => by
  unfold rI20 at h
  split at h
  · exact ⟨_, _, rx, ry, k _ _ _ _ _ (Same.refl F) ok (hg _ _ _) h⟩
  · exact h.elim
abbrev rSub : R2V := rI20 fun i j => .int (i - j)
abbrev rFdiv : R2V := rI2 CDiv fun i j => .int (i / j)
abbrev rMod : R2V := rI2 (fun _ j => 0 < j) fun i j => .int (i % j)
abbrev rPow : R2V := rI2 CPow fun i j => .int (i ^ j.toNat)
theorem ov_sub : OpV C R (binaryOp .Sub) rSub := .of _ (fun i => op_sub) (snd_i20 fun _ _ _ => rfl)
theorem ov_fdiv : OpV C R (binaryOp .FloorDiv) rFdiv := .of _ (fun i => op_fdiv) (snd_i2 fun _ _ _ => rfl)
theorem ov_mod : OpV C R (binaryOp .Mod) rMod := .of _ (fun i => op_mod) (snd_i2 fun _ _ _ => rfl)
theorem ov_pow : OpV C R (binaryOp .Pow) rPow := .of _ (fun i => op_pow) (snd_i2 fun _ _ _ => rfl)
/-- comparisons of ints -/
abbrev rLt : R2V := rI20 fun i j => .bl (decide (i < j))
abbrev rLe : R2V := rI20 fun i j => .bl (decide (i ≤ j))
abbrev rGt : R2V := rI20 fun i j => .bl (decide (j < i))
abbrev rGe : R2V := rI20 fun i j => .bl (decide (j ≤ i))
theorem ov_lt : OpV C R (compareOp .Lt) rLt := .of _ (fun i => op_lt) (snd_i20 fun _ _ _ => rfl)
theorem ov_le : OpV C R (compareOp .LtE) rLe := .of _ (fun i => op_le) (snd_i20 fun _ _ _ => rfl)
theorem ov_gt : OpV C R (compareOp .Gt) rGt := .of _ (fun i => op_gt) (snd_i20 fun _ _ _ => rfl)
theorem ov_ge : OpV C R (compareOp .GtE) rGe := .of _ (fun i => op_ge) (snd_i20 fun _ _ _ => rfl)

/-! ### == -/
mutual
def toPy : D → Option PyData
  | .non => some .none
  | .bl b => some (.bool b)
  | .int i => some (.int i)
  | .str x => some (.str x)
  | .tup xs => (toPys xs).map .tuple
  | .lst xs => (toPys xs).map .list
  | .fix xs => (toPys xs).map .list
  | .ref _ => none
  | .ty _ => none
  | .exc _ _ _ _ => none
  | .ins _ _ _ => none
def toPys : List D → Option (List PyData)
  | [] => some []
  | d :: ds => match toPy d, toPys ds with
    | some x, some xs => some (x :: xs)
    | _, _ => none
end
mutual
theorem rep_dp {F H : Hp} (sm : Same F H) : ∀ (d : D) (v : V) (x : PyData), Rep K F d v → toPy d = some x → Dp K H v x
  | .non, v, x, h, e => by
    rw [toPy] at e; cases e
    rw [show v = .non from h]; exact .non
  | .bl b, v, x, h, e => by
    rw [toPy] at e; cases e
    rw [show v = .bl b from h]; exact .bl b
  | .int b, v, x, h, e => by
    rw [toPy] at e; cases e
    rw [show v = .int b from h]; exact .int b
  | .str b, v, x, h, e => by
    rw [toPy] at e; cases e
    rw [show v = .str b from h]; exact .str b
  | .tup xs, v, x, h, e => by
    rw [toPy] at e
    obtain ⟨a, vs, rfl, h1, h2⟩ := h
    cases q : toPys xs with
    | none => rw [q] at e; cases e
    | some ys =>
      rw [q] at e; cases e
      exact .tup (same_sqt sm h1.sq) (reps_dp sm xs vs ys h2 q)
  | .lst xs, v, x, h, e => by
    rw [toPy] at e
    obtain ⟨a, vs, rfl, h1, h2⟩ := h
    cases q : toPys xs with
    | none => rw [q] at e; cases e
    | some ys =>
      rw [q] at e; cases e
      exact .lst (SqL.of (sm _ _ h1)) (reps_dp sm xs vs ys h2 q)
  | .fix xs, v, x, h, e => by
    rw [toPy] at e
    obtain ⟨a, vs, rfl, h1, h2⟩ := h
    cases q : toPys xs with
    | none => rw [q] at e; cases e
    | some ys =>
      rw [q] at e; cases e
      exact .lst (sm.seq h1) (reps_dp sm xs vs ys h2 q)
  | .ref _, v, x, h, e => by rw [toPy] at e; cases e
  | .ty _, v, x, h, e => by rw [toPy] at e; cases e
  | .exc _ _ _ _, v, x, h, e => by rw [toPy] at e; cases e
  | .ins _ _ _, v, x, h, e => by rw [toPy] at e; cases e
theorem reps_dp {F H : Hp} (sm : Same F H) : ∀ (ds : List D) (vs : List V) (xs : List PyData), Reps K F ds vs → toPys ds = some xs → DpAll K H vs xs
  | [], vs, xs, h, e => by
    rw [toPys] at e; cases e
    rw [show vs = [] from h]; exact .nil
  | d :: ds, vs, xs, h, e => by
    rw [toPys] at e
    obtain ⟨v, r, rfl, h2, h3⟩ := h
    cases q1 : toPy d with
    | none => rw [q1] at e; cases e
    | some y =>
      cases q2 : toPys ds with
      | none => rw [q1, q2] at e; cases e
      | some ys =>
        rw [q1, q2] at e; cases e
        exact .cons (rep_dp sm d v y h2 q1) (reps_dp sm ds r ys h3 q2)
end
def rEqG (K : PySem.W.Frag) (ne : Bool) : R2 := fun x y H Q => ∃ d e, Dp K H x d ∧ Dp K H y e ∧ d.canLay0 = true ∧ e.canLay0 = true ∧ min d.depth e.depth ≤ 200 ∧ Q (.bl (if ne then !PyData.eqv d e else PyData.eqv d e)) H
theorem op_eqG {X : Cx} (hu : X.A.units + 200 < cLine) : OpR X (compareOp .Eq) (rEqG X.K false) := by
  intro pins s σ H x y v u Q I rx ry h
  obtain ⟨d, e, hd, he, sd, se, hm, q⟩ := h
  obtain ⟨as, r1⟩ := Dp.reads I d x v hd rx
  obtain ⟨bs, r2⟩ := Dp.reads I e y u he ry
  exact SeqAt.compareEq_reads r1 r2 sd se (by omega) ⟨.bl _, H, I, rfl, q⟩
theorem op_neG {X : Cx} (hu : X.A.units + 200 < cLine) : OpR X (compareOp .NotEq) (rEqG X.K true) := by
  intro pins s σ H x y v u Q I rx ry h
  obtain ⟨d, e, hd, he, sd, se, hm, q⟩ := h
  obtain ⟨as, r1⟩ := Dp.reads I d x v hd rx
  obtain ⟨bs, r2⟩ := Dp.reads I e y u he ry
  exact SeqAt.compareNe_reads r1 r2 sd se (by omega) ⟨.bl _, H, I, rfl, q⟩
/-- deep == -/
def Deep (x y : D) (b : Bool) : Prop := ∃ d e, toPy x = some d ∧ toPy y = some e ∧ d.canLay0 = true ∧ e.canLay0 = true ∧ min d.depth e.depth ≤ 200 ∧ PyData.eqv d e = b
def rEq : R2V := fun x y S Q => match x, y with
  | .int i, .int j => Q (.bl (decide (i = j))) S
  | .str i, .str j => Q (.bl (decide (i = j))) S
  | .bl i, .bl j => Q (.bl (decide (i = j))) S
  | x, y => ExC (Deep x y) (fun b => Q (.bl b) S) .mk
@[simp ↓] theorem rEq_eq (x) (y) (S) (Q) : rEq x y S Q = (match x, y with
  | .int i, .int j => Q (.bl (decide (i = j))) S
  | .str i, .str j => Q (.bl (decide (i = j))) S
  | .bl i, .bl j => Q (.bl (decide (i = j))) S
  | x, y => ExC (Deep x y) (fun b => Q (.bl b) S) .mk) := id rfl
def rNe : R2V := fun x y S Q => match x, y with
  | .int i, .int j => Q (.bl (!decide (i = j))) S
  | .str i, .str j => Q (.bl (!decide (i = j))) S
  | .bl i, .bl j => Q (.bl (!decide (i = j))) S
  | x, y => ExC (Deep x y) (fun b => Q (.bl (!b)) S) .mk
@[simp ↓] theorem rNe_eq (x) (y) (S) (Q) : rNe x y S Q = (match x, y with
  | .int i, .int j => Q (.bl (!decide (i = j))) S
  | .str i, .str j => Q (.bl (!decide (i = j))) S
  | .bl i, .bl j => Q (.bl (!decide (i = j))) S
  | x, y => ExC (Deep x y) (fun b => Q (.bl (!b)) S) .mk) := id rfl
theorem ov_eq (hu : ∀ i, (R i).A.units + 200 < cLine) : OpV C R (compareOp .Eq) rEq := by
  refine .of (fun x y H Q => L2.rEq x y H Q ∨ rEqG C.K false x y H Q) (fun i => (op_eq.or (op_eqG (X := C.at (R i)) (hu i)))) fun F Z S H x y d e Q R ok rx ry k h => ?_
  unfold rEq at h
  split at h
  · cases (show x = _ from rx); cases (show y = _ from ry)
    exact .inl ⟨rfl, k _ _ _ _ _ (Same.refl F) ok (by simp [Rep]) h⟩
  · cases (show x = _ from rx); cases (show y = _ from ry)
    exact .inl ⟨rfl, k _ _ _ _ _ (Same.refl F) ok (by simp [Rep]) h⟩
  · cases (show x = _ from rx); cases (show y = _ from ry)
    exact .inl ⟨rfl, k _ _ _ _ _ (Same.refl F) ok (by simp [Rep]) h⟩
  · obtain ⟨b, ⟨dx, dy, h1, h2, h3, h4, h5, rfl⟩, q⟩ := h
    exact .inr ⟨dx, dy, rep_dp ok.fro _ _ _ rx h1, rep_dp ok.fro _ _ _ ry h2, h3, h4, h5, k _ _ _ _ (.bl _) (Same.refl F) ok rfl q⟩
theorem ov_ne (hu : ∀ i, (R i).A.units + 200 < cLine) : OpV C R (compareOp .NotEq) rNe := by
  refine .of (fun x y H Q => L2.rNe x y H Q ∨ rEqG C.K true x y H Q) (fun i => (op_ne.or (op_neG (X := C.at (R i)) (hu i)))) fun F Z S H x y d e Q R ok rx ry k h => ?_
  unfold rNe at h
  split at h
  · cases (show x = _ from rx); cases (show y = _ from ry)
    exact .inl ⟨rfl, k _ _ _ _ _ (Same.refl F) ok (by simp [Rep]) h⟩
  · cases (show x = _ from rx); cases (show y = _ from ry)
    exact .inl ⟨rfl, k _ _ _ _ _ (Same.refl F) ok (by simp [Rep]) h⟩
  · cases (show x = _ from rx); cases (show y = _ from ry)
    exact .inl ⟨rfl, k _ _ _ _ _ (Same.refl F) ok (by simp [Rep]) h⟩
  · obtain ⟨b, ⟨dx, dy, h1, h2, h3, h4, h5, rfl⟩, q⟩ := h
    exact .inr ⟨dx, dy, rep_dp ok.fro _ _ _ rx h1, rep_dp ok.fro _ _ _ ry h2, h3, h4, h5, k _ _ _ _ (.bl _) (Same.refl F) ok rfl q⟩
end
end L3

set_option Elab.async false
set_option linter.all false
set_option maxRecDepth 100000
set_option maxHeartbeats 4000000
/-! The value layer: tests, displays, subscripts, calls. -/
namespace L3
open PySem PySem.Spec PyProof.Rows L2

section
variable {C : Cmn} {ι : Type} {R : ι → Rst} {K : PySem.W.Frag} {W : WX}
/-! ### tests -/
def vTst (t : WE) : WT := fun env S Q E => t env S (fun d S1 => match d with
  | .bl b => Q b S1
  | _ => False) E
@[simp ↓] theorem vTst_eq (t : WE) (env) (S) (Q) (E) : vTst t env S Q E = (t env S (fun d S1 => match d with
  | .bl b => Q b S1
  | _ => False) E) := id rfl
def vNot (t : WT) : WT := fun env S Q E => t env S (fun b S1 => Q (!b) S1) E
@[simp ↓] theorem vNot_eq (t : WT) (env) (S) (Q) (E) : vNot t env S Q E = (t env S (fun b S1 => Q (!b) S1) E) := id rfl
def vAnd (t u : WT) : WT := fun env S Q E => t env S (fun c S1 => if c = true then u env S1 Q E else Q false S1) E
@[simp ↓] theorem vAnd_eq (t u : WT) (env) (S) (Q) (E) : vAnd t u env S Q E = (t env S (fun c S1 => if c = true then u env S1 Q E else Q false S1) E) := id rfl
def vOr (t u : WT) : WT := fun env S Q E => t env S (fun c S1 => if c = true then Q true S1 else u env S1 Q E) E
@[simp ↓] theorem vOr_eq (t u : WT) (env) (S) (Q) (E) : vOr t u env S Q E = (t env S (fun c S1 => if c = true then Q true S1 else u env S1 Q E) E) := id rfl
theorem snd_tst {t : WE} {u : TE} (s : SndE K W t u) : SndT K W (vTst t) (fun σ H Q => u σ H fun x H' => ∃ k, x = .bl k ∧ Q k H') := fun σ H F Z env S Q Ex R ok en th k h =>
  s σ H F Z env S _ Ex _ ok en th (fun v H' F' S' d sm ok' r q => by
    cases d with
    | bl b => exact ⟨b, r, k b H' F' S' sm ok' q⟩
    | _ => exact q.elim) h
theorem vt_cmp {op : CmpOp} {r : R2V} {a b : Expr} {ta tb : WE} {pos : Pos} (ho : OpV C R (compareOp op) r) (ha : VE C R a ta) (hb : VE C R b tb) (hm : behindInMarks op b = false := by first | exact nomark _ | rfl) : VT C R (.Compare a [op] [b] pos) (vTst (vOp r ta tb)) := fun W => by
  obtain ⟨ua, pa, sa⟩ := ha W
  obtain ⟨ub, pb, sb⟩ := hb W
  obtain ⟨u, hu, su⟩ := ho
  exact ⟨_, fun i tk => pt_cmpR (hu i) (pa i tk) (pb i tk) hm, snd_tst (snd_op su sa sb)⟩
theorem ve_cmp {op : CmpOp} {r : R2V} {a b : Expr} {ta tb : WE} {pos : Pos} (ho : OpV C R (compareOp op) r) (ha : VE C R a ta) (hb : VE C R b tb) (hm : behindInMarks op b = false := by first | exact nomark _ | rfl) : VE C R (.Compare a [op] [b] pos) (vOp r ta tb) := fun W => by
  obtain ⟨ua, pa, sa⟩ := ha W
  obtain ⟨ub, pb, sb⟩ := hb W
  obtain ⟨u, hu, su⟩ := ho
  exact ⟨_, fun i tk => pe_cmpR (hu i) (pa i tk) (pb i tk) hm, snd_op su sa sb⟩
theorem vt_val {e : Expr} {t : WE} (h : VE C R e t) (he : ∀ i whole, isTrue e (R i).env whole = (do let v ← whole; standAt e.pos; holding [v] (truthy v)) := by exact fun _ _ => rfl) : VT C R e (vTst t) := fun W => by
  obtain ⟨u, p, s⟩ := h W
  exact ⟨_, fun i tk => pt_val (X := C.at (R i)) (p i tk) (he i), snd_tst s⟩
theorem vt_not {e : Expr} {t : WT} {pos : Pos} (h : VT C R e t) : VT C R (.UnaryOp .Not e pos) (vNot t) := fun W => by
  obtain ⟨u, p, s⟩ := h W
  exact ⟨_, fun i tk => pt_not (p i tk), fun σ H F Z env S Q Ex R ok en th k q => s σ H F Z env S _ Ex _ ok en th (fun b H' F' S' sm ok' q' => k (!b) H' F' S' sm ok' q') q⟩
theorem vw_pt {e : Expr} {t : WT} (h : VW C R e t) : VT C R e t := fun W => by
  obtain ⟨u, p, s⟩ := h W
  exact ⟨u, fun i tk => (p i tk).pt, s⟩
theorem vw_and1 {a : Expr} {t : WT} {pos : Pos} (h : VT C R a t) : VW C R (.BoolOp .And [a] pos) t := fun W => by
  obtain ⟨u, p, s⟩ := h W
  exact ⟨u, fun i tk => pw_and1 (p i tk), s⟩
theorem vw_or1 {a : Expr} {t : WT} {pos : Pos} (h : VT C R a t) : VW C R (.BoolOp .Or [a] pos) t := fun W => by
  obtain ⟨u, p, s⟩ := h W
  exact ⟨u, fun i tk => pw_or1 (p i tk), s⟩
theorem vw_and {a b : Expr} {rest : List Expr} {t t' : WT} {pos : Pos} (h : VT C R a t) (h' : VW C R (.BoolOp .And (b :: rest) pos) t') : VW C R (.BoolOp .And (a :: b :: rest) pos) (vAnd t t') := fun W => by
  obtain ⟨u, p, s⟩ := h W
  obtain ⟨u', p', s'⟩ := h' W
  refine ⟨_, fun i tk => pw_and (p i tk) (p' i tk), fun σ H F Z env S Q Ex R ok en th k q => s σ H F Z env S _ Ex _ ok en th (fun b H' F' S' sm ok' q' => ?_) q⟩
  cases b with
  | true => exact s' σ H' F' Z env S' Q Ex R ok' (en.mono sm) (th.mono sm) (k.mono sm) q'
  | false => exact k false H' F' S' sm ok' q'
theorem vw_or {a b : Expr} {rest : List Expr} {t t' : WT} {pos : Pos} (h : VT C R a t) (h' : VW C R (.BoolOp .Or (b :: rest) pos) t') : VW C R (.BoolOp .Or (a :: b :: rest) pos) (vOr t t') := fun W => by
  obtain ⟨u, p, s⟩ := h W
  obtain ⟨u', p', s'⟩ := h' W
  refine ⟨_, fun i tk => pw_or (p i tk) (p' i tk), fun σ H F Z env S Q Ex R ok en th k q => s σ H F Z env S _ Ex _ ok en th (fun b H' F' S' sm ok' q' => ?_) q⟩
  cases b with
  | true => exact k true H' F' S' sm ok' q'
  | false => exact s' σ H' F' Z env S' Q Ex R ok' (en.mono sm) (th.mono sm) (k.mono sm) q'
/-- and, or, not as values -/
def vAndV (t u : WE) : WE := fun env S Q E => t env S (fun d S1 => match d with
  | .bl c => if c = true then u env S1 Q E else Q (.bl false) S1
  | _ => False) E
@[simp ↓] theorem vAndV_eq (t u : WE) (env) (S) (Q) (E) : vAndV t u env S Q E = (t env S (fun d S1 => match d with
  | .bl c => if c = true then u env S1 Q E else Q (.bl false) S1
  | _ => False) E) := id rfl
def vOrV (t u : WE) : WE := fun env S Q E => t env S (fun d S1 => match d with
  | .bl c => if c = true then Q (.bl true) S1 else u env S1 Q E
  | _ => False) E
@[simp ↓] theorem vOrV_eq (t u : WE) (env) (S) (Q) (E) : vOrV t u env S Q E = (t env S (fun d S1 => match d with
  | .bl c => if c = true then Q (.bl true) S1 else u env S1 Q E
  | _ => False) E) := id rfl
def vNotV (t : WE) : WE := fun env S Q E => t env S (fun d S1 => match d with
  | .bl c => Q (.bl (!c)) S1
  | _ => False) E
@[simp ↓] theorem vNotV_eq (t : WE) (env) (S) (Q) (E) : vNotV t env S Q E = (t env S (fun d S1 => match d with
  | .bl c => Q (.bl (!c)) S1
  | _ => False) E) := id rfl
theorem ve_one {op} {a : Expr} {t : WE} {pos : Pos} (h : VE C R a t) : VE C R (.BoolOp op [a] pos) t := fun W => by
  obtain ⟨u, p, s⟩ := h W
  exact ⟨u, fun i tk => pe_one (p i tk), s⟩
theorem ve_and {a b : Expr} {rest : List Expr} {t t' : WE} {pos : Pos} (h : VE C R a t) (h' : VE C R (.BoolOp .And (b :: rest) pos) t') : VE C R (.BoolOp .And (a :: b :: rest) pos) (vAndV t t') := fun W => by
  obtain ⟨u, p, s⟩ := h W
  obtain ⟨u', p', s'⟩ := h' W
  refine ⟨_, fun i tk => pe_and (p i tk) (p' i tk), fun σ H F Z env S Q Ex R ok en th k q => s σ H F Z env S _ Ex _ ok en th (fun v H' F' S' d sm ok' r q' => ?_) q⟩
  cases d with
  | bl b =>
    cases b with
    | true => exact ⟨true, r, s' σ H' F' Z env S' Q Ex R ok' (en.mono sm) (th.mono sm) (k.mono sm) q'⟩
    | false => exact ⟨false, r, k (.bl false) H' F' S' (.bl false) sm ok' rfl q'⟩
  | _ => exact q'.elim
theorem ve_or {a b : Expr} {rest : List Expr} {t t' : WE} {pos : Pos} (h : VE C R a t) (h' : VE C R (.BoolOp .Or (b :: rest) pos) t') : VE C R (.BoolOp .Or (a :: b :: rest) pos) (vOrV t t') := fun W => by
  obtain ⟨u, p, s⟩ := h W
  obtain ⟨u', p', s'⟩ := h' W
  refine ⟨_, fun i tk => pe_or (p i tk) (p' i tk), fun σ H F Z env S Q Ex R ok en th k q => s σ H F Z env S _ Ex _ ok en th (fun v H' F' S' d sm ok' r q' => ?_) q⟩
  cases d with
  | bl b =>
    cases b with
    | true => exact ⟨true, r, k (.bl true) H' F' S' (.bl true) sm ok' rfl q'⟩
    | false => exact ⟨false, r, s' σ H' F' Z env S' Q Ex R ok' (en.mono sm) (th.mono sm) (k.mono sm) q'⟩
  | _ => exact q'.elim
theorem ve_not {a : Expr} {t : WE} {pos : Pos} (h : VE C R a t) : VE C R (.UnaryOp .Not a pos) (vNotV t) := fun W => by
  obtain ⟨u, p, s⟩ := h W
  refine ⟨_, fun i tk => pe_not (p i tk), fun σ H F Z env S Q Ex R ok en th k q => s σ H F Z env S _ Ex _ ok en th (fun v H' F' S' d sm ok' r q' => ?_) q⟩
  cases d with
  | bl b => exact ⟨b, r, k (.bl (!b)) H' F' S' (.bl (!b)) sm ok' rfl q'⟩
  | _ => exact q'.elim
def vIfE (c : WT) (t u : WE) : WE := fun env S Q E => c env S (fun b S1 => if b = true then t env S1 Q E else u env S1 Q E) E
@[simp ↓] theorem vIfE_eq (c : WT) (t u : WE) (env) (S) (Q) (E) : vIfE c t u env S Q E = (c env S (fun b S1 => if b = true then t env S1 Q E else u env S1 Q E) E) := id rfl
theorem ve_if {c a b : Expr} {tc : WT} {ta tb : WE} {pos : Pos} (hc : VT C R c tc) (ha : VE C R a ta) (hb : VE C R b tb) : VE C R (.IfExp c a b pos) (vIfE tc ta tb) := fun W => by
  obtain ⟨uc, pc, sc⟩ := hc W
  obtain ⟨ua, pa, sa⟩ := ha W
  obtain ⟨ub, pb, sb⟩ := hb W
  refine ⟨_, fun i tk => pe_ifExp (pc i tk) (pa i tk) (pb i tk), fun σ H F Z env S Q Ex R ok en th k q => sc σ H F Z env S _ Ex _ ok en th (fun b H' F' S' sm ok' q' => ?_) q⟩
  cases b with
  | true => exact sa σ H' F' Z env S' Q Ex R ok' (en.mono sm) (th.mono sm) (k.mono sm) q'
  | false => exact sb σ H' F' Z env S' Q Ex R ok' (en.mono sm) (th.mono sm) (k.mono sm) q'
/-- a < b < c -/
def vChain (r r' : R2V) (ta tb tc : WE) : WE := fun env S Q E => ta env S (fun x S1 => tb env S1 (fun y S2 => r x y S2 (fun d S3 => match d with
  | .bl k => if k = true then tc env S3 (fun z S4 => r' y z S4 Q) E else Q (.bl false) S3
  | _ => False)) E) E
@[simp ↓] theorem vChain_eq (r r' : R2V) (ta tb tc : WE) (env) (S) (Q) (E) : vChain r r' ta tb tc env S Q E = (ta env S (fun x S1 => tb env S1 (fun y S2 => r x y S2 (fun d S3 => match d with
  | .bl k => if k = true then tc env S3 (fun z S4 => r' y z S4 Q) E else Q (.bl false) S3
  | _ => False)) E) E) := id rfl
theorem snd_chain {r r' : R2V} {u u' : R2} {ta tb tc : WE} {ua ub uc : TE} (hr : SndR K r u) (hr' : SndR K r' u') (sa : SndE K W ta ua) (sb : SndE K W tb ub) (sc : SndE K W tc uc) : SndE K W (vChain r r' ta tb tc) (tChain u u' ua ub uc) := fun σ H F Z env S Q Ex R ok en th k h =>
  sa σ H F Z env S _ Ex _ ok en th (fun x H1 F1 S1 d sm1 ok1 r1 h1 => sb σ H1 F1 Z env S1 _ Ex _ ok1 (en.mono sm1) (th.mono sm1) (fun y H2 F2 S2 e sm2 ok2 r2 h2 =>
    hr F2 Z S2 H2 x y d e _ _ ok2 (Rep.mono sm2 _ _ r1) r2 (fun z H3 F3 S3 c sm3 ok3 r3 h3 => by
      cases c with
      | bl b =>
        have sm13 := sm1.trans (sm2.trans sm3)
        cases b with
        | true => exact ⟨true, r3, sc σ H3 F3 Z env S3 _ Ex _ ok3 (en.mono sm13) (th.mono sm13) (fun w H4 F4 S4 f sm4 ok4 r4 h4 => hr' F4 Z S4 H4 y w e f _ _ ok4 (Rep.mono (sm3.trans sm4) _ _ r2) r4 (k.mono (sm13.trans sm4)) h4) h3⟩
        | false => exact ⟨false, r3, k (.bl false) H3 F3 S3 (.bl false) sm13 ok3 rfl h3⟩
      | _ => exact h3.elim) h2) h1) h
theorem ve_chain {op op' : CmpOp} {r r' : R2V} {a b c : Expr} {ta tb tc : WE} {pos : Pos} (ho : OpV C R (compareOp op) r) (ho' : OpV C R (compareOp op') r') (ha : VE C R a ta) (hb : VE C R b tb) (hc : VE C R c tc)
    (hm : lastMarks [op, op'] [b, c] = false := by with_unfolding_all rfl) : VE C R (.Compare a [op, op'] [b, c] pos) (vChain r r' ta tb tc) := fun W => by
  obtain ⟨ua, pa, sa⟩ := ha W
  obtain ⟨ub, pb, sb⟩ := hb W
  obtain ⟨uc, pc, sc⟩ := hc W
  obtain ⟨u, hu, su⟩ := ho
  obtain ⟨u', hu', su'⟩ := ho'
  exact ⟨_, fun i tk => pe_chain (hu i) (hu' i) (pa i tk) (pb i tk) (pc i tk) hm, snd_chain su su' sa sb sc⟩
theorem vt_chain {op op' : CmpOp} {r r' : R2V} {a b c : Expr} {ta tb tc : WE} {pos : Pos} (ho : OpV C R (compareOp op) r) (ho' : OpV C R (compareOp op') r') (ha : VE C R a ta) (hb : VE C R b tb) (hc : VE C R c tc)
    (hm : lastMarks [op, op'] [b, c] = false := by with_unfolding_all rfl) : VT C R (.Compare a [op, op'] [b, c] pos) (vTst (vChain r r' ta tb tc)) := fun W => by
  obtain ⟨ua, pa, sa⟩ := ha W
  obtain ⟨ub, pb, sb⟩ := hb W
  obtain ⟨uc, pc, sc⟩ := hc W
  obtain ⟨u, hu, su⟩ := ho
  obtain ⟨u', hu', su'⟩ := ho'
  exact ⟨_, fun i tk => pt_chain (hu i) (hu' i) (pa i tk) (pb i tk) (pc i tk) hm, snd_tst (snd_chain su su' sa sb sc)⟩

/-! ### -a -/
def vUn (r : D → Sto → VQ → Prop) (ta : WE) : WE := fun env S Q E => ta env S (fun x S1 => r x S1 Q) E
@[simp ↓] theorem vUn_eq (r : D → Sto → VQ → Prop) (ta : WE) (env) (S) (Q) (E) : vUn r ta env S Q E = (ta env S (fun x S1 => r x S1 Q) E) := id rfl
def rNeg : D → Sto → VQ → Prop := fun x S Q => match x with
  | .int i => Q (.int (-i)) S
  | _ => False
@[simp ↓] theorem rNeg_eq (x) (S) (Q) : rNeg x S Q = (match x with
  | .int i => Q (.int (-i)) S
  | _ => False) := id rfl
theorem ve_neg {a : Expr} {ta : WE} {pos : Pos} (ha : VE C R a ta) : VE C R (.UnaryOp .USub a pos) (vUn rNeg ta) := fun W => by
  obtain ⟨ua, pa, sa⟩ := ha W
  refine ⟨_, fun i tk => pe_un un_neg (pa i tk), fun σ H F Z env S Q Ex R ok en th k q => sa σ H F Z env S _ Ex _ ok en th (fun v H' F' S' d sm ok' r q' => ?_) q⟩
  cases d with
  | int i => exact ⟨i, r, k (.int (-i)) H' F' S' (.int (-i)) sm ok' rfl q'⟩
  | _ => exact q'.elim

/-! ### arguments, displays -/
def vNil : WA := fun _ S Q _ => Q [] S
@[simp ↓] theorem vNil_eq (z0) (S) (Q) (z1) : vNil z0 S Q z1 = (Q [] S) := id rfl
def vCons (t : WE) (u : WA) : WA := fun env S Q E => t env S (fun d S1 => u env S1 (fun ds S2 => Q (d :: ds) S2) E) E
@[simp ↓] theorem vCons_eq (t : WE) (u : WA) (env) (S) (Q) (E) : vCons t u env S Q E = (t env S (fun d S1 => u env S1 (fun ds S2 => Q (d :: ds) S2) E) E) := id rfl
theorem va_nil : VA C R [] vNil := fun W => ⟨_, fun i tk => pa_nil, fun σ H F Z env S Q Ex R ok en th k q => k [] H F S [] (Same.refl F) ok rfl q⟩
theorem va_cons {e : Expr} {es : List Expr} {t : WE} {u : WA} (h : VE C R e t) (h' : VA C R es u) (hs : ∀ i, starEach (e :: es) (R i).env = (false, eval e (R i).env) :: starEach es (R i).env := by exact fun _ => rfl) : VA C R (e :: es) (vCons t u) := fun W => by
  obtain ⟨ua, pa, sa⟩ := h W
  obtain ⟨ub, pb, sb⟩ := h' W
  exact ⟨_, fun i tk => pa_cons (pa i tk) (pb i tk) (hs i), fun σ H F Z env S Q Ex R ok en th k q => sa σ H F Z env S _ Ex _ ok en th (fun v H1 F1 S1 d sm1 ok1 r1 q1 => sb σ H1 F1 Z env S1 _ Ex _ ok1 (en.mono sm1) (th.mono sm1)
    (fun vs H2 F2 S2 ds sm2 ok2 r2 q2 => k (v :: vs) H2 F2 S2 (d :: ds) (sm1.trans sm2) ok2 ⟨v, vs, rfl, Rep.mono sm2 _ _ r1, r2⟩ q2) q1) q⟩
def vTup (t : WA) : WE := fun env S Q E => t env S (fun ds S1 => ds.length ≤ sizeLine ∧ Q (.tup ds) S1) E
@[simp ↓] theorem vTup_eq (t : WA) (env) (S) (Q) (E) : vTup t env S Q E = (t env S (fun ds S1 => ds.length ≤ sizeLine ∧ Q (.tup ds) S1) E) := id rfl
/-- a list display, frozen at once -/
def vLstF (t : WA) : WE := fun env S Q E => t env S (fun ds S1 => ds.length ≤ sizeLine ∧ Q (.lst ds) S1) E
@[simp ↓] theorem vLstF_eq (t : WA) (env) (S) (Q) (E) : vLstF t env S Q E = (t env S (fun ds S1 => ds.length ≤ sizeLine ∧ Q (.lst ds) S1) E) := id rfl
/-- a list display, for the store -/
def vLst (t : WA) : WE := fun env S Q E => t env S (fun ds S1 => ds.length ≤ sizeLine ∧ ∀ p, S1 p = none → Q (.ref p) (sup S1 p (.lst ds))) E
@[simp ↓] theorem vLst_eq (t : WA) (env) (S) (Q) (E) : vLst t env S Q E = (t env S (fun ds S1 => ds.length ≤ sizeLine ∧ ∀ p, S1 p = none → Q (.ref p) (sup S1 p (.lst ds))) E) := id rfl
theorem ve_tup {es : List Expr} {t : WA} {x1} {pos : Pos} (h : VA C R es t) : VE C R (.Tuple es x1 pos) (vTup t) := fun W => by
  obtain ⟨u, p, s⟩ := h W
  exact ⟨_, fun i tk => pe_tup (p i tk), fun σ H F Z env S Q Ex R ok en th k q => s σ H F Z env S _ Ex _ ok en th (fun vs H1 F1 S1 ds sm1 ok1 r1 q1 => ⟨by rw [← r1.length]; exact q1.1, fun p hp => (k.mono sm1).tup ok1 hp r1 q1.2⟩) q⟩
theorem ve_lstF {es : List Expr} {t : WA} {pos : Pos} (h : VA C R es t) : VE C R (.List es pos) (vLstF t) := fun W => by
  obtain ⟨u, p, s⟩ := h W
  exact ⟨_, fun i tk => pe_lst (p i tk), fun σ H F Z env S Q Ex R ok en th k q => s σ H F Z env S _ Ex _ ok en th (fun vs H1 F1 S1 ds sm1 ok1 r1 q1 => ⟨by rw [← r1.length]; exact q1.1, fun p hp => (k.mono sm1).lst ok1 hp r1 q1.2⟩) q⟩
theorem ve_lst {es : List Expr} {t : WA} {pos : Pos} (h : VA C R es t) : VE C R (.List es pos) (vLst t) := fun W => by
  obtain ⟨u, p, s⟩ := h W
  exact ⟨_, fun i tk => pe_lst (p i tk), fun σ H F Z env S Q Ex R ok en th k q => s σ H F Z env S _ Ex _ ok en th (fun vs H1 F1 S1 ds sm1 ok1 r1 q1 => ⟨by rw [← r1.length]; exact q1.1, fun p hp => (k.mono sm1).own ok1 hp r1 (q1.2 p (ok1.newS hp))⟩) q⟩

/-! ### subscripts -/
/-- the item at i, counted from the end if i is below 0 -/
def atD (xs : List D) (i : Int) : Option D := atI xs i
def rIx : R2V := fun x y S Q => match x, y with
  | .tup xs, .int i => AtC (atI xs i) (fun d => Q d S) .mk
  | .lst xs, .int i => AtC (atI xs i) (fun d => Q d S) .mk
  | .fix xs, .int i => AtC (atI xs i) (fun d => Q d S) .mk
  | .str z, .int i => z.length ≤ sizeLine ∧ AtC (atI z.cps.toList i) (fun c => Q (.str ⟨#[c]⟩) S) .mk
  | .ref p, .int i => match S p with
    | some (.lst xs) => AtC (atI xs i) (fun d => Q d S) .mk
    | _ => False
  | _, _ => False
@[simp ↓] theorem rIx_eq (x) (y) (S) (Q) : rIx x y S Q = (match x, y with
  | .tup xs, .int i => AtC (atI xs i) (fun d => Q d S) .mk
  | .lst xs, .int i => AtC (atI xs i) (fun d => Q d S) .mk
  | .fix xs, .int i => AtC (atI xs i) (fun d => Q d S) .mk
  | .str z, .int i => z.length ≤ sizeLine ∧ AtC (atI z.cps.toList i) (fun c => Q (.str ⟨#[c]⟩) S) .mk
  | .ref p, .int i => match S p with
    | some (.lst xs) => AtC (atI xs i) (fun d => Q d S) .mk
    | _ => False
  | _, _ => False) := id rfl
theorem Reps.at {F : Hp} {ds : List D} {vs : List V} {i : Int} {d : D} (r : Reps K F ds vs) (h : atI ds i = some d) : ∃ v, atI vs i = some v ∧ Rep K F d v := by
  unfold atI at h ⊢
  rw [← r.length]
  cases e : ixN ds.length i with
  | none => rw [e] at h; cases h
  | some j =>
    rw [e] at h
    exact r.get h
theorem ix_sound : SndR K rIx (L2.rIx K) := fun F Z S H x y d e Q R ok rx ry k h => by
  unfold rIx at h
  delta AtC at h
  split at h
  · split at h
    · obtain ⟨a, vs, rfl, h1, h2⟩ := rx
      cases (show y = _ from ry)
      rename_i e
      obtain ⟨v, h3, h4⟩ := h2.at e
      exact .inr (.inl ⟨a, vs, _, v, rfl, rfl, same_sqt ok.fro h1.sq, h3, k _ _ _ _ _ (Same.refl F) ok h4 h⟩)
    · exact h.elim
  · split at h
    · obtain ⟨a, vs, rfl, h1, h2⟩ := rx
      cases (show y = _ from ry)
      rename_i e
      obtain ⟨v, h3, h4⟩ := h2.at e
      exact .inl ⟨a, vs, _, v, rfl, rfl, SqL.of (ok.fro _ _ h1), h3, k _ _ _ _ _ (Same.refl F) ok h4 h⟩
    · exact h.elim
  · split at h
    · obtain ⟨a, vs, rfl, h1, h2⟩ := rx
      cases (show y = _ from ry)
      rename_i e
      obtain ⟨v, h3, h4⟩ := h2.at e
      exact .inl ⟨a, vs, _, v, rfl, rfl, ok.fro.seq h1, h3, k _ _ _ _ _ (Same.refl F) ok h4 h⟩
    · exact h.elim
  · obtain ⟨hz, h⟩ := h
    split at h
    · cases (show x = _ from rx); cases (show y = _ from ry)
      rename_i e
      exact .inr (.inr ⟨_, _, _, rfl, rfl, hz, e, k _ _ _ _ (.str _) (Same.refl F) ok rfl h⟩)
    · exact h.elim
  · split at h
    · rename_i q
      split at h
      · rename_i e
        cases (show x = _ from rx); cases (show y = _ from ry)
        obtain ⟨_, ho, h1, vs, rfl, h2⟩ := ok.own _ _ q
        obtain ⟨v, h3, h4⟩ := h2.at e
        exact .inl ⟨_, vs, _, v, rfl, rfl, SqL.of h1, h3, k _ _ _ _ _ (Same.refl F) ok h4 h⟩
      · exact h.elim
    · exact h.elim
  · exact h.elim
theorem ve_ix {a b : Expr} {ta tb : WE} {pos : Pos} (ha : VE C R a ta) (hb : VE C R b tb) (hs : PlainIx b := by exact fun _ _ => rfl) : VE C R (.Subscript a b pos) (vOp rIx ta tb) := fun W => by
  obtain ⟨ua, pa, sa⟩ := ha W
  obtain ⟨ub, pb, sb⟩ := hb W
  exact ⟨_, fun i tk => pe_ix (ix_seq (X := C.at (R i))) (pa i tk) (pb i tk) hs, snd_op ix_sound sa sb⟩
/-! slices -/
abbrev WO := Env → Sto → (Option Int → Sto → Prop) → EX → Prop
def vNoP : WO := fun _ S Q _ => Q none S
@[simp ↓] theorem vNoP_eq (z0) (S) (Q) (z1) : vNoP z0 S Q z1 = (Q none S) := id rfl
def vPart (t : WE) : WO := fun env S Q E => t env S (fun d S1 => match d with
  | .int i => Q (some i) S1
  | _ => False) E
@[simp ↓] theorem vPart_eq (t : WE) (env) (S) (Q) (E) : vPart t env S Q E = (t env S (fun d S1 => match d with
  | .int i => Q (some i) S1
  | _ => False) E) := id rfl
def SndO (K : PySem.W.Frag) (W : WX) (t : WO) (u : TO) : Prop := ∀ σ H F Z env S Q Ex (R : Option Int → Hp → Prop), Ok K F Z S H → Envs K F σ env → Thr K F Z W σ Ex → (∀ o H' F' S', Same F F' → Ok K F' Z S' H' → Q o S' → R o H') → t env S Q Ex → u σ H R
def VO (C : Cmn) (R : ι → Rst) (e : Option Expr) (t : WO) : Prop := ∀ W, ∃ u, (∀ i, Takes (C.at (R i)) W → PO (C.at (R i)) e u) ∧ SndO C.K W t u
theorem vo_none : VO C R none vNoP := fun W => ⟨_, fun i tk => po_none, fun σ H F Z env S Q Ex R ok en th k q => k none H F S (Same.refl F) ok q⟩
theorem vo_some {e : Expr} {t : WE} (h : VE C R e t) : VO C R (some e) (vPart t) := fun W => by
  obtain ⟨u, p, s⟩ := h W
  refine ⟨_, fun i tk => po_some (p i tk), fun σ H F Z env S Q Ex R ok en th k q => s σ H F Z env S _ Ex _ ok en th (fun v H1 F1 S1 d sm1 ok1 r1 q1 => ?_) q⟩
  cases d with
  | int i => exact ⟨i, r1, k (some i) H1 F1 S1 sm1 ok1 q1⟩
  | _ => exact q1.elim
/-- the items of xs[lo:hi] -/
def cutD (xs : List D) (lo hi : Option Int) : List D := (xs.drop (HT.sIx xs.length 0 lo)).take (HT.sIx xs.length xs.length hi - HT.sIx xs.length 0 lo)
theorem Reps.cut {F : Hp} {ds : List D} {vs : List V} {lo hi : Option Int} (r : Reps K F ds vs) : Reps K F (cutD ds lo hi) (cutV vs lo hi) := by
  unfold cutD cutV
  rw [← r.length]
  exact (r.drop _).take _
abbrev RSl := D → Option Int → Option Int → Sto → VQ → Prop
def vSl (r : RSl) (te : WE) (tl th : WO) : WE := fun env S Q E => te env S (fun x S1 => tl env S1 (fun l S2 => th env S2 (fun h S3 => r x l h S3 Q) E) E) E
@[simp ↓] theorem vSl_eq (r : RSl) (te : WE) (tl th : WO) (env) (S) (Q) (E) : vSl r te tl th env S Q E = (te env S (fun x S1 => tl env S1 (fun l S2 => th env S2 (fun h S3 => r x l h S3 Q) E) E) E) := id rfl
/-- a slice; a list's slice is frozen at once -/
def rSlF : RSl := fun x l h S Q => match x with
  | .tup xs => Q (.tup (cutD xs l h)) S
  | .lst xs => Q (.lst (cutD xs l h)) S
  | .fix xs => Q (.lst (cutD xs l h)) S
  | .str z => z.length ≤ sizeLine ∧ Q (.str (cutS z l h)) S
  | .ref p => match S p with
    | some (.lst xs) => Q (.lst (cutD xs l h)) S
    | _ => False
  | _ => False
@[simp ↓] theorem rSlF_eq (x) (l) (h) (S) (Q) : rSlF x l h S Q = (match x with
  | .tup xs => Q (.tup (cutD xs l h)) S
  | .lst xs => Q (.lst (cutD xs l h)) S
  | .fix xs => Q (.lst (cutD xs l h)) S
  | .str z => z.length ≤ sizeLine ∧ Q (.str (cutS z l h)) S
  | .ref p => match S p with
    | some (.lst xs) => Q (.lst (cutD xs l h)) S
    | _ => False
  | _ => False) := id rfl
/-- a list's slice for the store -/
def rSlO : RSl := fun x l h S Q => match x with
  | .lst xs => ∀ p, S p = none → Q (.ref p) (sup S p (.lst (cutD xs l h)))
  | .ref p => match S p with
    | some (.lst xs) => ∀ q, S q = none → Q (.ref q) (sup S q (.lst (cutD xs l h)))
    | _ => False
  | _ => False
@[simp ↓] theorem rSlO_eq (x) (l) (h) (S) (Q) : rSlO x l h S Q = (match x with
  | .lst xs => ∀ p, S p = none → Q (.ref p) (sup S p (.lst (cutD xs l h)))
  | .ref p => match S p with
    | some (.lst xs) => ∀ q, S q = none → Q (.ref q) (sup S q (.lst (cutD xs l h)))
    | _ => False
  | _ => False) := id rfl
def SndSl (K : PySem.W.Frag) (r : RSl) (u : V → Option Int → Option Int → Hp → VK → Prop) : Prop := ∀ F Z S H x d l h Q R, Ok K F Z S H → Rep K F d x → KQ K F Z Q R → r d l h S Q → u x l h H R
theorem slF_sound : SndSl K rSlF (fun x lo hi H Q => rSlA K x lo hi H Q ∨ rSlL K x lo hi H Q ∨ (∃ z, x = .str z ∧ z.length ≤ sizeLine ∧ Q (.str (cutS z lo hi)) H)) := fun F Z S H x d l hh Q R ok rx k h => by
  unfold rSlF at h
  split at h
  · obtain ⟨a, vs, rfl, h1, h2⟩ := rx
    refine .inl ⟨a, vs, rfl, same_sqt ok.fro h1.sq, fun w => ?_, fun _ p hp => k.tup ok hp h2.cut h⟩
    refine k _ _ _ _ (.tup _) (Same.refl F) ok ⟨a, vs, rfl, h1, ?_⟩ h
    have e : cutD _ l hh = _ := show (_ : List D) = _ from by
      unfold cutD
      rw [h2.length, w.1, w.2, List.drop_zero, Nat.sub_zero, ← h2.length, List.take_length]
    rw [e]; exact h2
  · obtain ⟨a, vs, rfl, h1, h2⟩ := rx
    exact .inr (.inl ⟨a, vs, rfl, SqL.of (ok.fro _ _ h1), fun p hp => k.lst ok hp h2.cut h⟩)
  · obtain ⟨a, vs, rfl, h1, h2⟩ := rx
    exact .inr (.inl ⟨a, vs, rfl, ok.fro.seq h1, fun p hp => k.lst ok hp h2.cut h⟩)
  · cases (show x = _ from rx)
    exact .inr (.inr ⟨_, rfl, h.1, k _ _ _ _ (.str _) (Same.refl F) ok rfl h.2⟩)
  · split at h
    · rename_i q
      cases (show x = _ from rx)
      obtain ⟨_, ho, h1, vs, rfl, h2⟩ := ok.own _ _ q
      exact .inr (.inl ⟨_, vs, rfl, SqL.of h1, fun p hp => k.lst ok hp h2.cut h⟩)
    · exact h.elim
  · exact h.elim
theorem slO_sound : SndSl K rSlO (fun x lo hi H Q => rSlA K x lo hi H Q ∨ rSlL K x lo hi H Q ∨ (∃ z, x = .str z ∧ z.length ≤ sizeLine ∧ Q (.str (cutS z lo hi)) H)) := fun F Z S H x d l hh Q R ok rx k h => by
  unfold rSlO at h
  split at h
  · obtain ⟨a, vs, rfl, h1, h2⟩ := rx
    exact .inr (.inl ⟨a, vs, rfl, SqL.of (ok.fro _ _ h1), fun p hp => k.own ok hp h2.cut (h p (ok.newS hp))⟩)
  · split at h
    · rename_i q
      cases (show x = _ from rx)
      obtain ⟨_, ho, h1, vs, rfl, h2⟩ := ok.own _ _ q
      exact .inr (.inl ⟨_, vs, rfl, SqL.of h1, fun p hp => k.own ok hp h2.cut (h p (ok.newS hp))⟩)
    · exact h.elim
  · exact h.elim
theorem ve_slice {r : RSl} {e : Expr} {lo hi : Option Expr} {te : WE} {tl th : WO} {pos p2 : Pos} (hr : SndSl C.K r (fun x lo hi H Q => rSlA C.K x lo hi H Q ∨ rSlL C.K x lo hi H Q ∨ (∃ z, x = .str z ∧ z.length ≤ sizeLine ∧ Q (.str (cutS z lo hi)) H)))
    (he : VE C R e te) (hl : VO C R lo tl) (hh : VO C R hi th) : VE C R (.Subscript e (.Slice lo hi none p2) pos) (vSl r te tl th) := fun W => by
  obtain ⟨ue, pe, se⟩ := he W
  obtain ⟨ul, pl, sl⟩ := hl W
  obtain ⟨uh, ph, sh⟩ := hh W
  refine ⟨_, fun i tk => pe_slice (X := C.at (R i)) (r := fun x lo hi H Q => rSlA C.K x lo hi H Q ∨ rSlL C.K x lo hi H Q ∨ (∃ z, x = .str z ∧ z.length ≤ sizeLine ∧ Q (.str (cutS z lo hi)) H)) (SlR.or (X := C.at (R i)) sl_tupA (SlR.or (X := C.at (R i)) sl_list sl_str)) (pe i tk) (pl i tk) (ph i tk), fun σ H F Z env S Q Ex R ok en th k q => se σ H F Z env S _ Ex _ ok en th (fun v H1 F1 S1 d sm1 ok1 r1 q1 => ?_) q⟩
  refine sl σ H1 F1 Z env S1 _ Ex _ ok1 (en.mono sm1) (th.mono sm1) (fun l H2 F2 S2 sm2 ok2 q2 => ?_) q1
  refine sh σ H2 F2 Z env S2 _ Ex _ ok2 (en.mono (sm1.trans sm2)) (th.mono (sm1.trans sm2)) (fun h H3 F3 S3 sm3 ok3 q3 => ?_) q2
  exact hr F3 Z S3 H3 v d l h _ _ ok3 (Rep.mono (sm2.trans sm3) _ _ r1) (k.mono (sm1.trans (sm2.trans sm3))) q3

/-! ### calls of built-ins by name -/
abbrev RCV := List D → Sto → VQ → Prop
def SndC (K : PySem.W.Frag) (r : RCV) (u : List V → Hp → VK → Prop) : Prop := ∀ F Z S H vs ds Q R, Ok K F Z S H → Reps K F ds vs → KQ K F Z Q R → r ds S Q → u vs H R
def CallV (C : Cmn) (R : ι → Rst) (f : Value) (r : RCV) : Prop := ∃ u, (∀ i, CallR (C.at (R i)) f u) ∧ SndC C.K r u
def vCB (r : RCV) (t : WA) : WE := fun env S Q E => t env S (fun ds S1 => r ds S1 Q) E
@[simp ↓] theorem vCB_eq (r : RCV) (t : WA) (env) (S) (Q) (E) : vCB r t env S Q E = (t env S (fun ds S1 => r ds S1 Q) E) := id rfl
theorem snd_cb {r : RCV} {u : List V → Hp → VK → Prop} {t : WA} {ut : TA} (hr : SndC K r u) (s : SndA K W t ut) : SndE K W (vCB r t) (tCB u ut) := fun σ H F Z env S Q Ex R ok en th k h =>
  s σ H F Z env S _ Ex _ ok en th (fun vs H1 F1 S1 ds sm1 ok1 r1 h1 => hr F1 Z S1 H1 vs ds _ _ ok1 r1 (k.mono sm1) h1) h
theorem ve_callB {id : String} {r : RCV} {x : Str} {e : Expr} {es : List Expr} {t : WA} {p pos : Pos} (hc : CallV C R (.builtin id) r) (hm : C.mg x = none) (ha : VA C R (e :: es) t) (hg : ∀ i, Gl (C.at (R i)) x := by exact fun _ => rfl) (hv : bootBuiltins x = some (.builtin id) := by decide +kernel) (hn : x ≠ "__name__" := by decide) (hdb : (x == ("__debug__" : Str)) = false := by decide)
    (he : ∀ i, starEach (e :: es) (R i).env = (false, eval e (R i).env) :: starEach es (R i).env := by exact fun _ => rfl) (hpl : ∀ i, (backTo pos (starEach es (R i).env)).any (·.1) = false := by exact fun _ => rfl) : VE C R (.Call (.Name x p) (e :: es) [] pos) (vCB r t) := fun W => by
  obtain ⟨ut, pt, st⟩ := ha W
  obtain ⟨u, hu, su⟩ := hc
  exact ⟨_, fun i tk => pe_callB (hu i) (hg i) hm hv (pt i tk) hn hdb (he i) (hpl i), snd_cb su st⟩
theorem ve_callTy {T : String} {r : RCV} {x : Str} {e : Expr} {es : List Expr} {t : WA} {p pos : Pos} (hc : CallV C R (.type T) r) (hm : C.mg x = none) (ha : VA C R (e :: es) t) (hg : ∀ i, Gl (C.at (R i)) x := by exact fun _ => rfl) (hv : bootBuiltins x = some (.type T) := by decide +kernel) (hn : x ≠ "__name__" := by decide) (hdb : (x == ("__debug__" : Str)) = false := by decide)
    (he : ∀ i, starEach (e :: es) (R i).env = (false, eval e (R i).env) :: starEach es (R i).env := by exact fun _ => rfl) (hpl : ∀ i, (backTo pos (starEach es (R i).env)).any (·.1) = false := by exact fun _ => rfl) : VE C R (.Call (.Name x p) (e :: es) [] pos) (vCB r t) := fun W => by
  obtain ⟨ut, pt, st⟩ := ha W
  obtain ⟨u, hu, su⟩ := hc
  exact ⟨_, fun i tk => pe_callTy (hu i) (hg i) hm hv (pt i tk) hn hdb (he i) (hpl i), snd_cb su st⟩
/-- len -/
def rLen : RCV := fun ds S Q => match ds with
  | [.tup xs] => Q (.int xs.length) S
  | [.lst xs] => Q (.int xs.length) S
  | [.fix xs] => Q (.int xs.length) S
  | [.str z] => z.length ≤ sizeLine ∧ Q (.int z.length) S
  | [.ref p] => match S p with
    | some (.lst xs) => Q (.int xs.length) S
    | _ => False
  | _ => False
@[simp ↓] theorem rLen_eq (ds) (S) (Q) : rLen ds S Q = (match ds with
  | [.tup xs] => Q (.int xs.length) S
  | [.lst xs] => Q (.int xs.length) S
  | [.fix xs] => Q (.int xs.length) S
  | [.str z] => z.length ≤ sizeLine ∧ Q (.int z.length) S
  | [.ref p] => match S p with
    | some (.lst xs) => Q (.int xs.length) S
    | _ => False
  | _ => False) := id rfl
theorem reps1 {F : Hp} {d : D} {vs : List V} (h : Reps K F [d] vs) : ∃ v, vs = [v] ∧ Rep K F d v := by
  obtain ⟨v, r, rfl, h1, h2⟩ := h
  cases (show r = [] from h2)
  exact ⟨v, rfl, h1⟩
theorem reps2 {F : Hp} {d e : D} {vs : List V} (h : Reps K F [d, e] vs) : ∃ v w, vs = [v, w] ∧ Rep K F d v ∧ Rep K F e w := by
  obtain ⟨v, r, rfl, h1, h2⟩ := h
  obtain ⟨w, rfl, h3⟩ := reps1 h2
  exact ⟨v, w, rfl, h1, h3⟩
theorem cv_len : CallV C R (.builtin "len") rLen := by
  refine ⟨fun xs H Q => ∃ x n, xs = [x] ∧ LenV C.K x H n ∧ Q (.int n) H, fun i => call_len (X := C.at (R i)), fun F Z S H vs ds Q R ok r k h => ?_⟩
  unfold rLen at h
  split at h
  · obtain ⟨v, rfl, a, vs, rfl, h1, h2⟩ := reps1 r
    exact ⟨_, vs.length, rfl, .inr ⟨vs, same_sqt ok.fro h1.sq, rfl⟩, k _ _ _ _ (.int _) (Same.refl F) ok rfl (by rw [← h2.length]; exact h)⟩
  · obtain ⟨v, rfl, a, vs, rfl, h1, h2⟩ := reps1 r
    exact ⟨_, vs.length, rfl, .inl ⟨vs, SqL.of (ok.fro _ _ h1), rfl⟩, k _ _ _ _ (.int _) (Same.refl F) ok rfl (by rw [← h2.length]; exact h)⟩
  · obtain ⟨v, rfl, a, vs, rfl, h1, h2⟩ := reps1 r
    exact ⟨_, vs.length, rfl, .inl ⟨vs, ok.fro.seq h1, rfl⟩, k _ _ _ _ (.int _) (Same.refl F) ok rfl (by rw [← h2.length]; exact h)⟩
  · obtain ⟨v, rfl, h1⟩ := reps1 r
    cases (show v = _ from h1)
    exact ⟨_, _, rfl, ⟨h.1, rfl⟩, k _ _ _ _ (.int _) (Same.refl F) ok rfl h.2⟩
  · split at h
    · rename_i q
      obtain ⟨v, rfl, h1⟩ := reps1 r
      cases (show v = _ from h1)
      obtain ⟨_, ho, h1, vs, rfl, h2⟩ := ok.own _ _ q
      exact ⟨_, vs.length, rfl, .inl ⟨vs, SqL.of h1, rfl⟩, k _ _ _ _ (.int _) (Same.refl F) ok rfl (by rw [← h2.length]; exact h)⟩
    · exact h.elim
  · exact h.elim
def rAbs : RCV := fun ds S Q => match ds with
  | [.int i] => Q (.int (if i < 0 then -i else i)) S
  | _ => False
@[simp ↓] theorem rAbs_eq (ds) (S) (Q) : rAbs ds S Q = (match ds with
  | [.int i] => Q (.int (if i < 0 then -i else i)) S
  | _ => False) := id rfl
theorem cv_abs : CallV C R (.builtin "abs") rAbs := by
  refine ⟨_, fun i => call_abs (X := C.at (R i)), fun F Z S H vs ds Q R ok r k h => ?_⟩
  unfold rAbs at h
  split at h
  · obtain ⟨v, rfl, h1⟩ := reps1 r
    exact ⟨_, by rw [show v = _ from h1], k _ _ _ _ (.int _) (Same.refl F) ok rfl h⟩
  · exact h.elim
def rInt : RCV := fun ds S Q => match ds with
  | [.int i] => Q (.int i) S
  | [.bl b] => Q (.int (if b then 1 else 0)) S
  | _ => False
@[simp ↓] theorem rInt_eq (ds) (S) (Q) : rInt ds S Q = (match ds with
  | [.int i] => Q (.int i) S
  | [.bl b] => Q (.int (if b then 1 else 0)) S
  | _ => False) := id rfl
theorem cv_int : CallV C R (.type "int") rInt := by
  refine ⟨_, fun i => call_int1 (X := C.at (R i)), fun F Z S H vs ds Q R ok r k h => ?_⟩
  unfold rInt at h
  split at h
  · obtain ⟨v, rfl, h1⟩ := reps1 r
    exact .inl ⟨_, by rw [show v = _ from h1], k _ _ _ _ (.int _) (Same.refl F) ok rfl h⟩
  · obtain ⟨v, rfl, h1⟩ := reps1 r
    exact .inr ⟨_, by rw [show v = _ from h1], k _ _ _ _ (.int _) (Same.refl F) ok rfl h⟩
  · exact h.elim
/-- list(x), frozen at once; for the store -/
def rListF : RCV := fun ds S Q => match ds with
  | [.tup xs] => Q (.lst xs) S
  | [.lst xs] => Q (.lst xs) S
  | [.fix xs] => Q (.lst xs) S
  | [.ref p] => match S p with
    | some (.lst xs) => Q (.lst xs) S
    | _ => False
  | _ => False
@[simp ↓] theorem rListF_eq (ds) (S) (Q) : rListF ds S Q = (match ds with
  | [.tup xs] => Q (.lst xs) S
  | [.lst xs] => Q (.lst xs) S
  | [.fix xs] => Q (.lst xs) S
  | [.ref p] => match S p with
    | some (.lst xs) => Q (.lst xs) S
    | _ => False
  | _ => False) := id rfl
def rListO : RCV := fun ds S Q => match ds with
  | [.tup xs] => ∀ p, S p = none → Q (.ref p) (sup S p (.lst xs))
  | [.lst xs] => ∀ p, S p = none → Q (.ref p) (sup S p (.lst xs))
  | [.fix xs] => ∀ p, S p = none → Q (.ref p) (sup S p (.lst xs))
  | [.ref q] => match S q with
    | some (.lst xs) => ∀ p, S p = none → Q (.ref p) (sup S p (.lst xs))
    | _ => False
  | _ => False
@[simp ↓] theorem rListO_eq (ds) (S) (Q) : rListO ds S Q = (match ds with
  | [.tup xs] => ∀ p, S p = none → Q (.ref p) (sup S p (.lst xs))
  | [.lst xs] => ∀ p, S p = none → Q (.ref p) (sup S p (.lst xs))
  | [.fix xs] => ∀ p, S p = none → Q (.ref p) (sup S p (.lst xs))
  | [.ref q] => match S q with
    | some (.lst xs) => ∀ p, S p = none → Q (.ref p) (sup S p (.lst xs))
    | _ => False
  | _ => False) := id rfl
theorem cv_listF : CallV C R (.type "list") rListF := by
  refine ⟨fun xs H Q => ∃ p ys, xs = [.ref p] ∧ (SqL C.K H p ys ∨ SqT C.K H p ys) ∧ ∀ l, H l = none → Q (.ref l) (upd H l (.lst ys)), fun i => call_list_of (X := C.at (R i)), fun F Z S H vs ds Q R ok r k h => ?_⟩
  unfold rListF at h
  split at h
  · obtain ⟨v, rfl, a, vs, rfl, h1, h2⟩ := reps1 r
    exact ⟨a, vs, rfl, .inr (same_sqt ok.fro h1.sq), fun l hl => k.lst ok hl h2 h⟩
  · obtain ⟨v, rfl, a, vs, rfl, h1, h2⟩ := reps1 r
    exact ⟨a, vs, rfl, .inl (SqL.of (ok.fro _ _ h1)), fun l hl => k.lst ok hl h2 h⟩
  · obtain ⟨v, rfl, a, vs, rfl, h1, h2⟩ := reps1 r
    exact ⟨a, vs, rfl, .inl (ok.fro.seq h1), fun l hl => k.lst ok hl h2 h⟩
  · split at h
    · rename_i q
      obtain ⟨v, rfl, h1⟩ := reps1 r
      cases (show v = _ from h1)
      obtain ⟨_, ho, h1, vs, rfl, h2⟩ := ok.own _ _ q
      exact ⟨_, vs, rfl, .inl (SqL.of h1), fun l hl => k.lst ok hl h2 h⟩
    · exact h.elim
  · exact h.elim
theorem cv_listO : CallV C R (.type "list") rListO := by
  refine ⟨fun xs H Q => ∃ p ys, xs = [.ref p] ∧ (SqL C.K H p ys ∨ SqT C.K H p ys) ∧ ∀ l, H l = none → Q (.ref l) (upd H l (.lst ys)), fun i => call_list_of (X := C.at (R i)), fun F Z S H vs ds Q R ok r k h => ?_⟩
  unfold rListO at h
  split at h
  · obtain ⟨v, rfl, a, vs, rfl, h1, h2⟩ := reps1 r
    exact ⟨a, vs, rfl, .inr (same_sqt ok.fro h1.sq), fun l hl => k.own ok hl h2 (h l (ok.newS hl))⟩
  · obtain ⟨v, rfl, a, vs, rfl, h1, h2⟩ := reps1 r
    exact ⟨a, vs, rfl, .inl (SqL.of (ok.fro _ _ h1)), fun l hl => k.own ok hl h2 (h l (ok.newS hl))⟩
  · obtain ⟨v, rfl, a, vs, rfl, h1, h2⟩ := reps1 r
    exact ⟨a, vs, rfl, .inl (ok.fro.seq h1), fun l hl => k.own ok hl h2 (h l (ok.newS hl))⟩
  · split at h
    · rename_i q
      obtain ⟨v, rfl, h1⟩ := reps1 r
      cases (show v = _ from h1)
      obtain ⟨_, ho, h1, vs, rfl, h2⟩ := ok.own _ _ q
      exact ⟨_, vs, rfl, .inl (SqL.of h1), fun l hl => k.own ok hl h2 (h l (ok.newS hl))⟩
    · exact h.elim
  · exact h.elim
/-- tuple(x) -/
def rTuple : RCV := fun ds S Q => match ds with
  | [.tup xs] => Q (.tup xs) S
  | [.lst xs] => Q (.tup xs) S
  | [.fix xs] => Q (.tup xs) S
  | [.ref p] => match S p with
    | some (.lst xs) => Q (.tup xs) S
    | _ => False
  | _ => False
@[simp ↓] theorem rTuple_eq (ds) (S) (Q) : rTuple ds S Q = (match ds with
  | [.tup xs] => Q (.tup xs) S
  | [.lst xs] => Q (.tup xs) S
  | [.fix xs] => Q (.tup xs) S
  | [.ref p] => match S p with
    | some (.lst xs) => Q (.tup xs) S
    | _ => False
  | _ => False) := id rfl
theorem cv_tuple : CallV C R (.type "tuple") rTuple := by
  refine ⟨fun xs H Q => ∃ p ys, xs = [.ref p] ∧ ((SqL C.K H p ys ∧ ∀ l, H l = none → Q (.ref l) (upd H l (.tup ys))) ∨ (SqT C.K H p ys ∧ Q (.ref p) H)), fun i => call_tuple_of (X := C.at (R i)), fun F Z S H vs ds Q R ok r k h => ?_⟩
  unfold rTuple at h
  split at h
  · obtain ⟨v, rfl, a, vs, rfl, h1, h2⟩ := reps1 r
    exact ⟨a, vs, rfl, .inr ⟨same_sqt ok.fro h1.sq, k _ _ _ _ (.tup _) (Same.refl F) ok ⟨a, vs, rfl, h1, h2⟩ h⟩⟩
  · obtain ⟨v, rfl, a, vs, rfl, h1, h2⟩ := reps1 r
    exact ⟨a, vs, rfl, .inl ⟨SqL.of (ok.fro _ _ h1), fun l hl => k.tup ok hl h2 h⟩⟩
  · obtain ⟨v, rfl, a, vs, rfl, h1, h2⟩ := reps1 r
    exact ⟨a, vs, rfl, .inl ⟨ok.fro.seq h1, fun l hl => k.tup ok hl h2 h⟩⟩
  · split at h
    · rename_i q
      obtain ⟨v, rfl, h1⟩ := reps1 r
      cases (show v = _ from h1)
      obtain ⟨_, ho, h1, vs, rfl, h2⟩ := ok.own _ _ q
      exact ⟨_, vs, rfl, .inl ⟨SqL.of h1, fun l hl => k.tup ok hl h2 h⟩⟩
    · exact h.elim
  · exact h.elim
/-- max(xs), ints -/
def RMax (ds : List D) (S : Sto) (Q : VQ) (_ : Hold Q) : Prop := ∃ ns : List Int, ds = [.lst (ns.map D.int)] ∧ 0 < ns.length ∧ ∀ m, m ∈ ns → (∀ y, y ∈ ns → y ≤ m) → Q (.int m) S
def rMax : RCV := fun ds S Q => RMax ds S Q .mk
@[simp ↓] theorem rMax_eq (ds) (S) (Q) : rMax ds S Q = (RMax ds S Q .mk) := id rfl
theorem cv_max (hc : ∀ i, (R i).calm = true := by exact fun _ => rfl) : CallV C R (.builtin "max") rMax := by
  refine ⟨L2.rMax C.K, fun i => cr_max (X := C.at (R i)) (hc i), fun F Z S H vs ds Q R ok r k h => ?_⟩
  obtain ⟨ns, rfl, hn, q⟩ := h
  obtain ⟨v, rfl, a, vs, rfl, h1, h2⟩ := reps1 r
  have e := h2.ints
  subst e
  exact ⟨a, ns, rfl, SqL.of (ok.fro _ _ h1), hn, fun m h3 h4 => k _ _ _ _ (.int _) (Same.refl F) ok rfl (q m h3 h4)⟩
/-- sum(xs), ints -/
def RSum (ds : List D) (S : Sto) (Q : VQ) (_ : Hold Q) : Prop := ∃ ns : List Int, ds = [.lst (ns.map D.int)] ∧ Q (.int ns.sum) S
def rSum : RCV := fun ds S Q => RSum ds S Q .mk
@[simp ↓] theorem rSum_eq (ds) (S) (Q) : rSum ds S Q = (RSum ds S Q .mk) := id rfl
theorem cv_sum (hc : ∀ i, (R i).calm = true := by exact fun _ => rfl) : CallV C R (.builtin "sum") rSum := by
  refine ⟨L2.rSum C.K, fun i => cr_sum (X := C.at (R i)) (hc i), fun F Z S H vs ds Q R ok r k h => ?_⟩
  obtain ⟨ns, rfl, q⟩ := h
  obtain ⟨v, rfl, a, vs, rfl, h1, h2⟩ := reps1 r
  have e := h2.ints
  subst e
  exact ⟨a, ns, rfl, SqL.of (ok.fro _ _ h1), k _ _ _ _ (.int _) (Same.refl F) ok rfl q⟩
end
end L3

set_option Elab.async false
set_option linter.all false
set_option maxRecDepth 100000
set_option maxHeartbeats 4000000
/-! The value layer: targets, statements, loops, comprehensions. -/
namespace L3
open PySem PySem.Spec PyProof.Rows L2

section
variable {C : Cmn} {ι : Type} {R : ι → Rst} {K : PySem.W.Frag} {W : WX}
/-! ### targets -/
abbrev WG := D → Env → Sto → (Env → Sto → Prop) → Prop
abbrev WGs := List D → Env → Sto → (Env → Sto → Prop) → Prop
def SndG (K : PySem.W.Frag) (g : WG) (u : TG) : Prop := ∀ σ H F Z env S v d Q R, Ok K F Z S H → Envs K F σ env → Rep K F d v → KN K F Z Q R → g d env S Q → u v σ H R
def SndGs (K : PySem.W.Frag) (g : WGs) (u : TGs) : Prop := ∀ σ H F Z env S vs ds Q R, Ok K F Z S H → Envs K F σ env → Reps K F ds vs → KN K F Z Q R → g ds env S Q → u vs σ H R
/-- a target that stores at the slots vs alone -/
def OnlyG (u : TG) (vs : List Nat) : Prop := ∀ v σ H Q Q', u v σ H Q → (∀ σ2 H2, wipe σ2 vs = wipe σ vs → Q σ2 H2 → Q' σ2 H2) → u v σ H Q'
def OnlyGs (u : TGs) (vs : List Nat) : Prop := ∀ v σ H Q Q', u v σ H Q → (∀ σ2 H2, wipe σ2 vs = wipe σ vs → Q σ2 H2 → Q' σ2 H2) → u v σ H Q'
def VG (C : Cmn) (R : ι → Rst) (tg : Expr) (g : WG) : Prop := ∃ u, (∀ i, PG (C.at (R i)) tg u) ∧ SndG C.K g u
def VGo (C : Cmn) (R : ι → Rst) (tg : Expr) (g : WG) (vs : List Nat) : Prop := ∃ u, (∀ i, PG (C.at (R i)) tg u) ∧ SndG C.K g u ∧ OnlyG u vs
def VGs (C : Cmn) (R : ι → Rst) (ts : List Expr) (g : WGs) : Prop := ∃ u, (∀ i, PGs (C.at (R i)) ts u) ∧ SndGs C.K g u
def VGos (C : Cmn) (R : ι → Rst) (ts : List Expr) (g : WGs) (vs : List Nat) : Prop := ∃ u, (∀ i, PGs (C.at (R i)) ts u) ∧ SndGs C.K g u ∧ OnlyGs u vs
theorem VGo.vg {tg : Expr} {g : WG} {vs : List Nat} (h : VGo C R tg g vs) : VG C R tg g := let ⟨u, h1, h2, _⟩ := h; ⟨u, h1, h2⟩
def gNm (i : Nat) : WG := fun d env S Q => Q (put env i d) S
@[simp ↓] theorem gNm_eq (i : Nat) (d) (env) (S) (Q) : gNm i d env S Q = (Q (put env i d) S) := id rfl
theorem wipe_set {σ : L2.St} {i : Nat} {x : Option V} : ∀ (vs : List Nat), wipe (σ.set i x) vs = if i ∈ vs then wipe σ vs else (wipe σ vs).set i x
  | [] => by simp [wipe]
  | v :: vs => by
    show (wipe (σ.set i x) vs).set v none = _
    rw [wipe_set vs]
    by_cases h : i ∈ vs
    · rw [if_pos h, if_pos (List.mem_cons_of_mem _ h)]; rfl
    · rw [if_neg h]
      by_cases hv : i = v
      · subst hv
        rw [if_pos List.mem_cons_self, List.set_set]; rfl
      · rw [if_neg (by simp [hv, h])]
        show _ = ((wipe σ vs).set v none).set i x
        rw [List.set_comm _ _ (Ne.symm hv)]
theorem vgo_name {i : Nat} {x : Str} {pos : Pos} {vs : List Nat} (hN : ∀ j, (R j).N.Nodup) (hm : i ∈ vs := by decide) (hi : ∀ j, (R j).N[i]? = some x := by exact fun _ => rfl) (hx : ∀ j, Loc (R j).env.scope x := by first | exact fun _ => .inl rfl | exact fun _ => .inr rfl)
    (hf : ∀ j, (R j).fn x = true ∨ (R j).env.scope.names.lookup x = some .local := by first | exact fun _ => .inl rfl | exact fun _ => .inr rfl) : VGo C R (.Name x pos) (gNm i) vs := by
  refine ⟨gName i, fun j => pg_name (X := C.at (R j)) (hN j) (hi j) (hx j) (hf j), fun σ H F Z env S v d Q R ok en r k h => k F _ H _ S (Same.refl F) ok (en.put r i) h, fun v σ H Q Q' h q => q _ _ ?_ h⟩
  rw [wipe_set, if_pos hm]
theorem vg_name {i : Nat} {x : Str} {pos : Pos} (hN : ∀ j, (R j).N.Nodup) (hi : ∀ j, (R j).N[i]? = some x := by exact fun _ => rfl) (hx : ∀ j, Loc (R j).env.scope x := by first | exact fun _ => .inl rfl | exact fun _ => .inr rfl)
    (hf : ∀ j, (R j).fn x = true ∨ (R j).env.scope.names.lookup x = some .local := by first | exact fun _ => .inl rfl | exact fun _ => .inr rfl) : VG C R (.Name x pos) (gNm i) := (vgo_name (vs := [i]) hN (by simp) hi hx hf).vg
def gEnd : WGs := fun ds env S Q => match ds with
  | [] => Q env S
  | _ :: _ => False
@[simp ↓] theorem gEnd_eq (ds) (env) (S) (Q) : gEnd ds env S Q = (match ds with
  | [] => Q env S
  | _ :: _ => False) := id rfl
def gThen (g : WG) (gs : WGs) : WGs := fun ds env S Q => match ds with
  | [] => False
  | d :: r => g d env S (fun e1 S1 => gs r e1 S1 Q)
@[simp ↓] theorem gThen_eq (g : WG) (gs : WGs) (ds) (env) (S) (Q) : gThen g gs ds env S Q = (match ds with
  | [] => False
  | d :: r => g d env S (fun e1 S1 => gs r e1 S1 Q)) := id rfl
def gTupD (n : Nat) (gs : WGs) : WG := fun d env S Q => match d with
  | .tup xs => xs.length = n ∧ gs xs env S Q
  | _ => False
@[simp ↓] theorem gTupD_eq (n : Nat) (gs : WGs) (d) (env) (S) (Q) : gTupD n gs d env S Q = (match d with
  | .tup xs => xs.length = n ∧ gs xs env S Q
  | _ => False) := id rfl
theorem snd_gend : SndGs K gEnd gNil := fun σ H F Z env S vs ds Q R ok en r k h => by
  unfold gEnd at h
  cases ds with
  | nil => exact ⟨r, k F σ H env S (Same.refl F) ok en h⟩
  | cons _ _ => exact h.elim
theorem snd_gthen {g : WG} {gs : WGs} {u : TG} {us : TGs} (s : SndG K g u) (ss : SndGs K gs us) : SndGs K (gThen g gs) (gCons u us) := fun σ H F Z env S vs ds Q R ok en r k h => by
  unfold gThen at h
  cases ds with
  | nil => exact h.elim
  | cons d ds =>
    obtain ⟨v, w, rfl, r1, r2⟩ := r
    exact ⟨v, w, rfl, s σ H F Z env S v d _ _ ok en r1 (fun F' σ' H' env' S' sm ok' en' q => ss σ' H' F' Z env' S' w ds _ _ ok' en' (Reps.mono sm _ _ r2) (k.mono sm) q) h⟩
theorem vgs_nil : VGs C R [] gEnd := ⟨gNil, fun i => pgs_nil, snd_gend⟩
theorem vgs_cons {e : Expr} {es : List Expr} {g : WG} {gs : WGs} (h : VG C R e g) (h' : VGs C R es gs)
    (ha : ∀ i, (assignEach (e :: es) (R i).env).map (·.2) = assign e (R i).env :: (assignEach es (R i).env).map (·.2) := by exact fun _ => rfl) : VGs C R (e :: es) (gThen g gs) := by
  obtain ⟨u, p, s⟩ := h
  obtain ⟨us, ps, ss⟩ := h'
  exact ⟨gCons u us, fun i => pgs_cons (p i) (ps i) (ha i), snd_gthen s ss⟩
theorem vgos_nil {vs : List Nat} : VGos C R [] gEnd vs := ⟨gNil, fun i => pgs_nil, snd_gend, fun v σ H Q Q' h q => ⟨h.1, q _ _ rfl h.2⟩⟩
theorem vgos_cons {e : Expr} {es : List Expr} {g : WG} {gs : WGs} {vs : List Nat} (h : VGo C R e g vs) (h' : VGos C R es gs vs)
    (ha : ∀ i, (assignEach (e :: es) (R i).env).map (·.2) = assign e (R i).env :: (assignEach es (R i).env).map (·.2) := by exact fun _ => rfl) : VGos C R (e :: es) (gThen g gs) vs := by
  obtain ⟨u, p, s, o⟩ := h
  obtain ⟨us, ps, ss, os⟩ := h'
  refine ⟨gCons u us, fun i => pgs_cons (p i) (ps i) (ha i), snd_gthen s ss, fun v σ H Q Q' h q => ?_⟩
  obtain ⟨x, r, e1, h⟩ := h
  exact ⟨x, r, e1, o x σ H _ _ h fun σ2 H2 w z => os r σ2 H2 _ _ z fun σ3 H3 w3 z3 => q σ3 H3 (w3.trans w) z3⟩
theorem snd_gtup {n : Nat} {gs : WGs} {us : TGs} (ss : SndGs K gs us) : SndG K (gTupD n gs) (gTup K n us) := fun σ H F Z env S v d Q R ok en r k h => by
  unfold gTupD at h
  split at h
  · obtain ⟨a, vs, rfl, h1, h2⟩ := r
    exact ⟨a, vs, rfl, same_sqt ok.fro h1.sq, by rw [← h2.length]; exact h.1, ss σ H F Z env S vs _ _ _ ok en h2 k h.2⟩
  · exact h.elim
theorem vg_tup {es : List Expr} {k n : Nat} {gs : WGs} {pos : Pos} (h : VGs C R es gs) (hc : ∀ i, (R i).calm = true := by exact fun _ => rfl)
    (hn : ∀ i, (assignEach es (R i).env).length = n := by exact fun _ => rfl) (hst : ∀ i, (assignEach es (R i).env).findIdx? (·.1) = none := by exact fun _ => rfl) : VG C R (.Tuple es k pos) (gTupD n gs) := by
  obtain ⟨us, ps, ss⟩ := h
  exact ⟨gTup C.K n us, fun i => pg_tup (X := C.at (R i)) (hc i) (ps i) (hn i) (hst i), snd_gtup ss⟩
theorem vgo_tup {es : List Expr} {k n : Nat} {gs : WGs} {pos : Pos} {vs : List Nat} (h : VGos C R es gs vs) (hc : ∀ i, (R i).calm = true := by exact fun _ => rfl)
    (hn : ∀ i, (assignEach es (R i).env).length = n := by exact fun _ => rfl) (hst : ∀ i, (assignEach es (R i).env).findIdx? (·.1) = none := by exact fun _ => rfl) : VGo C R (.Tuple es k pos) (gTupD n gs) vs := by
  obtain ⟨us, ps, ss, os⟩ := h
  refine ⟨gTup C.K n us, fun i => pg_tup (X := C.at (R i)) (hc i) (ps i) (hn i) (hst i), snd_gtup ss, fun v σ H Q Q' h q => ?_⟩
  obtain ⟨a, xs, e1, e2, e3, h⟩ := h
  exact ⟨a, xs, e1, e2, e3, os xs σ H _ _ h q⟩

/-! ### statements -/
def vSeq (t u : WS) : WS := fun E env S => t { E with nx := u E } env S
@[simp ↓] theorem vSeq_eq (t u : WS) (E) (env) (S) : vSeq t u E env S = (t { E with nx := u E } env S) := id rfl
def vNext : WS := fun E env S => E.nx env S
@[simp ↓] theorem vNext_eq (E) (env) (S) : vNext E env S = (E.nx env S) := id rfl
theorem vss_nil : VSs C R [] vNext := fun W => ⟨tNext, fun i tk => pss_nil, fun σ H F Z env S E Rd ok en lk h => lk.nx F σ H env S (Same.refl F) ok en h⟩
theorem vss_one {st : Stmt} {t : WS} (h : VS C R st t) : VSs C R [st] t := fun W => by
  obtain ⟨u, p, s⟩ := h W
  exact ⟨u, fun i tk => pss_one (p i tk), s⟩
theorem vss_cons {st : Stmt} {rest : List Stmt} {t u : WS} (h : VS C R st t) (h' : VSs C R rest u) : VSs C R (st :: rest) (vSeq t u) := fun W => by
  obtain ⟨a, p, s⟩ := h W
  obtain ⟨b, p', s'⟩ := h' W
  refine ⟨_, fun i tk => pss_cons (p i tk) (p' i tk), fun σ H F Z env S E Rd ok en lk h => s σ H F Z env S { E with nx := u E } { Rd with nx := b Rd } ok en ⟨fun F' σ' H' env' S' sm ok' en' q => ?_, lk.rt, lk.bk, lk.ct, lk.ex⟩ h⟩
  exact s' σ' H' F' Z env' S' E Rd ok' en' (lk.mono sm) q
theorem vs_pass {pos : Pos} : VS C R (.Pass pos) vNext := fun W => ⟨tNext, fun i tk => ps_pass, fun σ H F Z env S E Rd ok en lk h => lk.nx F σ H env S (Same.refl F) ok en h⟩
def vBreak : WS := fun E env S => E.bk env S
@[simp ↓] theorem vBreak_eq (E) (env) (S) : vBreak E env S = (E.bk env S) := id rfl
def vCont : WS := fun E env S => E.ct env S
@[simp ↓] theorem vCont_eq (E) (env) (S) : vCont E env S = (E.ct env S) := id rfl
theorem vs_break {pos : Pos} : VS C R (.Break pos) vBreak := fun W => ⟨tBreak, fun i tk => ps_break, fun σ H F Z env S E Rd ok en lk h => lk.bk F σ H env S (Same.refl F) ok en h⟩
theorem vs_continue {pos : Pos} : VS C R (.Continue pos) vCont := fun W => ⟨tCont, fun i tk => ps_continue, fun σ H F Z env S E Rd ok en lk h => lk.ct F σ H env S (Same.refl F) ok en h⟩
def vExpr (t : WE) : WS := fun E env S => t env S (fun _ S1 => E.nx env S1) (E.ex env)
@[simp ↓] theorem vExpr_eq (t : WE) (E) (env) (S) : vExpr t E env S = (t env S (fun _ S1 => E.nx env S1) (E.ex env)) := id rfl
theorem Lk.thr {F Z : Hp} {E : VEnds} {Rd : Ends} {σ : L2.St} {env : Env} (lk : Lk K F Z W E Rd) (en : Envs K F σ env) : Thr K F Z W σ (E.ex env) := lk.ex F σ env (Same.refl F) en
theorem vs_expr {e : Expr} {t : WE} {pos : Pos} (h : VE C R e t) (hs : ∀ i, swapsWith e none pos.line (R i).env = pure false := by exact fun _ => rfl) : VS C R (.Expr e pos) (vExpr t) := fun W => by
  obtain ⟨u, p, s⟩ := h W
  exact ⟨_, fun i tk => ps_expr (p i tk.tk) (hs i), fun σ H F Z env S E Rd ok en lk h => s σ H F Z env S _ _ _ ok en (lk.thr en) (fun v H' F' S' d sm ok' r q => lk.nx F' σ H' env S' sm ok' (en.mono sm) q) h⟩
def vRet (t : WE) : WS := fun E env S => t env S E.rt (E.ex env)
@[simp ↓] theorem vRet_eq (t : WE) (E) (env) (S) : vRet t E env S = (t env S E.rt (E.ex env)) := id rfl
theorem vs_ret {e : Expr} {t : WE} {pos : Pos} (h : VE C R e t) : VS C R (.Return (some e) pos) (vRet t) := fun W => by
  obtain ⟨u, p, s⟩ := h W
  exact ⟨_, fun i tk => ps_ret (p i tk.tk), fun σ H F Z env S E Rd ok en lk h => s σ H F Z env S _ _ _ ok en (lk.thr en) lk.rt h⟩
def vRetN : WS := fun E env S => E.rt .non S
@[simp ↓] theorem vRetN_eq (E) (env) (S) : vRetN E env S = (E.rt .non S) := id rfl
theorem vs_retN {pos : Pos} : VS C R (.Return none pos) vRetN := fun W => ⟨_, fun i tk => ps_retN, fun σ H F Z env S E Rd ok en lk h => lk.rt .non H F S .non (Same.refl F) ok rfl h⟩
def vIf (c : WT) (t u : WS) : WS := fun E env S => c env S (fun b S1 => if b = true then t E env S1 else u E env S1) (E.ex env)
@[simp ↓] theorem vIf_eq (c : WT) (t u : WS) (E) (env) (S) : vIf c t u E env S = (c env S (fun b S1 => if b = true then t E env S1 else u E env S1) (E.ex env)) := id rfl
theorem vs_if {c : Expr} {a b : List Stmt} {tc : WT} {t u : WS} {pos : Pos} (hc : VT C R c tc) (ha : VSs C R a t) (hb : VSs C R b u) : VS C R (.If c a b pos) (vIf tc t u) := fun W => by
  obtain ⟨uc, pc, sc⟩ := hc W
  obtain ⟨ua, pa, sa⟩ := ha W
  obtain ⟨ub, pb, sb⟩ := hb W
  refine ⟨_, fun i tk => ps_if (pc i tk.tk) (pa i tk) (pb i tk), fun σ H F Z env S E Rd ok en lk h => sc σ H F Z env S _ _ _ ok en (lk.thr en) (fun b H' F' S' sm ok' q => ?_) h⟩
  cases b with
  | true => exact sa σ H' F' Z env S' E Rd ok' (en.mono sm) (lk.mono sm) q
  | false => exact sb σ H' F' Z env S' E Rd ok' (en.mono sm) (lk.mono sm) q
def vAsg (t : WE) (g : WG) : WS := fun E env S => t env S (fun d S1 => g d env S1 E.nx) (E.ex env)
@[simp ↓] theorem vAsg_eq (t : WE) (g : WG) (E) (env) (S) : vAsg t g E env S = (t env S (fun d S1 => g d env S1 E.nx) (E.ex env)) := id rfl
theorem snd_asg {t : WE} {u : TE} {g : WG} {ug : TG} (s : SndE K W t u) (sg : SndG K g ug) : SndS K W (vAsg t g) (tAsg u ug) := fun σ H F Z env S E Rd ok en lk h =>
  s σ H F Z env S _ _ _ ok en (lk.thr en) (fun v H' F' S' d sm ok' r q => sg σ H' F' Z env S' v d _ _ ok' (en.mono sm) r (lk.mono sm).nx q) h
theorem vs_asg {tg e : Expr} {t : WE} {g : WG} {pos : Pos} (h : VE C R e t) (hg : VG C R tg g) (hs : ∀ i, swapsWithSole [tg] e pos.line (R i).env = pure false := by exact fun _ => rfl) (hw : ∀ i, swappedStores [tg] e (R i).env = pure none := by exact fun _ => rfl)
    (h1 : ∀ i, (assignEach [tg] (R i).env).map (·.2) = [assign tg (R i).env] := by exact fun _ => rfl) : VS C R (.Assign [tg] e pos) (vAsg t g) := fun W => by
  obtain ⟨u, p, s⟩ := h W
  obtain ⟨ug, pg, sg⟩ := hg
  exact ⟨_, fun i tk => ps_asg (p i tk.tk) (pg i) (hs i) (hw i) (h1 i), snd_asg s sg⟩
theorem vs_set {i : Nat} {x : Str} {e : Expr} {t : WE} {pos pos' : Pos} (hN : ∀ j, (R j).N.Nodup) (h : VE C R e t) (hi : ∀ j, (R j).N[i]? = some x := by exact fun _ => rfl) (hx : ∀ j, Loc (R j).env.scope x := by first | exact fun _ => .inl rfl | exact fun _ => .inr rfl)
    (hs : ∀ j, swapsWith e (some (.Name x pos')) pos.line (R j).env = pure false := by exact fun _ => rfl) (hf : ∀ j, (R j).fn x = true ∨ (R j).env.scope.names.lookup x = some .local := by first | exact fun _ => .inl rfl | exact fun _ => .inr rfl) :
    VS C R (.Assign [.Name x pos'] e pos) (vAsg t (gNm i)) := fun W => by
  obtain ⟨u, p, s⟩ := h W
  exact ⟨_, fun j tk => ps_set (X := C.at (R j)) (hN j) (hi j) (hx j) (p j tk.tk) (hs j) (hf j), snd_asg s fun σ H F Z env S v d Q R ok en r k h => k F _ H _ S (Same.refl F) ok (en.put r i) h⟩
/-! o[i] = e, o a list of the store -/
def vPutL (t to ti : WE) : WS := fun E env S => t env S (fun d S1 => to env S1 (fun o S2 => ti env S2 (fun i S3 => match o, i with
  | .ref p, .int i => match S3 p with
    | some (.lst xs) => match ixN xs.length i with
      | some j => E.nx env (sup S3 p (.lst (xs.set j d)))
      | none => False
    | _ => False
  | _, _ => False) (E.ex env)) (E.ex env)) (E.ex env)
@[simp ↓] theorem vPutL_eq (t to ti : WE) (E) (env) (S) : vPutL t to ti E env S = (t env S (fun d S1 => to env S1 (fun o S2 => ti env S2 (fun i S3 => match o, i with
  | .ref p, .int i => match S3 p with
    | some (.lst xs) => match ixN xs.length i with
      | some j => E.nx env (sup S3 p (.lst (xs.set j d)))
      | none => False
    | _ => False
  | _, _ => False) (E.ex env)) (E.ex env)) (E.ex env)) := id rfl
theorem vs_putL {o i e : Expr} {t to ti : WE} {pos pos' : Pos} (h : VE C R e t) (ho : VE C R o to) (hi : VE C R i ti)
    (ha : ∀ j v, assign (.Subscript o i pos') (R j).env v = (do
      let ov ← holding [v] (eval o (R j).env)
      let iv ← holding [v, ov] (eval i (R j).env)
      standAt pos'
      holding [v, ov, iv] (setItem ov iv v)
      release [v, ov, iv] []) := by exact fun _ _ => rfl)
    (hs : ∀ j, swapsWithSole [.Subscript o i pos'] e pos.line (R j).env = pure false := by exact fun _ => rfl) (hw : ∀ j, swappedStores [.Subscript o i pos'] e (R j).env = pure none := by exact fun _ => rfl)
    (h1 : ∀ j, (assignEach [.Subscript o i pos'] (R j).env).map (·.2) = [assign (.Subscript o i pos') (R j).env] := by exact fun _ => rfl) : VS C R (.Assign [.Subscript o i pos'] e pos) (vPutL t to ti) := fun W => by
  obtain ⟨u, p, s⟩ := h W
  obtain ⟨uo, po, so⟩ := ho W
  obtain ⟨ui, pi, si⟩ := hi W
  refine ⟨_, fun j tk => ps_asg (p j tk.tk) (pg_sub (X := C.at (R j)) (po j tk.tk) (pi j tk.tk) set_list (ha j)) (hs j) (hw j) (h1 j), fun σ H F Z env S E Rd ok en lk h => ?_⟩
  refine s σ H F Z env S _ _ _ ok en (lk.thr en) (fun v H1 F1 S1 d sm1 ok1 r1 q1 => ?_) h
  have lk1 := lk.mono sm1
  have en1 := en.mono sm1
  refine so σ H1 F1 Z env S1 _ _ _ ok1 en1 (lk1.thr en1) (fun ov H2 F2 S2 od sm2 ok2 r2 q2 => ?_) q1
  have lk2 := lk1.mono sm2
  have en2 := en1.mono sm2
  refine si σ H2 F2 Z env S2 _ _ _ ok2 en2 (lk2.thr en2) (fun iv H3 F3 S3 id sm3 ok3 r3 q3 => ?_) q2
  have r1' := Rep.mono (sm2.trans sm3) _ _ r1
  have r2' := Rep.mono sm3 _ _ r2
  split at q3
  · split at q3
    · rename_i hp
      split at q3
      · rename_i j hj
        cases (show ov = _ from r2'); cases (show iv = _ from r3)
        obtain ⟨_, ho, h2, vs, rfl, h3⟩ := ok3.own _ _ hp
        refine ⟨_, vs, _, j, rfl, rfl, h2, by rw [← h3.length]; exact hj, ?_⟩
        exact (lk2.mono sm3).nx F3 σ _ env _ (Same.refl F3) (ok3.put (so := .lst _) hp ⟨_, rfl, h3.set r1' j⟩) (en2.mono sm3) q3
      · exact q3.elim
    · exact q3.elim
  · exact q3.elim

/-! ### loops -/
abbrev WI := Env → Sto → (List D → (Sto → Prop) → Sto → Prop) → EX → Prop
structure ItOk (K : PySem.W.Frag) (F0 : Hp) (J : It) (ys : List D) (G : Sto → Prop) : Prop where
  stop : ∀ F Z S H, Same F0 F → Ok K F Z S H → G S → J.stop ys.length H
  go : ∀ i F Z S H, i < ys.length → Same F0 F → Ok K F Z S H → G S → J.go i H
  yld : ∀ i F Z S H x H' d, Same F0 F → Ok K F Z S H → G S → J.yld i H x H' → ys[i]? = some d → ∃ F', Same F F' ∧ Ok K F' Z S H' ∧ Rep K F' d x
def SndI (K : PySem.W.Frag) (W : WX) (t : WI) (wi : TI) : Prop := ∀ σ H F Z env S Q Ex (R : It → Hp → Prop), Ok K F Z S H → Envs K F σ env → Thr K F Z W σ Ex → (∀ J H' F' S' ys G, Same F F' → Ok K F' Z S' H' → ItOk K F' J ys G → Q ys G S' → R J H') → t env S Q Ex → wi σ H R
def VI (C : Cmn) (R : ι → Rst) (tg iter : Expr) (t : WI) : Prop := ∀ W, ∃ wi, (∀ i, Takes (C.at (R i)) W → PI (C.at (R i)) tg iter wi) ∧ SndI C.K W t wi
@[simp] def Always : Sto → Prop := fun _ => True
def iLst (t : WE) : WI := fun env S Q E => t env S (fun d S1 => match d with
  | .lst xs => Q xs Always S1
  | .fix xs => Q xs Always S1
  | .ref p => match S1 p with
    | some (.lst xs) => Q xs (fun S => S p = some (.lst xs)) S1
    | _ => False
  | _ => False) E
@[simp ↓] theorem iLst_eq (t : WE) (env) (S) (Q) (E) : iLst t env S Q E = (t env S (fun d S1 => match d with
  | .lst xs => Q xs Always S1
  | .fix xs => Q xs Always S1
  | .ref p => match S1 p with
    | some (.lst xs) => Q xs (fun S => S p = some (.lst xs)) S1
    | _ => False
  | _ => False) E) := id rfl
def iTpl (t : WE) : WI := fun env S Q E => t env S (fun d S1 => match d with
  | .tup xs => Q xs Always S1
  | _ => False) E
@[simp ↓] theorem iTpl_eq (t : WE) (env) (S) (Q) (E) : iTpl t env S Q E = (t env S (fun d S1 => match d with
  | .tup xs => Q xs Always S1
  | _ => False) E) := id rfl
theorem it_sql {F0 : Hp} {a : Addr} {ys : List D} {G : Sto → Prop} (h : ∀ F Z S H, Same F0 F → Ok K F Z S H → G S → ∃ vs, SqL K H a vs ∧ Reps K F ys vs) : ItOk K F0 (Itl K a) ys G where
  stop := fun F Z S H sm ok g => by
    obtain ⟨vs, h1, h2⟩ := h F Z S H sm ok g
    exact ⟨vs, h1, by rw [h2.length]; exact Nat.le_refl _⟩
  go := fun i F Z S H hi sm ok g => by
    obtain ⟨vs, h1, h2⟩ := h F Z S H sm ok g
    have hv : i < vs.length := by rw [← h2.length]; exact hi
    exact ⟨vs, vs[i], h1, List.getElem?_eq_getElem hv⟩
  yld := fun i F Z S H x H' d sm ok g y e => by
    obtain ⟨vs, h1, h2⟩ := h F Z S H sm ok g
    obtain ⟨rfl, hx⟩ := y
    obtain ⟨v, h3, h4⟩ := h2.get e
    have := hx vs h1
    rw [h3] at this; cases this
    exact ⟨F, Same.refl F, ok, h4⟩
theorem vi_lst {tg l : Expr} {t : WE} (h : VE C R l t) : VI C R tg l (iLst t) := fun W => by
  obtain ⟨u, p, s⟩ := h W
  refine ⟨iList C.K u, fun i tk => pi_list (X := C.at (R i)) (p i tk), fun σ H F Z env S Q Ex Rd ok en th k h => s σ H F Z env S _ _ _ ok en th (fun v H' F' S' d sm ok' r q => ?_) h⟩
  split at q
  · obtain ⟨a, vs, rfl, h1, h2⟩ := r
    exact ⟨a, rfl, ⟨vs, SqL.of (ok'.fro _ _ h1)⟩, k _ _ _ _ _ _ sm ok' (it_sql fun F2 Z2 S2 H2 sm2 ok2 _ => ⟨vs, SqL.of (ok2.fro _ _ (sm2 _ _ h1)), Reps.mono sm2 _ _ h2⟩) q⟩
  · obtain ⟨a, vs, rfl, h1, h2⟩ := r
    exact ⟨a, rfl, ⟨vs, ok'.fro.seq h1⟩, k _ _ _ _ _ _ sm ok' (it_sql fun F2 Z2 S2 H2 sm2 ok2 _ => ⟨vs, ok2.fro.seq (sm2.seq h1), Reps.mono sm2 _ _ h2⟩) q⟩
  · split at q
    · rename_i hp
      cases (show v = _ from r)
      obtain ⟨_, ho, h1, vs, rfl, h2⟩ := ok'.own _ _ hp
      refine ⟨_, rfl, ⟨vs, SqL.of h1⟩, k _ _ _ _ _ _ sm ok' (it_sql fun F2 Z2 S2 H2 sm2 ok2 g => ?_) q⟩
      obtain ⟨_, ho, h3, vs3, rfl, h4⟩ := ok2.own _ _ g
      exact ⟨vs3, SqL.of h3, h4⟩
    · exact q.elim
  · exact q.elim
theorem vi_tpl {tg l : Expr} {t : WE} (h : VE C R l t) : VI C R tg l (iTpl t) := fun W => by
  obtain ⟨u, p, s⟩ := h W
  refine ⟨iTup C.K u, fun i tk => pi_tup (X := C.at (R i)) (p i tk), fun σ H F Z env S Q Ex Rd ok en th k h => s σ H F Z env S _ _ _ ok en th (fun v H' F' S' d sm ok' r q => ?_) h⟩
  split at q
  · obtain ⟨a, vs, rfl, h1, h2⟩ := r
    have hq : ∀ F2 Z2 S2 H2, Same F' F2 → Ok C.K F2 Z2 S2 H2 → SqT C.K H2 a vs := fun F2 Z2 S2 H2 sm2 ok2 => same_sqt (sm2.trans ok2.fro) h1.sq
    refine ⟨a, rfl, ⟨vs, same_sqt ok'.fro h1.sq⟩, k _ _ _ _ _ _ sm ok' ⟨fun F2 Z2 S2 H2 sm2 ok2 _ => ⟨vs, hq _ _ _ _ sm2 ok2, by rw [h2.length]; exact Nat.le_refl _⟩, fun i F2 Z2 S2 H2 hi sm2 ok2 _ => ?_, fun i F2 Z2 S2 H2 x H3 d sm2 ok2 _ y e => ?_⟩ q⟩
    · have hv : i < vs.length := by rw [← h2.length]; exact hi
      exact ⟨vs, vs[i], hq _ _ _ _ sm2 ok2, List.getElem?_eq_getElem hv⟩
    · obtain ⟨rfl, hx⟩ := y
      obtain ⟨v, h3, h4⟩ := h2.get e
      have := hx vs (hq _ _ _ _ sm2 ok2)
      rw [h3] at this; cases this
      exact ⟨F2, Same.refl F2, ok2, Rep.mono sm2 _ _ h4⟩
  · exact q.elim
def rngD (lo : Int) (n : Nat) : List D := (List.range n).map fun (i : Nat) => D.int (lo + (i : Int))
theorem it_rng {F0 : Hp} {lo : Int} {n : Nat} {G : Sto → Prop} : ItOk K F0 (Itr lo n) (rngD lo n) G where
  stop := fun F Z S H sm ok g => by
    show n ≤ (rngD lo n).length
    unfold rngD; rw [List.length_map, List.length_range]; exact Nat.le_refl _
  go := fun i F Z S H hi sm ok g => by
    unfold rngD at hi; rw [List.length_map, List.length_range] at hi
    exact hi
  yld := fun i F Z S H x H' d sm ok g y e => by
    obtain ⟨rfl, hx⟩ := y
    refine ⟨F, Same.refl F, ok, ?_⟩
    unfold rngD at e
    rw [List.getElem?_map] at e
    cases q : (List.range n)[i]? with
    | none => rw [q] at e; cases e
    | some j =>
      rw [q] at e
      obtain ⟨_, hj⟩ := List.getElem?_eq_some_iff.mp q
      rw [List.getElem_range] at hj
      subst hj
      cases e
      exact hx
def iRg1 (t : WA) : WI := fun env S Q E => t env S (fun ds S1 => match ds with
  | [.int j] => (-(2 ^ 62) ≤ j ∧ j < 2 ^ 62) ∧ Q (rngD 0 j.toNat) Always S1
  | _ => False) E
@[simp ↓] theorem iRg1_eq (t : WA) (env) (S) (Q) (E) : iRg1 t env S Q E = (t env S (fun ds S1 => match ds with
  | [.int j] => (-(2 ^ 62) ≤ j ∧ j < 2 ^ 62) ∧ Q (rngD 0 j.toNat) Always S1
  | _ => False) E) := id rfl
def iRg2 (t : WA) : WI := fun env S Q E => t env S (fun ds S1 => match ds with
  | [.int i, .int j] => (-(2 ^ 62) ≤ i ∧ i < 2 ^ 62 ∧ -(2 ^ 62) ≤ j ∧ j < 2 ^ 62) ∧ Q (rngD i (j - i).toNat) Always S1
  | _ => False) E
@[simp ↓] theorem iRg2_eq (t : WA) (env) (S) (Q) (E) : iRg2 t env S Q E = (t env S (fun ds S1 => match ds with
  | [.int i, .int j] => (-(2 ^ 62) ≤ i ∧ i < 2 ^ 62 ∧ -(2 ^ 62) ≤ j ∧ j < 2 ^ 62) ∧ Q (rngD i (j - i).toNat) Always S1
  | _ => False) E) := id rfl
theorem vi_rg1 {tg a : Expr} {t : WA} {p pos : Pos} (hm : C.mg "range" = none) (ha : VA C R [a] t) (hg : ∀ i, Gl (C.at (R i)) "range" := by exact fun _ => rfl) (hs : ∀ i, starEach [a] (R i).env = [(false, eval a (R i).env)] := by exact fun _ => rfl) :
    VI C R tg (.Call (.Name "range" p) [a] [] pos) (iRg1 t) := fun W => by
  obtain ⟨u, pu, s⟩ := ha W
  refine ⟨iRng1 u, fun i tk => pi_range1 (X := C.at (R i)) (hg i) hm (pu i tk) (hs i), fun σ H F Z env S Q Ex Rd ok en th k h => s σ H F Z env S _ _ _ ok en th (fun v H' F' S' d sm ok' r q => ?_) h⟩
  split at q
  · obtain ⟨v, rfl, h1⟩ := reps1 r
    cases (show v = _ from h1)
    exact ⟨_, rfl, q.1.1, q.1.2, k _ _ _ _ _ _ sm ok' it_rng q.2⟩
  · exact q.elim
theorem vi_rg2 {tg a b : Expr} {t : WA} {p pos : Pos} (hm : C.mg "range" = none) (ha : VA C R [a, b] t) (hg : ∀ i, Gl (C.at (R i)) "range" := by exact fun _ => rfl) (hs : ∀ i, starEach [a, b] (R i).env = [(false, eval a (R i).env), (false, eval b (R i).env)] := by exact fun _ => rfl)
    (hs2 : ∀ i, starEach [b] (R i).env = [(false, eval b (R i).env)] := by exact fun _ => rfl) : VI C R tg (.Call (.Name "range" p) [a, b] [] pos) (iRg2 t) := fun W => by
  obtain ⟨u, pu, s⟩ := ha W
  refine ⟨iRng2 u, fun i tk => pi_range2 (X := C.at (R i)) (hg i) hm (pu i tk) (hs i) (hs2 i), fun σ H F Z env S Q Ex Rd ok en th k h => s σ H F Z env S _ _ _ ok en th (fun v H' F' S' d sm ok' r q => ?_) h⟩
  split at q
  · obtain ⟨v, w, rfl, h1, h2⟩ := reps2 r
    cases (show v = _ from h1); cases (show w = _ from h2)
    exact ⟨_, _, rfl, q.1, k _ _ _ _ _ _ sm ok' it_rng q.2⟩
  · exact q.elim
/-- the turns of a for over ys; G: what is walked stands still -/
def forW (g : WG) (b : WS) (E : VEnds) (G : Sto → Prop) : List D → Env → Sto → Prop
  | [], env, S => G S ∧ E.nx env S
  | y :: r, env, S => G S ∧ g y env S (fun e1 S1 => b { E with nx := forW g b E G r, ct := forW g b E G r, bk := E.nx } e1 S1)
/-- .. kept as a whole -/
def ForC (g : WG) (b : WS) (E : VEnds) (G : Sto → Prop) (ys : List D) (env : Env) (S : Sto) (_ : Hold (g, b, E, G)) : Prop := forW g b E G ys env S
def vFor (wi : WI) (g : WG) (b : WS) : WS := fun E env S => wi env S (fun ys G S1 => ForC g b E G ys env S1 .mk) (E.ex env)
@[simp ↓] theorem vFor_eq (wi : WI) (g : WG) (b : WS) (E) (env) (S) : vFor wi g b E env S = (wi env S (fun ys G S1 => ForC g b E G ys env S1 .mk) (E.ex env)) := id rfl
theorem vs_for {tg iter : Expr} {body : List Stmt} {wi : WI} {g : WG} {b : WS} {pos : Pos} (hi : VI C R tg iter wi) (hg : VG C R tg g) (hb : VSs C R body b) (hc : ∀ i, (R i).calm = true := by exact fun _ => rfl)
    (hs : ∀ i x, foldedSetIterable iter (R i).env x = pure x := by exact fun _ _ => rfl) : VS C R (.For tg iter body [] pos) (vFor wi g b) := fun W => by
  obtain ⟨ui, pi, si⟩ := hi W
  obtain ⟨ug, pg, sg⟩ := hg
  obtain ⟨ub, pb, sb⟩ := hb W
  refine ⟨tFor ui ug ub, fun i tk => ps_for (X := C.at (R i)) tk.ps (hc i) (pi i tk.tk) (pg i) (pb i tk) (hs i), fun σ H F Z env S E Rd ok en lk h => si σ H F Z env S _ _ _ ok en (lk.thr en) (fun J H1 F1 S1 ys G sm1 ok1 it q1 => ?_) h⟩
  refine ⟨fun i m σ' H' => m = ys.length - i ∧ i ≤ ys.length ∧ ∃ F2 env2 S2, Same F1 F2 ∧ Ok C.K F2 Z S2 H' ∧ Envs C.K F2 σ' env2 ∧ forW g b E G (ys.drop i) env2 S2, ⟨_, rfl, Nat.zero_le _, F1, env, S1, Same.refl F1, ok1, en.mono sm1, by rw [List.drop_zero]; exact q1⟩, ?_⟩
  rintro i m σ2 H2 ⟨rfl, hi, F2, env2, S2, sm2, ok2, en2, q2⟩
  by_cases hl : i < ys.length
  · rw [List.drop_eq_getElem_cons hl] at q2
    obtain ⟨hG, q2⟩ := q2
    refine .inr ⟨it.go i F2 Z S2 H2 hl sm2 ok2 hG, fun σ' H' => ∃ F3 env3 S3, Same F1 F3 ∧ Ok C.K F3 Z S3 H' ∧ Envs C.K F3 σ' env3 ∧ forW g b E G (ys.drop (i + 1)) env3 S3, fun σ' H' n => ⟨ys.length - (i + 1), by omega, rfl, hl, n⟩, fun x H3 y => ?_⟩
    obtain ⟨F3, sm3, ok3, r3⟩ := it.yld i F2 Z S2 H2 x H3 _ sm2 ok2 hG y (List.getElem?_eq_getElem hl)
    refine sg σ2 H3 F3 Z env2 S2 x _ _ _ ok3 (en2.mono sm3) r3 (fun F4 σ4 H4 env4 S4 sm4 ok4 en4 q4 => ?_) q2
    have sm14 : Same F1 F4 := sm2.trans (sm3.trans sm4)
    have lk4 := lk.mono (sm1.trans sm14)
    refine sb σ4 H4 F4 Z env4 S4 { E with nx := forW g b E G (ys.drop (i + 1)), ct := forW g b E G (ys.drop (i + 1)), bk := E.nx } _ ok4 en4 ⟨?_, lk4.rt, lk4.nx, ?_, lk4.ex⟩ q4
    · exact fun F5 σ5 H5 env5 S5 sm5 ok5 en5 q5 => ⟨F5, env5, S5, sm14.trans sm5, ok5, en5, q5⟩
    · exact fun F5 σ5 H5 env5 S5 sm5 ok5 en5 q5 => ⟨F5, env5, S5, sm14.trans sm5, ok5, en5, q5⟩
  · have e : i = ys.length := by omega
    subst e
    rw [List.drop_length] at q2
    exact .inl ⟨it.stop F2 Z S2 H2 sm2 ok2 q2.1, (lk.mono (sm1.trans sm2)).nx F2 σ2 H2 env2 S2 (Same.refl F2) ok2 en2 q2.2⟩
/-- the turns of a while, at most n -/
def whW (c : WT) (b : WS) (E : VEnds) : Nat → Env → Sto → Prop
  | 0, _, _ => False
  | n + 1, env, S => c env S (fun t S1 => if t = true then b { E with nx := whW c b E n, ct := whW c b E n, bk := E.nx } env S1 else E.nx env S1) (E.ex env)
def vWhile (c : WT) (b : WS) : WS := fun E env S => ∃ n, whW c b E n env S
@[simp ↓] theorem vWhile_eq (c : WT) (b : WS) (E) (env) (S) : vWhile c b E env S = (∃ n, whW c b E n env S) := id rfl
theorem vs_while {c : Expr} {body : List Stmt} {tc : WT} {b : WS} {pos : Pos} (hc : VT C R c tc) (hb : VSs C R body b) : VS C R (.While c body [] pos) (vWhile tc b) := fun W => by
  obtain ⟨uc, pc, sc⟩ := hc W
  obtain ⟨ub, pb, sb⟩ := hb W
  refine ⟨tWhile uc ub, fun i tk => ps_while (X := C.at (R i)) tk.ps (pc i tk.tk) (pb i tk), fun σ H F Z env S E Rd ok en lk h => ?_⟩
  obtain ⟨n, h⟩ := h
  refine ⟨fun m σ' H' => ∃ F2 env2 S2, Same F F2 ∧ Ok C.K F2 Z S2 H' ∧ Envs C.K F2 σ' env2 ∧ whW tc b E m env2 S2, ⟨n, F, env, S, Same.refl F, ok, en, h⟩, ?_⟩
  rintro m σ2 H2 ⟨F2, env2, S2, sm2, ok2, en2, q2⟩
  cases m with
  | zero => exact q2.elim
  | succ m =>
    have lk2 := lk.mono sm2
    refine sc σ2 H2 F2 Z env2 S2 _ _ _ ok2 en2 (lk2.thr en2) (fun t H3 F3 S3 sm3 ok3 q3 => ?_) q2
    have en3 := en2.mono sm3
    have lk3 := lk2.mono sm3
    cases t with
    | false => exact lk3.nx F3 σ2 H3 env2 S3 (Same.refl F3) ok3 en3 q3
    | true =>
      refine ⟨fun σ' H' => ∃ F4 env4 S4, Same F F4 ∧ Ok C.K F4 Z S4 H' ∧ Envs C.K F4 σ' env4 ∧ whW tc b E m env4 S4, fun σ' H' n => ⟨m, Nat.lt_succ_self m, n⟩, ?_⟩
      refine sb σ2 H3 F3 Z env2 S3 { E with nx := whW tc b E m, ct := whW tc b E m, bk := E.nx } _ ok3 en3 ⟨?_, lk3.rt, lk3.nx, ?_, lk3.ex⟩ q3
      · exact fun F5 σ5 H5 env5 S5 sm5 ok5 en5 q5 => ⟨F5, env5, S5, (sm2.trans sm3).trans sm5, ok5, en5, q5⟩
      · exact fun F5 σ5 H5 env5 S5 sm5 ok5 en5 q5 => ⟨F5, env5, S5, (sm2.trans sm3).trans sm5, ok5, en5, q5⟩
end
end L3

set_option Elab.async false
set_option linter.all false
set_option maxRecDepth 100000
set_option maxHeartbeats 4000000
/-! The value layer: comprehensions, methods of lists, calls of defs, defs. -/
namespace L3
open PySem PySem.Spec PyProof.Rows L2

section
variable {K : PySem.W.Frag} {F Z : Hp} {S : Sto} {H : Hp} {p : Addr}
/-- a new object, set aside -/
theorem Ok.newAside (ok : Ok K F Z S H) (hp : H p = none) (o : HO) : Ok K F (upd Z p o) S (upd H p o) := by
  refine ⟨fun b u q => ?_, fun a s e => ?_, fun a u e => ?_⟩
  · rw [upd_ne (ne_of_none (ok.fro _ _ q) hp)]; exact ok.fro _ _ q
  · obtain ⟨h1, h, h2, h3⟩ := ok.own a s e
    exact ⟨h1, h, by rw [upd_ne (ne_of_none h2 hp)]; exact h2, h3⟩
  · by_cases ha : a = p
    · subst ha; rw [upd_same] at e; cases e
      exact ⟨ok.newF hp, ok.newS hp, upd_same⟩
    · rw [upd_ne ha] at e ⊢; exact ok.zed a u e
/-- what is aside is written -/
theorem Ok.putAside {o0 : HO} (ok : Ok K F (upd Z p o0) S H) (o : HO) : Ok K F (upd Z p o) S (upd H p o) := by
  obtain ⟨z1, z2, z3⟩ := ok.zed p o0 upd_same
  refine ⟨fun b u q => ?_, fun a s e => ?_, fun a u e => ?_⟩
  · have hb : b ≠ p := fun z => by rw [z, z1] at q; cases q
    rw [upd_ne hb]; exact ok.fro _ _ q
  · have ha : a ≠ p := fun z => by rw [z, z2] at e; cases e
    obtain ⟨h1, h, h2, h3⟩ := ok.own a s e
    exact ⟨h1, h, by rw [upd_ne ha]; exact h2, h3⟩
  · by_cases ha : a = p
    · subst ha; rw [upd_same] at e; cases e
      exact ⟨z1, z2, upd_same⟩
    · rw [upd_ne ha] at e
      obtain ⟨g1, g2, g3⟩ := ok.zed a u (by rw [upd_ne ha]; exact e)
      exact ⟨g1, g2, by rw [upd_ne ha]; exact g3⟩
/-- what was aside is frozen; is given to the store -/
theorem Ok.asideF {o : HO} (ok : Ok K F (upd Z p o) S H) (hz : Z p = none) : Same F (upd F p o) ∧ Ok K (upd F p o) Z S H := by
  obtain ⟨z1, z2, z3⟩ := ok.zed p o upd_same
  have sm := same_upd z1 o
  refine ⟨sm, fun b u q => ?_, fun a s e => ?_, fun a u e => ?_⟩
  · by_cases hb : b = p
    · subst hb; rw [upd_same] at q; cases q; exact z3
    · rw [upd_ne hb] at q; exact ok.fro _ _ q
  · have ha : a ≠ p := fun z => by rw [z, z2] at e; cases e
    obtain ⟨h1, h, h2, h3⟩ := ok.own a s e
    exact ⟨by rw [upd_ne ha]; exact h1, h, h2, h3.mono sm⟩
  · have ha : a ≠ p := fun z => by rw [z, hz] at e; cases e
    obtain ⟨g1, g2, g3⟩ := ok.zed a u (by rw [upd_ne ha]; exact e)
    exact ⟨by rw [upd_ne ha]; exact g1, g2, g3⟩
theorem Ok.asideO {o : HO} {so : SO} (ok : Ok K F (upd Z p o) S H) (hz : Z p = none) (r : RepO K F so o) : Ok K F Z (sup S p so) H := by
  obtain ⟨z1, z2, z3⟩ := ok.zed p o upd_same
  refine ⟨ok.fro, fun a s e => ?_, fun a u e => ?_⟩
  · by_cases ha : a = p
    · subst ha; rw [sup_same] at e; cases e
      exact ⟨z1, o, z3, r⟩
    · rw [sup_ne ha] at e; exact ok.own a s e
  · have ha : a ≠ p := fun z => by rw [z, hz] at e; cases e
    obtain ⟨g1, g2, g3⟩ := ok.zed a u (by rw [upd_ne ha]; exact e)
    exact ⟨g1, by rw [sup_ne ha]; exact g2, g3⟩
end

section
variable {C : Cmn} {ι : Type} {R : ι → Rst} {K : PySem.W.Frag} {W : WX}
/-! ### comprehensions -/
@[simp] def NoEx : EX := fun _ _ _ => False
def W0 : WX := fun _ _ _ _ => False
theorem thr0 {F Z : Hp} {σ : L2.St} : Thr K F Z W0 σ NoEx := fun _ _ _ _ _ _ _ _ _ _ _ h => h.elim
@[simp] def wipeE (env : Env) : List Nat → Env
  | [] => env
  | v :: vs => forget (wipeE env vs) v
theorem Envs.wipe {F : Hp} {σ : L2.St} {env : Env} (h : Envs K F σ env) : ∀ vs : List Nat, Envs K F (L2.wipe σ vs) (wipeE env vs)
  | [] => h
  | v :: vs => (Envs.wipe h vs).gone v
/-- the tests of a comprehension -/
def VTs (C : Cmn) (R : ι → Rst) (ifs : List Expr) (t : WT) : Prop := ∀ W, ∃ u, (∀ i, Takes (C.at (R i)) W → PTs (C.at (R i)) ifs u) ∧ SndT C.K W t u
def vYes : WT := fun _ S Q _ => Q true S
@[simp ↓] theorem vYes_eq (z0) (S) (Q) (z1) : vYes z0 S Q z1 = (Q true S) := id rfl
theorem vts_nil : VTs C R [] vYes := fun W => ⟨tYes, fun i tk => pts_nil, fun σ H F Z env S Q Ex Rd ok en th k h => k true H F S (Same.refl F) ok h⟩
theorem vts_one {c : Expr} {t : WT} (h : VT C R c t) : VTs C R [c] t := fun W => by
  obtain ⟨u, p, s⟩ := h W
  exact ⟨u, fun i tk => pts_one (p i tk), s⟩
/-- the turns of a comprehension over ys; acc: what is made so far -/
def lcW (g : WG) (tt : WT) (te : WE) (G : Sto → Prop) (env : Env) (Qd : List D → Sto → Prop) : List D → List D → Sto → Prop
  | [], acc, S => G S ∧ Qd acc S
  | y :: r, acc, S => G S ∧ g y env S (fun e1 S1 => tt e1 S1 (fun b S2 => if b = true then te e1 S2 (fun d S3 => acc.length < sizeLine ∧ lcW g tt te G env Qd r (acc ++ [d]) S3) NoEx else lcW g tt te G env Qd r acc S2) NoEx)
/-- .. kept as a whole -/
def LcC (g : WG) (tt : WT) (te : WE) (G : Sto → Prop) (env : Env) (Qd : List D → Sto → Prop) (ys acc : List D) (S : Sto) (_ : Hold (g, tt, te, G, env, Qd)) : Prop := lcW g tt te G env Qd ys acc S
/-- frozen at once; for the store -/
def vLcF (wi : WI) (g : WG) (tt : WT) (te : WE) (vs : List Nat) : WE := fun env S Q E => wi env S (fun ys G S1 => LcC g tt te G (wipeE env vs) (fun acc S2 => Q (.lst acc) S2) ys [] S1 .mk) E
@[simp ↓] theorem vLcF_eq (wi : WI) (g : WG) (tt : WT) (te : WE) (vs : List Nat) (env) (S) (Q) (E) : vLcF wi g tt te vs env S Q E = (wi env S (fun ys G S1 => LcC g tt te G (wipeE env vs) (fun acc S2 => Q (.lst acc) S2) ys [] S1 .mk) E) := id rfl
def vLcO (wi : WI) (g : WG) (tt : WT) (te : WE) (vs : List Nat) : WE := fun env S Q E => wi env S (fun ys G S1 => LcC g tt te G (wipeE env vs) (fun acc S2 => ∀ p, S2 p = none → Q (.ref p) (sup S2 p (.lst acc))) ys [] S1 .mk) E
@[simp ↓] theorem vLcO_eq (wi : WI) (g : WG) (tt : WT) (te : WE) (vs : List Nat) (env) (S) (Q) (E) : vLcO wi g tt te vs env S Q E = (wi env S (fun ys G S1 => LcC g tt te G (wipeE env vs) (fun acc S2 => ∀ p, S2 p = none → Q (.ref p) (sup S2 p (.lst acc))) ys [] S1 .mk) E) := id rfl
/-- the context of a comprehension's block -/
abbrev Rst.blk (r : Rst) (s : Shared) (H : Hp) (scope : Scope) (cenv : PySem.Env) (fp : List Addr) : Rst :=
  { r with s_0 := s, H_0 := H, env := cenv, outer := r.stack, ex := fp, fn := fun x => scope.names.lookup x == some .cell, pn := [], xe := fun _ _ => False }
structure BIx where
  s : Shared
  H : Hp
  c : Addr
  cl : List (Str × Addr)
  fp : List Addr
/-- the contexts of the block -/
abbrev Blk (R : ι → Rst) (scope : Scope) : ι × BIx → Rst := fun j => (R j.1).blk j.2.s j.2.H scope (compEnvC scope j.2.cl j.2.c (R j.1).env) j.2.fp
theorem snd_lc {Wa : WX} {wi : WI} {g : WG} {tt : WT} {te : WE} {vs : List Nat} {ui : TI} {ug : TG} {ut : TT} {ue : TE} (si : SndI K Wa wi ui) (sg : SndG K g ug) (og : OnlyG ug vs) (st : SndT K W0 tt ut) (se : SndE K W0 te ue)
    {σ : L2.St} {H : Hp} {F Z : Hp} {env : Env} {S : Sto} {Qd : List D → Sto → Prop} {Ex : EX} {Rd : VK} (ok : Ok K F Z S H) (en : Envs K F σ env) (th : Thr K F Z Wa σ Ex)
    (k : ∀ F' S' H' D0 acc vacc, Same F F' → Z D0 = none → Ok K F' (upd Z D0 (.lst vacc)) S' H' → Reps K F' acc vacc → Qd acc S' → Rd (.ref D0) H')
    (h : wi env S (fun ys G S1 => lcW g tt te G (wipeE env vs) Qd ys [] S1) Ex) : tLc ui ug ut ue vs σ H Rd := by
  refine si σ H F Z env S _ _ _ ok en th (fun J H1 F1 S1 ys G sm1 ok1 it q1 => ?_) h
  intro D0 hD
  have hZ := ok1.newZ hD
  refine ⟨fun i m H' => m = ys.length - i ∧ i ≤ ys.length ∧ ∃ F2 S2 acc vacc, Same F1 F2 ∧ Ok K F2 (upd Z D0 (.lst vacc)) S2 H' ∧ Reps K F2 acc vacc ∧ lcW g tt te G (wipeE env vs) Qd (ys.drop i) acc S2,
    ⟨_, rfl, Nat.zero_le _, F1, S1, [], [], Same.refl F1, ok1.newAside hD _, rfl, by rw [List.drop_zero]; exact q1⟩, ?_⟩
  rintro i m H2 ⟨rfl, hi, F2, S2, acc, vacc, sm2, ok2, ra, q2⟩
  by_cases hl : i < ys.length
  · rw [List.drop_eq_getElem_cons hl] at q2
    obtain ⟨hG, q2⟩ := q2
    refine .inr ⟨it.go i F2 _ S2 H2 hl sm2 ok2 hG, fun H' => ∃ F3 S3 acc3 vacc3, Same F1 F3 ∧ Ok K F3 (upd Z D0 (.lst vacc3)) S3 H' ∧ Reps K F3 acc3 vacc3 ∧ lcW g tt te G (wipeE env vs) Qd (ys.drop (i + 1)) acc3 S3, fun H' n => ⟨ys.length - (i + 1), by omega, rfl, hl, n⟩, fun x H3 y => ?_⟩
    obtain ⟨F3, sm3, ok3, r3⟩ := it.yld i F2 _ S2 H2 x H3 _ sm2 ok2 hG y (List.getElem?_eq_getElem hl)
    have enw : Envs K F3 (L2.wipe σ vs) (wipeE env vs) := (en.wipe vs).mono (sm1.trans (sm2.trans sm3))
    refine og _ _ _ (fun σ2 H2 => ∃ F4 env4 S4, Same F3 F4 ∧ Ok K F4 (upd Z D0 (.lst vacc)) S4 H2 ∧ Envs K F4 σ2 env4 ∧ tt env4 S4 (fun b S2 => if b = true then te env4 S2 (fun d S3 => acc.length < sizeLine ∧ lcW g tt te G (wipeE env vs) Qd (ys.drop (i + 1)) (acc ++ [d]) S3) NoEx else lcW g tt te G (wipeE env vs) Qd (ys.drop (i + 1)) acc S2) NoEx) _
      (sg _ H3 F3 _ _ S2 x _ _ _ ok3 enw r3 (fun F4 σ4 H4 env4 S4 sm4 ok4 en4 q4 => ⟨F4, env4, S4, sm4, ok4, en4, q4⟩) q2) ?_
    rintro σ4 H4 w4 ⟨F4, env4, S4, sm4, ok4, en4, q4⟩
    refine ⟨by rw [w4, wipe_wipe], ?_⟩
    refine st σ4 H4 F4 _ env4 S4 _ _ _ ok4 en4 thr0 (fun b H5 F5 S5 sm5 ok5 q5 => ?_) q4
    have sm15 : Same F1 F5 := sm2.trans (sm3.trans (sm4.trans sm5))
    have sm25 : Same F2 F5 := sm3.trans (sm4.trans sm5)
    cases b with
    | false => exact ⟨F5, S5, acc, vacc, sm15, ok5, Reps.mono sm25 _ _ ra, q5⟩
    | true =>
      refine se σ4 H5 F5 _ env4 S5 _ _ _ ok5 (en4.mono sm5) thr0 (fun v H6 F6 S6 d sm6 ok6 r6 q6 => ?_) q5
      have sm26 := sm25.trans sm6
      exact ⟨vacc, (ok6.zed D0 _ upd_same).2.2, by rw [← ra.length]; exact q6.1, F6, S6, acc ++ [d], vacc ++ [v], sm15.trans sm6, ok6.putAside _, (Reps.mono sm26 _ _ ra).append (Reps.one r6), q6.2⟩
  · have e : i = ys.length := by omega
    subst e
    rw [List.drop_length] at q2
    exact .inl ⟨it.stop F2 _ S2 H2 sm2 ok2 q2.1, k F2 S2 H2 D0 acc vacc (sm1.trans sm2) hZ ok2 ra q2.2⟩
where
  wipe_wipe {σ : L2.St} : ∀ {vs : List Nat}, L2.wipe (L2.wipe σ vs) vs = L2.wipe σ vs := fun {vs} => by
    apply List.ext_getElem?
    intro i
    by_cases hi : i ∈ vs
    · by_cases hl : i < σ.length
      · have key : ∀ (τ : L2.St), τ.length = σ.length → (L2.wipe τ vs)[i]? = some none := by
          intro τ ht
          cases q : (L2.wipe τ vs)[i]? with
          | none =>
            rw [List.getElem?_eq_none_iff, wipe_length] at q
            omega
          | some o =>
            cases o with
            | none => rfl
            | some x => exact absurd hi (wipe_some q).2
        rw [key σ rfl, key _ (wipe_length _ _)]
      · rw [List.getElem?_eq_none (by rw [wipe_length, wipe_length]; omega), List.getElem?_eq_none (by rw [wipe_length]; omega)]
    · rw [wipe_out hi]
theorem ve_lcF {elt tg iter : Expr} {ifs : List Expr} {scope : Scope} {own : List (Str × Nat)} {pos : Pos} {wi : WI} {g : WG} {tt : WT} {te : WE} (hN : ∀ i, (R i).N.Nodup) (hi : VI C R tg iter wi) (ok : ∀ i, BlkOk (R i).N (R i).env.scope scope own)
    (hg : VGo C (Blk R scope) tg g (own.map (·.2))) (ht : VTs C (Blk R scope) ifs tt) (he : VE C (Blk R scope) elt te) (hc : ∀ i, (R i).calm = true := by exact fun _ => rfl) (hs : ∀ i x, foldedSetIterable iter (R i).env x = pure x := by exact fun _ _ => rfl) :
    VE C R (.ListComp elt [⟨tg, iter, ifs, 0⟩] scope pos) (vLcF wi g tt te (own.map (·.2))) := fun W => by
  obtain ⟨ui, pi, si⟩ := hi W
  obtain ⟨ug, pg, sg, og⟩ := hg
  obtain ⟨ut, pt, st⟩ := ht W0
  obtain ⟨ue, pe, se⟩ := he W0
  refine ⟨_, fun i tk => pe_lc (X := C.at (R i)) (hc i) (hN i) (pi i tk) (ok i) (fun s H c cl fp => pg (i, ⟨s, H, c, cl, fp⟩)) (fun s H c cl fp => pt (i, ⟨s, H, c, cl, fp⟩) takes0) (fun s H c cl fp => pe (i, ⟨s, H, c, cl, fp⟩) takes0) (hs i),
    fun σ H F Z env S Q Ex Rd ok' en th k h => snd_lc si sg og st se ok' en th (fun F' S' H' D0 acc vacc sm hz ok2 ra q => ?_) h⟩
  obtain ⟨sm2, ok3⟩ := ok2.asideF hz
  exact k _ _ _ _ (.lst acc) (sm.trans sm2) ok3 ⟨D0, vacc, rfl, upd_same, Reps.mono sm2 _ _ ra⟩ q
theorem ve_lcO {elt tg iter : Expr} {ifs : List Expr} {scope : Scope} {own : List (Str × Nat)} {pos : Pos} {wi : WI} {g : WG} {tt : WT} {te : WE} (hN : ∀ i, (R i).N.Nodup) (hi : VI C R tg iter wi) (ok : ∀ i, BlkOk (R i).N (R i).env.scope scope own)
    (hg : VGo C (Blk R scope) tg g (own.map (·.2))) (ht : VTs C (Blk R scope) ifs tt) (he : VE C (Blk R scope) elt te) (hc : ∀ i, (R i).calm = true := by exact fun _ => rfl) (hs : ∀ i x, foldedSetIterable iter (R i).env x = pure x := by exact fun _ _ => rfl) :
    VE C R (.ListComp elt [⟨tg, iter, ifs, 0⟩] scope pos) (vLcO wi g tt te (own.map (·.2))) := fun W => by
  obtain ⟨ui, pi, si⟩ := hi W
  obtain ⟨ug, pg, sg, og⟩ := hg
  obtain ⟨ut, pt, st⟩ := ht W0
  obtain ⟨ue, pe, se⟩ := he W0
  refine ⟨_, fun i tk => pe_lc (X := C.at (R i)) (hc i) (hN i) (pi i tk) (ok i) (fun s H c cl fp => pg (i, ⟨s, H, c, cl, fp⟩)) (fun s H c cl fp => pt (i, ⟨s, H, c, cl, fp⟩) takes0) (fun s H c cl fp => pe (i, ⟨s, H, c, cl, fp⟩) takes0) (hs i),
    fun σ H F Z env S Q Ex Rd ok' en th k h => snd_lc si sg og st se ok' en th (fun F' S' H' D0 acc vacc sm hz ok2 ra q => ?_) h⟩
  exact k _ _ _ _ (.ref D0) sm (ok2.asideO (so := .lst acc) hz ⟨vacc, rfl, ra⟩) rfl (q D0 (ok2.zed D0 _ upd_same).2.1)
/-- y = [..], y a local that no block captures -/
theorem vs_lcF {i : Nat} {y : Str} {py : Pos} {elt tg iter : Expr} {ifs : List Expr} {scope : Scope} {own : List (Str × Nat)} {pos spos : Pos} {wi : WI} {g : WG} {tt : WT} {te : WE} (hN : ∀ i, (R i).N.Nodup) (hi : VI C R tg iter wi) (ok : ∀ i, BlkOk (R i).N (R i).env.scope scope own)
    (hg : VGo C (Blk R scope) tg g (own.map (·.2))) (ht : VTs C (Blk R scope) ifs tt) (he : VE C (Blk R scope) elt te) (ha : (scope.names.any fun (n, k) => n == y && (k == .local || k == .cell)) = false := by decide +kernel) (hl : (py.line == pos.line) = true := by rfl) (hpl : spos.line = spos.line := by rfl)
    (hc : ∀ i, (R i).calm = true := by exact fun _ => rfl) (hk : ∀ j, (R j).env.scope.kind = .function := by exact fun _ => rfl) (hy : ∀ j, (R j).N[i]? = some y := by exact fun _ => rfl) (hyl : ∀ j, (R j).env.scope.names.lookup y = some .local := by exact fun _ => rfl)
    (hs : ∀ i x, foldedSetIterable iter (R i).env x = pure x := by exact fun _ _ => rfl) : VS C R (.Assign [.Name y py] (.ListComp elt [⟨tg, iter, ifs, 0⟩] scope pos) spos) (vAsg (vLcF wi g tt te (own.map (·.2))) (gNm i)) := fun W => by
  obtain ⟨ui, pi, si⟩ := hi W
  obtain ⟨ug, pg, sg, og⟩ := hg
  obtain ⟨ut, pt, st⟩ := ht W0
  obtain ⟨ue, pe, se⟩ := he W0
  refine ⟨_, fun j tk => ps_setLc (X := C.at (R j)) (i := i) (hc j) (hN j) (hy j) (hyl j) (sw_true (hk j) (hyl j) hl ha) (pi j tk.tk) (ok j) (fun s H c cl fp => pg (j, ⟨s, H, c, cl, fp⟩)) (fun s H c cl fp => pt (j, ⟨s, H, c, cl, fp⟩) takes0) (fun s H c cl fp => pe (j, ⟨s, H, c, cl, fp⟩) takes0) (hs j),
    fun σ H F Z env S E Rd ok' en lk h => snd_lc si sg og st se ok' en (lk.thr en) (fun F' S' H' D0 acc vacc sm hz ok2 ra q => ?_) h⟩
  obtain ⟨sm2, ok3⟩ := ok2.asideF hz
  exact lk.nx _ _ _ _ _ (sm.trans sm2) ok3 ((en.mono (sm.trans sm2)).put (d := .lst acc) ⟨D0, vacc, rfl, upd_same, Reps.mono sm2 _ _ ra⟩ i) q
theorem vs_lcO {i : Nat} {y : Str} {py : Pos} {elt tg iter : Expr} {ifs : List Expr} {scope : Scope} {own : List (Str × Nat)} {pos spos : Pos} {wi : WI} {g : WG} {tt : WT} {te : WE} (hN : ∀ i, (R i).N.Nodup) (hi : VI C R tg iter wi) (ok : ∀ i, BlkOk (R i).N (R i).env.scope scope own)
    (hg : VGo C (Blk R scope) tg g (own.map (·.2))) (ht : VTs C (Blk R scope) ifs tt) (he : VE C (Blk R scope) elt te) (ha : (scope.names.any fun (n, k) => n == y && (k == .local || k == .cell)) = false := by decide +kernel) (hl : (py.line == pos.line) = true := by rfl) (hpl : spos.line = spos.line := by rfl)
    (hc : ∀ i, (R i).calm = true := by exact fun _ => rfl) (hk : ∀ j, (R j).env.scope.kind = .function := by exact fun _ => rfl) (hy : ∀ j, (R j).N[i]? = some y := by exact fun _ => rfl) (hyl : ∀ j, (R j).env.scope.names.lookup y = some .local := by exact fun _ => rfl)
    (hs : ∀ i x, foldedSetIterable iter (R i).env x = pure x := by exact fun _ _ => rfl) : VS C R (.Assign [.Name y py] (.ListComp elt [⟨tg, iter, ifs, 0⟩] scope pos) spos) (vAsg (vLcO wi g tt te (own.map (·.2))) (gNm i)) := fun W => by
  obtain ⟨ui, pi, si⟩ := hi W
  obtain ⟨ug, pg, sg, og⟩ := hg
  obtain ⟨ut, pt, st⟩ := ht W0
  obtain ⟨ue, pe, se⟩ := he W0
  refine ⟨_, fun j tk => ps_setLc (X := C.at (R j)) (i := i) (hc j) (hN j) (hy j) (hyl j) (sw_true (hk j) (hyl j) hl ha) (pi j tk.tk) (ok j) (fun s H c cl fp => pg (j, ⟨s, H, c, cl, fp⟩)) (fun s H c cl fp => pt (j, ⟨s, H, c, cl, fp⟩) takes0) (fun s H c cl fp => pe (j, ⟨s, H, c, cl, fp⟩) takes0) (hs j),
    fun σ H F Z env S E Rd ok' en lk h => snd_lc si sg og st se ok' en (lk.thr en) (fun F' S' H' D0 acc vacc sm hz ok2 ra q => ?_) h⟩
  exact lk.nx _ _ _ _ _ sm (ok2.asideO (so := .lst acc) hz ⟨vacc, rfl, ra⟩) ((en.mono sm).put (d := .ref D0) rfl i) (q D0 (ok2.zed D0 _ upd_same).2.1)

/-! ### methods of lists of the store -/
abbrev RMV := D → List D → Sto → VQ → Prop
def MtV (C : Cmn) (R : ι → Rst) (id : String) (r : RMV) : Prop := ∃ u, (∀ i, MtR (C.at (R i)) id u) ∧ ∀ F Z S H x xs d ds Q Rd, Ok C.K F Z S H → Rep C.K F d x → Reps C.K F ds xs → KQ C.K F Z Q Rd → r d ds S Q → u x xs H Rd
/-- the receiver: a list of the store (it is one when it is looked up, ahead of the arguments) -/
def vMt (r : RMV) (to : WE) (t : WA) : WE := fun env S Q E => to env S (fun o S1 => (∃ p xs, o = .ref p ∧ S1 p = some (.lst xs)) ∧ t env S1 (fun ds S2 => r o ds S2 Q) E) E
@[simp ↓] theorem vMt_eq (r : RMV) (to : WE) (t : WA) (env) (S) (Q) (E) : vMt r to t env S Q E = (to env S (fun o S1 => (∃ p xs, o = .ref p ∧ S1 p = some (.lst xs)) ∧ t env S1 (fun ds S2 => r o ds S2 Q) E) E) := id rfl
theorem ve_mt {o e : Expr} {es : List Expr} {to : WE} {t : WA} {name : Str} {apos cpos : Pos} {id : String} {r : RMV} (slot : Slot "list" name id) (hty : typeOf (.builtin id) = pure (.type "method_descriptor")) (hm : MtV C R id r) (ho : VE C R o to) (ha : VA C R (e :: es) t)
    (hbase : ∀ i, attributeBase o name (R i).env (eval o (R i).env) = eval o (R i).env := by exact fun _ => rfl)
    (hfew : ∀ i, ((backTo cpos (starEach (e :: es) (R i).env)).all (fun x => !x.1) && (backToKw cpos (keywordEach [] (R i).env)).all (fun x => x.1.isSome)
      && decide ((e :: es).length + ([] : List Keyword).length + (if ([] : List Keyword).isEmpty then 0 else 1) < 30)) = true := by exact fun _ => rfl)
    (hline : (apos.endLine == cpos.line) = true := by rfl) (hs : ∀ i, starEach (e :: es) (R i).env = (false, eval e (R i).env) :: starEach es (R i).env := by exact fun _ => rfl) (hplain : ∀ i, (backTo cpos (starEach es (R i).env)).any (·.1) = false := by exact fun _ => rfl) :
    VE C R (.Call (.Attribute o name apos) (e :: es) [] cpos) (vMt r to t) := fun W => by
  obtain ⟨uo, po, so⟩ := ho W
  obtain ⟨ua, pa, sa⟩ := ha W
  obtain ⟨u, hu, su⟩ := hm
  refine ⟨tBM C.K "list" u uo ua, fun i tk => pe_bm (X := C.at (R i)) PySem.F.plainAttrs_list slot hty (hu i) (po i tk) (pa i tk) (hbase i) (hfew i) hline (hs i) (hplain i), fun σ H F Z env S Q Ex Rd ok en th k h => ?_⟩
  refine so σ H F Z env S _ _ _ ok en th (fun v H1 F1 S1 d sm1 ok1 r1 q1 => ?_) h
  obtain ⟨⟨p, xs, rfl, hp⟩, q1⟩ := q1
  cases (show v = _ from r1)
  obtain ⟨_, ho, h2, vs, rfl, h3⟩ := ok1.own _ _ hp
  refine ⟨.inl ⟨rfl, vs, SqL.of h2⟩, sa σ H1 F1 Z env S1 _ _ _ ok1 (en.mono sm1) (th.mono sm1) (fun ws H2 F2 S2 ds sm2 ok2 r2 q2 => ?_) q1⟩
  exact su F2 Z S2 H2 _ ws (.ref p) ds _ _ ok2 rfl r2 (k.mono (sm1.trans sm2)) q2
theorem ve_mt0 {o : Expr} {to : WE} {name : Str} {apos cpos : Pos} {id : String} {r : RMV} (slot : Slot "list" name id) (hty : typeOf (.builtin id) = pure (.type "method_descriptor")) (hm : MtV C R id r) (ho : VE C R o to)
    (hbase : ∀ i, attributeBase o name (R i).env (eval o (R i).env) = eval o (R i).env := by exact fun _ => rfl) (hline : (apos.endLine == cpos.line) = true := by rfl) :
    VE C R (.Call (.Attribute o name apos) [] [] cpos) (vMt r to vNil) := fun W => by
  obtain ⟨uo, po, so⟩ := ho W
  obtain ⟨u, hu, su⟩ := hm
  refine ⟨tBM0 C.K "list" u uo, fun i tk => pe_bm0 (X := C.at (R i)) PySem.F.plainAttrs_list slot hty (hu i) (po i tk) (hbase i) hline, fun σ H F Z env S Q Ex Rd ok en th k h => ?_⟩
  refine so σ H F Z env S _ _ _ ok en th (fun v H1 F1 S1 d sm1 ok1 r1 q1 => ?_) h
  obtain ⟨⟨p, xs, rfl, hp⟩, q1⟩ := q1
  cases (show v = _ from r1)
  obtain ⟨_, ho, h2, vs, rfl, h3⟩ := ok1.own _ _ hp
  exact ⟨.inl ⟨rfl, vs, SqL.of h2⟩, su F1 Z S1 H1 _ [] (.ref p) [] _ _ ok1 rfl rfl (k.mono sm1) q1⟩
def rAppend : RMV := fun x ds S Q => match x, ds with
  | .ref p, [y] => match S p with
    | some (.lst xs) => xs.length < sizeLine ∧ Q .non (sup S p (.lst (xs ++ [y])))
    | _ => False
  | _, _ => False
@[simp ↓] theorem rAppend_eq (x) (ds) (S) (Q) : rAppend x ds S Q = (match x, ds with
  | .ref p, [y] => match S p with
    | some (.lst xs) => xs.length < sizeLine ∧ Q .non (sup S p (.lst (xs ++ [y])))
    | _ => False
  | _, _ => False) := id rfl
theorem mv_append : MtV C R "list.append" rAppend := by
  refine ⟨L2.rAppend, fun i => mt_append, fun F Z S H x xs d ds Q Rd ok rx rs k h => ?_⟩
  unfold rAppend at h
  split at h
  · split at h
    · rename_i hp
      cases (show x = _ from rx)
      obtain ⟨v, rfl, r1⟩ := reps1 rs
      obtain ⟨_, ho, h2, vs, rfl, h3⟩ := ok.own _ _ hp
      exact ⟨_, vs, v, rfl, rfl, h2, by rw [← h3.length]; exact h.1, k _ _ _ _ .non (Same.refl F) (ok.put (so := .lst _) hp ⟨_, rfl, h3.append (Reps.one r1)⟩) rfl h.2⟩
    · exact h.elim
  · exact h.elim
/-- xs.extend(ys), ys a frozen list (or another one of the store) -/
def rExtend : RMV := fun x ds S Q => match x, ds with
  | .ref p, [.lst ys] => match S p with
    | some (.lst xs) => xs.length + ys.length ≤ sizeLine ∧ Q .non (sup S p (.lst (xs ++ ys)))
    | _ => False
  | .ref p, [.ref q] => match S p, S q with
    | some (.lst xs), some (.lst ys) => xs.length + ys.length ≤ sizeLine ∧ Q .non (sup S p (.lst (xs ++ ys)))
    | _, _ => False
  | _, _ => False
@[simp ↓] theorem rExtend_eq (x) (ds) (S) (Q) : rExtend x ds S Q = (match x, ds with
  | .ref p, [.lst ys] => match S p with
    | some (.lst xs) => xs.length + ys.length ≤ sizeLine ∧ Q .non (sup S p (.lst (xs ++ ys)))
    | _ => False
  | .ref p, [.ref q] => match S p, S q with
    | some (.lst xs), some (.lst ys) => xs.length + ys.length ≤ sizeLine ∧ Q .non (sup S p (.lst (xs ++ ys)))
    | _, _ => False
  | _, _ => False) := id rfl
theorem mv_extend : MtV C R "list.extend" rExtend := by
  refine ⟨L2.rExtend, fun i => mt_extend, fun F Z S H x xs d ds Q Rd ok rx rs k h => ?_⟩
  unfold rExtend at h
  split at h
  · split at h
    · rename_i hp
      cases (show x = _ from rx)
      obtain ⟨v, rfl, a, ws, rfl, g1, g2⟩ := reps1 rs
      obtain ⟨_, ho, h2, vs, rfl, h3⟩ := ok.own _ _ hp
      exact ⟨_, a, vs, ws, rfl, rfl, h2, ok.fro _ _ g1, by rw [← h3.length, ← g2.length]; exact h.1, k _ _ _ _ .non (Same.refl F) (ok.put (so := .lst _) hp ⟨_, rfl, h3.append g2⟩) rfl h.2⟩
    · exact h.elim
  · split at h
    · rename_i hp hq
      cases (show x = _ from rx)
      obtain ⟨v, rfl, rv⟩ := reps1 rs
      cases (show v = _ from rv)
      obtain ⟨_, ho, h2, vs, rfl, h3⟩ := ok.own _ _ hp
      obtain ⟨_, ho, g1, ws, rfl, g2⟩ := ok.own _ _ hq
      exact ⟨_, _, vs, ws, rfl, rfl, h2, g1, by rw [← h3.length, ← g2.length]; exact h.1, k _ _ _ _ .non (Same.refl F) (ok.put (so := .lst _) hp ⟨_, rfl, h3.append g2⟩) rfl h.2⟩
    · exact h.elim
  · exact h.elim
def rInsert : RMV := fun x ds S Q => match x, ds with
  | .ref p, [.int i, y] => match S p with
    | some (.lst xs) => (xs.length < sizeLine ∧ 0 ≤ i ∧ i < 2 ^ 63) ∧ Q .non (sup S p (.lst (xs.take i.toNat ++ [y] ++ xs.drop i.toNat)))
    | _ => False
  | _, _ => False
@[simp ↓] theorem rInsert_eq (x) (ds) (S) (Q) : rInsert x ds S Q = (match x, ds with
  | .ref p, [.int i, y] => match S p with
    | some (.lst xs) => (xs.length < sizeLine ∧ 0 ≤ i ∧ i < 2 ^ 63) ∧ Q .non (sup S p (.lst (xs.take i.toNat ++ [y] ++ xs.drop i.toNat)))
    | _ => False
  | _, _ => False) := id rfl
theorem mv_insert : MtV C R "list.insert" rInsert := by
  refine ⟨_, fun i => mt_insert, fun F Z S H x xs d ds Q Rd ok rx rs k h => ?_⟩
  unfold rInsert at h
  split at h
  · split at h
    · rename_i hp
      cases (show x = _ from rx)
      obtain ⟨v, w, rfl, r1, r2⟩ := reps2 rs
      cases (show v = _ from r1)
      obtain ⟨_, ho, h2, vs, rfl, h3⟩ := ok.own _ _ hp
      exact ⟨_, vs, _, w, rfl, rfl, h2, by rw [← h3.length]; exact h.1.1, h.1.2.1, h.1.2.2, k _ _ _ _ .non (Same.refl F) (ok.put (so := .lst _) hp ⟨_, rfl, ((h3.take _).append (Reps.one r2)).append (h3.drop _)⟩) rfl h.2⟩
    · exact h.elim
  · exact h.elim

/-! ### defs -/
/-- a def's promise: from its arguments, the store, what follows, what is raised -/
abbrev WSp := List D → Sto → VQ → EX → Prop
def low (K : PySem.W.Frag) (p : WSp) : Sp := fun vs H Q E => ∃ F Z S ds Q0 E0, Ok K F Z S H ∧ Reps K F ds vs ∧ p ds S Q0 E0 ∧ KQ K F Z Q0 Q ∧
  ∀ Cl x S' H' F' dd v, Same F F' → Ok K F' Z S' H' → XdAt F' dd v → Rep K F' x v → E0 Cl x S' → E (.ref Cl) (some dd) H'
/-- a def is called (simp keeps off what comes after) -/
def Call (p : WSp) (ds : List D) (S : Sto) (Q : VQ) (E : EX) (_ : Hold (Q, E)) : Prop := p ds S Q E
def vCall (p : WSp) (t : WA) : WE := fun env S Q E => t env S (fun ds S1 => Call p ds S1 Q E .mk) E
@[simp ↓] theorem vCall_eq (p : WSp) (t : WA) (env) (S) (Q) (E) : vCall p t env S Q E = (t env S (fun ds S1 => Call p ds S1 Q E .mk) E) := id rfl
/-- a def stands at the name x and keeps the promise p; n calls, one in another -/
structure DefOk (C : Cmn) (n : Nat) (x : Str) (p : WSp) : Prop where
  ex : ∃ f fd ps, FnOk C.P C.w C.K C.mg C.base (L2.CX C.P C.w) n f fd ps (low C.K p) ∧ C.mg x = some (.ref f) ∧ PySem.W.keepIn C.K (.ref f) = true ∧ Binds C.K fd ps []
theorem ve_call {n : Nat} {x : Str} {sp : WSp} {e : Expr} {es : List Expr} {t : WA} {p pos : Pos} (D : DefOk C n x sp) (ha : VA C R (e :: es) t) (hr : ∀ i, Room n (R i).A) (hg : ∀ i, Gl (C.at (R i)) x := by exact fun _ => rfl) (hdb : (x == ("__debug__" : Str)) = false := by decide)
    (he : ∀ i, starEach (e :: es) (R i).env = (false, eval e (R i).env) :: starEach es (R i).env := by exact fun _ => rfl) (hpl : ∀ i, (backTo pos (starEach es (R i).env)).any (·.1) = false := by exact fun _ => rfl) :
    VE C R (.Call (.Name x p) (e :: es) [] pos) (vCall sp t) := fun W => by
  obtain ⟨f, fd, ps, F, hm, hk, hb⟩ := D.ex
  obtain ⟨u, pu, s⟩ := ha W
  refine ⟨_, fun i tk => pe_callS (X := C.at (R i)) (E := L2.WE W) F (hr i) (hg i) hm hk hb (fun σ => passAt tk σ) (pu i tk) hdb (he i) (hpl i), fun σ H F Z env S Q Ex Rd ok en th k h => ?_⟩
  exact s σ H F Z env S _ _ _ ok en th (fun vs H1 F1 S1 ds sm1 ok1 r1 q1 => ⟨F1, Z, S1, ds, Q, Ex, ok1, r1, q1, k.mono sm1, fun Cl x S' H' F' dd v sm2 ok2 r2 r3 h3 => th Cl x S' H' F' dd v (sm1.trans sm2) ok2 r2 r3 h3⟩) h
/-- the index of the contexts in which a def's body may run -/
structure DIx (k : Nat) (qual : Str) (scope : Scope) where
  f : Addr
  cd : Value
  A : Around
  outer : List PySem.Env
  s : Shared
  H : Hp
  E : XK
  room : Room k (A.deeper (envOfC qual scope s.heap.objs.size f cd))
abbrev DR (C : Cmn) (N : List Str) {k : Nat} {qual : Str} {scope : Scope} (i : DIx k qual scope) : Rst where
  A := i.A.deeper (envOfC qual scope i.s.heap.objs.size i.f i.cd)
  N := N
  s_0 := i.s
  H_0 := i.H
  env := envOfC qual scope i.s.heap.objs.size i.f i.cd
  outer := i.outer
  stack := envOfC qual scope i.s.heap.objs.size i.f i.cd :: i.outer
  ex := []
  calm := true
  fn := fun _ => true
  pn := []
  xe := fun e s' => wpAny (model C.P C.w) (i.A.deeper (envOfC qual scope i.s.heap.objs.size i.f i.cd)) (leaving (envOfC qual scope i.s.heap.objs.size i.f i.cd) e) (fun _ s'' => L2.CX C.P C.w i.outer i.H i.s i.E e s'') (fun e' s'' => L2.CX C.P C.w i.outer i.H i.s i.E e' s'') s'
/-- what a body wants at its ends -/
@[simp] def dEnds (Q : VQ) (E : EX) : VEnds := ⟨fun _ S => Q .non S, Q, fun _ _ => False, fun _ _ => False, fun _ => E⟩
theorem fn_ok {C : Cmn} {x qual : Str} {params : Arguments} {body : List Stmt} {scope : Scope} {dvs : List V} {kws : List (Str × V)} {f : Addr} {fd : FuncData} {N ps : List Str} {k : Nat} (Fd : FunD C.K x qual params body scope dvs kws f fd) (Sc : FnScope N ps scope) {sp : WSp} {t : WS}
    (len : ∀ ds S Q E, sp ds S Q E → ds.length = ps.length) (hb : VSs C (fun i : DIx k qual scope => DR C N i) body t) (h : ∀ ds S Q E, sp ds S Q E → t (dEnds Q E) (start N.length ds) S) :
    FnOk C.P C.w C.K C.mg C.base (L2.CX C.P C.w) (k + 1) f fd ps (low C.K sp) := by
  refine Fd.ok Sc (fun vs H Q E q => ?_) (fun cdv A outer s H vs Q E hr q => ?_)
  · obtain ⟨F, Z, S, ds, Q0, E0, ok, r, q, _⟩ := q
    rw [← r.length]; exact len _ _ _ _ q
  · obtain ⟨F, Z, S, ds, Q0, E0, ok, r, q, kq, kx⟩ := q
    obtain ⟨u, p, sn⟩ := hb (fun cls d _ H => E cls d H)
    refine ⟨u, p ⟨f, cdv, A, outer, s, H, E, hr⟩ ⟨takes_of rfl rfl rfl rfl, by exact PassesOwn.leaving⟩, ?_⟩
    refine sn _ H F Z _ S (dEnds Q0 E0) _ ok (Envs.start r) ⟨fun F' σ' H' env' S' sm ok' en' q' => kq .non H' F' S' .non sm ok' rfl q', kq, fun _ _ _ _ _ _ _ _ z => z.elim, fun _ _ _ _ _ _ _ _ z => z.elim, fun F' σ env sm en Cl x S' H' F2 dd v sm2 ok2 r2 r3 h3 => ?_⟩ (h ds S Q0 E0 q)
    exact kx Cl x S' H' F2 dd v (sm.trans sm2) ok2 r2 r3 h3
end
end L3

set_option Elab.async false
set_option linter.all false
set_option maxRecDepth 100000
set_option maxHeartbeats 4000000
/-! The value layer: enumerate of a tuple. -/
namespace PySem
open AutoSeq1 (wpAny_loadPart')
/-- enumerate.__new__ of one argument, a tuple: its iterator and the enumerate object are laid -/
theorem enumTup_new (a : Addr) (ys : Array Value) :
    Meets (Builtin.«enumerate.__new__» ⟨[.type "enumerate", .ref a], []⟩) (fun _ R s => s.heap.IsTuple a ys ∧
      R (.ok (.ret (.ref (s.heap.push ⟨.type "tuple_iterator", none, .fields #[.ref a, .int 0 0], #[]⟩).objs.size)))
        { s with heap := (s.heap.push ⟨.type "tuple_iterator", none, .fields #[.ref a, .int 0 0], #[]⟩).push ⟨.type "enumerate", none, .fields #[.none, .bool false, .ref s.heap.objs.size, rawInt 0, .none, .none], #[]⟩ }) :=
  Meets.of_wp fun pr wo _ _ st hst => by
    rcases st with ⟨hp, gs, dr, tk, os⟩
    rcases hst with ⟨tup, goal⟩
    have sub := sub_enumerate
    have iter : ∀ {B : Around} {Er : Value → Shared → Prop} {Qr : Value → Shared → Prop}, Qr (.ref hp.objs.size) ⟨hp.push ⟨.type "tuple_iterator", none, .fields #[.ref a, .int 0 0], #[]⟩, gs, dr, tk, os⟩ → wpAny (model pr wo) B (pyIter (.ref a)) Qr Er ⟨hp, gs, dr, tk, os⟩ := fun z => (begins_tuple a ys).iter _ _ _ _ ⟨hp, gs, dr, tk, os⟩ _ tup z
    wp_walk using iter
    apply wpAny_stack_any
    intro fr
    apply wpAny_pure
    split
    next c _ _ _ _ _ => cases (c == Value.type "enumerate") <;> (wp_walk using iter; exact ⟨_, rfl, goal⟩)
    next => wp_walk using iter; exact ⟨_, rfl, goal⟩
theorem enumTup_call {prog : Program} {w : World} {A : Around} {Er : Value → Shared → Prop} {st : Shared} {a : Addr} {ys : Array Value} {Qr : Value → Shared → Prop} (tup : st.heap.IsTuple a ys)
    (go : ∀ g : Heap, IsEnum g (st.heap.objs.size + 1) st.heap.objs.size 0 .none → g.IsTupleIter st.heap.objs.size a 0 → (∀ c u, st.heap.get? c = some u → g.get? c = some u) → Qr (.ref (st.heap.objs.size + 1)) { st with heap := g }) :
    wpAny (model prog w) A (call (.type "enumerate") [.ref a]) Qr Er st := by
  apply callType_new F.called_enumerate (by decide) (F.typeCall_enumerate_1 _) (F.newCall_enumerate_1 _) (fun o => F.args_object_init_2 o _) F.entry_enumerate_new (enumTup_new a ys)
  refine ⟨tup, ?_⟩
  have sz : (st.heap.push ⟨.type "tuple_iterator", none, .fields #[.ref a, .int 0 0], #[]⟩).objs.size = st.heap.objs.size + 1 := by rw [Heap.size_push]
  have at1 := Heap.get?_push_size (st.heap.push ⟨.type "tuple_iterator", none, .fields #[.ref a, .int 0 0], #[]⟩) (o := ⟨.type "enumerate", none, .fields #[.none, .bool false, .ref st.heap.objs.size, rawInt 0, .none, .none], #[]⟩) rfl
  have up : ∀ c u, st.heap.get? c = some u → ((st.heap.push ⟨.type "tuple_iterator", none, .fields #[.ref a, .int 0 0], #[]⟩).push ⟨.type "enumerate", none, .fields #[.none, .bool false, .ref st.heap.objs.size, rawInt 0, .none, .none], #[]⟩).get? c = some u :=
    fun c u z => Heap.get?_push_of_some _ (Heap.get?_push_of_some _ z)
  rw [sz] at at1
  show _ ∧ _
  rw [sz]
  exact ⟨⟨_, at1, rfl⟩, go _ at1 ⟨_, Heap.get?_push_of_some _ (Heap.get?_push_size _ rfl), rfl, rfl⟩ up⟩
end PySem
namespace L3
open PySem PySem.Spec PyProof.Rows L2
/-- the tuple at a, each item in a new pair with its place -/
def IteT (K : PySem.W.Frag) (a : Addr) : It where
  go := fun i G => ∃ zs z, SqT K G a zs ∧ zs[i]? = some z
  yld := fun i G v G' => ∃ T z, v = .ref T ∧ G T = none ∧ G' = upd G T (.tup [.int (i : Nat), z]) ∧ ∀ zs, SqT K G a zs → zs[i]? = some z
  stop := fun i G => ∃ zs, SqT K G a zs ∧ zs.length = i
theorem apart_cls {h : Heap} {a b : Addr} {o u : Obj} {m n : String} (ha : h.get? a = some o) (hb : h.get? b = some u) (co : o.cls = .type m) (cu : u.cls = .type n) (d : m ≠ n) : a ≠ b := by
  intro e
  rw [e, hb] at ha
  injection ha with e1
  rw [← e1, cu] at co
  injection co with e2
  exact d e2.symm
/-- where the iteration stands -/
structure EnAt (a e it : Addr) (i : Nat) (h : Heap) : Prop where
  en : ∃ old, IsEnum h e it (i : Int) old
  ti : h.IsTupleIter it a i
  ne : e ≠ it
section
variable {X : Cx} {pins : List (Addr × Obj)} {σ : L2.St} {G : Hp} {st : Shared} {a e it : Addr} {i : Nat} {zs : List V} {its : List Value}
theorem EnAt.walks (z : EnAt a e it i st.heap) (tup : st.heap.IsTuple a its.toArray) (hh : X.A.handled = none) :
    WalksT X.prog X.w X.A e (e :: [it, a]) [e, it] its.toArray.size (fun i vals => ∃ t x, its.toArray[i]? = some x ∧ vals = #[.int i t, x])
      (fun i h => (∃ old, IsEnum h e it i old) ∧ (h.IsTupleIter it a i ∧ h.IsTuple a its.toArray)) (fun i T h => (∃ x, IsEnumOut h e it ((i : Int) + 1) x T) ∧ (h.IsTupleIter it a (i + 1) ∧ h.IsTuple a its.toArray) ∧ T ≠ e ∧ T ≠ it) := by
  obtain ⟨old, h1⟩ := z.en
  obtain ⟨o2, h2, c2, _⟩ := z.ti
  obtain ⟨o3, h3, c3, _⟩ := id tup
  have h1' : st.heap.get? e = some _ := h1
  have n1 : a ≠ it := apart_cls h3 h2 c3 c2 (by decide)
  have n2 : e ≠ a := apart_cls h1' h3 rfl c3 (by decide)
  exact WalksT.enumerateD (Draws.tuple (A := X.A.in1) hh it a n1 its.toArray) e z.ne (by simp [z.ne, n2]) (by simp)
end
theorem turn_enumT {P : Program} {w : World} {K : PySem.W.Frag} {elts : List Expr} {kk : Nat} {tpos : Pos} (a e it : Addr) : Turn P w K (.Tuple elts kk tpos) (IteT K a) [e, it] e (EnAt a e it) where
  mem := List.mem_cons_self
  obj := fun i h z b hb => by
    rcases List.mem_cons.mp hb with rfl | hb
    · obtain ⟨old, h1⟩ := z.en
      exact ⟨_, h1, fun _ q => nomatch q⟩
    · obtain ⟨o, h2, _, d⟩ := z.ti
      rw [List.mem_singleton.mp hb]
      exact ⟨o, h2, fun v q => by rw [d] at q; exact nomatch q⟩
  keep := fun i h h' z k => by
    obtain ⟨old, h1⟩ := z.en
    exact ⟨⟨old, k e List.mem_cons_self _ h1⟩, z.ti.at fun o q => k it (by simp) o q, z.ne⟩
  item := by
    rintro X rfl rfl rfl calm i pins st σ G Er I fpok z ⟨zs, x, sq, hx⟩
    obtain ⟨its, vals, tup, _⟩ := I.tuple sq
    obtain ⟨u, hu, ru⟩ := vals.get hx
    have tup' : st.heap.IsTuple a its.toArray := tup
    have W := z.walks (X := X) tup' (I.ok.hd calm)
    have lt : i < its.toArray.size := by rw [List.size_toArray]; exact (List.getElem?_eq_some_iff.mp hu).1
    refine W.item i st _ _ lt ⟨z.en, z.ti, tup'⟩ fun T ws g tk hw hT gT mid keep => ⟨_, rfl, W.go elts kk tpos i T _ _ _ mid fun g' st' keep' => ?_⟩
    obtain ⟨t, y, hy, rfl⟩ := hw
    rw [List.getElem?_toArray, hu] at hy
    injection hy with hy
    subst hy
    have Tw := W.apart i T _ mid
    obtain ⟨oT, q1, q2, q3⟩ := gT
    have T' : g'.get? T = some oT := keep' T oT Tw q1
    have fresh : G T = none := I.hok.fresh hT
    have lts : ∀ b ∈ [e, it], b < st.heap.objs.size := fun b hb => by
      rcases List.mem_cons.mp hb with rfl | hb
      · obtain ⟨old, h1⟩ := z.en
        exact Heap.lt_size h1
      · obtain ⟨o, h2, _⟩ := z.ti
        rw [List.mem_singleton.mp hb]
        exact Heap.lt_size h2
    have J : Inv X pins σ (upd G T (.tup [.int (i : Nat), x])) { st with heap := g', toks := tk } :=
      I.turnedNew (fun b o hb q => keep' b o hb (keep b o hb q)) fpok hT ⟨by show 2 ≤ sizeLine; decide, [.int i t, u], .cons ⟨_, rfl⟩ (.cons ru .nil), oT, T', q2, q3⟩
    refine ⟨.ref T, _, J, rfl, ⟨T, x, rfl, fresh, rfl, fun ys hy => by rw [I.tuple_inj hy sq]; exact hx⟩, ⟨st'.1, st'.2.1, z.ne⟩, fun b hb => ?_⟩
    rw [upd_ne (Nat.ne_of_lt (Nat.lt_of_lt_of_le (lts b hb) hT))]
    exact (fpok b hb).1
  done := by
    rintro X rfl rfl rfl calm i pins st σ G Er I fpok z ⟨zs, sq, hl⟩
    obtain ⟨its, vals, tup, _⟩ := I.tuple sq
    have tup' : st.heap.IsTuple a its.toArray := tup
    have W := z.walks (X := X) tup' (I.ok.hd calm)
    have en : its.toArray.size = i := by rw [List.size_toArray, ← vals.length, hl]
    refine W.done st _ _ (by rw [en]; exact ⟨z.en, z.ti, tup'⟩) fun g tk keep => ⟨rfl, ?_⟩
    exact I.step (g' := st.gens) (d' := st.drawn) (ch := [e, it]) (fun b hb => by obtain ⟨_, f1, _, f3, f4, f5⟩ := fpok b hb; exact ⟨f3, f1, f4, f5⟩)
      (fun b o _ _ hb q _ => keep b o hb q) (fun b o _ _ hb q _ => ⟨o.slots, keep b o hb q⟩) (fun _ _ _ _ n => n) (fun b o hb q => ⟨o, keep b o hb q⟩) (fun _ _ q => q) (fun _ _ _ q => q) (fun b ps q => ⟨#[], by rw [q]; simp⟩)
      (fun m hm => by obtain ⟨o, es, ep, ho, r⟩ := hm; exact ⟨o, es, ep, keep _ o (fun hb => (fpok _ hb).2.1 rfl) ho, r⟩)
      (fun b u q => (I.hok b u q).stay (fun c v hc y => keep c v (fun hb => by
        have n := (fpok c hb).1
        rcases hc with rfl | hc
        · rw [n] at q; cases q
        · rw [n] at hc; cases hc) y) (fun _ y => y) fun _ _ y => y) I.bare
  self := fun B i st Qr Er z q => by
    obtain ⟨old, h1⟩ := z.en
    exact wpAny_pyIter_enum h1 q
/-- enumerate(t), t a tuple -/
def iEnumT (K : PySem.W.Frag) (ta : TA) : TI := fun σ G Rd => ta σ G fun vs G1 => ∃ a zs, vs = [.ref a] ∧ SqT K G1 a zs ∧ Rd (IteT K a) G1
theorem pi_enumT {X : Cx} {x : Expr} {ta : TA} {p pos tpos : Pos} {elts : List Expr} {kk : Nat} (hg : Gl X "enumerate") (hm : X.mg "enumerate" = none) (ha : PA X [x] ta) (hs : starEach [x] X.env = [(false, eval x X.env)]) :
    PI X (.Tuple elts kk tpos) (.Call (.Name "enumerate" p) [x] [] pos) (iEnumT X.K ta) := by
  constructor
  intro pins st σ G Rd I h
  refine Call_ (ld_blt I hg hm boot_enumerate (PyProof.Rows.callWith_type1 (thn (ha.run pos pins st σ G _ I h) ?_) hs rfl))
  rintro us s1 ⟨vs, G1, I1, rv, a, zs, rfl, sq, q⟩
  obtain ⟨u, rfl, ra⟩ := vals1 rv
  cases (show u = Value.ref a from ra)
  obtain ⟨its, vals, tup, _⟩ := I1.tuple sq
  refine enumTup_call (ys := its.toArray) tup fun g en ti up => wpAny_pyIter_enum en ?_
  have I2 : Inv X pins σ G1 { s1 with heap := g } := I1.kept (t' := s1.toks) up
  refine ⟨_, [s1.heap.objs.size + 1, s1.heap.objs.size], _, _, G1, rfl, I2, turn_enumT a (s1.heap.objs.size + 1) s1.heap.objs.size, ⟨⟨.none, en⟩, ti, Nat.succ_ne_self _⟩, fun b hb => ?_, q⟩
  have big : s1.heap.objs.size ≤ b := by
    rcases List.mem_cons.mp hb with rfl | hb
    · exact Nat.le_succ _
    · exact Nat.le_of_eq (List.mem_singleton.mp hb).symm
  exact I1.fpOk big (I1.hok.fresh big)
/-- the pairs of enumerate -/
def enumD (xs : List D) : List D := xs.zipIdx.map fun p => .tup [.int (p.2 : Int), p.1]
theorem enumD_get {xs : List D} {i : Nat} {d : D} (h : (enumD xs)[i]? = some d) : ∃ x, xs[i]? = some x ∧ d = .tup [.int (i : Int), x] := by
  unfold enumD at h
  rw [List.getElem?_map, List.getElem?_zipIdx] at h
  cases q : xs[i]? with
  | none => rw [q] at h; cases h
  | some x =>
    rw [q] at h
    simp at h
    exact ⟨x, rfl, h.symm⟩
theorem enumD_length {xs : List D} : (enumD xs).length = xs.length := by simp [enumD]
def iEnT (t : WA) : WI := fun env S Q E => t env S (fun ds S1 => match ds with
  | [.tup xs] => Q (enumD xs) Always S1
  | _ => False) E
@[simp ↓] theorem iEnT_eq (t : WA) (env) (S) (Q) (E) : iEnT t env S Q E = (t env S (fun ds S1 => match ds with
  | [.tup xs] => Q (enumD xs) Always S1
  | _ => False) E) := id rfl
section
variable {C : Cmn} {ι : Type} {R : ι → Rst}
theorem vi_enT {e : Expr} {t : WA} {p pos tpos : Pos} {elts : List Expr} {kk : Nat} (hm : C.mg "enumerate" = none) (ha : VA C R [e] t) (hg : ∀ i, Gl (C.at (R i)) "enumerate" := by exact fun _ => rfl) (hs : ∀ i, starEach [e] (R i).env = [(false, eval e (R i).env)] := by exact fun _ => rfl) :
    VI C R (.Tuple elts kk tpos) (.Call (.Name "enumerate" p) [e] [] pos) (iEnT t) := fun W => by
  obtain ⟨u, pu, s⟩ := ha W
  refine ⟨iEnumT C.K u, fun i tk => pi_enumT (X := C.at (R i)) (hg i) hm (pu i tk) (hs i), fun σ H F Z env S Q Ex Rd ok en th k h => s σ H F Z env S _ _ _ ok en th (fun v H' F' S' d sm ok' r q => ?_) h⟩
  split at q
  · rename_i ys
    obtain ⟨v, rfl, a, vs, rfl, h1, h2⟩ := reps1 r
    have hq : ∀ F2 Z2 S2 H2, Same F' F2 → Ok C.K F2 Z2 S2 H2 → SqT C.K H2 a vs := fun F2 Z2 S2 H2 sm2 ok2 => same_sqt (sm2.trans ok2.fro) h1.sq
    refine ⟨a, vs, rfl, hq _ _ _ _ (Same.refl F') ok', k _ _ _ _ _ _ sm ok' ⟨fun F2 Z2 S2 H2 sm2 ok2 _ => ⟨vs, hq _ _ _ _ sm2 ok2, by rw [enumD_length, h2.length]⟩, fun i F2 Z2 S2 H2 hi sm2 ok2 _ => ?_, fun i F2 Z2 S2 H2 x H3 d sm2 ok2 _ y e => ?_⟩ q⟩
    · have hv : i < vs.length := by rw [← h2.length, ← enumD_length]; exact hi
      exact ⟨vs, vs[i], hq _ _ _ _ sm2 ok2, List.getElem?_eq_getElem hv⟩
    · obtain ⟨T, x0, rfl, hT, rfl, hx⟩ := y
      obtain ⟨z, hz, rfl⟩ := enumD_get e
      obtain ⟨v, h3, h4⟩ := h2.get hz
      have he : v = x0 := by
        have := hx vs (hq _ _ _ _ sm2 ok2)
        rw [h3] at this
        exact Option.some.inj this
      subst he
      have sm3 := same_upd (ok2.newF hT) (.tup [.int (i : Nat), v])
      exact ⟨_, sm3, ok2.frz hT _, T, _, rfl, .inl upd_same, .int (i : Nat), [v], rfl, rfl, Reps.one (Rep.mono (sm2.trans sm3) _ _ h4)⟩
  · exact q.elim
end
end L3

set_option Elab.async false
set_option linter.all false
set_option maxRecDepth 100000
set_option maxHeartbeats 4000000
/-! The value layer: in, is, isinstance, lists frozen, calls that only read. -/
namespace L3
open PySem PySem.Spec PyProof.Rows L2

section
variable {C : Cmn} {ι : Type} {R : ι → Rst} {K : PySem.W.Frag} {W : WX}
/-! ### in, not in -/
@[simp] def flatD : D → Bool
  | .non => true
  | .bl _ => true
  | .int _ => true
  | .str _ => true
  | _ => false
def toV : D → V
  | .bl b => .bl b
  | .int i => .int i
  | .str x => .str x
  | _ => .non
theorem flat_rep {F : Hp} {d : D} {v : V} (h : Rep K F d v) (f : flatD d = true) : v = toV d ∧ flatV v = true := by
  cases d <;> first | (cases f; done) | (cases (show v = _ from h); exact ⟨rfl, rfl⟩)
theorem flat_reps {F : Hp} : ∀ {ds : List D} {vs : List V}, Reps K F ds vs → ds.all flatD = true → vs = ds.map toV ∧ vs.all flatV = true
  | [], vs, h, _ => by cases (show vs = [] from h); exact ⟨rfl, rfl⟩
  | d :: ds, vs, h, f => by
    obtain ⟨v, r, rfl, h1, h2⟩ := h
    rw [List.all_cons, Bool.and_eq_true] at f
    obtain ⟨e1, e2⟩ := flat_rep h1 f.1
    obtain ⟨e3, e4⟩ := flat_reps h2 f.2
    exact ⟨by rw [e1, e3]; rfl, by rw [List.all_cons, e2, e4]; rfl⟩
/-- x is in ys (flat things; or data at any depth) -/
def InD (x : D) (ys : List D) (b : Bool) : Prop := (flatD x = true ∧ ys.all flatD = true ∧ inV (toV x) (ys.map toV) = b) ∨
  ∃ d ds, toPy x = some d ∧ toPys ys = some ds ∧ SeqAt.shaped d = true ∧ SeqAt.shaped (.list ds) = true ∧ (ds.any fun z => PyData.eqv z d) = b
def rIn (neg : Bool) : R2V := fun x y S Q => match y with
  | .lst ys => ExC (InD x ys) (fun b => Q (.bl (if neg = true then !b else b)) S) .mk
  | .tup ys => flatD x = true ∧ ys.all flatD = true ∧ Q (.bl (if neg = true then !inV (toV x) (ys.map toV) else inV (toV x) (ys.map toV))) S
  | _ => False
@[simp ↓] theorem rIn_eq (neg : Bool) (x) (y) (S) (Q) : rIn neg x y S Q = (match y with
  | .lst ys => ExC (InD x ys) (fun b => Q (.bl (if neg = true then !b else b)) S) .mk
  | .tup ys => flatD x = true ∧ ys.all flatD = true ∧ Q (.bl (if neg = true then !inV (toV x) (ys.map toV) else inV (toV x) (ys.map toV))) S
  | _ => False) := id rfl
def uIn (K : PySem.W.Frag) (neg : Bool) : R2 := fun x y H Q => L2.rIn K neg x y H Q ∨ (if neg = true then rNotInD K x y H Q else rInD K x y H Q)
theorem in_sound (neg : Bool) : SndR K (rIn neg) (uIn K neg) := fun F Z S H x y d e Q Rd ok rx ry k h => by
  unfold rIn at h
  split at h
  · obtain ⟨b, hb, q⟩ := h
    have ry' := ry
    obtain ⟨a, vs, rfl, h1, h2⟩ := ry'
    rcases hb with ⟨f1, f2, rfl⟩ | ⟨dx, ds, h3, h4, h5, h6, rfl⟩
    · obtain ⟨e1, e2⟩ := flat_rep rx f1
      obtain ⟨e3, e4⟩ := flat_reps h2 f2
      exact .inl ⟨a, vs, rfl, .inl (SqL.of (ok.fro _ _ h1)), e2, e4, by rw [e1, e3]; exact k _ _ _ _ (.bl _) (Same.refl F) ok rfl q⟩
    · right
      have D1 := rep_dp ok.fro _ _ _ rx h3
      have D2 : Dp K H (.ref a) (.list ds) := rep_dp ok.fro _ _ _ ry (by rw [toPy, h4]; rfl)
      cases neg with
      | true => exact ⟨dx, ds, D1, D2, h5, h6, k _ _ _ _ (.bl _) (Same.refl F) ok rfl q⟩
      | false => exact ⟨dx, ds, D1, D2, h5, h6, k _ _ _ _ (.bl _) (Same.refl F) ok rfl q⟩
  · obtain ⟨f1, f2, q⟩ := h
    obtain ⟨a, vs, rfl, h1, h2⟩ := ry
    obtain ⟨e1, e2⟩ := flat_rep rx f1
    obtain ⟨e3, e4⟩ := flat_reps h2 f2
    exact .inl ⟨a, vs, rfl, .inr (same_sqt ok.fro h1.sq), e2, e4, by rw [e1, e3]; exact k _ _ _ _ (.bl _) (Same.refl F) ok rfl q⟩
  · exact h.elim
theorem ov_in (hu : ∀ i, (R i).A.units + 200 < cLine) : OpV C R (compareOp .In) (rIn false) :=
  .of (uIn C.K false) (fun i => OpR.or (X := C.at (R i)) op_in_seq (op_inD (X := C.at (R i)) (by have := hu i; show (R i).A.units + 65 < cLine; omega))) (in_sound false)
theorem ov_notin (hu : ∀ i, (R i).A.units + 200 < cLine) : OpV C R (compareOp .NotIn) (rIn true) :=
  .of (uIn C.K true) (fun i => OpR.or (X := C.at (R i)) op_notIn_seq (op_notInD (X := C.at (R i)) (by have := hu i; show (R i).A.units + 65 < cLine; omega))) (in_sound true)

/-! ### is None, is True, is False -/
def isB : V → V → Bool
  | .non, .non => true
  | .bl a, .bl b => decide (a = b)
  | _, _ => false
def u_is (neg : Bool) : R2 := fun x y H Q => (y = .non ∨ ∃ c, y = .bl c) ∧ Q (.bl (if neg = true then !isB x y else isB x y)) H
theorem op_isC {X : Cx} : OpR X (compareOp .Is) (u_is false) := by
  intro pins s σ H x y v u Q I rx ry h
  obtain ⟨hy, q⟩ := h
  have fin : ∀ b : Bool, b = isB x y → EP X pins σ Q (.bool b) s := fun b e => ⟨.bl b, H, I, rfl, by rw [e]; exact q⟩
  rcases hy with rfl | ⟨c, rfl⟩
  · cases (show u = Value.none from ry)
    refine is_none_gen (fin _ ?_)
    cases x <;> first
      | (cases rx; rfl)
      | (obtain ⟨t, rfl⟩ := rx; rfl)
  · cases (show u = Value.bool c from ry)
    cases x with
    | bl b =>
      cases (show v = Value.bool b from rx)
      exact PyProof.Rows.is_bool (fin _ (by cases b <;> cases c <;> rfl))
    | non => cases (show v = _ from rx); exact wpAny_is_other rfl (fun z => nomatch z) (fin _ rfl)
    | int i => obtain ⟨t, rfl⟩ := rx; exact wpAny_is_other rfl (fun z => nomatch z) (fin _ rfl)
    | str i => obtain ⟨t, rfl⟩ := rx; exact wpAny_is_other rfl (fun z => nomatch z) (fin _ rfl)
    | byt i => obtain ⟨t, rfl⟩ := rx; exact wpAny_is_other rfl (fun z => nomatch z) (fin _ rfl)
    | flt i => obtain ⟨t, rfl⟩ := rx; exact wpAny_is_other rfl (fun z => nomatch z) (fin _ rfl)
    | ref i => cases (show v = _ from rx); exact wpAny_is_other rfl (fun z => nomatch z) (fin _ rfl)
    | ty i => cases (show v = _ from rx); exact wpAny_is_other rfl (fun z => nomatch z) (fin _ rfl)
theorem op_isnotC {X : Cx} : OpR X (compareOp .IsNot) (u_is true) := by
  intro pins s σ H x y v u Q I rx ry h
  obtain ⟨hy, q⟩ := h
  have fin : ∀ b : Bool, b = (!isB x y) → EP X pins σ Q (.bool b) s := fun b e => ⟨.bl b, H, I, rfl, by rw [e]; exact q⟩
  rcases hy with rfl | ⟨c, rfl⟩
  · cases (show u = Value.none from ry)
    refine isnot_none_gen (fin _ ?_)
    cases x <;> first
      | (cases rx; rfl)
      | (obtain ⟨t, rfl⟩ := rx; rfl)
  · cases (show u = Value.bool c from ry)
    cases x with
    | bl b =>
      cases (show v = Value.bool b from rx)
      exact PyProof.Rows.isnot_bool (fin _ (by cases b <;> cases c <;> rfl))
    | non => cases (show v = _ from rx); exact wpAny_isNot_other rfl (fun z => nomatch z) (fin _ rfl)
    | int i => obtain ⟨t, rfl⟩ := rx; exact wpAny_isNot_other rfl (fun z => nomatch z) (fin _ rfl)
    | str i => obtain ⟨t, rfl⟩ := rx; exact wpAny_isNot_other rfl (fun z => nomatch z) (fin _ rfl)
    | byt i => obtain ⟨t, rfl⟩ := rx; exact wpAny_isNot_other rfl (fun z => nomatch z) (fin _ rfl)
    | flt i => obtain ⟨t, rfl⟩ := rx; exact wpAny_isNot_other rfl (fun z => nomatch z) (fin _ rfl)
    | ref i => cases (show v = _ from rx); exact wpAny_isNot_other rfl (fun z => nomatch z) (fin _ rfl)
    | ty i => cases (show v = _ from rx); exact wpAny_isNot_other rfl (fun z => nomatch z) (fin _ rfl)
def rIs (neg : Bool) : R2V := fun x y S Q => match x, y with
  | .non, .non => Q (.bl (if neg = true then false else true)) S
  | _, .non => Q (.bl (if neg = true then true else false)) S
  | .bl a, .bl b => Q (.bl (if neg = true then !decide (a = b) else decide (a = b))) S
  | _, .bl _ => Q (.bl (if neg = true then true else false)) S
  | _, _ => False
@[simp ↓] theorem rIs_eq (neg : Bool) (x) (y) (S) (Q) : rIs neg x y S Q = (match x, y with
  | .non, .non => Q (.bl (if neg = true then false else true)) S
  | _, .non => Q (.bl (if neg = true then true else false)) S
  | .bl a, .bl b => Q (.bl (if neg = true then !decide (a = b) else decide (a = b))) S
  | _, .bl _ => Q (.bl (if neg = true then true else false)) S
  | _, _ => False) := id rfl
theorem is_sound (neg : Bool) : SndR K (rIs neg) (u_is neg) := fun F Z S H x y d e Q Rd ok rx ry k h => by
  have fin : ∀ b, Q (.bl b) S → Rd (.bl b) H := fun b q => k _ _ _ _ (.bl b) (Same.refl F) ok rfl q
  have nb : ∀ {d : D} {v : V} {c : Bool}, Rep K F d v → (∀ a, d ≠ .bl a) → isB v (.bl c) = false := fun {d v c} r n => by
    cases d <;> first
      | exact absurd rfl (n _)
      | (cases (show v = _ from r); rfl)
      | (obtain ⟨a, _, rfl, _⟩ := r; rfl)
      | (obtain ⟨a, _, _, rfl, _⟩ := r; rfl)
      | (obtain ⟨rfl, _⟩ := r; rfl)
  have nn : ∀ {d : D} {v : V}, Rep K F d v → d ≠ .non → isB v .non = false := fun {d v} r n => by
    cases d <;> first
      | exact absurd rfl n
      | (cases (show v = _ from r); rfl)
      | (obtain ⟨a, _, rfl, _⟩ := r; rfl)
      | (obtain ⟨a, _, _, rfl, _⟩ := r; rfl)
      | (obtain ⟨rfl, _⟩ := r; rfl)
  unfold rIs at h
  split at h
  · cases (show x = _ from rx); cases (show y = _ from ry)
    exact ⟨.inl rfl, fin _ (by cases neg <;> exact h)⟩
  · rename_i n
    cases (show y = _ from ry)
    exact ⟨.inl rfl, by rw [nn rx (fun z => n z)]; exact fin _ (by cases neg <;> exact h)⟩
  · cases (show x = _ from rx); cases (show y = _ from ry)
    exact ⟨.inr ⟨_, rfl⟩, fin _ (by cases neg <;> exact h)⟩
  · rename_i n
    cases (show y = _ from ry)
    exact ⟨.inr ⟨_, rfl⟩, by rw [nb rx (fun a z => n a z)]; exact fin _ (by cases neg <;> exact h)⟩
  · exact h.elim
theorem ov_is : OpV C R (compareOp .Is) (rIs false) := .of (u_is false) (fun i => op_isC) (is_sound false)
theorem ov_isnot : OpV C R (compareOp .IsNot) (rIs true) := .of (u_is true) (fun i => op_isnotC) (is_sound true)

/-! ### isinstance(x, T), isinstance(x, (S, T)): built-in types -/
@[simp] def tyn : D → String
  | .non => "NoneType"
  | .bl _ => "bool"
  | .int _ => "int"
  | .str _ => "str"
  | .tup _ => "tuple"
  | .lst _ => "list"
  | .fix _ => "list"
  | _ => "?"
@[simp] def isTy (d : D) (n : String) : Bool := tyn d == n || (tyn d == "bool" && n == "int")
def tys : List String := ["tuple", "list", "int", "bool", "str"]
/-- a built-in type's name as a value -/
theorem ve_ty {x : Str} {n : String} {pos : Pos} (hm : C.mg x = none) (hv : bootBuiltins x = some (.type n) := by decide +kernel) (hg : ∀ i, Gl (C.at (R i)) x := by exact fun _ => rfl) (hn : x ≠ "__name__" := by decide) (hd : (x == ("__debug__" : Str)) = false := by decide) : VE C R (.Name x pos) (vC (.ty n)) :=
  .of (fun i => pe_bltn (X := C.at (R i)) (v := .ty n) (hg i) hm hv rfl hn hd) fun W => snd_c fun _ => rfl
def rIsi : RCV := fun ds S Q => match ds with
  | [d, .ty n] => tyn d ≠ "?" ∧ n ∈ tys ∧ Q (.bl (isTy d n)) S
  | [d, .tup [.ty m, .ty n]] => tyn d ≠ "?" ∧ m ∈ tys ∧ n ∈ tys ∧ Q (.bl (isTy d m || isTy d n)) S
  | _ => False
@[simp ↓] theorem rIsi_eq (ds) (S) (Q) : rIsi ds S Q = (match ds with
  | [d, .ty n] => tyn d ≠ "?" ∧ n ∈ tys ∧ Q (.bl (isTy d n)) S
  | [d, .tup [.ty m, .ty n]] => tyn d ≠ "?" ∧ m ∈ tys ∧ n ∈ tys ∧ Q (.bl (isTy d m || isTy d n)) S
  | _ => False) := id rfl
theorem tyx {F H : Hp} {Z : Hp} {S : Sto} {d : D} {v : V} (ok : Ok K F Z S H) (r : Rep K F d v) (h : tyn d ≠ "?") : TyX K H v (.type (tyn d)) := by
  cases d with
  | non => cases (show v = _ from r); exact .base .non
  | bl b => cases (show v = _ from r); exact .base (.bl b)
  | int b => cases (show v = _ from r); exact .base (.int b)
  | str b => cases (show v = _ from r); exact .base (.str b)
  | ref a => exact absurd rfl h
  | ty a => exact absurd rfl h
  | ins a b c => exact absurd rfl h
  | exc a b c d => exact absurd rfl h
  | tup xs =>
    obtain ⟨a, vs, rfl, h1, h2⟩ := r
    rcases h1.sq with (h3 | ⟨o, h3⟩) | ⟨o, its, n, h3, h4, _⟩
    · exact .base (.tup (ok.fro _ _ h3))
    · exact .fTuple (ok.fro _ _ h3)
    · exact .kTuple h3 h4
  | lst xs =>
    obtain ⟨a, vs, rfl, h1, h2⟩ := r
    exact .base (.lst (ok.fro _ _ h1))
  | fix xs =>
    obtain ⟨a, vs, rfl, h1, h2⟩ := r
    rcases h1 with (h3 | ⟨o, h3⟩) | ⟨o, its, n, h3, h4, _⟩
    · exact .base (.lst (ok.fro _ _ h3))
    · exact .base (.frz (ok.fro _ _ h3))
    · exact .kList h3 h4
theorem kit_all {d : D} {n : String} (h : tyn d ≠ "?") (hn : n ∈ tys) : PySem.W.kitOne K (.type (tyn d)) (.type n) = some (isTy d n) := by
  have key : ∀ m ∈ ["NoneType", "bool", "int", "str", "tuple", "list"], ∀ n ∈ tys, kitB m n = some (m == n || (m == "bool" && n == "int")) := by decide +kernel
  refine kit_ty (key (tyn d) ?_ n hn)
  cases d <;> first | (exact absurd rfl h) | (simp [tyn])
theorem cv_isi : CallV C R (.builtin "isinstance") rIsi := by
  refine ⟨fun xs H Q => L2.rIsi C.K xs H Q ∨ rIsiT C.K xs H Q, fun i => CallR.or (X := C.at (R i)) call_isi call_isiT, fun F Z S H vs ds Q Rd ok r k h => ?_⟩
  unfold rIsi at h
  split at h
  · obtain ⟨v, w, rfl, r1, r2⟩ := reps2 r
    cases (show w = _ from r2)
    exact .inl ⟨v, .ty _, _, _, _, rfl, .ty _, tyx ok r1 h.1, kit_all h.1 h.2.1, k _ _ _ _ (.bl _) (Same.refl F) ok rfl h.2.2⟩
  · rename_i d m n
    obtain ⟨v, w, rfl, r1, a, vs, rfl, h1, h2⟩ := reps2 r
    obtain ⟨c1, c2, rfl, h3, h4⟩ := reps2 h2
    cases (show c1 = _ from h3); cases (show c2 = _ from h4)
    rcases h1 with h1 | ⟨_, h1⟩
    · refine .inr ⟨v, a, _, _, [.type m, .type n], _, rfl, ok.fro _ _ h1, .cons (.ty m) (.cons (.ty n) .nil), tyx ok r1 h.1, ?_, k _ _ _ _ (.bl _) (Same.refl F) ok rfl h.2.2.2⟩
      refine kitAny_cons (kit_all h.1 h.2.1) (fun e => ?_) (fun e => by rw [e]; rfl)
      rw [e, Bool.false_or]
      exact kitAny_cons (kit_all h.1 h.2.2.1) (fun e => by rw [e]; rfl) (fun e => e)
    · cases h1
  · exact h.elim

/-! ### a list of the store is frozen -/
def vFrz (t : WE) : WE := fun env S Q E => t env S (fun d S1 => match d with
  | .ref p => match S1 p with
    | some (.lst xs) => Q (.lst xs) (sdel S1 p)
    | _ => False
  | _ => False) E
@[simp ↓] theorem vFrz_eq (t : WE) (env) (S) (Q) (E) : vFrz t env S Q E = (t env S (fun d S1 => match d with
  | .ref p => match S1 p with
    | some (.lst xs) => Q (.lst xs) (sdel S1 p)
    | _ => False
  | _ => False) E) := id rfl
theorem ve_frz {e : Expr} {t : WE} (h : VE C R e t) : VE C R e (vFrz t) := fun W => by
  obtain ⟨u, p, s⟩ := h W
  refine ⟨u, p, fun σ H F Z env S Q Ex Rd ok en th k q => s σ H F Z env S _ _ _ ok en th (fun v H' F' S' d sm ok' r q' => ?_) q⟩
  split at q'
  · split at q'
    · rename_i hp
      cases (show v = _ from r)
      obtain ⟨ho, h1, ⟨vs, rfl, h2⟩, sm2, ok2⟩ := ok'.freeze hp
      exact k _ _ _ _ (.lst _) (sm.trans sm2) ok2 ⟨_, vs, rfl, upd_same, Reps.mono sm2 _ _ h2⟩ q'
    · exact q'.elim
  · exact q'.elim
theorem sdel_sup {S : Sto} {p : Addr} {o : SO} (h : S p = none) : sdel (sup S p o) p = S := by
  funext b
  unfold sdel sup
  split
  · rename_i e; rw [e, h]
  · rfl
theorem sup_comm {S : Sto} {p q : Addr} {o u : SO} (h : p ≠ q) : sup (sup S p o) q u = sup (sup S q u) p o := by
  funext b
  unfold sup
  split
  · rename_i e; subst e; rw [if_neg (Ne.symm h)]
  · rfl
theorem sup_self {S : Sto} {p : Addr} {o : SO} (h : S p = some o) : sup S p o = S := by
  funext b
  unfold sup
  split
  · rename_i e; rw [e, h]
  · rfl
/-! ### a call that only reads: lists of the store are handed in as frozen ones, nothing else of the store is seen, a plain value comes back -/
@[simp] def seen (S : Sto) : D → D
  | .ref p => match S p with
    | some (.lst xs) => .lst xs
    | _ => .ref p
  | d => d
def vCallR (sp : WSp) (t : WA) : WE := fun env S Q E => t env S (fun ds S1 => Call sp (ds.map (seen S1)) (fun _ => none) (fun d _ => flatD d = true ∧ Q d S1) NoEx .mk) E
@[simp ↓] theorem vCallR_eq (sp : WSp) (t : WA) (env) (S) (Q) (E) : vCallR sp t env S Q E = (t env S (fun ds S1 => Call sp (ds.map (seen S1)) (fun _ => none) (fun d _ => flatD d = true ∧ Q d S1) NoEx .mk) E) := id rfl
/-- all lists of the store as frozen -/
def allF (F : Hp) (S : Sto) (H : Hp) : Hp := fun a => match S a with
  | some (.lst _) => H a
  | _ => F a
theorem allF_ok {F Z : Hp} {S : Sto} {H : Hp} (ok : Ok K F Z S H) : Same F (allF F S H) ∧ Ok K (allF F S H) (fun a => match S a with
    | some (.lst _) => none
    | _ => around Z S H a) (fun _ => none) H := by
  have sm : Same F (allF F S H) := fun b o e => by
    unfold allF
    split
    · rename_i xs q
      rw [(ok.own _ _ q).1] at e; cases e
    · exact e
  refine ⟨sm, fun b o e => ?_, (fun a o e => nomatch e), fun a u e => ?_⟩
  · unfold allF at e
    split at e
    · exact e
    · exact ok.fro _ _ e
  · split at e
    · cases e
    · rename_i n
      have z := ok.aside.zed a u e
      refine ⟨?_, rfl, z.2.2⟩
      unfold allF
      split
      · rename_i xs q
        exact absurd q (n xs)
      · exact z.1
theorem seen_rep {F Z : Hp} {S : Sto} {H : Hp} (ok : Ok K F Z S H) {d : D} {v : V} (r : Rep K F d v) : Rep K (allF F S H) (seen S d) v := by
  have sm := (allF_ok ok).1
  unfold seen
  split
  · rename_i p
    split
    · rename_i xs q
      cases (show v = _ from r)
      obtain ⟨_, h, h1, vs, rfl, h2⟩ := ok.own _ _ q
      exact ⟨p, vs, rfl, by unfold allF; rw [q]; exact h1, Reps.mono sm _ _ h2⟩
    · exact r
  · exact Rep.mono sm _ _ r
theorem seen_reps {F Z : Hp} {S : Sto} {H : Hp} (ok : Ok K F Z S H) : ∀ {ds : List D} {vs : List V}, Reps K F ds vs → Reps K (allF F S H) (ds.map (seen S)) vs
  | [], vs, h => h
  | d :: ds, vs, h => by
    obtain ⟨v, r, rfl, h1, h2⟩ := h
    exact ⟨v, r, rfl, seen_rep ok h1, seen_reps ok h2⟩
theorem Ok.backR {F Z F' H H' : Hp} {S : Sto} (ok : Ok K F Z S H) (sm : Same (allF F S H) F') {S' : Sto} (ok' : Ok K F' (fun a => match S a with
    | some (.lst _) => none
    | _ => around Z S H a) S' H') : Ok K F Z S H' := by
  have keepS : ∀ a o, S a = some o → H' a = H a := fun a o e => by
    obtain ⟨_, h, h2, _⟩ := ok.own a o e
    rw [h2]
    cases o with
    | lst xs => exact ok'.fro _ _ (sm _ _ (by unfold allF; rw [e]; exact h2))
    | ins c n x => exact (ok'.zed a h (by show (match S a with | some (.lst _) => none | _ => around Z S H a) = _; rw [e]; unfold around; rw [e]; exact h2)).2.2
    | dK c n => exact (ok'.zed a h (by show (match S a with | some (.lst _) => none | _ => around Z S H a) = _; rw [e]; unfold around; rw [e]; exact h2)).2.2
    | dT c n => exact (ok'.zed a h (by show (match S a with | some (.lst _) => none | _ => around Z S H a) = _; rw [e]; unfold around; rw [e]; exact h2)).2.2
  refine ⟨((allF_ok ok).1.trans sm).trans ok'.fro, fun a o e => ?_, fun a u e => ?_⟩
  · obtain ⟨h1, h, h2, h3⟩ := ok.own a o e
    exact ⟨h1, h, by rw [keepS a o e]; exact h2, h3⟩
  · obtain ⟨h1, h2, h3⟩ := ok.zed a u e
    refine ⟨h1, h2, (ok'.zed a u ?_).2.2⟩
    show (match S a with | some (.lst _) => none | _ => around Z S H a) = _
    rw [h2]; unfold around; rw [h2]; exact e
theorem ve_callR {n : Nat} {x : Str} {sp : WSp} {e : Expr} {es : List Expr} {t : WA} {p pos : Pos} (D0 : DefOk C n x sp) (ha : VA C R (e :: es) t) (hr : ∀ i, Room n (R i).A) (hg : ∀ i, Gl (C.at (R i)) x := by exact fun _ => rfl) (hdb : (x == ("__debug__" : Str)) = false := by decide)
    (he : ∀ i, starEach (e :: es) (R i).env = (false, eval e (R i).env) :: starEach es (R i).env := by exact fun _ => rfl) (hpl : ∀ i, (backTo pos (starEach es (R i).env)).any (·.1) = false := by exact fun _ => rfl) :
    VE C R (.Call (.Name x p) (e :: es) [] pos) (vCallR sp t) := fun W => by
  obtain ⟨f, fd, ps, Fo, hm, hk, hb⟩ := D0.ex
  obtain ⟨u, pu, s⟩ := ha W
  refine ⟨_, fun i tk => pe_callS (X := C.at (R i)) (E := L2.WE W) Fo (hr i) (hg i) hm hk hb (fun σ => passAt tk σ) (pu i tk) hdb (he i) (hpl i), fun σ H F Z env S Q Ex Rd ok en th k h => ?_⟩
  refine s σ H F Z env S _ _ _ ok en th (fun vs H1 F1 S1 ds sm1 ok1 r1 q1 => ?_) h
  obtain ⟨smF, okF⟩ := allF_ok ok1
  refine ⟨allF F1 S1 H1, _, fun _ => none, ds.map (seen S1), _, NoEx, okF, seen_reps ok1 r1, q1, fun v H' F' S' d sm ok' r q => ?_, fun _ _ _ _ _ _ _ _ _ _ _ z => z.elim⟩
  refine k v H' F1 S1 d sm1 (ok1.backR sm ok') ?_ q.2
  have f := q.1
  cases d <;> first | (cases f; done) | exact r
end
end L3

set_option Elab.async false
set_option linter.all false
set_option maxRecDepth 100000
set_option maxHeartbeats 4000000
/-! The value layer: products, defs by names, own exceptions. -/
namespace L3
open PySem PySem.Spec PyProof.Rows L2

theorem ru {k : Nat} {A : Around} (r : Room k A) : A.units + 200 < cLine := by have := r.un; omega
section
variable {C : Cmn} {ι : Type} {R : ι → Rst} {K : PySem.W.Frag} {W : WX}
/-! ### products -/
def rMul : R2V := fun x y S Q => match x, y with
  | .int i, .int j => (CMul i j ∨ CMulW i j) ∧ Q (.int (i * j)) S
  | _, _ => False
@[simp ↓] theorem rMul_eq (x) (y) (S) (Q) : rMul x y S Q = (match x, y with
  | .int i, .int j => (CMul i j ∨ CMulW i j) ∧ Q (.int (i * j)) S
  | _, _ => False) := id rfl
theorem ov_mul : OpV C R (binaryOp .Mult) rMul := by
  refine .of _ (fun i => op_mul.or op_mulW) fun F Z S H x y d e Q Rd ok rx ry k h => ?_
  unfold rMul at h
  split at h
  · rcases h.1 with c | c
    · exact .inl ⟨_, _, rx, ry, c, k _ _ _ _ (.int _) (Same.refl F) ok rfl h.2⟩
    · exact .inr ⟨_, _, rx, ry, c, k _ _ _ _ (.int _) (Same.refl F) ok rfl h.2⟩
  · exact h.elim
/-! ### defs by names -/
theorem DefOk.mono {n m : Nat} {x : Str} {p : WSp} (h : DefOk C n x p) (le : n ≤ m) : DefOk C m x p := by
  obtain ⟨f, fd, ps, F, a, b, c⟩ := h.ex
  exact ⟨f, fd, ps, F.mono le, a, b, c⟩
/-- a weaker promise -/
theorem DefOk.imp {n : Nat} {x : Str} {p q : WSp} (h : DefOk C n x p) (i : ∀ ds S Q E, q ds S Q E → p ds S Q E) : DefOk C n x q := by
  obtain ⟨f, fd, ps, F, a, b, c⟩ := h.ex
  refine ⟨f, fd, ps, F.imp fun vs H Q E z => ?_, a, b, c⟩
  obtain ⟨G, Z, S, ds, Q0, E0, ok, r, hq, kq, kx⟩ := z
  exact ⟨G, Z, S, ds, Q0, E0, ok, r, i _ _ _ _ hq, kq, kx⟩
/-- how a def of the text stands behind the top -/
structure Stands (C : Cmn) (x : Str) (st : Stmt) (ps : List Str) : Prop where
  ex : ∃ f fd dvs kws, FunD C.K x x (defArgs st) (defBody st) (defScope st) dvs kws f fd ∧ C.mg x = some (.ref f) ∧ Binds C.K fd ps []
theorem Stands.ok {x : Str} {st : Stmt} {N ps : List Str} {k : Nat} {sp : WSp} {t : WS} (T : Stands C x st ps) (Sc : FnScope N ps (defScope st)) (len : ∀ ds S Q E, sp ds S Q E → ds.length = ps.length)
    (hb : VSs C (fun i : DIx k x (defScope st) => DR C N i) (defBody st) t) (h : ∀ ds S Q E, sp ds S Q E → t (dEnds Q E) (start N.length ds) S) : DefOk C (k + 1) x sp := by
  obtain ⟨f, fd, dvs, kws, F, m, b⟩ := T.ex
  exact ⟨f, fd, ps, fn_ok F Sc len hb h, m, F.kp, b⟩
/-- nothing is asked of no call -/
theorem Stands.none {x : Str} {st : Stmt} {ps : List Str} {sp : WSp} (T : Stands C x st ps) (no : ∀ ds S Q E, ¬ sp ds S Q E) : DefOk C 0 x sp := by
  obtain ⟨f, fd, dvs, kws, F, m, b⟩ := T.ex
  have nl : ∀ vs H Q E, ¬ low C.K sp vs H Q E := fun vs H Q E z => by
    obtain ⟨_, _, _, _, _, _, _, _, hq, _⟩ := z
    exact no _ _ _ _ hq
  exact ⟨f, fd, ps, ⟨fun vs H Q E z => absurd z (nl vs H Q E), fun A outer s H args us vs Q E _ _ _ _ z => absurd z (nl vs H Q E)⟩, m, F.kp, b⟩
/-- a name of the module that stands for something written -/
structure GlobV (C : Cmn) (x : Str) (d : D) : Prop where
  ex : ∃ v u, C.mg x = some u ∧ RelV v u ∧ ∀ F, Rep C.K F d v
theorem ve_gl {x : Str} {d : D} {pos : Pos} (g : GlobV C x d) (hg : ∀ i, Gl (C.at (R i)) x := by exact fun _ => rfl) (hd : (x == ("__debug__" : Str)) = false := by decide) : VE C R (.Name x pos) (vC d) := by
  obtain ⟨v, u, hm, r, rd⟩ := g.ex
  exact ve_glob hm r rd hg hd

/-! ### own exceptions: class X(Y) over ValueError whose __init__(self, what) stores what -/
/-- the promise of that __init__ -/
def spInit (K : PySem.W.Frag) : Sp := fun vs H Q _ => ∃ (a Cl : Addr) (v : V), vs = [.ref a, v] ∧ OexC K Cl ∧ PySem.W.findIn K (.ref Cl) "what" = some none ∧ H a = some (exo a Cl none) ∧
  ∀ dx, H dx = none → dx ≠ a → Q .non (upd (upd H dx (exd dx [(("what" : Str), v)])) a (exo a Cl (some dx)))
structure ExcT (C : Cmn) (x : Str) (cl : Addr) : Prop where
  mgC : C.mg x = some (.ref cl)
  ox : OexC C.K cl
  xf : XfC C.K cl
  noW : PySem.W.findIn C.K (.ref cl) "what" = some none
  init : ∃ fI fd ps, PySem.W.findIn C.K (.ref cl) "__init__" = some (some (.ref fI)) ∧ PySem.W.typeIn C.K (.ref fI) = some (.type "function") ∧ FnOk C.P C.w C.K C.mg C.base CX0 1 fI fd ps (spInit C.K) ∧ Binds C.K fd ps []
  cla : PySem.W.findIn C.K (.ref cl) "__class__" = some (some (.builtin "object.__class__"))
  cln : PySem.W.specialIn C.K (.builtin "object.__class__") "__get__" = some (some (.builtin "getset_descriptor.__get__"))
  clt : PySem.W.takesIn C.K (.builtin "object.__class__") = some true
  clm : PySem.W.mroIn C.K cl (.type "object") = some true
  cli : (PySem.W.clsIn C.K cl).isSome = true
def vRaise (cl : Addr) (ta : WA) : WS := fun E env S => ta env S (fun ds S1 => match ds with
  | [x] => E.ex env cl x S1
  | _ => False) (E.ex env)
@[simp ↓] theorem vRaise_eq (cl : Addr) (ta : WA) (E) (env) (S) : vRaise cl ta E env S = (ta env S (fun ds S1 => match ds with
  | [x] => E.ex env cl x S1
  | _ => False) (E.ex env)) := id rfl
theorem vs_raise {x : Str} {cl : Addr} {n : Nat} {e : Expr} {ta : WA} {p pos pos2 : Pos} (T : ExcT C x cl) (ha : VA C R [e] ta) (hr : ∀ i, Room (n + 2) (R i).A) (hg : ∀ i, Gl (C.at (R i)) x := by exact fun _ => rfl) (hc : ∀ i, (R i).calm = true := by exact fun _ => rfl)
    (hdb : (x == ("__debug__" : Str)) = false := by decide) (he : ∀ i, starEach (e :: []) (R i).env = (false, eval e (R i).env) :: starEach [] (R i).env := by exact fun _ => rfl) (hpl : ∀ i, (backTo pos (starEach [] (R i).env)).any (·.1) = false := by exact fun _ => rfl) :
    VS C R (.Raise (some (.Call (.Name x p) [e] [] pos)) none pos2) (vRaise cl ta) := fun W => by
  obtain ⟨ua, pa, sa⟩ := ha W
  obtain ⟨fI, fd, ps, i1, i2, i3, i4⟩ := T.init
  refine ⟨_, fun i tk => ps_raise (X := C.at (R i)) (hc i) tk.tk (pmk_oex (X := C.at (R i)) (CX := CX0) (k := 1) (dvs := []) (ds := []) T.ox i1 i2 i3 ((hr i).mono (by omega)) i4 .nil pass0 (hg i) T.mgC (pa i tk.tk) hdb (he i) (hpl i)), fun σ H F Z env S E Rd ok en lk h => ?_⟩
  refine sa σ H F Z env S _ _ _ ok en (lk.thr en) (fun vs H1 F1 S1 ds sm1 ok1 r1 q1 => ?_) h
  match ds, r1, q1 with
  | [d], r1, q1 =>
    obtain ⟨v, rfl, r⟩ := reps1 r1
    refine ⟨by show 1 ≤ 1000; decide, fun a na => ⟨a, cl, v, rfl, T.ox, T.noW, upd_same, fun dx ndx hne => ⟨rfl, dx, [(("what" : Str), v)], upd_same, ?_, ?_, ?_⟩⟩⟩
    · rw [upd_ne hne, upd_same]
    · rw [upd_ne hne] at ndx; exact ndx
    · have nd : H1 dx = none := by rw [upd_ne hne] at ndx; exact ndx
      have eq : upd (del (upd (upd (upd H1 a (exo a cl none)) dx (exd dx [(("what" : Str), v)])) a (exo a cl (some dx))) a) dx (.xd [(("what" : Str), v)]) = upd H1 dx (.xd [(("what" : Str), v)]) := by
        funext b
        by_cases hb : b = dx
        · subst hb; rw [upd_same, upd_same]
        · rw [upd_ne hb, upd_ne hb]
          by_cases ha : b = a
          · subst ha; rw [del_same, na]
          · rw [del_ne ha, upd_ne ha, upd_ne hb, upd_ne ha]
      rw [eq]
      have sm2 := same_upd (ok1.newF nd) (.xd [(("what" : Str), v)])
      exact lk.ex F1 σ env sm1 (en.mono sm1) cl d S1 _ _ dx v sm2 (ok1.frz nd _) upd_same (Rep.mono sm2 _ _ r) q1
/-! try: body, except X as n: suite -/
abbrev TryR (R : ι → Rst) : ι × (List (Addr × Obj) × (Value → Shared → Prop)) → Rst := fun j => { R j.1 with pn := j.2.1, xe := j.2.2 }
structure SIx (a : Addr) (cls : Value) (d : Option Addr) where
  oe : Obj
  pn : List (Addr × Obj)
  hz : Zc cls d oe
  hf : ∃ vs, oe.data = .fields vs
abbrev SuR (R : ι → Rst) (a : Addr) (cls : Value) (d : Option Addr) : ι × SIx a cls d → Rst := fun j => { R j.1 with A := (R j.1).A.mark (some (.ref a)), calm := false, pn := (a, j.2.oe) :: j.2.pn, xe := fun _ _ => False }
/-- the names of the classes that a clause takes -/
def vTry (K : PySem.W.Frag) (cl : Addr) (i : Nat) (b : WS) (su : Addr → Addr → Addr → WS) : WS := fun E env S =>
  b { E with ex := fun e1 Cl x S1 => ∃ t, PySem.W.exmOne K (.ref Cl) (.ref cl) = some t ∧ if t = true then ∀ a dd, su a Cl dd ⟨fun e2 => E.nx (forget e2 i), E.rt, fun e2 => E.bk (forget e2 i), fun e2 => E.ct (forget e2 i), fun _ => NoEx⟩ (put e1 i (.exc a Cl dd x)) S1 else E.ex e1 Cl x S1 } env S
@[simp ↓] theorem vTry_eq (K : PySem.W.Frag) (cl : Addr) (i : Nat) (b : WS) (su : Addr → Addr → Addr → WS) (E) (env) (S) : vTry K cl i b su E env S = (
  b { E with ex := fun e1 Cl x S1 => ∃ t, PySem.W.exmOne K (.ref Cl) (.ref cl) = some t ∧ if t = true then ∀ a dd, su a Cl dd ⟨fun e2 => E.nx (forget e2 i), E.rt, fun e2 => E.bk (forget e2 i), fun e2 => E.ct (forget e2 i), fun _ => NoEx⟩ (put e1 i (.exc a Cl dd x)) S1 else E.ex e1 Cl x S1 } env S) := id rfl
theorem vs_try {x n : Str} {cl : Addr} {i : Nat} {body suite : List Stmt} {b0 : Stmt} {np pos pos' : Pos} {b : WS} {su : Addr → Addr → Addr → WS} (T : ExcT C x cl) (hN : ∀ j, (R j).N.Nodup) (hb : VSs C (TryR R) body b)
    (hsu : ∀ a Cl dd, VSs C (SuR R a (.ref Cl) (some dd)) (b0 :: suite) (su a Cl dd)) (hi : ∀ j, (R j).N[i]? = some n := by exact fun _ => rfl) (hln : ∀ j, (R j).env.kindOf n = some .local := by exact fun _ => rfl)
    (hs : ∀ j, (R j).stack = (R j).env :: (R j).outer := by exact fun _ => rfl) (hf : ∀ j, (R j).env.frame = some (R j).env.locals := by exact fun _ => rfl) (hg : ∀ j, Gl (C.at (R j)) x := by exact fun _ => rfl) (hdb : (x == ("__debug__" : Str)) = false := by decide) :
    VS C R (.Try body [.ExceptHandler (some (.Name x np)) (some n) (b0 :: suite) pos'] [] [] pos) (vTry C.K cl i b su) := fun W => by
  have cb := fun W' => hb W'
  have cs := fun (z : Addr × Addr × Addr) => hsu z.1 z.2.1 z.2.2 W0
  let ub : WX → TS := fun W' => Classical.choose (cb W')
  let us : Addr → Value → Option Addr → TS := fun a cls d => match cls, d with
    | .ref Cl, some dd => Classical.choose (cs (a, Cl, dd))
    | _, _ => tNever
  refine ⟨fun D σ H => ub (wAs C.K (.ref cl) i us W D) D σ H, fun j tk => ps_try_as (X := C.at (R j)) (tb := ub) (ts := us) (Wout := W) (hs j) (hf j) (hN j) (hi j) (hln j) ⟨hg j, hdb, .inl T.mgC⟩ tk.tk
    (fun W' pn xe tk' pv => (Classical.choose_spec (cb W')).1 (j, (pn, xe)) ⟨tk', pv⟩) (fun a oe cls d pn hz hf' => ?_), fun σ H F Z env S E Rd ok en lk h => ?_⟩
  · match cls, d, hz with
    | .ref Cl, some dd, hz => exact (Classical.choose_spec (cs (a, Cl, dd))).1 (j, ⟨oe, pn, hz, hf'⟩) ⟨takes0, PassesOwn.never⟩
    | .ref Cl, none, hz => exact pss_never
    | .none, _, hz => exact pss_never
    | .bool _, _, hz => exact pss_never
    | .int _ _, _, hz => exact pss_never
    | .float _ _, _, hz => exact pss_never
    | .str _ _, _, hz => exact pss_never
    | .bytes _ _, _, hz => exact pss_never
    | .type _, _, hz => exact pss_never
    | .builtin _, _, hz => exact pss_never
    | .ellipsis, _, hz => exact pss_never
    | .notImplemented, _, hz => exact pss_never
  · have sb := (Classical.choose_spec (cb (wAs C.K (.ref cl) i us W Rd))).2
    refine sb σ H F Z env S { E with ex := fun e1 Cl x S1 => ∃ t, PySem.W.exmOne C.K (.ref Cl) (.ref cl) = some t ∧ if t = true then ∀ a dd, su a Cl dd ⟨fun e2 => E.nx (forget e2 i), E.rt, fun e2 => E.bk (forget e2 i), fun e2 => E.ct (forget e2 i), fun _ => NoEx⟩ (put e1 i (.exc a Cl dd x)) S1 else E.ex e1 Cl x S1 } Rd ok en ⟨lk.nx, lk.rt, lk.bk, lk.ct, fun F1 σ1 env1 sm1 en1 Cl y S' H' F' dd v sm2 ok2 hx hy q => ?_⟩ h
    obtain ⟨t, ht, q⟩ := q
    refine ⟨t, ht, fun e => ?_, fun e => ?_⟩
    · subst e
      rw [if_pos rfl] at q
      intro a na
      have ss := (Classical.choose_spec (cs (a, Cl, dd))).2
      have lk2 := lk.mono (sm1.trans sm2)
      refine ss _ H' F' Z _ S' ⟨fun e2 => E.nx (forget e2 i), E.rt, fun e2 => E.bk (forget e2 i), fun e2 => E.ct (forget e2 i), fun _ => NoEx⟩ _ ok2 ((en1.mono sm2).put (d := .exc a Cl dd y) (v := .ref a) ⟨rfl, v, hx, hy⟩ i) ⟨?_, lk2.rt, ?_, ?_, fun F5 σ5 env5 sm5 en5 => thr0⟩ (q a dd)
      · exact fun F5 σ5 H5 env5 S5 sm5 ok5 en5 q5 => lk2.nx F5 _ H5 _ S5 sm5 ok5 (en5.gone i) q5
      · exact fun F5 σ5 H5 env5 S5 sm5 ok5 en5 q5 => lk2.bk F5 _ H5 _ S5 sm5 ok5 (en5.gone i) q5
      · exact fun F5 σ5 H5 env5 S5 sm5 ok5 en5 q5 => lk2.ct F5 _ H5 _ S5 sm5 ok5 (en5.gone i) q5
    · subst e
      rw [if_neg Bool.false_ne_true] at q
      exact lk.ex F1 σ1 env1 sm1 en1 Cl y S' H' F' dd v sm2 ok2 hx hy q
/-- e.what, e what the suite holds -/
def vWhat (a Cl dd cl : Addr) (te : WE) : WE := fun env S Q E => te env S (fun d S1 => match d with
  | .exc a' _ dd' x => a' = a ∧ dd' = dd ∧ Cl = cl ∧ Q x S1
  | _ => False) E
@[simp ↓] theorem vWhat_eq (a Cl dd cl : Addr) (te : WE) (env) (S) (Q) (E) : vWhat a Cl dd cl te env S Q E = (te env S (fun d S1 => match d with
  | .exc a' _ dd' x => a' = a ∧ dd' = dd ∧ Cl = cl ∧ Q x S1
  | _ => False) E) := id rfl
theorem ve_what {x : Str} {cl a Cl dd : Addr} {e : Expr} {te : WE} {pos : Pos} (T : ExcT C x cl) (h : VE C (SuR R a (.ref Cl) (some dd)) e te) (hb : ∀ i, attributeBase e "what" (R i).env (eval e (R i).env) = eval e (R i).env := by exact fun _ => rfl) :
    VE C (SuR R a (.ref Cl) (some dd)) (.Attribute e "what" pos) (vWhat a Cl dd cl te) := fun W => by
  obtain ⟨u, p, s⟩ := h W
  refine ⟨_, fun j tk => pe_xf (X := C.at (R j.1)) T.xf T.noW j.2.hz j.2.hf (p j tk) (hb j.1), fun σ H F Z env S Q Ex Rd ok en th k q => s σ H F Z env S _ _ _ ok en th (fun v H' F' S' d sm ok' r q' => ?_) q⟩
  split at q'
  · obtain ⟨e1, e2, e3, q'⟩ := q'
    subst e1 e2 e3
    obtain ⟨r1, w, r2, r3⟩ := r
    exact ⟨r1, rfl, _, _, w, rfl, ok'.fro _ _ r2, by simp [List.lookup], k _ _ _ _ _ sm ok' r3 q'⟩
  · exact q'.elim
/-- isinstance(e, X), e what the suite holds -/
def vIsExc (K : PySem.W.Frag) (a Cl dd cl cx : Addr) (te : WE) : WE := fun env S Q E => te env S (fun d S1 => match d with
  | .exc a' _ dd' _ => a' = a ∧ dd' = dd ∧ Cl = cl ∧ ∃ b, PySem.W.kitOne K (.ref cl) (.ref cx) = some b ∧ Q (.bl b) S1
  | _ => False) E
@[simp ↓] theorem vIsExc_eq (K : PySem.W.Frag) (a Cl dd cl cx : Addr) (te : WE) (env) (S) (Q) (E) : vIsExc K a Cl dd cl cx te env S Q E = (te env S (fun d S1 => match d with
  | .exc a' _ dd' _ => a' = a ∧ dd' = dd ∧ Cl = cl ∧ ∃ b, PySem.W.kitOne K (.ref cl) (.ref cx) = some b ∧ Q (.bl b) S1
  | _ => False) E) := id rfl
theorem call_isX {X : Cx} {a Cl cl dd : Addr} {oe : Obj} {pn : List (Addr × Obj)} {x : Str} (T : ExcT C x cl) (hK : X.K = C.K) (hz : Zc (.ref Cl) (some dd) oe) (hf : ∃ vs, oe.data = .fields vs) : CallR (X.suite a ((a, oe) :: pn)) (.builtin "isinstance")
    (fun xs H Q => Cl = cl ∧ ∃ c b v, xs = [.ref a, .ref c] ∧ H dd = some (.xd v) ∧ PySem.W.kitOne C.K (.ref cl) (.ref c) = some b ∧ Q (.bl b) H) := by
  intro pins s σ H xs us Q I r h
  obtain ⟨rfl, c, b, v, rfl, hd, hk, q⟩ := h
  obtain ⟨u1, u2, rfl, r1, r2⟩ := vals2 r
  cases (show u1 = _ from r1); cases (show u2 = _ from r2)
  obtain ⟨hget, _⟩ := I.pin (a, oe) (List.mem_append.mpr (.inl List.mem_cons_self))
  obtain ⟨vs, hv⟩ := hf
  obtain ⟨mA, hns, _⟩ := (show ObjOk X.prog X.w H s.heap dd (.xd v) from I.hok dd _ hd)
  obtain ⟨od, ho, _⟩ := lookIn_ns hns
  have J : PySem.W.InstAt s.heap a oe Cl (some od) := ⟨hget, hz.1, by unfold PySem.W.notCls; rw [hv] <;> rfl, by rw [hz.2]; exact ho⟩
  have KX : C.K.In s.heap := hK ▸ I.kIn
  have Z := PySem.W.kitx_exc (x := a) (ox := oe) (od := some od) T.cli T.xf.ga T.xf.gg T.xf.exC T.cla T.cln T.clt T.clm
  exact PySem.W.kia_one Z KX J hk (fun z => nomatch z) fun tk => ⟨.bl b, H, I.tok tk, rfl, q⟩
theorem ve_isExc {x y : Str} {cl cx a Cl dd : Addr} {e : Expr} {te : WE} {p p2 pos : Pos} (hm : C.mg "isinstance" = none) (T : ExcT C x cl) (Ty : ExcT C y cx) (h : VE C (SuR R a (.ref Cl) (some dd)) e te)
    (hg : ∀ i, Gl (C.at (SuR R a (.ref Cl) (some dd) i)) "isinstance" := by exact fun _ => rfl) (hg2 : ∀ i, Gl (C.at (SuR R a (.ref Cl) (some dd) i)) y := by exact fun _ => rfl) (hdb : (y == ("__debug__" : Str)) = false := by decide)
    (he : ∀ i, starEach (e :: [.Name y p2]) (R i).env = (false, eval e (R i).env) :: starEach [.Name y p2] (R i).env := by exact fun _ => rfl) (he2 : ∀ i, starEach [.Name y p2] (R i).env = (false, eval (.Name y p2) (R i).env) :: starEach [] (R i).env := by exact fun _ => rfl)
    (hpl : ∀ i, (backTo pos (starEach [.Name y p2] (R i).env)).any (·.1) = false := by exact fun _ => rfl) :
    VE C (SuR R a (.ref Cl) (some dd)) (.Call (.Name "isinstance" p) [e, .Name y p2] [] pos) (vIsExc C.K a Cl dd cl cx te) := fun W => by
  obtain ⟨u, pu, s⟩ := h W
  refine ⟨_, fun j tk => pe_callB (call_isX (X := C.at (R j.1)) T rfl j.2.hz j.2.hf) (hg j) hm (by decide +kernel) (pa_cons (pu j tk) (pa_cons (pe_glob (X := C.at (SuR R a (.ref Cl) (some dd) j)) (hg2 j) Ty.mgC (v := .ref cx) rfl hdb) pa_nil (he2 j.1)) (he j.1)) (by decide) (by decide) (he j.1) (hpl j.1), fun σ H F Z env S Q Ex Rd ok en th k q => s σ H F Z env S _ _ _ ok en th (fun v H' F' S' d sm ok' r q' => ?_) q⟩
  split at q'
  · obtain ⟨rfl, rfl, rfl, b, hb, q'⟩ := q'
    obtain ⟨rfl, w, r2, r3⟩ := r
    exact ⟨rfl, cx, b, _, rfl, ok'.fro _ _ r2, hb, k _ _ _ _ (.bl b) sm ok' rfl q'⟩
  · exact q'.elim
end
end L3

set_option Elab.async false
set_option linter.all false
set_option maxRecDepth 100000
set_option maxHeartbeats 4000000
/-! The value layer: sorted of rows with distinct keys. -/
namespace L3
open PySem PySem.Spec PyProof.Rows L2

/-- what a row (key, value) is in a heap -/
def EntAt (h : Heap) (v : Value) (k : List Int) : Prop := ∃ t o b y n, v = .ref t ∧ h.get? t = some o ∧ o.cls = .type "tuple" ∧ o.data = .seq #[.ref b, y] n ∧ (∃ as, Reads h (.ref b) (.tuple (k.map .int)) as) ∧ ∃ ob, h.get? b = some ob ∧ ob.cls = .type "tuple"
theorem EntAt.keeps {h h' : Heap} (hk : ∀ b o, h.get? b = some o → h'.get? b = some o) {v : Value} {k : List Int} (e : EntAt h v k) : EntAt h' v k := by
  obtain ⟨t, o, b, y, n, e, h1, h2, h3, ⟨as, h4⟩, ob, h5, h6⟩ := e
  exact ⟨t, o, b, y, n, e, hk _ _ h1, h2, h3, ⟨as, Reads.keeps hk h4⟩, ob, hk _ _ h5, h6⟩
theorem plain_ints : ∀ k : List Int, PyData.depthAll (k.map .int) = 0 := PySem.W.depth_ints
theorem eqvAll_ints : ∀ k l : List Int, PyData.eqvAll (k.map .int) (l.map .int) = decide (k = l)
  | [], [] => by simp [PyData.eqvAll]
  | [], _ :: _ => by simp [PyData.eqvAll]
  | _ :: _, [] => by simp [PyData.eqvAll]
  | a :: k, b :: l => by
    have ih := eqvAll_ints k l
    simp only [List.map_cons, PyData.eqvAll, PyData.eqv, ih]
    by_cases e : a = b <;> by_cases f : k = l <;> simp [e, f]
section
variable {prog : Program} {w : World} {A : Around} {s : Shared}
theorem ent_tot {vs : List Value} (hu : A.units + 1 < cLine) (hp : ∀ v ∈ vs, ∃ k, EntAt s.heap v k) (hd : ∀ v ∈ vs, ∀ v' ∈ vs, ∀ k, EntAt s.heap v k → EntAt s.heap v' k → v = v') : Srt.Tot prog w A s (tuples' false) (fun p => p.1 ∈ vs) := by
  intro p q hm hm'
  obtain ⟨k, x⟩ := hp _ hm
  obtain ⟨k', x'⟩ := hp _ hm'
  by_cases e0 : p.1 = q.1
  · rw [← e0]
    obtain ⟨t, o, b, y, n, e, h1, h2, h3, ⟨as, h4⟩, ob, h5, h6⟩ := x
    rw [e]
    refine ⟨false, PySem.W.kat_lt h1 h3 h1 h3 ?_⟩
    show PySem.W.KatLex prog w A false (decide (2 < 2)) _ [(.ref b, .ref b), (y, y)] 0 s
    refine PySem.W.kat_cons (SeqAt.EqAt.same _ prog w _ _ ?_)
    refine PySem.W.kat_yes (PySem.W.kat_cons (SeqAt.EqAt.same _ prog w _ _ ?_))
    exact PySem.W.kat_yes (PySem.W.kat_nil ⟨rfl, rfl⟩)
  · have hk : k ≠ k' := fun z => by subst z; exact e0 (hd _ hm _ hm' k x x')
    obtain ⟨t, o, b, y, n, e, h1, h2, h3, ⟨as, h4⟩, ob, h5, h6⟩ := x
    obtain ⟨t', o', b', y', n', e', h1', h2', h3', ⟨as', h4'⟩, ob', h5', h6'⟩ := x'
    rw [e, e']
    have al : PySem.W.alike (.tuple (k.map .int)) (.tuple (k'.map .int)) = true := by simp only [PySem.W.alike]; exact PySem.W.alike_ints k k'
    have dp : A.units + min (PyData.tuple (k.map .int)).depth (PyData.tuple (k'.map .int)).depth < cLine := by
      simp only [PyData.depth, plain_ints]; omega
    refine ⟨PySem.W.dataLt (.tuple (k.map .int)) (.tuple (k'.map .int)), PySem.W.kat_lt h1 h3 h1' h3' ?_⟩
    show PySem.W.KatLex prog w A false (decide (2 < 2)) _ [(.ref b, .ref b'), (y, y')] 0 s
    refine PySem.W.kat_cons (PySem.W.eqAt_alike _ _ A s _ _ _ _ h4 h4' al dp prog w _ _ ?_)
    have ev : PyData.eqv (.tuple (k.map .int)) (.tuple (k'.map .int)) = false := by simp only [PyData.eqv, eqvAll_ints]; exact decide_eq_false hk
    rw [ev]
    refine PySem.W.kat_no (PySem.W.kat_one _ _ ?_)
    exact PySem.W.rcLt_alike _ _ A s _ _ _ _ h4 h4' al (fun z => by cases z) dp prog w _ _ ⟨rfl, rfl⟩
theorem ent_firsts {h : Heap} : ∀ {vs : List Value}, (∀ v ∈ vs, ∃ k, EntAt h v k) → ∃ fs : List Value, PySem.W.KatTups h vs fs ∧ fs.length = vs.length ∧ ∀ f ∈ fs, ∃ b ob, f = Value.ref b ∧ h.get? b = some ob ∧ ob.cls = .type "tuple"
  | [], _ => ⟨[], PySem.W.KatTups.nil, rfl, fun _ hm => by simp at hm⟩
  | v :: vs, hp => by
    obtain ⟨fs, h1, h2, h3⟩ := ent_firsts (vs := vs) fun v' hm => hp v' (List.mem_cons_of_mem _ hm)
    obtain ⟨k, t, o, b, y, n, e, ho, hc, hd, _, ob, h5, h6⟩ := hp v (List.mem_cons_self ..)
    subst e
    refine ⟨.ref b :: fs, PySem.W.KatTups.cons ho hc hd rfl h1, by rw [List.length_cons, List.length_cons, h2], fun f hm => ?_⟩
    rcases List.mem_cons.mp hm with rfl | hm
    · exact ⟨b, ob, rfl, h5, h6⟩
    · exact h3 f hm
theorem ent_inj {h : Heap} {v : Value} {k k' : List Int} (x : EntAt h v k) (x' : EntAt h v k') : k = k' := by
  obtain ⟨t, o, b, y, n, e, h1, h2, h3, ⟨as, h4⟩, _⟩ := x
  obtain ⟨t', o', b', y', n', e', h1', h2', h3', ⟨as', h4'⟩, _⟩ := x'
  rw [e] at e'; cases e'
  rw [h1] at h1'; cases h1'
  rw [h3] at h3'; cases h3'
  cases h4 with
  | tuple a1 a2 a3 a4 =>
    cases h4' with
    | tuple b1 b2 b3 b4 =>
      rw [a1] at b1; cases b1
      rw [a3] at b3; cases b3
      clear h1 h2 h3 a1 a2 a3
      have key : ∀ {ws : List Value} {k k' : List Int} {as bs}, ReadsAll h ws (k.map .int) as → ReadsAll h ws (k'.map .int) bs → k = k' := by
        intro ws
        induction ws with
        | nil => 
          intro k k' as bs r r'
          cases k with
          | nil =>
            cases k' with
            | nil => rfl
            | cons _ _ => cases r'
          | cons _ _ => cases r
        | cons w ws ih =>
          intro k k' as bs r r'
          cases k with
          | nil => cases r
          | cons a k =>
            cases k' with
            | nil => cases r'
            | cons a' k' =>
              cases r with
              | cons r1 r2 =>
                cases r' with
                | cons q1 q2 =>
                  cases r1
                  cases q1
                  rw [ih r2 q2]
      exact key a4 b4
theorem sorted_ent {l : Addr} {vs : List Value} {E : Value → Shared → Prop} {Q : Value → Shared → Prop} (hu : A.units + 200 < cLine) (hl : s.heap.IsList l vs.toArray) (hz : vs.length ≤ sizeLine) (hp : ∀ v ∈ vs, ∃ k, EntAt s.heap v k) (hd : ∀ v ∈ vs, ∀ v' ∈ vs, ∀ k, EntAt s.heap v k → EntAt s.heap v' k → v = v')
    (h : ∀ (h' : Heap) (d : Addr) (out : List Value), out.Perm vs → (∀ b o, s.heap.get? b = some o → h'.get? b = some o) → s.heap.objs.size ≤ d → (∃ n, h'.get? d = some (seqObj "list" out.toArray n)) → Q (.ref d) { s with heap := h' }) :
    wpAny (model prog w) A (call (.builtin "sorted") [.ref l]) Q E s := by
  refine Srt.sorted_any hl hz (fun h2 h₁ a ha kk => ?_) fun out ho => ?_
  · intro h' keep
    have kp : ∀ b o, s.heap.get? b = some o → h'.get? b = some o := fun b o e => keep b o (kk b o e).1 (kk b o e).2
    have hp' : ∀ v ∈ vs, ∃ k, EntAt h' v k := fun v hm => by
      obtain ⟨k, x⟩ := hp v hm
      exact ⟨k, x.keeps kp⟩
    obtain ⟨fs, h1, h2', h3⟩ := ent_firsts hp'
    refine ⟨tuples' false, fun Q E hq => ?_, ent_tot (s := { s with heap := h' }) (by show A.units + 1 + 1 + 1 < cLine; omega) hp' fun v hm v' hm' k x x' => ?_⟩
    · refine PySem.W.kat_kind (T := .type "tuple") h1 (by omega) (fun f hm => ?_) (by rfl) ?_
      · obtain ⟨b, ob, rfl, h5, h6⟩ := h3 f hm
        rw [← h6]
        exact show PySem.W.Looks (model prog w) h' (typeOf (.ref b)) ob.cls from (PySem.W.Looks.ld h5).andThen .now
      · have e : (Value.type "tuple" != Value.type "tuple") = false := by first | decide +kernel | rfl | decide
        rw [e]
        exact hq
    · obtain ⟨k1, x1⟩ := hp v hm
      obtain ⟨k2, x2⟩ := hp v' hm'
      have e1 := ent_inj x (x1.keeps kp)
      have e2 := ent_inj x' (x2.keeps kp)
      subst e1
      rw [← e2] at x2
      exact hd v hm v' hm' _ x1 x2
  · exact h _ _ out ho (fun b o e => sortedAll_old e) (Nat.le_succ _) (sortedAll_at s.heap vs out.toArray)
end

/-- sorted(xs), xs a list of pairs whose first is a tuple of ints, no two alike: a new list of the same pairs, in some order -/
def uSortE (K : PySem.W.Frag) : List V → Hp → VK → Prop := fun vs H Q => ∃ (a : Addr) (L : List (Addr × Addr × V × List Int)), vs = [V.ref a] ∧ SqL K H a (L.map fun e => .ref e.1) ∧
  (∀ e ∈ L, SqT K H e.1 [.ref e.2.1, e.2.2.1] ∧ SqT K H e.2.1 (e.2.2.2.map V.int)) ∧ (L.map fun e => e.2.2.2).Nodup ∧
  ∀ L' p, List.Perm L' L → H p = none → Q (.ref p) (upd H p (.lst (L'.map fun e => .ref e.1)))
theorem dp_ints {K : PySem.W.Frag} {H : Hp} : ∀ k : List Int, DpAll K H (k.map V.int) (k.map .int)
  | [] => .nil
  | i :: k => .cons (.int i) (dp_ints k)
theorem perm_map {α β : Type} (f : α → β) : ∀ {out : List β} {L : List α}, out.Perm (L.map f) → ∃ L', List.Perm L' L ∧ out = L'.map f := by
  intro out L h
  generalize hm : L.map f = M at h
  induction h generalizing L with
  | nil =>
    cases L with
    | nil => exact ⟨[], .refl _, rfl⟩
    | cons a l => cases hm
  | @cons x l1 l2 p ih =>
    cases L with
    | nil => cases hm
    | cons a l =>
      simp only [List.map_cons, List.cons.injEq] at hm
      obtain ⟨L', q, e⟩ := ih hm.2
      exact ⟨a :: L', q.cons a, by rw [List.map_cons, hm.1, e]⟩
  | swap x y l =>
    cases L with
    | nil => cases hm
    | cons a l1 =>
      cases l1 with
      | nil => simp at hm
      | cons b l2 =>
        simp only [List.map_cons, List.cons.injEq] at hm
        exact ⟨b :: a :: l2, .swap _ _ _, by simp [hm.1, hm.2.1, hm.2.2]⟩
  | trans p1 p2 ih1 ih2 =>
    obtain ⟨L', q, e⟩ := ih2 hm
    obtain ⟨L'', q', e'⟩ := ih1 e.symm
    exact ⟨L'', q'.trans q, e'⟩
theorem nodup_inj {α β : Type} {f : α → β} : ∀ {L : List α}, (L.map f).Nodup → ∀ a ∈ L, ∀ b ∈ L, f a = f b → a = b
  | [], _, a, h, _, _, _ => by cases h
  | x :: L, hn, a, ha, b, hb, e => by
    rw [List.map_cons, List.nodup_cons] at hn
    rcases List.mem_cons.mp ha with ea | ha
    · rcases List.mem_cons.mp hb with eb | hb
      · rw [ea, eb]
      · exact absurd (List.mem_map.mpr ⟨b, hb, by rw [← e, ea]⟩) hn.1
    · rcases List.mem_cons.mp hb with eb | hb
      · exact absurd (List.mem_map.mpr ⟨a, ha, by rw [e, eb]⟩) hn.1
      · exact nodup_inj hn.2 a ha b hb e
theorem refs_vals {α : Type} {f : α → Addr} : ∀ {L : List α} {us : List Value}, Vals (L.map fun e => V.ref (f e)) us → us = L.map fun e => Value.ref (f e)
  | [], _, .nil => rfl
  | e :: L, _, .cons r t => by
    obtain rfl := r
    rw [refs_vals t] <;> rfl
theorem vals_refs {α : Type} {f : α → Addr} : ∀ (L : List α), Vals (L.map fun e => V.ref (f e)) (L.map fun e => Value.ref (f e))
  | [] => .nil
  | e :: L => .cons rfl (vals_refs L)
theorem cr_sortE {X : Cx} (hu : X.A.units + 200 < cLine) : CallR X (.builtin "sorted") (uSortE X.K) := by
  intro pins s σ H vs us Q I r h
  obtain ⟨a, L, rfl, hs, hx, hn, q⟩ := h
  obtain ⟨its, rv, hl, hz⟩ := I.list hs
  obtain ⟨u, rfl, ru⟩ := vals1 r
  obtain rfl : u = Value.ref a := ru
  have e1 := refs_vals rv
  subst e1
  have ent : ∀ e ∈ L, EntAt s.heap (.ref e.1) e.2.2.2 := fun e he => by
    obtain ⟨h1, h2⟩ := hx e he
    obtain ⟨its1, r1, ⟨o, ho, hc, n, hd⟩, _⟩ := I.tuple h1
    obtain ⟨u1, u2, rfl, ri, rj⟩ := vals2 r1
    obtain rfl : u1 = Value.ref e.2.1 := ri
    obtain ⟨its2, r2, ⟨ob, ho2, hc2, n2, hd2⟩, _⟩ := I.tuple h2
    exact ⟨e.1, o, e.2.1, u2, n, rfl, ho, hc, hd, Dp.reads I _ _ _ (.tup h2 (dp_ints _)) rfl, ob, ho2, hc2⟩
  refine sorted_ent hu hl.isList (by rw [List.length_map] at hz ⊢; exact hz) (fun v hv => ?_) (fun v hv v' hv' k x x' => ?_) fun h' d out hp k hd hn' => ?_
  · obtain ⟨e, he, rfl⟩ := List.mem_map.mp hv
    exact ⟨_, ent e he⟩
  · obtain ⟨e, he, rfl⟩ := List.mem_map.mp hv
    obtain ⟨e', he', rfl⟩ := List.mem_map.mp hv'
    have z1 := ent_inj x (ent e he)
    have z2 := ent_inj x' (ent e' he')
    rw [nodup_inj hn e he e' he' (z1.symm.trans z2)]
  · obtain ⟨L', pm, rfl⟩ := perm_map _ hp
    obtain ⟨n, hn'⟩ := hn'
    refine ⟨.ref d, upd H d (.lst (L'.map fun e => .ref e.1)), I.laid (t' := s.toks) k hd ⟨?_, _, n, vals_refs (f := fun e : Addr × Addr × V × List Int => e.1) L', hn'⟩, rfl, q _ d pm (I.hok.fresh hd)⟩
    rw [List.length_map] at hz ⊢
    rw [pm.length_eq]; exact hz
/-- a row: a key, a value -/
@[simp] def ent (e : List Int × D) : D := .tup [.tup (e.1.map D.int), e.2]
section
variable {C : Cmn} {ι : Type} {R : ι → Rst}
def RSortE (ds : List D) (S : Sto) (Q : VQ) (_ : Hold Q) : Prop := ∃ (es : List (List Int × D)), ds = [.lst (es.map ent)] ∧ (es.map (·.1)).Nodup ∧ ∀ fs, List.Perm fs es → Q (.lst (fs.map ent)) S
def rSortE : RCV := fun ds S Q => RSortE ds S Q .mk
@[simp ↓] theorem rSortE_eq (ds) (S) (Q) : rSortE ds S Q = (RSortE ds S Q .mk) := id rfl
theorem ents_at {K : PySem.W.Frag} {F : Hp} : ∀ {es : List (List Int × D)} {vs : List V}, Reps K F (es.map ent) vs → ∃ L : List (Addr × Addr × V × List Int), vs = L.map (fun e => .ref e.1) ∧ (∀ e ∈ L, SqT K F e.1 [.ref e.2.1, e.2.2.1] ∧ SqT K F e.2.1 (e.2.2.2.map V.int)) ∧ L.map (fun e => e.2.2.2) = es.map (·.1)
  | [], _, h => by cases h; exact ⟨[], rfl, fun _ h => (by cases h), rfl⟩
  | (k, d) :: es, _, h => by
    obtain ⟨v, r, rfl, h2, h3⟩ := h
    obtain ⟨L, rfl, h4, h5⟩ := ents_at h3
    obtain ⟨a, vs, rfl, t1, b, y, rfl, ⟨b', ks, rfl, t2, hk⟩, c, z, rfl, hv, e⟩ := h2
    cases e
    have e2 := hk.ints
    subst e2
    refine ⟨(a, b', c, k) :: L, rfl, fun e he => ?_, by simp [h5]⟩
    rcases List.mem_cons.mp he with rfl | he
    · exact ⟨t1.sq, t2.sq⟩
    · exact h4 e he
theorem reps_perm {K : PySem.W.Frag} {F : Hp} {α : Type} {f : α → V} {L L' : List α} (p : List.Perm L' L) : ∀ {β : Type} {g : β → D} {es : List β}, Reps K F (es.map g) (L.map f) → ∃ fs, List.Perm fs es ∧ Reps K F (fs.map g) (L'.map f) := by
  intro β g
  induction p with
  | nil => intro es h; exact ⟨es, .refl _, h⟩
  | cons x p ih =>
    intro es h
    cases es with
    | nil => cases h
    | cons e es =>
      obtain ⟨v, r, e1, h2, h3⟩ := h
      cases e1
      obtain ⟨fs, q, h4⟩ := ih h3
      exact ⟨e :: fs, q.cons e, _, _, rfl, h2, h4⟩
  | swap x y l =>
    intro es h
    cases es with
    | nil => cases h
    | cons e es =>
      obtain ⟨v, r, e1, h2, h3⟩ := h
      cases e1
      cases es with
      | nil => cases h3
      | cons e' es =>
        obtain ⟨v', r', e2, h4, h5⟩ := h3
        cases e2
        exact ⟨e' :: e :: es, .swap _ _ _, _, _, rfl, h4, _, _, rfl, h2, h5⟩
  | trans p1 p2 ih1 ih2 =>
    intro es h
    obtain ⟨fs, q, h4⟩ := ih2 h
    obtain ⟨gs, q', h5⟩ := ih1 h4
    exact ⟨gs, q'.trans q, h5⟩
theorem cv_sortE (hu : ∀ i, (R i).A.units + 200 < cLine) : CallV C R (.builtin "sorted") rSortE := by
  refine ⟨uSortE C.K, fun i => cr_sortE (X := C.at (R i)) (hu i), fun F Z S H vs ds Q Rd ok r k h => ?_⟩
  obtain ⟨es, rfl, hn, q⟩ := h
  obtain ⟨v, rfl, p, ws, rfl, h2, h3⟩ := reps1 r
  obtain ⟨L, rfl, h4, h5⟩ := ents_at h3
  refine ⟨p, L, rfl, SqL.of (ok.fro _ _ h2), fun e he => ⟨same_sqt ok.fro (h4 e he).1, same_sqt ok.fro (h4 e he).2⟩, by rw [h5]; exact hn, fun L' l pm hl => ?_⟩
  obtain ⟨fs, pf, r'⟩ := reps_perm (f := fun e : Addr × Addr × V × List Int => V.ref e.1) pm h3
  exact k.lst ok hl r' (q fs pf)
end
/-- what is walked: a list or a tuple -/
def iSeq (t : WE) : WI := fun env S Q E => iLst t env S Q E ∨ iTpl t env S Q E
@[simp ↓] theorem iSeq_eq (t : WE) (env) (S) (Q) (E) : iSeq t env S Q E = (iLst t env S Q E ∨ iTpl t env S Q E) := id rfl
theorem pi_or {X : Cx} {tg l : Expr} {a b : TI} (p : PI X tg l a) (q : PI X tg l b) : PI X tg l (fun σ H R => a σ H R ∨ b σ H R) :=
  ⟨fun pins s σ H R I h => h.elim (p.run pins s σ H R I) (q.run pins s σ H R I)⟩
theorem vi_seq {C : Cmn} {ι : Type} {R : ι → Rst} {tg l : Expr} {t : WE} (h : VE C R l t) : VI C R tg l (iSeq t) := fun W => by
  obtain ⟨u1, p1, s1⟩ := vi_lst (tg := tg) h W
  obtain ⟨u2, p2, s2⟩ := vi_tpl (tg := tg) h W
  exact ⟨_, fun i tk => pi_or (p1 i tk) (p2 i tk), fun σ H F Z env S Q Ex Rd ok en th k q => q.elim (fun z => .inl (s1 σ H F Z env S Q Ex Rd ok en th k z)) (fun z => .inr (s2 σ H F Z env S Q Ex Rd ok en th k z))⟩
end L3

set_option Elab.async false
set_option linter.all false
set_option maxRecDepth 100000
set_option maxHeartbeats 4000000
/-! The value layer: small facts for the readings' proofs. -/
namespace L3
open PySem PySem.Spec PyProof.Rows L2
section
variable {α : Type} {a b c d e : α} {r : List α}
@[simp] theorem at0 : atI (a :: r) 0 = some a := atI_nat (j := 0) rfl
@[simp] theorem at1 : atI (a :: b :: r) 1 = some b := atI_nat (j := 1) rfl
@[simp] theorem at2 : atI (a :: b :: c :: r) 2 = some c := atI_nat (j := 2) rfl
@[simp] theorem at3 : atI (a :: b :: c :: d :: r) 3 = some d := atI_nat (j := 3) rfl
@[simp] theorem at4 : atI (a :: b :: c :: d :: e :: r) 4 = some e := atI_nat (j := 4) rfl
theorem at_lt {xs : List α} {i : Int} (h0 : 0 ≤ i) (h : i < xs.length) : ∃ v, xs[i.toNat]? = some v ∧ atI xs i = some v := by
  have hl : i.toNat < xs.length := by omega
  refine ⟨xs[i.toNat], List.getElem?_eq_getElem hl, ?_⟩
  unfold atI ixN
  rw [if_pos h0, if_pos h]
  simp
theorem ix_lt {n : Nat} {i : Int} (h0 : 0 ≤ i) (h : i < n) : ixN n i = some i.toNat := by
  unfold ixN
  rw [if_pos h0, if_pos h]
end
theorem line2 : sizeLine = 16777216 := by rw [sizeLine_eq]
@[simp] theorem cdiv_small {i j : Int} : CDiv i j ↔ 0 < j ∧ j < 1073741824 := Iff.rfl
theorem cmul_l {i j : Int} (h0 : -(2 ^ 64) < i) (h1 : i < 2 ^ 64) : CMul i j := .inl ⟨h0, h1⟩
theorem cmul_r {i j : Int} (h0 : -(2 ^ 64) < j) (h1 : j < 2 ^ 64) : CMul i j := .inr ⟨h0, h1⟩
@[simp] theorem sup_at {S : Sto} {p : Addr} {o : SO} : sup S p o p = some o := sup_same
@[simp] theorem sup_twice {S : Sto} {p : Addr} {o u : SO} : sup (sup S p o) p u = sup S p u := sup_sup
end L3

set_option Elab.async false
set_option linter.all false
set_option maxRecDepth 100000
set_option maxHeartbeats 4000000
/-! The value layer: what the head tells of the text's defs and classes. -/
namespace L3
open PySem PySem.Spec PyProof.Rows L2
/-! ### the Hook: facts, defs, and one Bool more -/
abbrev AlV : Type := He.AlD × Bool
def obsV (n : Nat) (fa : List He.Fa) (fn : List He.DefD) (ex : PySem.W.Frag → Bool) (g : Addr → Option Obj) : AlV := (He.obsD fa fn (He.frG g (He.asD g n)), ex (He.frG g (He.asD g n)))
structure SaysV (fa : List He.Fa) (fn : List He.DefD) (ex : PySem.W.Frag → Bool) (K : PySem.W.Frag) : Prop where
  d : He.SaysD fa fn K
  more : ex K = true
def hookV (n : Nat) (fa : List He.Fa) (fn : List He.DefD) (ex : PySem.W.Frag → Bool) : PySem.W.Hook where
  α := AlV
  obs := fun s => obsV n fa fn ex s.heap.get?
  val := fun _ => (He.valD fn, true)
  says := fun _ h => ∃ K : PySem.W.Frag, K.In h ∧ SaysV fa fn ex K
  of := fun _ _ e => ⟨_, He.frG_in, congrArg Prod.fst e, congrArg Prod.snd e⟩
  keeps := fun _ _ _ ⟨K, hK, c⟩ k => ⟨K, PySem.W.Frag.In.keeps hK k, c⟩
theorem obsV_eq {n : Nat} {fa : List He.Fa} {fn : List He.DefD} {ex : PySem.W.Frag → Bool} {g : Addr → Option Obj} {s : Shared} (h : ∀ a, g a = s.heap.get? a) : obsV n fa fn ex g = (hookV n fa fn ex).obs s := by
  rw [show g = s.heap.get? from funext h]; rfl
/-! ### own exception classes over ValueError -/
def oexB (K : PySem.W.Frag) (C : Addr) : Bool := match K.lookup C with
  | some ⟨.type t, dd, .cls cd, sl⟩ => (match cd.mro, sl.toList with
    | .ref C' :: bm, [_, _, _, _, some (.builtin n), _] => decide (t = "type") && (decide (C' = C) && (decide (n = "ValueError.__new__") && (!cd.hasDel && (cd.hasDict && PySem.HandSPX.refsVE bm))))
    | _, _ => false)
  | _ => false
theorem oexB_ok {K : PySem.W.Frag} {C : Addr} (h : oexB K C = true) : ∃ nm q N bs bm sn sub ab col dd k0 k1 k2 k3 k5, K.lookup C = some (excClassObj nm q C N bs bm true sn sub ab col dd k0 k1 k2 k3 k5 "ValueError.__new__") ∧ PySem.HandSPX.refsVE bm = true := by
  unfold oexB at h
  split at h
  · rename_i t dd cd sl lk
    split at h
    · rename_i C' bm k0 k1 k2 k3 n k5 hm hs
      obtain ⟨nm, bs, mro, ns, qn, hd, sn, sub, ab, col, del⟩ := cd
      obtain ⟨h1, h⟩ := He.ba h
      obtain ⟨h2, h⟩ := He.ba h
      obtain ⟨h3, h⟩ := He.ba h
      obtain ⟨h4, h⟩ := He.ba h
      obtain ⟨h5, h6⟩ := He.ba h
      have e1 := of_decide_eq_true h1
      have e2 := of_decide_eq_true h2
      have e3 := of_decide_eq_true h3
      simp only [Bool.not_eq_true'] at h4
      simp only at hm h5
      subst e1 e2 e3 h4 h5 hm
      have e7 : sl = #[k0, k1, k2, k3, some (.builtin "ValueError.__new__"), k5] := by
        rw [← hs, Array.toArray_toList]
      subst e7
      exact ⟨nm, qn, ns, bs, bm, sn, sub, ab, col, dd, k0, k1, k2, k3, k5, lk, h6⟩
    · cases h
  · cases h
/-- the facts of an exception class by its name; its __init__ by the def d -/
def excB (x : Str) (K : PySem.W.Frag) : Bool :=
  oexB K (He.ga K x) && (decide (PySem.W.findIn K (.ref (He.ga K x)) "__setattr__" = some (some (.builtin "object.__setattr__"))) && (decide (PySem.W.subIn K (.ref (He.ga K x)) (.type "BaseException") = some true) &&
  (decide (PySem.W.typeIn K (.ref (He.ga K x)) = some (.type "type")) && (PySem.W.keepIn K (.ref (He.ga K x)) && (xfB K (He.ga K x) && (decide (PySem.W.findIn K (.ref (He.ga K x)) "what" = some none) &&
  (decide (PySem.W.findIn K (.ref (He.ga K x)) "__init__" = some (some (.ref (He.fAd K (x, some "__init__"))))) && (decide (PySem.W.typeIn K (.ref (He.fAd K (x, some "__init__"))) = some (.type "function")) &&
  (decide (PySem.W.findIn K (.ref (He.ga K x)) "__class__" = some (some (.builtin "object.__class__"))) && (decide (PySem.W.specialIn K (.builtin "object.__class__") "__get__" = some (some (.builtin "getset_descriptor.__get__"))) &&
  (decide (PySem.W.takesIn K (.builtin "object.__class__") = some true) && (decide (PySem.W.mroIn K (He.ga K x) (.type "object") = some true) && ((PySem.W.clsIn K (He.ga K x)).isSome && decide (PySem.W.nsIn K mainGlobals x = some (some (.ref (He.ga K x)))))))))))))))))
theorem excT_mk {C : Cmn} {h : Heap} {x : Str} {fI : Addr} {fdI : FuncData} {ps : List Str} (X : C.K.In h) (G : h.Ns mainGlobals C.mg) (e : excB x C.K = true) (hf : fI = He.fAd C.K (x, some "__init__"))
    (F : FnOk C.P C.w C.K C.mg C.base CX0 1 fI fdI ps (spInit C.K)) (b : Binds C.K fdI ps []) : ExcT C x (He.ga C.K x) := by
  subst hf
  unfold excB at e
  simp only [Bool.and_eq_true, decide_eq_true_eq] at e
  obtain ⟨h1, h2, h3, h4, h5, h6, h7, h8, h9, h10, h11, h12, h13, h14, h15⟩ := e
  exact ⟨PySem.W.mg_of X G h15, ⟨oexB_ok h1, h2, h3, h4, h5⟩, xfB_ok h6, h7, ⟨_, fdI, ps, h8, h9, F, b⟩, h10, h11, h12, h13, h14⟩
/-- def __init__(self, what=None): self.what = what -/
theorem init_ok {C : Cmn} {qual : Str} {params : Arguments} {scope : Scope} {dvs : List V} {kws : List (Str × V)} {f : Addr} {fd : FuncData} {p1 p2 p3 p4 : Pos} (F : FunD C.K "__init__" qual params [.Assign [.Attribute (.Name "self" p1) "what" p2] (.Name "what" p3) p4] scope dvs kws f fd)
    (Sc : FnScope ["self", "what"] ["self", "what"] scope) (v0 : scope.names.lookup ("self" : Str) = some .local) (v1 : scope.names.lookup ("what" : Str) = some .local) : FnOk C.P C.w C.K C.mg C.base CX0 1 f fd ["self", "what"] (spInit C.K) := by
  refine F.ok (k := 0) Sc (fun vs H Q E q => ?_) (fun cdv A outer s H vs Q E hr q => ?_)
  · obtain ⟨a, Cl, v, rfl, _⟩ := q
    rfl
  · obtain ⟨a, Cl, v, rfl, ox, no, ha, k⟩ := q
    refine ⟨_, pss_one (ps_ost (pe_var (i := 0) rfl (.inl v0)) (pe_var (i := 1) rfl (.inl v1))), ?_⟩
    exact ⟨v, rfl, .ref a, rfl, a, Cl, rfl, ox, no, .inl ⟨ha, fun dx nd ne => k dx nd ne⟩⟩
/-! ### defs -/
theorem stands_mk {C : Cmn} {h : Heap} {x : Str} {st : Stmt} {ps : List Str} {fa : List He.Fa} {fn : List He.DefD} (X : C.K.In h) (G : h.Ns mainGlobals C.mg) (c : He.SaysD fa fn C.K) (i : Nat) (h1 : fn[i]? = some ⟨(x, none), x, x, defArgs st, defBody st, defScope st, [], []⟩) (h2 : (He.Fa.glo x) ∈ fa)
    (hb : ∀ (kV doc pm : Value) (an : Option Addr) (cdv ct : Value) (us : List Value), us.length = ps.length → bindArgs (PySem.W.fnOf x x (defArgs st) (defBody st) (defScope st) .none kV doc pm an cdv ct) ⟨us, []⟩ = pure (ps.zip us)) : Stands C x st ps := by
  obtain ⟨fd, F⟩ := c.def_ i h1
  obtain ⟨j, hj, e⟩ := List.mem_iff_getElem.mp h2
  have g := He.glo_ok X G (c.fact j (f := .glo x) (by rw [List.getElem?_eq_getElem hj, e]))
  exact ⟨_, fd, _, _, F, g, F.bindsN hb⟩
theorem free_mk {C : Cmn} {h : Heap} {x : Str} {fa : List He.Fa} {fn : List He.DefD} (X : C.K.In h) (G : h.Ns mainGlobals C.mg) (c : He.SaysD fa fn C.K) (h2 : (He.Fa.free x) ∈ fa) : C.mg x = none := by
  obtain ⟨j, hj, e⟩ := List.mem_iff_getElem.mp h2
  exact He.free_ok X G (c.fact j (f := .free x) (by rw [List.getElem?_eq_getElem hj, e]))
/-! ### the law -/
/-- law's promise: a list of at most 63 ints is handed in, True comes out -/
def spTrue : WSp := fun ds S Q _ => ∃ ns : List Int, ds = [.fix (ns.map .int)] ∧ ns.length ≤ 63 ∧ S = (fun _ => none) ∧ ∀ S', Q (.bl true) S'
def spLaw (K : PySem.W.Frag) : Sp := fun vs H Q _ => ∃ (a : Addr) (ns : List Int), vs = [.ref a] ∧ SqL K H a (ns.map V.int) ∧ ns.length ≤ 63 ∧ ∀ H', Q (.bl true) H'
theorem law_fn {C : Cmn} {n : Nat} {f : Addr} {fd : FuncData} {ps : List Str} (F : FnOk C.P C.w C.K C.mg C.base (L2.CX C.P C.w) n f fd ps (low C.K spTrue)) : FnOk C.P C.w C.K C.mg C.base CX0 n f fd ps (spLaw C.K) := by
  have imp : ∀ vs H Q E, spLaw C.K vs H Q E → low C.K spTrue vs H Q E0 := fun vs H Q E z => by
    obtain ⟨a, ns, rfl, hS, hl, k⟩ := z
    refine ⟨H, fun _ => none, fun _ => none, [.fix (ns.map .int)], fun d _ => d = .bl true, NoEx, ⟨Same.refl H, (fun _ _ e => nomatch e), (fun _ _ e => nomatch e)⟩, Reps.one ⟨a, _, rfl, hS, Reps.ofInts ns⟩, ⟨ns, rfl, hl, rfl, fun _ => rfl⟩, fun v H' F' S' d sm ok r q => ?_, fun _ _ _ _ _ _ _ _ _ _ _ z => z.elim⟩
    subst q
    cases (show v = _ from r)
    exact k H'
  refine ⟨fun vs H Q E z => F.len vs H Q E0 (imp _ _ _ _ z), fun A outer s H args us vs Q E hr he hb hv z => ?_⟩
  refine codeAny_mono (F.run A outer s H args us vs Q E0 hr he hb hv (imp _ _ _ _ z)) fun r s' hq => ?_
  cases r with
  | error e =>
    obtain ⟨_, _, _, _, _, _, _, _, _, _, _, _, z⟩ := hq
    exact z.elim
  | ok fl => cases fl <;> exact hq
end L3

set_option Elab.async false
set_option linter.all false
set_option maxRecDepth 100000
set_option maxHeartbeats 4000000
/-! Printed by gen.py: the bodies of the text's defs, read by the value layer. -/
namespace K75
open PySem PySem.Spec L2 L3
def top (i : Nat) : Stmt := PySem.Challenge.pw_formsbrief_k75_paths_and_parts.main.body.getD i (.Pass ⟨0, 0, 0, 0⟩)
abbrev s_steps_of : Stmt := top 6
abbrev N_steps_of : List Str := ["value", "index", "item"]
theorem sc_steps_of : FnScope N_steps_of ["value"] (defScope s_steps_of) := ⟨rfl, rfl, rfl, by decide +kernel, rfl, by decide +kernel, by decide +kernel⟩
def t_steps_of_e1 : WE :=
  (vTup (vCons (vVar 1) (vCons (vVar 2) vNil)))
def t_steps_of : WS :=
  (vSeq (vIf (vTst (vOp rEq (vOp rIx (vVar 0) (vC (.int 0))) (vC (.str "list")))) (vRet (vLcF (iEnT (vCons (vOp rIx (vVar 0) (vC (.int 1))) vNil)) (gTupD 2 (gThen (gNm 1) (gThen (gNm 2) gEnd))) vYes (t_steps_of_e1) [1, 2])) vNext)
  (vSeq (vIf (vTst (vOp rEq (vOp rIx (vVar 0) (vC (.int 0))) (vC (.str "map")))) (vRet (vCB rListF (vCons (vOp rIx (vVar 0) (vC (.int 1))) vNil))) vNext)
  (vRet (vLstF vNil))))
theorem dv_steps_of {C : Cmn} {k : Nat} {qual : Str} (g_enumerate : C.mg "enumerate" = none) (g_list : C.mg "list" = none) : VSs C (fun i : DIx k qual (defScope s_steps_of) => DR C N_steps_of i) (defBody s_steps_of) (t_steps_of) :=
  (vss_cons (vs_if (vt_cmp (ov_eq (fun i => ru i.room)) (ve_ix (ve_var (i := 0) (hv := fun _ => .inl rfl)) ve_int) ve_str) (vss_one (vs_ret (ve_lcF (hN := (fun _ => sc_steps_of.nd)) (own := [("index", 1), ("item", 2)]) (vi_enT g_enumerate (va_cons (ve_ix (ve_var (i := 0) (hv := fun _ => .inl rfl)) ve_int) va_nil)) (fun _ => blkOk_by (own := [("index", 1), ("item", 2)]) (N := N_steps_of) (sc := defScope s_steps_of) (by decide +kernel)) (vgo_tup (vgos_cons (vgo_name (i := 1) (fun _ => sc_steps_of.nd) (hx := fun _ => .inl rfl) (hf := fun _ => .inr rfl)) (vgos_cons (vgo_name (i := 2) (fun _ => sc_steps_of.nd) (hx := fun _ => .inl rfl) (hf := fun _ => .inr rfl)) vgos_nil))) vts_nil (ve_tup (va_cons (ve_var (i := 1) (hv := fun _ => .inl rfl)) (va_cons (ve_var (i := 2) (hv := fun _ => .inl rfl)) va_nil)))))) vss_nil)
  (vss_cons (vs_if (vt_cmp (ov_eq (fun i => ru i.room)) (ve_ix (ve_var (i := 0) (hv := fun _ => .inl rfl)) ve_int) ve_str) (vss_one (vs_ret (ve_callTy cv_listF g_list (va_cons (ve_ix (ve_var (i := 0) (hv := fun _ => .inl rfl)) ve_int) va_nil)))) vss_nil)
  (vss_one (vs_ret (ve_lstF va_nil)))))
abbrev s_paths_of : Stmt := top 7
abbrev N_paths_of : List Str := ["value", "found", "step", "part", "path"]
theorem sc_paths_of : FnScope N_paths_of ["value"] (defScope s_paths_of) := ⟨rfl, rfl, rfl, by decide +kernel, rfl, by decide +kernel, by decide +kernel⟩
def t_paths_of_b1 (q_paths_of : WSp) (q_steps_of : WSp) : WS :=
  (vExpr (vMt rAppend (vVar 1) (vCons (vOp rAdd (vTup (vCons (vVar 2) vNil)) (vVar 4)) vNil)))
def t_paths_of_b2 (q_paths_of : WSp) (q_steps_of : WSp) : WS :=
  (vFor (iLst (vFrz (vCall q_paths_of (vCons (vVar 3) vNil)))) (gNm 4)
  (t_paths_of_b1 q_paths_of q_steps_of))
def t_paths_of (q_paths_of : WSp) (q_steps_of : WSp) : WS :=
  (vSeq (vAsg (vLst (vCons (vTup vNil) vNil)) (gNm 1))
  (vSeq (vFor (iLst (vCall q_steps_of (vCons (vVar 0) vNil))) (gTupD 2 (gThen (gNm 2) (gThen (gNm 3) gEnd)))
  (t_paths_of_b2 q_paths_of q_steps_of))
  (vRet (vVar 1))))
theorem dv_paths_of {C : Cmn} {k : Nat} {qual : Str} {q_paths_of : WSp} (D_paths_of : DefOk C k "paths_of" q_paths_of) {q_steps_of : WSp} (D_steps_of : DefOk C k "steps_of" q_steps_of) : VSs C (fun i : DIx k qual (defScope s_paths_of) => DR C N_paths_of i) (defBody s_paths_of) (t_paths_of q_paths_of q_steps_of) :=
  (vss_cons (vs_set (i := 1) (fun _ => sc_paths_of.nd) (ve_lst (va_cons (ve_tup va_nil) va_nil)) (hx := fun _ => .inl rfl) (hf := fun _ => .inl rfl))
  (vss_cons (vs_for (vi_lst (ve_call D_steps_of (va_cons (ve_var (i := 0) (hv := fun _ => .inl rfl)) va_nil) (fun i => i.room))) (vg_tup (vgs_cons (vg_name (i := 2) (fun _ => sc_paths_of.nd) (hx := fun _ => .inl rfl) (hf := fun _ => .inl rfl)) (vgs_cons (vg_name (i := 3) (fun _ => sc_paths_of.nd) (hx := fun _ => .inl rfl) (hf := fun _ => .inl rfl)) vgs_nil)))
  (vss_one (vs_for (vi_lst (ve_frz (ve_call D_paths_of (va_cons (ve_var (i := 3) (hv := fun _ => .inl rfl)) va_nil) (fun i => i.room)))) (vg_name (i := 4) (fun _ => sc_paths_of.nd) (hx := fun _ => .inl rfl) (hf := fun _ => .inl rfl))
  (vss_one (vs_expr (ve_mt PySem.F.slot_list_append PySem.F.type_list_append mv_append (ve_var (i := 1) (hv := fun _ => .inl rfl)) (va_cons (ve_op ov_add (ve_tup (va_cons (ve_var (i := 2) (hv := fun _ => .inl rfl)) va_nil)) (ve_var (i := 4) (hv := fun _ => .inl rfl))) va_nil)))))))
  (vss_one (vs_ret (ve_var (i := 1) (hv := fun _ => .inl rfl))))))
abbrev s_part_at : Stmt := top 8
abbrev N_part_at : List Str := ["value", "path", "part", "step", "found", "row"]
theorem sc_part_at : FnScope N_part_at ["value", "path"] (defScope s_part_at) := ⟨rfl, rfl, rfl, by decide +kernel, rfl, by decide +kernel, by decide +kernel⟩
def t_part_at_c1 (x_Astray : Addr) (q_steps_of : WSp) : WT :=
  (vTst (vOp rEq (vOp rIx (vVar 5) (vC (.int 0))) (vVar 3)))
def t_part_at_e1 (x_Astray : Addr) (q_steps_of : WSp) : WE :=
  (vOp rIx (vVar 5) (vC (.int 1)))
def t_part_at_b1 (x_Astray : Addr) (q_steps_of : WSp) : WS :=
  (vSeq (vAsg (vLcF (iLst (vCall q_steps_of (vCons (vVar 2) vNil))) (gNm 5) (t_part_at_c1 x_Astray q_steps_of) (t_part_at_e1 x_Astray q_steps_of) [5]) (gNm 4))
  (vSeq (vIf (vTst (vOp rEq (vVar 4) (vLstF vNil))) (vRaise x_Astray (vCons (vCB rTuple (vCons (vVar 1) vNil)) vNil)) vNext)
  (vAsg (vOp rIx (vVar 4) (vC (.int 0))) (gNm 2))))
def t_part_at (x_Astray : Addr) (q_steps_of : WSp) : WS :=
  (vSeq (vAsg (vVar 0) (gNm 2))
  (vSeq (vFor (iTpl (vVar 1)) (gNm 3)
  (t_part_at_b1 x_Astray q_steps_of))
  (vRet (vVar 2))))
theorem dv_part_at {C : Cmn} {k : Nat} {qual : Str} (g_tuple : C.mg "tuple" = none) {x_Astray : Addr} (T_Astray : ExcT C "Astray" x_Astray) {q_steps_of : WSp} (D_steps_of : DefOk C (k + 2) "steps_of" q_steps_of) : VSs C (fun i : DIx (k + 2) qual (defScope s_part_at) => DR C N_part_at i) (defBody s_part_at) (t_part_at x_Astray q_steps_of) :=
  (vss_cons (vs_set (i := 2) (fun _ => sc_part_at.nd) (ve_var (i := 0) (hv := fun _ => .inl rfl)) (hx := fun _ => .inl rfl) (hf := fun _ => .inl rfl))
  (vss_cons (vs_for (vi_tpl (ve_var (i := 1) (hv := fun _ => .inl rfl))) (vg_name (i := 3) (fun _ => sc_part_at.nd) (hx := fun _ => .inr rfl) (hf := fun _ => .inl rfl))
  (vss_cons (vs_lcF (i := 4) (hN := (fun _ => sc_part_at.nd)) (own := [("row", 5)]) (vi_lst (ve_call D_steps_of (va_cons (ve_var (i := 2) (hv := fun _ => .inl rfl)) va_nil) (fun i => i.room))) (fun _ => blkOk_by (own := [("row", 5)]) (N := N_part_at) (sc := defScope s_part_at) (by decide +kernel)) (vgo_name (i := 5) (fun _ => sc_part_at.nd) (hx := fun _ => .inl rfl) (hf := fun _ => .inr rfl)) (vts_one (vt_cmp (ov_eq (fun i => ru i.1.room)) (ve_ix (ve_var (i := 5) (hv := fun _ => .inl rfl)) ve_int) (ve_var (i := 3) (hv := fun _ => .inr (.inl rfl))))) (ve_ix (ve_var (i := 5) (hv := fun _ => .inl rfl)) ve_int))
  (vss_cons (vs_if (vt_cmp (ov_eq (fun i => ru i.room)) (ve_var (i := 4) (hv := fun _ => .inl rfl)) (ve_lstF va_nil)) (vss_one (vs_raise T_Astray (va_cons (ve_callTy cv_tuple g_tuple (va_cons (ve_var (i := 1) (hv := fun _ => .inl rfl)) va_nil)) va_nil) (fun i => i.room))) vss_nil)
  (vss_one (vs_set (i := 2) (fun _ => sc_part_at.nd) (ve_ix (ve_var (i := 4) (hv := fun _ => .inl rfl)) ve_int) (hx := fun _ => .inl rfl) (hf := fun _ => .inl rfl))))))
  (vss_one (vs_ret (ve_var (i := 2) (hv := fun _ => .inl rfl))))))
abbrev s__law_cell : Stmt := top 10
abbrev N__law_cell : List Str := ["script", "k"]
theorem sc__law_cell : FnScope N__law_cell ["script", "k"] (defScope s__law_cell) := ⟨rfl, rfl, rfl, by decide +kernel, rfl, by decide +kernel, by decide +kernel⟩
def t__law_cell : WS :=
  (vSeq (vIf (vTst (vOp rLt (vVar 1) (vCB rLen (vCons (vVar 0) vNil)))) (vRet (vOp rIx (vVar 0) (vVar 1))) vNext)
  (vRet (vC (.int 0))))
theorem dv__law_cell {C : Cmn} {k : Nat} {qual : Str} (g_len : C.mg "len" = none) : VSs C (fun i : DIx k qual (defScope s__law_cell) => DR C N__law_cell i) (defBody s__law_cell) (t__law_cell) :=
  (vss_cons (vs_if (vt_cmp ov_lt (ve_var (i := 1) (hv := fun _ => .inl rfl)) (ve_callB cv_len g_len (va_cons (ve_var (i := 0) (hv := fun _ => .inl rfl)) va_nil))) (vss_one (vs_ret (ve_ix (ve_var (i := 0) (hv := fun _ => .inl rfl)) (ve_var (i := 1) (hv := fun _ => .inl rfl))))) vss_nil)
  (vss_one (vs_ret ve_int)))
abbrev s__law_numbers : Stmt := top 11
abbrev N__law_numbers : List Str := ["cell", "many", "rest", "size", "numbers", "k", "mixed"]
theorem sc__law_numbers : FnScope N__law_numbers ["cell", "many"] (defScope s__law_numbers) := ⟨rfl, rfl, rfl, by decide +kernel, rfl, by decide +kernel, by decide +kernel⟩
def t__law_numbers_b1 : WS :=
  (vIf (vAnd (vTst (vOp rGe (vVar 3) (vOp rPow (vC (.int 10)) (vC (.int 18))))) (vTst (vOp rGt (vVar 2) (vC (.int 0))))) (vSeq (vExpr (vMt rAppend (vVar 4) (vCons (vOp rMod (vCB rInt (vCons (vVar 2) vNil)) (vC (.int 1000))) vNil)))
  (vAsg (vOp rFdiv (vVar 2) (vC (.int 1000))) (gNm 2))) (vSeq (vAsg (vOp rMod (vCB rInt (vCons (vOp rAdd (vOp rAdd (vOp rMul (vVar 3) (vC (.int 48271))) (vOp rMul (vVar 5) (vC (.int 69621)))) (vC (.int 11))) vNil)) (vC (.int 2147483647))) (gNm 6))
  (vSeq (vAsg (vOp rMod (vCB rInt (vCons (vOp rAdd (vOp rAdd (vOp rMul (vVar 6) (vVar 6)) (vOp rMul (vC (.int 40692)) (vVar 5))) (vC (.int 3))) vNil)) (vC (.int 2147483629))) (gNm 6))
  (vExpr (vMt rAppend (vVar 4) (vCons (vOp rMod (vCB rInt (vCons (vOp rFdiv (vVar 6) (vC (.int 7))) vNil)) (vC (.int 1000))) vNil))))))
def t__law_numbers : WS :=
  (vSeq (vAsg (vCB rAbs (vCons (vVar 0) vNil)) (gNm 2))
  (vSeq (vAsg (vVar 2) (gNm 3))
  (vSeq (vAsg (vLst vNil) (gNm 4))
  (vSeq (vFor (iRg1 (vCons (vVar 1) vNil)) (gNm 5)
  (t__law_numbers_b1))
  (vRet (vVar 4))))))
theorem dv__law_numbers {C : Cmn} {k : Nat} {qual : Str} (g_abs : C.mg "abs" = none) (g_int : C.mg "int" = none) (g_range : C.mg "range" = none) : VSs C (fun i : DIx k qual (defScope s__law_numbers) => DR C N__law_numbers i) (defBody s__law_numbers) (t__law_numbers) :=
  (vss_cons (vs_set (i := 2) (fun _ => sc__law_numbers.nd) (ve_callB cv_abs g_abs (va_cons (ve_var (i := 0) (hv := fun _ => .inl rfl)) va_nil)) (hx := fun _ => .inl rfl) (hf := fun _ => .inl rfl))
  (vss_cons (vs_set (i := 3) (fun _ => sc__law_numbers.nd) (ve_var (i := 2) (hv := fun _ => .inl rfl)) (hx := fun _ => .inl rfl) (hf := fun _ => .inl rfl))
  (vss_cons (vs_set (i := 4) (fun _ => sc__law_numbers.nd) (ve_lst va_nil) (hx := fun _ => .inl rfl) (hf := fun _ => .inl rfl))
  (vss_cons (vs_for (vi_rg1 g_range (va_cons (ve_var (i := 1) (hv := fun _ => .inl rfl)) va_nil)) (vg_name (i := 5) (fun _ => sc__law_numbers.nd) (hx := fun _ => .inl rfl) (hf := fun _ => .inl rfl))
  (vss_one (vs_if (vw_pt (vw_and (vt_cmp ov_ge (ve_var (i := 3) (hv := fun _ => .inl rfl)) (ve_op ov_pow ve_int ve_int)) (vw_and1 (vt_cmp ov_gt (ve_var (i := 2) (hv := fun _ => .inl rfl)) ve_int)))) (vss_cons (vs_expr (ve_mt PySem.F.slot_list_append PySem.F.type_list_append mv_append (ve_var (i := 4) (hv := fun _ => .inl rfl)) (va_cons (ve_op ov_mod (ve_callTy cv_int g_int (va_cons (ve_var (i := 2) (hv := fun _ => .inl rfl)) va_nil)) ve_int) va_nil)))
  (vss_one (vs_set (i := 2) (fun _ => sc__law_numbers.nd) (ve_op ov_fdiv (ve_var (i := 2) (hv := fun _ => .inl rfl)) ve_int) (hx := fun _ => .inl rfl) (hf := fun _ => .inl rfl)))) (vss_cons (vs_set (i := 6) (fun _ => sc__law_numbers.nd) (ve_op ov_mod (ve_callTy cv_int g_int (va_cons (ve_op ov_add (ve_op ov_add (ve_op ov_mul (ve_var (i := 3) (hv := fun _ => .inl rfl)) ve_int) (ve_op ov_mul (ve_var (i := 5) (hv := fun _ => .inl rfl)) ve_int)) ve_int) va_nil)) ve_int) (hx := fun _ => .inl rfl) (hf := fun _ => .inl rfl))
  (vss_cons (vs_set (i := 6) (fun _ => sc__law_numbers.nd) (ve_op ov_mod (ve_callTy cv_int g_int (va_cons (ve_op ov_add (ve_op ov_add (ve_op ov_mul (ve_var (i := 6) (hv := fun _ => .inl rfl)) (ve_var (i := 6) (hv := fun _ => .inl rfl))) (ve_op ov_mul ve_int (ve_var (i := 5) (hv := fun _ => .inl rfl)))) ve_int) va_nil)) ve_int) (hx := fun _ => .inl rfl) (hf := fun _ => .inl rfl))
  (vss_one (vs_expr (ve_mt PySem.F.slot_list_append PySem.F.type_list_append mv_append (ve_var (i := 4) (hv := fun _ => .inl rfl)) (va_cons (ve_op ov_mod (ve_callTy cv_int g_int (va_cons (ve_op ov_fdiv (ve_var (i := 6) (hv := fun _ => .inl rfl)) ve_int) va_nil)) ve_int) va_nil)))))))))
  (vss_one (vs_ret (ve_var (i := 4) (hv := fun _ => .inl rfl))))))))
abbrev s__law_state : Stmt := top 12
abbrev N__law_state : List Str := ["script", "left", "numbers", "parted", "k"]
theorem sc__law_state : FnScope N__law_state ["script", "left"] (defScope s__law_state) := ⟨rfl, rfl, rfl, by decide +kernel, rfl, by decide +kernel, by decide +kernel⟩
def t__law_state_b1 (q__law_cell : WSp) (q__law_numbers : WSp) : WS :=
  (vExpr (vMt rExtend (vVar 2) (vCons (vLstF (vCons (vOp rIx (vOp rIx (vVar 3) (vC (.int 0))) (vVar 4)) (vCons (vOp rIx (vOp rIx (vVar 3) (vC (.int 1))) (vVar 4)) (vCons (vOp rIx (vOp rIx (vVar 3) (vC (.int 2))) (vVar 4)) vNil)))) vNil)))
def t__law_state_e1 (q__law_cell : WSp) (q__law_numbers : WSp) : WE :=
  (vFrz (vCall q__law_numbers (vCons (vCall q__law_cell (vCons (vVar 0) (vCons (vVar 4) vNil))) (vCons (vC (.int 40)) vNil))))
def t__law_state (q__law_cell : WSp) (q__law_numbers : WSp) : WS :=
  (vSeq (vAsg (vLst vNil) (gNm 2))
  (vSeq (vAsg (vLcF (iRg1 (vCons (vC (.int 3)) vNil)) (gNm 4) vYes (t__law_state_e1 q__law_cell q__law_numbers) [4]) (gNm 3))
  (vSeq (vFor (iRg1 (vCons (vC (.int 40)) vNil)) (gNm 4)
  (t__law_state_b1 q__law_cell q__law_numbers))
  (vRet (vLst (vCons (vFrz (vVar 2)) (vCons (vC (.int 0)) (vCons (vVar 1) (vCons (vVar 0) (vCons (vC (.int 4)) vNil))))))))))
theorem dv__law_state {C : Cmn} {k : Nat} {qual : Str} (g_range : C.mg "range" = none) {q__law_cell : WSp} (D__law_cell : DefOk C k "_law_cell" q__law_cell) {q__law_numbers : WSp} (D__law_numbers : DefOk C k "_law_numbers" q__law_numbers) : VSs C (fun i : DIx k qual (defScope s__law_state) => DR C N__law_state i) (defBody s__law_state) (t__law_state q__law_cell q__law_numbers) :=
  (vss_cons (vs_set (i := 2) (fun _ => sc__law_state.nd) (ve_lst va_nil) (hx := fun _ => .inl rfl) (hf := fun _ => .inl rfl))
  (vss_cons (vs_lcF (i := 3) (hN := (fun _ => sc__law_state.nd)) (own := [("k", 4)]) (vi_rg1 g_range (va_cons ve_int va_nil)) (fun _ => blkOk_by (own := [("k", 4)]) (N := N__law_state) (sc := defScope s__law_state) (by decide +kernel)) (vgo_name (i := 4) (fun _ => sc__law_state.nd) (hx := fun _ => .inl rfl) (hf := fun _ => .inr rfl)) vts_nil (ve_frz (ve_call D__law_numbers (va_cons (ve_call D__law_cell (va_cons (ve_var (i := 0) (hv := fun _ => .inr (.inl rfl))) (va_cons (ve_var (i := 4) (hv := fun _ => .inl rfl)) va_nil)) (fun i => i.1.room)) (va_cons ve_int va_nil)) (fun i => i.1.room))))
  (vss_cons (vs_for (vi_rg1 g_range (va_cons ve_int va_nil)) (vg_name (i := 4) (fun _ => sc__law_state.nd) (hx := fun _ => .inl rfl) (hf := fun _ => .inl rfl))
  (vss_one (vs_expr (ve_mt PySem.F.slot_list_extend PySem.F.type_list_extend mv_extend (ve_var (i := 2) (hv := fun _ => .inl rfl)) (va_cons (ve_lstF (va_cons (ve_ix (ve_ix (ve_var (i := 3) (hv := fun _ => .inl rfl)) ve_int) (ve_var (i := 4) (hv := fun _ => .inl rfl))) (va_cons (ve_ix (ve_ix (ve_var (i := 3) (hv := fun _ => .inl rfl)) ve_int) (ve_var (i := 4) (hv := fun _ => .inl rfl))) (va_cons (ve_ix (ve_ix (ve_var (i := 3) (hv := fun _ => .inl rfl)) ve_int) (ve_var (i := 4) (hv := fun _ => .inl rfl))) va_nil)))) va_nil)))))
  (vss_one (vs_ret (ve_lst (va_cons (ve_frz (ve_var (i := 2) (hv := fun _ => .inl rfl))) (va_cons ve_int (va_cons (ve_var (i := 1) (hv := fun _ => .inl rfl)) (va_cons (ve_var (i := 0) (hv := fun _ => .inr (.inl rfl))) (va_cons ve_int va_nil)))))))))))
abbrev s__law_next : Stmt := top 13
abbrev N__law_next : List Str := ["state", "many", "at"]
theorem sc__law_next : FnScope N__law_next ["state", "many"] (defScope s__law_next) := ⟨rfl, rfl, rfl, by decide +kernel, rfl, by decide +kernel, by decide +kernel⟩
def t__law_next : WS :=
  (vSeq (vAsg (vOp rIx (vVar 0) (vC (.int 1))) (gNm 2))
  (vSeq (vPutL (vOp rAdd (vVar 2) (vC (.int 1))) (vVar 0) (vC (.int 1)))
  (vRet (vOp rMod (vCB rInt (vCons (vOp rAdd (vOp rIx (vOp rIx (vVar 0) (vC (.int 0))) (vOp rMod (vVar 2) (vC (.int 120)))) (vOp rMul (vC (.int 7)) (vOp rFdiv (vVar 2) (vC (.int 120))))) vNil)) (vVar 1)))))
theorem dv__law_next {C : Cmn} {k : Nat} {qual : Str} (g_int : C.mg "int" = none) : VSs C (fun i : DIx k qual (defScope s__law_next) => DR C N__law_next i) (defBody s__law_next) (t__law_next) :=
  (vss_cons (vs_set (i := 2) (fun _ => sc__law_next.nd) (ve_ix (ve_var (i := 0) (hv := fun _ => .inl rfl)) ve_int) (hx := fun _ => .inl rfl) (hf := fun _ => .inl rfl))
  (vss_cons (vs_putL (ve_op ov_add (ve_var (i := 2) (hv := fun _ => .inl rfl)) ve_int) (ve_var (i := 0) (hv := fun _ => .inl rfl)) ve_int)
  (vss_one (vs_ret (ve_op ov_mod (ve_callTy cv_int g_int (va_cons (ve_op ov_add (ve_ix (ve_ix (ve_var (i := 0) (hv := fun _ => .inl rfl)) ve_int) (ve_op ov_mod (ve_var (i := 2) (hv := fun _ => .inl rfl)) ve_int)) (ve_op ov_mul ve_int (ve_op ov_fdiv (ve_var (i := 2) (hv := fun _ => .inl rfl)) ve_int))) va_nil)) (ve_var (i := 1) (hv := fun _ => .inl rfl)))))))
abbrev s__law_same : Stmt := top 14
abbrev N__law_same : List Str := ["told", "due", "k", "part"]
theorem sc__law_same : FnScope N__law_same ["told", "due"] (defScope s__law_same) := ⟨rfl, rfl, rfl, by decide +kernel, rfl, by decide +kernel, by decide +kernel⟩
def t__law_same_b1 (q__law_same : WSp) : WS :=
  (vIf (vNot (vTst (vCall q__law_same (vCons (vOp rIx (vVar 0) (vVar 2)) (vCons (vOp rIx (vVar 1) (vVar 2)) vNil))))) (vRet (vC (.bl false))) vNext)
def t__law_same_c1 (q__law_same : WSp) : WT :=
  (vOr (vTst (vCB rIsi (vCons (vVar 3) (vCons (vC (.ty "bool")) vNil)))) (vNot (vTst (vCB rIsi (vCons (vVar 3) (vCons (vC (.ty "int")) vNil))))))
def t__law_same_e1 (q__law_same : WSp) : WE :=
  (vVar 3)
def t__law_same_c2 (q__law_same : WSp) : WT :=
  (vOr (vTst (vCB rIsi (vCons (vVar 3) (vCons (vC (.ty "bool")) vNil)))) (vNot (vTst (vCB rIsi (vCons (vVar 3) (vCons (vC (.ty "int")) vNil))))))
def t__law_same_e2 (q__law_same : WSp) : WE :=
  (vVar 3)
def t__law_same (q__law_same : WSp) : WS :=
  (vSeq (vIf (vTst (vCB rIsi (vCons (vVar 1) (vCons (vTup (vCons (vC (.ty "tuple")) (vCons (vC (.ty "list")) vNil))) vNil)))) (vSeq (vIf (vOr (vTst (vOp rNe (vCB rIsi (vCons (vVar 0) (vCons (vC (.ty "tuple")) vNil))) (vCB rIsi (vCons (vVar 1) (vCons (vC (.ty "tuple")) vNil))))) (vOr (vTst (vOp rNe (vCB rIsi (vCons (vVar 0) (vCons (vC (.ty "list")) vNil))) (vCB rIsi (vCons (vVar 1) (vCons (vC (.ty "list")) vNil))))) (vTst (vOp rNe (vCB rLen (vCons (vVar 0) vNil)) (vCB rLen (vCons (vVar 1) vNil)))))) (vRet (vC (.bl false))) vNext)
  (vSeq (vIf (vTst (vOp rEq (vLcF (iSeq (vVar 1)) (gNm 3) (t__law_same_c1 q__law_same) (t__law_same_e1 q__law_same) [3]) (vLstF vNil))) (vRet (vAndV (vOp rEq (vLcF (iSeq (vVar 0)) (gNm 3) (t__law_same_c2 q__law_same) (t__law_same_e2 q__law_same) [3]) (vLstF vNil)) (vOp rEq (vVar 0) (vVar 1)))) vNext)
  (vSeq (vFor (iRg1 (vCons (vCB rLen (vCons (vVar 1) vNil)) vNil)) (gNm 2)
  (t__law_same_b1 q__law_same))
  (vRet (vC (.bl true)))))) vNext)
  (vSeq (vIf (vOr (vTst (vOp (rIs false) (vVar 1) (vC .non))) (vTst (vCB rIsi (vCons (vVar 1) (vCons (vC (.ty "bool")) vNil))))) (vRet (vOrV (vAndV (vOp (rIs false) (vVar 1) (vC .non)) (vOp (rIs false) (vVar 0) (vC .non))) (vOrV (vAndV (vOp (rIs false) (vVar 1) (vC (.bl true))) (vOp (rIs false) (vVar 0) (vC (.bl true)))) (vAndV (vOp (rIs false) (vVar 1) (vC (.bl false))) (vOp (rIs false) (vVar 0) (vC (.bl false))))))) vNext)
  (vSeq (vIf (vTst (vCB rIsi (vCons (vVar 1) (vCons (vC (.ty "str")) vNil)))) (vRet (vAndV (vCB rIsi (vCons (vVar 0) (vCons (vC (.ty "str")) vNil))) (vOp rEq (vVar 0) (vVar 1)))) vNext)
  (vRet (vAndV (vCB rIsi (vCons (vVar 0) (vCons (vC (.ty "int")) vNil))) (vAndV (vNotV (vCB rIsi (vCons (vVar 0) (vCons (vC (.ty "bool")) vNil)))) (vOp rEq (vVar 0) (vVar 1))))))))
theorem dv__law_same {C : Cmn} {k : Nat} {qual : Str} (g_bool : C.mg "bool" = none) (g_int : C.mg "int" = none) (g_isinstance : C.mg "isinstance" = none) (g_len : C.mg "len" = none) (g_list : C.mg "list" = none) (g_range : C.mg "range" = none) (g_str : C.mg "str" = none) (g_tuple : C.mg "tuple" = none) {q__law_same : WSp} (D__law_same : DefOk C k "_law_same" q__law_same) : VSs C (fun i : DIx k qual (defScope s__law_same) => DR C N__law_same i) (defBody s__law_same) (t__law_same q__law_same) :=
  (vss_cons (vs_if (vt_val (ve_callB cv_isi g_isinstance (va_cons (ve_var (i := 1) (hv := fun _ => .inl rfl)) (va_cons (ve_tup (va_cons (ve_ty g_tuple) (va_cons (ve_ty g_list) va_nil))) va_nil)))) (vss_cons (vs_if (vw_pt (vw_or (vt_cmp (ov_ne (fun i => ru i.room)) (ve_callB cv_isi g_isinstance (va_cons (ve_var (i := 0) (hv := fun _ => .inl rfl)) (va_cons (ve_ty g_tuple) va_nil))) (ve_callB cv_isi g_isinstance (va_cons (ve_var (i := 1) (hv := fun _ => .inl rfl)) (va_cons (ve_ty g_tuple) va_nil)))) (vw_or (vt_cmp (ov_ne (fun i => ru i.room)) (ve_callB cv_isi g_isinstance (va_cons (ve_var (i := 0) (hv := fun _ => .inl rfl)) (va_cons (ve_ty g_list) va_nil))) (ve_callB cv_isi g_isinstance (va_cons (ve_var (i := 1) (hv := fun _ => .inl rfl)) (va_cons (ve_ty g_list) va_nil)))) (vw_or1 (vt_cmp (ov_ne (fun i => ru i.room)) (ve_callB cv_len g_len (va_cons (ve_var (i := 0) (hv := fun _ => .inl rfl)) va_nil)) (ve_callB cv_len g_len (va_cons (ve_var (i := 1) (hv := fun _ => .inl rfl)) va_nil))))))) (vss_one (vs_ret ve_bl)) vss_nil)
  (vss_cons (vs_if (vt_cmp (ov_eq (fun i => ru i.room)) (ve_lcF (hN := (fun _ => sc__law_same.nd)) (own := [("part", 3)]) (vi_seq (ve_var (i := 1) (hv := fun _ => .inl rfl))) (fun _ => blkOk_by (own := [("part", 3)]) (N := N__law_same) (sc := defScope s__law_same) (by decide +kernel)) (vgo_name (i := 3) (fun _ => sc__law_same.nd) (hx := fun _ => .inl rfl) (hf := fun _ => .inr rfl)) (vts_one (vw_pt (vw_or (vt_val (ve_callB cv_isi g_isinstance (va_cons (ve_var (i := 3) (hv := fun _ => .inl rfl)) (va_cons (ve_ty g_bool) va_nil)))) (vw_or1 (vt_not (vt_val (ve_callB cv_isi g_isinstance (va_cons (ve_var (i := 3) (hv := fun _ => .inl rfl)) (va_cons (ve_ty g_int) va_nil))))))))) (ve_var (i := 3) (hv := fun _ => .inl rfl))) (ve_lstF va_nil)) (vss_one (vs_ret (ve_and (ve_cmp (ov_eq (fun i => ru i.room)) (ve_lcF (hN := (fun _ => sc__law_same.nd)) (own := [("part", 3)]) (vi_seq (ve_var (i := 0) (hv := fun _ => .inl rfl))) (fun _ => blkOk_by (own := [("part", 3)]) (N := N__law_same) (sc := defScope s__law_same) (by decide +kernel)) (vgo_name (i := 3) (fun _ => sc__law_same.nd) (hx := fun _ => .inl rfl) (hf := fun _ => .inr rfl)) (vts_one (vw_pt (vw_or (vt_val (ve_callB cv_isi g_isinstance (va_cons (ve_var (i := 3) (hv := fun _ => .inl rfl)) (va_cons (ve_ty g_bool) va_nil)))) (vw_or1 (vt_not (vt_val (ve_callB cv_isi g_isinstance (va_cons (ve_var (i := 3) (hv := fun _ => .inl rfl)) (va_cons (ve_ty g_int) va_nil))))))))) (ve_var (i := 3) (hv := fun _ => .inl rfl))) (ve_lstF va_nil)) (ve_one (ve_cmp (ov_eq (fun i => ru i.room)) (ve_var (i := 0) (hv := fun _ => .inl rfl)) (ve_var (i := 1) (hv := fun _ => .inl rfl))))))) vss_nil)
  (vss_cons (vs_for (vi_rg1 g_range (va_cons (ve_callB cv_len g_len (va_cons (ve_var (i := 1) (hv := fun _ => .inl rfl)) va_nil)) va_nil)) (vg_name (i := 2) (fun _ => sc__law_same.nd) (hx := fun _ => .inl rfl) (hf := fun _ => .inl rfl))
  (vss_one (vs_if (vt_not (vt_val (ve_call D__law_same (va_cons (ve_ix (ve_var (i := 0) (hv := fun _ => .inl rfl)) (ve_var (i := 2) (hv := fun _ => .inl rfl))) (va_cons (ve_ix (ve_var (i := 1) (hv := fun _ => .inl rfl)) (ve_var (i := 2) (hv := fun _ => .inl rfl))) va_nil)) (fun i => i.room)))) (vss_one (vs_ret ve_bl)) vss_nil)))
  (vss_one (vs_ret ve_bl))))) vss_nil)
  (vss_cons (vs_if (vw_pt (vw_or (vt_cmp ov_is (ve_var (i := 1) (hv := fun _ => .inl rfl)) ve_non) (vw_or1 (vt_val (ve_callB cv_isi g_isinstance (va_cons (ve_var (i := 1) (hv := fun _ => .inl rfl)) (va_cons (ve_ty g_bool) va_nil))))))) (vss_one (vs_ret (ve_or (ve_and (ve_cmp ov_is (ve_var (i := 1) (hv := fun _ => .inl rfl)) ve_non) (ve_one (ve_cmp ov_is (ve_var (i := 0) (hv := fun _ => .inl rfl)) ve_non))) (ve_or (ve_and (ve_cmp ov_is (ve_var (i := 1) (hv := fun _ => .inl rfl)) ve_bl) (ve_one (ve_cmp ov_is (ve_var (i := 0) (hv := fun _ => .inl rfl)) ve_bl))) (ve_one (ve_and (ve_cmp ov_is (ve_var (i := 1) (hv := fun _ => .inl rfl)) ve_bl) (ve_one (ve_cmp ov_is (ve_var (i := 0) (hv := fun _ => .inl rfl)) ve_bl)))))))) vss_nil)
  (vss_cons (vs_if (vt_val (ve_callB cv_isi g_isinstance (va_cons (ve_var (i := 1) (hv := fun _ => .inl rfl)) (va_cons (ve_ty g_str) va_nil)))) (vss_one (vs_ret (ve_and (ve_callB cv_isi g_isinstance (va_cons (ve_var (i := 0) (hv := fun _ => .inl rfl)) (va_cons (ve_ty g_str) va_nil))) (ve_one (ve_cmp (ov_eq (fun i => ru i.room)) (ve_var (i := 0) (hv := fun _ => .inl rfl)) (ve_var (i := 1) (hv := fun _ => .inl rfl))))))) vss_nil)
  (vss_one (vs_ret (ve_and (ve_callB cv_isi g_isinstance (va_cons (ve_var (i := 0) (hv := fun _ => .inl rfl)) (va_cons (ve_ty g_int) va_nil))) (ve_and (ve_not (ve_callB cv_isi g_isinstance (va_cons (ve_var (i := 0) (hv := fun _ => .inl rfl)) (va_cons (ve_ty g_bool) va_nil)))) (ve_one (ve_cmp (ov_eq (fun i => ru i.room)) (ve_var (i := 0) (hv := fun _ => .inl rfl)) (ve_var (i := 1) (hv := fun _ => .inl rfl)))))))))))
abbrev s__law_many : Stmt := top 15
abbrev N__law_many : List Str := ["state", "wide", "many", "pick"]
theorem sc__law_many : FnScope N__law_many ["state", "wide"] (defScope s__law_many) := ⟨rfl, rfl, rfl, by decide +kernel, rfl, by decide +kernel, by decide +kernel⟩
def t__law_many (q__law_next : WSp) : WS :=
  (vSeq (vAsg (vCall q__law_next (vCons (vVar 0) (vCons (vC (.int 5)) vNil))) (gNm 2))
  (vSeq (vIf (vTst (vOp rGt (vOp rIx (vVar 0) (vC (.int 4))) (vC (.int 0)))) (vSeq (vAsg (vCall q__law_next (vCons (vVar 0) (vCons (vC (.int 12)) vNil))) (gNm 3))
  (vIf (vOr (vTst (vOp rEq (vVar 3) (vC (.int 1)))) (vTst (vOp rEq (vVar 3) (vC (.int 2))))) (vSeq (vPutL (vOp rSub (vOp rIx (vVar 0) (vC (.int 4))) (vC (.int 1))) (vVar 0) (vC (.int 4)))
  (vAsg (vOp rIx (vLstF (vCons (vOp rAdd (vC (.int 5)) (vCall q__law_next (vCons (vVar 0) (vCons (vC (.int 15)) vNil)))) (vCons (vOp rAdd (vC (.int 20)) (vCall q__law_next (vCons (vVar 0) (vCons (vVar 1) vNil)))) vNil))) (vOp rSub (vVar 3) (vC (.int 1)))) (gNm 2))) vNext)) vNext)
  (vRet (vVar 2))))
theorem dv__law_many {C : Cmn} {k : Nat} {qual : Str} {q__law_next : WSp} (D__law_next : DefOk C k "_law_next" q__law_next) : VSs C (fun i : DIx k qual (defScope s__law_many) => DR C N__law_many i) (defBody s__law_many) (t__law_many q__law_next) :=
  (vss_cons (vs_set (i := 2) (fun _ => sc__law_many.nd) (ve_call D__law_next (va_cons (ve_var (i := 0) (hv := fun _ => .inl rfl)) (va_cons ve_int va_nil)) (fun i => i.room)) (hx := fun _ => .inl rfl) (hf := fun _ => .inl rfl))
  (vss_cons (vs_if (vt_cmp ov_gt (ve_ix (ve_var (i := 0) (hv := fun _ => .inl rfl)) ve_int) ve_int) (vss_cons (vs_set (i := 3) (fun _ => sc__law_many.nd) (ve_call D__law_next (va_cons (ve_var (i := 0) (hv := fun _ => .inl rfl)) (va_cons ve_int va_nil)) (fun i => i.room)) (hx := fun _ => .inl rfl) (hf := fun _ => .inl rfl))
  (vss_one (vs_if (vw_pt (vw_or (vt_cmp (ov_eq (fun i => ru i.room)) (ve_var (i := 3) (hv := fun _ => .inl rfl)) ve_int) (vw_or1 (vt_cmp (ov_eq (fun i => ru i.room)) (ve_var (i := 3) (hv := fun _ => .inl rfl)) ve_int)))) (vss_cons (vs_putL (ve_op ov_sub (ve_ix (ve_var (i := 0) (hv := fun _ => .inl rfl)) ve_int) ve_int) (ve_var (i := 0) (hv := fun _ => .inl rfl)) ve_int)
  (vss_one (vs_set (i := 2) (fun _ => sc__law_many.nd) (ve_ix (ve_lstF (va_cons (ve_op ov_add ve_int (ve_call D__law_next (va_cons (ve_var (i := 0) (hv := fun _ => .inl rfl)) (va_cons ve_int va_nil)) (fun i => i.room))) (va_cons (ve_op ov_add ve_int (ve_call D__law_next (va_cons (ve_var (i := 0) (hv := fun _ => .inl rfl)) (va_cons (ve_var (i := 1) (hv := fun _ => .inl rfl)) va_nil)) (fun i => i.room))) va_nil))) (ve_op ov_sub (ve_var (i := 3) (hv := fun _ => .inl rfl)) ve_int)) (hx := fun _ => .inl rfl) (hf := fun _ => .inl rfl)))) vss_nil))) vss_nil)
  (vss_one (vs_ret (ve_var (i := 2) (hv := fun _ => .inl rfl))))))
abbrev s__law_big : Stmt := top 16
abbrev N__law_big : List Str := ["state", "many", "cell"]
theorem sc__law_big : FnScope N__law_big ["state", "many"] (defScope s__law_big) := ⟨rfl, rfl, rfl, by decide +kernel, rfl, by decide +kernel, by decide +kernel⟩
def t__law_big (q__law_cell : WSp) (q__law_next : WSp) : WS :=
  (vSeq (vAsg (vCB rAbs (vCons (vCall q__law_cell (vCons (vOp rIx (vVar 0) (vC (.int 3))) (vCons (vOp rAdd (vC (.int 3)) (vCall q__law_next (vCons (vVar 0) (vCons (vC (.int 30)) vNil)))) vNil))) vNil)) (gNm 2))
  (vRet (vOp rMod (vCB rInt (vCons (vOp rAdd (vOp rMul (vVar 2) (vC (.int 1009))) (vCall q__law_next (vCons (vVar 0) (vCons (vC (.int 1000)) vNil)))) vNil)) (vVar 1))))
theorem dv__law_big {C : Cmn} {k : Nat} {qual : Str} (g_abs : C.mg "abs" = none) (g_int : C.mg "int" = none) {q__law_cell : WSp} (D__law_cell : DefOk C k "_law_cell" q__law_cell) {q__law_next : WSp} (D__law_next : DefOk C k "_law_next" q__law_next) : VSs C (fun i : DIx k qual (defScope s__law_big) => DR C N__law_big i) (defBody s__law_big) (t__law_big q__law_cell q__law_next) :=
  (vss_cons (vs_set (i := 2) (fun _ => sc__law_big.nd) (ve_callB cv_abs g_abs (va_cons (ve_call D__law_cell (va_cons (ve_ix (ve_var (i := 0) (hv := fun _ => .inl rfl)) ve_int) (va_cons (ve_op ov_add ve_int (ve_call D__law_next (va_cons (ve_var (i := 0) (hv := fun _ => .inl rfl)) (va_cons ve_int va_nil)) (fun i => i.room))) va_nil)) (fun i => i.room)) va_nil)) (hx := fun _ => .inl rfl) (hf := fun _ => .inl rfl))
  (vss_one (vs_ret (ve_op ov_mod (ve_callTy cv_int g_int (va_cons (ve_op ov_add (ve_op ov_mul (ve_var (i := 2) (hv := fun _ => .inl rfl)) ve_int) (ve_call D__law_next (va_cons (ve_var (i := 0) (hv := fun _ => .inl rfl)) (va_cons ve_int va_nil)) (fun i => i.room))) va_nil)) (ve_var (i := 1) (hv := fun _ => .inl rfl))))))
abbrev s__law_normal : Stmt := top 17
abbrev N__law_normal : List Str := ["m", "e", "k"]
theorem sc__law_normal : FnScope N__law_normal ["m", "e"] (defScope s__law_normal) := ⟨rfl, rfl, rfl, by decide +kernel, rfl, by decide +kernel, by decide +kernel⟩
def t__law_normal_b1 : WS :=
  (vSeq (vIf (vTst (vOp rNe (vOp rMod (vVar 0) (vC (.int 10))) (vC (.int 0)))) (vRet (vTup (vCons (vVar 0) (vCons (vVar 1) vNil)))) vNext)
  (vSeq (vAsg (vOp rFdiv (vVar 0) (vC (.int 10))) (gNm 0))
  (vAsg (vOp rAdd (vVar 1) (vC (.int 1))) (gNm 1))))
def t__law_normal : WS :=
  (vSeq (vIf (vTst (vOp rEq (vVar 0) (vC (.int 0)))) (vRet (vTup (vCons (vC (.int 0)) (vCons (vC (.int 0)) vNil)))) vNext)
  (vSeq (vFor (iRg1 (vCons (vC (.int 3001)) vNil)) (gNm 2)
  (t__law_normal_b1))
  (vRet (vTup (vCons (vVar 0) (vCons (vVar 1) vNil))))))
theorem dv__law_normal {C : Cmn} {k : Nat} {qual : Str} (g_range : C.mg "range" = none) : VSs C (fun i : DIx k qual (defScope s__law_normal) => DR C N__law_normal i) (defBody s__law_normal) (t__law_normal) :=
  (vss_cons (vs_if (vt_cmp (ov_eq (fun i => ru i.room)) (ve_var (i := 0) (hv := fun _ => .inl rfl)) ve_int) (vss_one (vs_ret (ve_tup (va_cons ve_int (va_cons ve_int va_nil))))) vss_nil)
  (vss_cons (vs_for (vi_rg1 g_range (va_cons ve_int va_nil)) (vg_name (i := 2) (fun _ => sc__law_normal.nd) (hx := fun _ => .inl rfl) (hf := fun _ => .inl rfl))
  (vss_cons (vs_if (vt_cmp (ov_ne (fun i => ru i.room)) (ve_op ov_mod (ve_var (i := 0) (hv := fun _ => .inl rfl)) ve_int) ve_int) (vss_one (vs_ret (ve_tup (va_cons (ve_var (i := 0) (hv := fun _ => .inl rfl)) (va_cons (ve_var (i := 1) (hv := fun _ => .inl rfl)) va_nil))))) vss_nil)
  (vss_cons (vs_set (i := 0) (fun _ => sc__law_normal.nd) (ve_op ov_fdiv (ve_var (i := 0) (hv := fun _ => .inl rfl)) ve_int) (hx := fun _ => .inl rfl) (hf := fun _ => .inl rfl))
  (vss_one (vs_set (i := 1) (fun _ => sc__law_normal.nd) (ve_op ov_add (ve_var (i := 1) (hv := fun _ => .inl rfl)) ve_int) (hx := fun _ => .inl rfl) (hf := fun _ => .inl rfl))))))
  (vss_one (vs_ret (ve_tup (va_cons (ve_var (i := 0) (hv := fun _ => .inl rfl)) (va_cons (ve_var (i := 1) (hv := fun _ => .inl rfl)) va_nil)))))))
abbrev s__law_number : Stmt := top 18
abbrev N__law_number : List Str := ["state", "pick", "m", "e", "edges", "power", "k"]
theorem sc__law_number : FnScope N__law_number ["state"] (defScope s__law_number) := ⟨rfl, rfl, rfl, by decide +kernel, rfl, by decide +kernel, by decide +kernel⟩
def t__law_number_b1 (q__law_big : WSp) (q__law_next : WSp) (q__law_normal : WSp) : WS :=
  (vAsg (vOp rAdd (vOp rMul (vVar 2) (vOp rAdd (vOp rPow (vC (.int 10)) (vC (.int 40))) (vC (.int 7)))) (vCall q__law_next (vCons (vVar 0) (vCons (vC (.int 1000)) vNil)))) (gNm 2))
def t__law_number_b2 (q__law_big : WSp) (q__law_next : WSp) (q__law_normal : WSp) : WS :=
  (vAsg (vOp rMul (vVar 5) (vC (.int 10))) (gNm 5))
def t__law_number (q__law_big : WSp) (q__law_next : WSp) (q__law_normal : WSp) : WS :=
  (vSeq (vAsg (vCall q__law_next (vCons (vVar 0) (vCons (vC (.int 13)) vNil))) (gNm 1))
  (vSeq (vAsg (vCall q__law_next (vCons (vVar 0) (vCons (vC (.int 300)) vNil))) (gNm 2))
  (vSeq (vAsg (vC (.int 0)) (gNm 3))
  (vSeq (vIf (vTst (vOp (rIn false) (vVar 1) (vLstF (vCons (vC (.int 4)) (vCons (vC (.int 5)) vNil))))) (vSeq (vAsg (vLstF (vCons (vC (.int 23)) (vCons (vC (.int 24)) (vCons (vC (.int 127)) (vCons (vC (.int 128)) (vCons (vC (.int 255)) (vCons (vC (.int 256)) (vCons (vC (.int 65535)) (vCons (vC (.int 65536)) (vCons (vOp rPow (vC (.int 2)) (vC (.int 31))) (vCons (vOp rPow (vC (.int 2)) (vC (.int 32))) (vCons (vOp rPow (vC (.int 2)) (vC (.int 63))) (vCons (vOp rPow (vC (.int 2)) (vC (.int 64))) (vCons (vOp rPow (vC (.int 10)) (vC (.int 30))) vNil)))))))))))))) (gNm 4))
  (vAsg (vOp rSub (vOp rAdd (vOp rIx (vVar 4) (vCall q__law_next (vCons (vVar 0) (vCons (vC (.int 13)) vNil)))) (vCall q__law_next (vCons (vVar 0) (vCons (vC (.int 3)) vNil)))) (vC (.int 1))) (gNm 2))) (vIf (vTst (vOp (rIn false) (vVar 1) (vLstF (vCons (vC (.int 6)) (vCons (vC (.int 7)) (vCons (vC (.int 8)) vNil)))))) (vSeq (vAsg (vCall q__law_next (vCons (vVar 0) (vCons (vC (.int 1000)) vNil))) (gNm 2))
  (vAsg (vOp rSub (vCall q__law_next (vCons (vVar 0) (vCons (vC (.int 60)) vNil))) (vC (.int 30))) (gNm 3))) (vIf (vTst (vOp rEq (vVar 1) (vC (.int 9)))) (vSeq (vAsg (vOp rAdd (vC (.int 1)) (vCall q__law_next (vCons (vVar 0) (vCons (vC (.int 9)) vNil)))) (gNm 2))
  (vSeq (vAsg (vOp rIx (vLstF (vCons (vC (.int 62)) (vCons (vC (.int 63)) (vCons (vC (.int 64)) (vCons (vC (.int 65)) (vCons (vC (.int 66)) (vCons (vC (.int 100)) (vCons (vC (.int 799)) (vCons (vC (.int 800)) (vCons (vUn rNeg (vC (.int 400))) (vCons (vUn rNeg (vC (.int 1))) vNil))))))))))) (vCall q__law_next (vCons (vVar 0) (vCons (vC (.int 10)) vNil)))) (gNm 3))
  (vIf (vAnd (vTst (vOp rGt (vCB rAbs (vCons (vVar 3) vNil)) (vC (.int 300)))) (vTst (vOp rGt (vOp rIx (vVar 0) (vC (.int 4))) (vC (.int 0))))) (vPutL (vOp rSub (vOp rIx (vVar 0) (vC (.int 4))) (vC (.int 1))) (vVar 0) (vC (.int 4))) (vIf (vTst (vOp rGt (vCB rAbs (vCons (vVar 3) vNil)) (vC (.int 300)))) (vAsg (vC (.int 70)) (gNm 3)) vNext)))) (vIf (vTst (vOp rGt (vVar 1) (vC (.int 9)))) (vSeq (vAsg (vC (.int 10)) (gNm 5))
  (vSeq (vFor (iRg1 (vCons (vCall q__law_next (vCons (vVar 0) (vCons (vC (.int 40)) vNil))) vNil)) (gNm 6)
  (t__law_number_b2 q__law_big q__law_next q__law_normal))
  (vSeq (vAsg (vCall q__law_big (vCons (vVar 0) (vCons (vVar 5) vNil))) (gNm 2))
  (vSeq (vAsg (vOp rSub (vCall q__law_next (vCons (vVar 0) (vCons (vC (.int 90)) vNil))) (vC (.int 45))) (gNm 3))
  (vIf (vAnd (vTst (vOp rEq (vVar 1) (vC (.int 12)))) (vTst (vOp rGt (vOp rIx (vVar 0) (vC (.int 4))) (vC (.int 0))))) (vSeq (vPutL (vOp rSub (vOp rIx (vVar 0) (vC (.int 4))) (vC (.int 1))) (vVar 0) (vC (.int 4)))
  (vFor (iRg1 (vCons (vCall q__law_next (vCons (vVar 0) (vCons (vC (.int 8)) vNil))) vNil)) (gNm 6)
  (t__law_number_b1 q__law_big q__law_next q__law_normal))) vNext))))) vNext))))
  (vSeq (vAsg (vCall q__law_normal (vCons (vOp rIx (vLstF (vCons (vVar 2) (vCons (vUn rNeg (vVar 2)) vNil))) (vCall q__law_next (vCons (vVar 0) (vCons (vC (.int 2)) vNil)))) (vCons (vVar 3) vNil))) (gTupD 2 (gThen (gNm 2) (gThen (gNm 3) gEnd))))
  (vRet (vTup (vCons (vC (.str "number")) (vCons (vVar 2) (vCons (vVar 3) vNil))))))))))
theorem dv__law_number {C : Cmn} {k : Nat} {qual : Str} (g_abs : C.mg "abs" = none) (g_range : C.mg "range" = none) {q__law_big : WSp} (D__law_big : DefOk C k "_law_big" q__law_big) {q__law_next : WSp} (D__law_next : DefOk C k "_law_next" q__law_next) {q__law_normal : WSp} (D__law_normal : DefOk C k "_law_normal" q__law_normal) : VSs C (fun i : DIx k qual (defScope s__law_number) => DR C N__law_number i) (defBody s__law_number) (t__law_number q__law_big q__law_next q__law_normal) :=
  (vss_cons (vs_set (i := 1) (fun _ => sc__law_number.nd) (ve_call D__law_next (va_cons (ve_var (i := 0) (hv := fun _ => .inl rfl)) (va_cons ve_int va_nil)) (fun i => i.room)) (hx := fun _ => .inl rfl) (hf := fun _ => .inl rfl))
  (vss_cons (vs_set (i := 2) (fun _ => sc__law_number.nd) (ve_call D__law_next (va_cons (ve_var (i := 0) (hv := fun _ => .inl rfl)) (va_cons ve_int va_nil)) (fun i => i.room)) (hx := fun _ => .inl rfl) (hf := fun _ => .inl rfl))
  (vss_cons (vs_set (i := 3) (fun _ => sc__law_number.nd) ve_int (hx := fun _ => .inl rfl) (hf := fun _ => .inl rfl))
  (vss_cons (vs_if (vt_cmp (ov_in (fun i => ru i.room)) (ve_var (i := 1) (hv := fun _ => .inl rfl)) (ve_lstF (va_cons ve_int (va_cons ve_int va_nil)))) (vss_cons (vs_set (i := 4) (fun _ => sc__law_number.nd) (ve_lstF (va_cons ve_int (va_cons ve_int (va_cons ve_int (va_cons ve_int (va_cons ve_int (va_cons ve_int (va_cons ve_int (va_cons ve_int (va_cons (ve_op ov_pow ve_int ve_int) (va_cons (ve_op ov_pow ve_int ve_int) (va_cons (ve_op ov_pow ve_int ve_int) (va_cons (ve_op ov_pow ve_int ve_int) (va_cons (ve_op ov_pow ve_int ve_int) va_nil)))))))))))))) (hx := fun _ => .inl rfl) (hf := fun _ => .inl rfl))
  (vss_one (vs_set (i := 2) (fun _ => sc__law_number.nd) (ve_op ov_sub (ve_op ov_add (ve_ix (ve_var (i := 4) (hv := fun _ => .inl rfl)) (ve_call D__law_next (va_cons (ve_var (i := 0) (hv := fun _ => .inl rfl)) (va_cons ve_int va_nil)) (fun i => i.room))) (ve_call D__law_next (va_cons (ve_var (i := 0) (hv := fun _ => .inl rfl)) (va_cons ve_int va_nil)) (fun i => i.room))) ve_int) (hx := fun _ => .inl rfl) (hf := fun _ => .inl rfl)))) (vss_one (vs_if (vt_cmp (ov_in (fun i => ru i.room)) (ve_var (i := 1) (hv := fun _ => .inl rfl)) (ve_lstF (va_cons ve_int (va_cons ve_int (va_cons ve_int va_nil))))) (vss_cons (vs_set (i := 2) (fun _ => sc__law_number.nd) (ve_call D__law_next (va_cons (ve_var (i := 0) (hv := fun _ => .inl rfl)) (va_cons ve_int va_nil)) (fun i => i.room)) (hx := fun _ => .inl rfl) (hf := fun _ => .inl rfl))
  (vss_one (vs_set (i := 3) (fun _ => sc__law_number.nd) (ve_op ov_sub (ve_call D__law_next (va_cons (ve_var (i := 0) (hv := fun _ => .inl rfl)) (va_cons ve_int va_nil)) (fun i => i.room)) ve_int) (hx := fun _ => .inl rfl) (hf := fun _ => .inl rfl)))) (vss_one (vs_if (vt_cmp (ov_eq (fun i => ru i.room)) (ve_var (i := 1) (hv := fun _ => .inl rfl)) ve_int) (vss_cons (vs_set (i := 2) (fun _ => sc__law_number.nd) (ve_op ov_add ve_int (ve_call D__law_next (va_cons (ve_var (i := 0) (hv := fun _ => .inl rfl)) (va_cons ve_int va_nil)) (fun i => i.room))) (hx := fun _ => .inl rfl) (hf := fun _ => .inl rfl))
  (vss_cons (vs_set (i := 3) (fun _ => sc__law_number.nd) (ve_ix (ve_lstF (va_cons ve_int (va_cons ve_int (va_cons ve_int (va_cons ve_int (va_cons ve_int (va_cons ve_int (va_cons ve_int (va_cons ve_int (va_cons (ve_neg ve_int) (va_cons (ve_neg ve_int) va_nil))))))))))) (ve_call D__law_next (va_cons (ve_var (i := 0) (hv := fun _ => .inl rfl)) (va_cons ve_int va_nil)) (fun i => i.room))) (hx := fun _ => .inl rfl) (hf := fun _ => .inl rfl))
  (vss_one (vs_if (vw_pt (vw_and (vt_cmp ov_gt (ve_callB cv_abs g_abs (va_cons (ve_var (i := 3) (hv := fun _ => .inl rfl)) va_nil)) ve_int) (vw_and1 (vt_cmp ov_gt (ve_ix (ve_var (i := 0) (hv := fun _ => .inl rfl)) ve_int) ve_int)))) (vss_one (vs_putL (ve_op ov_sub (ve_ix (ve_var (i := 0) (hv := fun _ => .inl rfl)) ve_int) ve_int) (ve_var (i := 0) (hv := fun _ => .inl rfl)) ve_int)) (vss_one (vs_if (vt_cmp ov_gt (ve_callB cv_abs g_abs (va_cons (ve_var (i := 3) (hv := fun _ => .inl rfl)) va_nil)) ve_int) (vss_one (vs_set (i := 3) (fun _ => sc__law_number.nd) ve_int (hx := fun _ => .inl rfl) (hf := fun _ => .inl rfl))) vss_nil)))))) (vss_one (vs_if (vt_cmp ov_gt (ve_var (i := 1) (hv := fun _ => .inl rfl)) ve_int) (vss_cons (vs_set (i := 5) (fun _ => sc__law_number.nd) ve_int (hx := fun _ => .inl rfl) (hf := fun _ => .inl rfl))
  (vss_cons (vs_for (vi_rg1 g_range (va_cons (ve_call D__law_next (va_cons (ve_var (i := 0) (hv := fun _ => .inl rfl)) (va_cons ve_int va_nil)) (fun i => i.room)) va_nil)) (vg_name (i := 6) (fun _ => sc__law_number.nd) (hx := fun _ => .inl rfl) (hf := fun _ => .inl rfl))
  (vss_one (vs_set (i := 5) (fun _ => sc__law_number.nd) (ve_op ov_mul (ve_var (i := 5) (hv := fun _ => .inl rfl)) ve_int) (hx := fun _ => .inl rfl) (hf := fun _ => .inl rfl))))
  (vss_cons (vs_set (i := 2) (fun _ => sc__law_number.nd) (ve_call D__law_big (va_cons (ve_var (i := 0) (hv := fun _ => .inl rfl)) (va_cons (ve_var (i := 5) (hv := fun _ => .inl rfl)) va_nil)) (fun i => i.room)) (hx := fun _ => .inl rfl) (hf := fun _ => .inl rfl))
  (vss_cons (vs_set (i := 3) (fun _ => sc__law_number.nd) (ve_op ov_sub (ve_call D__law_next (va_cons (ve_var (i := 0) (hv := fun _ => .inl rfl)) (va_cons ve_int va_nil)) (fun i => i.room)) ve_int) (hx := fun _ => .inl rfl) (hf := fun _ => .inl rfl))
  (vss_one (vs_if (vw_pt (vw_and (vt_cmp (ov_eq (fun i => ru i.room)) (ve_var (i := 1) (hv := fun _ => .inl rfl)) ve_int) (vw_and1 (vt_cmp ov_gt (ve_ix (ve_var (i := 0) (hv := fun _ => .inl rfl)) ve_int) ve_int)))) (vss_cons (vs_putL (ve_op ov_sub (ve_ix (ve_var (i := 0) (hv := fun _ => .inl rfl)) ve_int) ve_int) (ve_var (i := 0) (hv := fun _ => .inl rfl)) ve_int)
  (vss_one (vs_for (vi_rg1 g_range (va_cons (ve_call D__law_next (va_cons (ve_var (i := 0) (hv := fun _ => .inl rfl)) (va_cons ve_int va_nil)) (fun i => i.room)) va_nil)) (vg_name (i := 6) (fun _ => sc__law_number.nd) (hx := fun _ => .inl rfl) (hf := fun _ => .inl rfl))
  (vss_one (vs_set (i := 2) (fun _ => sc__law_number.nd) (ve_op ov_add (ve_op ov_mul (ve_var (i := 2) (hv := fun _ => .inl rfl)) (ve_op ov_add (ve_op ov_pow ve_int ve_int) ve_int)) (ve_call D__law_next (va_cons (ve_var (i := 0) (hv := fun _ => .inl rfl)) (va_cons ve_int va_nil)) (fun i => i.room))) (hx := fun _ => .inl rfl) (hf := fun _ => .inl rfl)))))) vss_nil)))))) vss_nil)))))))
  (vss_cons (vs_asg (ve_call D__law_normal (va_cons (ve_ix (ve_lstF (va_cons (ve_var (i := 2) (hv := fun _ => .inl rfl)) (va_cons (ve_neg (ve_var (i := 2) (hv := fun _ => .inl rfl))) va_nil))) (ve_call D__law_next (va_cons (ve_var (i := 0) (hv := fun _ => .inl rfl)) (va_cons ve_int va_nil)) (fun i => i.room))) (va_cons (ve_var (i := 3) (hv := fun _ => .inl rfl)) va_nil)) (fun i => i.room)) (vg_tup (vgs_cons (vg_name (i := 2) (fun _ => sc__law_number.nd) (hx := fun _ => .inl rfl) (hf := fun _ => .inl rfl)) (vgs_cons (vg_name (i := 3) (fun _ => sc__law_number.nd) (hx := fun _ => .inl rfl) (hf := fun _ => .inl rfl)) vgs_nil))))
  (vss_one (vs_ret (ve_tup (va_cons ve_str (va_cons (ve_var (i := 2) (hv := fun _ => .inl rfl)) (va_cons (ve_var (i := 3) (hv := fun _ => .inl rfl)) va_nil)))))))))))
abbrev s__law_points : Stmt := top 19
abbrev N__law_points : List Str := ["state", "menu", "many", "points", "k", "pick", "point"]
theorem sc__law_points : FnScope N__law_points ["state"] (defScope s__law_points) := ⟨rfl, rfl, rfl, by decide +kernel, rfl, by decide +kernel, by decide +kernel⟩
def t__law_points_b1 (q__law_many : WSp) (q__law_next : WSp) : WS :=
  (vSeq (vAsg (vCall q__law_next (vCons (vVar 0) (vCons (vC (.int 7)) vNil))) (gNm 5))
  (vSeq (vAsg (vOp rAdd (vC (.int 32)) (vCall q__law_next (vCons (vVar 0) (vCons (vC (.int 95)) vNil)))) (gNm 6))
  (vSeq (vIf (vTst (vOp rEq (vVar 5) (vC (.int 0)))) (vAsg (vOp rIx (vVar 1) (vCall q__law_next (vCons (vVar 0) (vCons (vC (.int 12)) vNil)))) (gNm 6)) vNext)
  (vSeq (vIf (vTst (vOp rEq (vVar 5) (vC (.int 1)))) (vAsg (vCall q__law_next (vCons (vVar 0) (vCons (vC (.int 32)) vNil))) (gNm 6)) vNext)
  (vSeq (vIf (vTst (vOp rEq (vVar 5) (vC (.int 2)))) (vSeq (vAsg (vOp rAdd (vOp rMul (vC (.int 1112)) (vCall q__law_next (vCons (vVar 0) (vCons (vC (.int 1000)) vNil)))) (vCall q__law_next (vCons (vVar 0) (vCons (vC (.int 1000)) vNil)))) (gNm 6))
  (vAsg (vOp rAdd (vVar 6) (vOp rMul (vC (.int 2048)) (vCB rInt (vCons (vOp rGt (vVar 6) (vC (.int 55295))) vNil)))) (gNm 6))) vNext)
  (vExpr (vMt rAppend (vVar 3) (vCons (vVar 6) vNil))))))))
def t__law_points (q__law_many : WSp) (q__law_next : WSp) : WS :=
  (vSeq (vAsg (vLstF (vCons (vC (.int 34)) (vCons (vC (.int 92)) (vCons (vC (.int 47)) (vCons (vC (.int 127)) (vCons (vC (.int 128)) (vCons (vC (.int 2047)) (vCons (vC (.int 2048)) (vCons (vC (.int 55295)) (vCons (vC (.int 57344)) (vCons (vC (.int 65535)) (vCons (vC (.int 65536)) (vCons (vC (.int 1114111)) vNil))))))))))))) (gNm 1))
  (vSeq (vAsg (vCall q__law_many (vCons (vVar 0) (vCons (vC (.int 120)) vNil))) (gNm 2))
  (vSeq (vAsg (vLst vNil) (gNm 3))
  (vSeq (vFor (iRg1 (vCons (vVar 2) vNil)) (gNm 4)
  (t__law_points_b1 q__law_many q__law_next))
  (vRet (vCB rTuple (vCons (vFrz (vVar 3)) vNil)))))))
theorem dv__law_points {C : Cmn} {k : Nat} {qual : Str} (g_int : C.mg "int" = none) (g_range : C.mg "range" = none) (g_tuple : C.mg "tuple" = none) {q__law_many : WSp} (D__law_many : DefOk C k "_law_many" q__law_many) {q__law_next : WSp} (D__law_next : DefOk C k "_law_next" q__law_next) : VSs C (fun i : DIx k qual (defScope s__law_points) => DR C N__law_points i) (defBody s__law_points) (t__law_points q__law_many q__law_next) :=
  (vss_cons (vs_set (i := 1) (fun _ => sc__law_points.nd) (ve_lstF (va_cons ve_int (va_cons ve_int (va_cons ve_int (va_cons ve_int (va_cons ve_int (va_cons ve_int (va_cons ve_int (va_cons ve_int (va_cons ve_int (va_cons ve_int (va_cons ve_int (va_cons ve_int va_nil))))))))))))) (hx := fun _ => .inl rfl) (hf := fun _ => .inl rfl))
  (vss_cons (vs_set (i := 2) (fun _ => sc__law_points.nd) (ve_call D__law_many (va_cons (ve_var (i := 0) (hv := fun _ => .inl rfl)) (va_cons ve_int va_nil)) (fun i => i.room)) (hx := fun _ => .inl rfl) (hf := fun _ => .inl rfl))
  (vss_cons (vs_set (i := 3) (fun _ => sc__law_points.nd) (ve_lst va_nil) (hx := fun _ => .inl rfl) (hf := fun _ => .inl rfl))
  (vss_cons (vs_for (vi_rg1 g_range (va_cons (ve_var (i := 2) (hv := fun _ => .inl rfl)) va_nil)) (vg_name (i := 4) (fun _ => sc__law_points.nd) (hx := fun _ => .inl rfl) (hf := fun _ => .inl rfl))
  (vss_cons (vs_set (i := 5) (fun _ => sc__law_points.nd) (ve_call D__law_next (va_cons (ve_var (i := 0) (hv := fun _ => .inl rfl)) (va_cons ve_int va_nil)) (fun i => i.room)) (hx := fun _ => .inl rfl) (hf := fun _ => .inl rfl))
  (vss_cons (vs_set (i := 6) (fun _ => sc__law_points.nd) (ve_op ov_add ve_int (ve_call D__law_next (va_cons (ve_var (i := 0) (hv := fun _ => .inl rfl)) (va_cons ve_int va_nil)) (fun i => i.room))) (hx := fun _ => .inl rfl) (hf := fun _ => .inl rfl))
  (vss_cons (vs_if (vt_cmp (ov_eq (fun i => ru i.room)) (ve_var (i := 5) (hv := fun _ => .inl rfl)) ve_int) (vss_one (vs_set (i := 6) (fun _ => sc__law_points.nd) (ve_ix (ve_var (i := 1) (hv := fun _ => .inl rfl)) (ve_call D__law_next (va_cons (ve_var (i := 0) (hv := fun _ => .inl rfl)) (va_cons ve_int va_nil)) (fun i => i.room))) (hx := fun _ => .inl rfl) (hf := fun _ => .inl rfl))) vss_nil)
  (vss_cons (vs_if (vt_cmp (ov_eq (fun i => ru i.room)) (ve_var (i := 5) (hv := fun _ => .inl rfl)) ve_int) (vss_one (vs_set (i := 6) (fun _ => sc__law_points.nd) (ve_call D__law_next (va_cons (ve_var (i := 0) (hv := fun _ => .inl rfl)) (va_cons ve_int va_nil)) (fun i => i.room)) (hx := fun _ => .inl rfl) (hf := fun _ => .inl rfl))) vss_nil)
  (vss_cons (vs_if (vt_cmp (ov_eq (fun i => ru i.room)) (ve_var (i := 5) (hv := fun _ => .inl rfl)) ve_int) (vss_cons (vs_set (i := 6) (fun _ => sc__law_points.nd) (ve_op ov_add (ve_op ov_mul ve_int (ve_call D__law_next (va_cons (ve_var (i := 0) (hv := fun _ => .inl rfl)) (va_cons ve_int va_nil)) (fun i => i.room))) (ve_call D__law_next (va_cons (ve_var (i := 0) (hv := fun _ => .inl rfl)) (va_cons ve_int va_nil)) (fun i => i.room))) (hx := fun _ => .inl rfl) (hf := fun _ => .inl rfl))
  (vss_one (vs_set (i := 6) (fun _ => sc__law_points.nd) (ve_op ov_add (ve_var (i := 6) (hv := fun _ => .inl rfl)) (ve_op ov_mul ve_int (ve_callTy cv_int g_int (va_cons (ve_cmp ov_gt (ve_var (i := 6) (hv := fun _ => .inl rfl)) ve_int) va_nil)))) (hx := fun _ => .inl rfl) (hf := fun _ => .inl rfl)))) vss_nil)
  (vss_one (vs_expr (ve_mt PySem.F.slot_list_append PySem.F.type_list_append mv_append (ve_var (i := 3) (hv := fun _ => .inl rfl)) (va_cons (ve_var (i := 6) (hv := fun _ => .inl rfl)) va_nil))))))))))
  (vss_one (vs_ret (ve_callTy cv_tuple g_tuple (va_cons (ve_frz (ve_var (i := 3) (hv := fun _ => .inl rfl))) va_nil))))))))
abbrev s__law_octets : Stmt := top 20
abbrev N__law_octets : List Str := ["state", "many", "low", "span", "k"]
theorem sc__law_octets : FnScope N__law_octets ["state"] (defScope s__law_octets) := ⟨rfl, rfl, rfl, by decide +kernel, rfl, by decide +kernel, by decide +kernel⟩
def t__law_octets_e1 (q__law_many : WSp) (q__law_next : WSp) : WE :=
  (vOp rAdd (vVar 2) (vCall q__law_next (vCons (vVar 0) (vCons (vVar 3) vNil))))
def t__law_octets (q__law_many : WSp) (q__law_next : WSp) : WS :=
  (vSeq (vAsg (vCall q__law_many (vCons (vVar 0) (vCons (vC (.int 260)) vNil))) (gNm 1))
  (vSeq (vAsg (vOp rIx (vLstF (vCons (vTup (vCons (vC (.int 0)) (vCons (vC (.int 256)) vNil))) (vCons (vTup (vCons (vC (.int 32)) (vCons (vC (.int 95)) vNil))) (vCons (vTup (vCons (vC (.int 97)) (vCons (vC (.int 26)) vNil))) vNil)))) (vCall q__law_next (vCons (vVar 0) (vCons (vC (.int 3)) vNil)))) (gTupD 2 (gThen (gNm 2) (gThen (gNm 3) gEnd))))
  (vRet (vCB rTuple (vCons (vLcF (iRg1 (vCons (vVar 1) vNil)) (gNm 4) vYes (t__law_octets_e1 q__law_many q__law_next) [4]) vNil)))))
theorem dv__law_octets {C : Cmn} {k : Nat} {qual : Str} (g_range : C.mg "range" = none) (g_tuple : C.mg "tuple" = none) {q__law_many : WSp} (D__law_many : DefOk C k "_law_many" q__law_many) {q__law_next : WSp} (D__law_next : DefOk C k "_law_next" q__law_next) : VSs C (fun i : DIx k qual (defScope s__law_octets) => DR C N__law_octets i) (defBody s__law_octets) (t__law_octets q__law_many q__law_next) :=
  (vss_cons (vs_set (i := 1) (fun _ => sc__law_octets.nd) (ve_call D__law_many (va_cons (ve_var (i := 0) (hv := fun _ => .inr (.inl rfl))) (va_cons ve_int va_nil)) (fun i => i.room)) (hx := fun _ => .inl rfl) (hf := fun _ => .inl rfl))
  (vss_cons (vs_asg (ve_ix (ve_lstF (va_cons (ve_tup (va_cons ve_int (va_cons ve_int va_nil))) (va_cons (ve_tup (va_cons ve_int (va_cons ve_int va_nil))) (va_cons (ve_tup (va_cons ve_int (va_cons ve_int va_nil))) va_nil)))) (ve_call D__law_next (va_cons (ve_var (i := 0) (hv := fun _ => .inr (.inl rfl))) (va_cons ve_int va_nil)) (fun i => i.room))) (vg_tup (vgs_cons (vg_name (i := 2) (fun _ => sc__law_octets.nd) (hx := fun _ => .inr rfl) (hf := fun _ => .inl rfl)) (vgs_cons (vg_name (i := 3) (fun _ => sc__law_octets.nd) (hx := fun _ => .inr rfl) (hf := fun _ => .inl rfl)) vgs_nil))))
  (vss_one (vs_ret (ve_callTy cv_tuple g_tuple (va_cons (ve_lcF (hN := (fun _ => sc__law_octets.nd)) (own := [("k", 4)]) (vi_rg1 g_range (va_cons (ve_var (i := 1) (hv := fun _ => .inl rfl)) va_nil)) (fun _ => blkOk_by (own := [("k", 4)]) (N := N__law_octets) (sc := defScope s__law_octets) (by decide +kernel)) (vgo_name (i := 4) (fun _ => sc__law_octets.nd) (hx := fun _ => .inl rfl) (hf := fun _ => .inr rfl)) vts_nil (ve_op ov_add (ve_var (i := 2) (hv := fun _ => .inr (.inl rfl))) (ve_call D__law_next (va_cons (ve_var (i := 0) (hv := fun _ => .inr (.inl rfl))) (va_cons (ve_var (i := 3) (hv := fun _ => .inr (.inl rfl))) va_nil)) (fun i => i.1.room)))) va_nil))))))
abbrev s__law_leaf : Stmt := top 21
abbrev N__law_leaf : List Str := ["state", "kinds", "kind"]
theorem sc__law_leaf : FnScope N__law_leaf ["state", "kinds"] (defScope s__law_leaf) := ⟨rfl, rfl, rfl, by decide +kernel, rfl, by decide +kernel, by decide +kernel⟩
def t__law_leaf (q__law_next : WSp) (q__law_number : WSp) (q__law_octets : WSp) (q__law_points : WSp) : WS :=
  (vSeq (vAsg (vOp rIx (vVar 1) (vCall q__law_next (vCons (vVar 0) (vCons (vCB rLen (vCons (vVar 1) vNil)) vNil)))) (gNm 2))
  (vSeq (vIf (vTst (vOp rEq (vVar 2) (vC (.str "truth")))) (vRet (vTup (vCons (vC (.str "truth")) (vCons (vOp rEq (vCall q__law_next (vCons (vVar 0) (vCons (vC (.int 2)) vNil))) (vC (.int 0))) vNil)))) vNext)
  (vSeq (vIf (vTst (vOp rEq (vVar 2) (vC (.str "number")))) (vRet (vCall q__law_number (vCons (vVar 0) vNil))) vNext)
  (vSeq (vIf (vTst (vOp rEq (vVar 2) (vC (.str "bytes")))) (vRet (vTup (vCons (vC (.str "bytes")) (vCons (vCall q__law_octets (vCons (vVar 0) vNil)) vNil)))) vNext)
  (vSeq (vIf (vTst (vOp rEq (vVar 2) (vC (.str "text")))) (vRet (vTup (vCons (vC (.str "text")) (vCons (vCall q__law_points (vCons (vVar 0) vNil)) vNil)))) vNext)
  (vRet (vTup (vCons (vC (.str "null")) vNil))))))))
theorem dv__law_leaf {C : Cmn} {k : Nat} {qual : Str} (g_len : C.mg "len" = none) {q__law_next : WSp} (D__law_next : DefOk C k "_law_next" q__law_next) {q__law_number : WSp} (D__law_number : DefOk C k "_law_number" q__law_number) {q__law_octets : WSp} (D__law_octets : DefOk C k "_law_octets" q__law_octets) {q__law_points : WSp} (D__law_points : DefOk C k "_law_points" q__law_points) : VSs C (fun i : DIx k qual (defScope s__law_leaf) => DR C N__law_leaf i) (defBody s__law_leaf) (t__law_leaf q__law_next q__law_number q__law_octets q__law_points) :=
  (vss_cons (vs_set (i := 2) (fun _ => sc__law_leaf.nd) (ve_ix (ve_var (i := 1) (hv := fun _ => .inl rfl)) (ve_call D__law_next (va_cons (ve_var (i := 0) (hv := fun _ => .inl rfl)) (va_cons (ve_callB cv_len g_len (va_cons (ve_var (i := 1) (hv := fun _ => .inl rfl)) va_nil)) va_nil)) (fun i => i.room))) (hx := fun _ => .inl rfl) (hf := fun _ => .inl rfl))
  (vss_cons (vs_if (vt_cmp (ov_eq (fun i => ru i.room)) (ve_var (i := 2) (hv := fun _ => .inl rfl)) ve_str) (vss_one (vs_ret (ve_tup (va_cons ve_str (va_cons (ve_cmp (ov_eq (fun i => ru i.room)) (ve_call D__law_next (va_cons (ve_var (i := 0) (hv := fun _ => .inl rfl)) (va_cons ve_int va_nil)) (fun i => i.room)) ve_int) va_nil))))) vss_nil)
  (vss_cons (vs_if (vt_cmp (ov_eq (fun i => ru i.room)) (ve_var (i := 2) (hv := fun _ => .inl rfl)) ve_str) (vss_one (vs_ret (ve_call D__law_number (va_cons (ve_var (i := 0) (hv := fun _ => .inl rfl)) va_nil) (fun i => i.room)))) vss_nil)
  (vss_cons (vs_if (vt_cmp (ov_eq (fun i => ru i.room)) (ve_var (i := 2) (hv := fun _ => .inl rfl)) ve_str) (vss_one (vs_ret (ve_tup (va_cons ve_str (va_cons (ve_call D__law_octets (va_cons (ve_var (i := 0) (hv := fun _ => .inl rfl)) va_nil) (fun i => i.room)) va_nil))))) vss_nil)
  (vss_cons (vs_if (vt_cmp (ov_eq (fun i => ru i.room)) (ve_var (i := 2) (hv := fun _ => .inl rfl)) ve_str) (vss_one (vs_ret (ve_tup (va_cons ve_str (va_cons (ve_call D__law_points (va_cons (ve_var (i := 0) (hv := fun _ => .inl rfl)) va_nil) (fun i => i.room)) va_nil))))) vss_nil)
  (vss_one (vs_ret (ve_tup (va_cons ve_str va_nil)))))))))
abbrev s__law_value : Stmt := top 22
abbrev N__law_value : List Str := ["state", "deep", "kinds", "has_maps", "pick", "many", "entries", "k", "key", "entry"]
theorem sc__law_value : FnScope N__law_value ["state", "deep", "kinds", "has_maps"] (defScope s__law_value) := ⟨rfl, rfl, rfl, by decide +kernel, rfl, by decide +kernel, by decide +kernel⟩
def t__law_value_e1 (q__law_leaf : WSp) (q__law_many : WSp) (q__law_next : WSp) (q__law_points : WSp) (q__law_value : WSp) : WE :=
  (vOp rIx (vVar 9) (vC (.int 0)))
def t__law_value_b1 (q__law_leaf : WSp) (q__law_many : WSp) (q__law_next : WSp) (q__law_points : WSp) (q__law_value : WSp) : WS :=
  (vSeq (vAsg (vCall q__law_points (vCons (vVar 0) vNil)) (gNm 8))
  (vIf (vTst (vOp (rIn true) (vVar 8) (vLcF (iLst (vVar 6)) (gNm 9) vYes (t__law_value_e1 q__law_leaf q__law_many q__law_next q__law_points q__law_value) [9]))) (vExpr (vMt rAppend (vVar 6) (vCons (vTup (vCons (vVar 8) (vCons (vCall q__law_value (vCons (vVar 0) (vCons (vOp rSub (vVar 1) (vC (.int 1))) (vCons (vVar 2) (vCons (vVar 3) vNil))))) vNil))) vNil))) vNext))
def t__law_value_e2 (q__law_leaf : WSp) (q__law_many : WSp) (q__law_next : WSp) (q__law_points : WSp) (q__law_value : WSp) : WE :=
  (vCall q__law_value (vCons (vVar 0) (vCons (vOp rSub (vVar 1) (vC (.int 1))) (vCons (vVar 2) (vCons (vVar 3) vNil)))))
def t__law_value (q__law_leaf : WSp) (q__law_many : WSp) (q__law_next : WSp) (q__law_points : WSp) (q__law_value : WSp) : WS :=
  (vSeq (vPutL (vOp rSub (vOp rIx (vVar 0) (vC (.int 2))) (vC (.int 1))) (vVar 0) (vC (.int 2)))
  (vSeq (vAsg (vCall q__law_next (vCons (vVar 0) (vCons (vC (.int 5)) vNil))) (gNm 4))
  (vSeq (vIf (vOr (vTst (vOp rEq (vVar 1) (vC (.int 0)))) (vOr (vTst (vOp rLe (vOp rIx (vVar 0) (vC (.int 2))) (vC (.int 0)))) (vTst (vOp rLt (vVar 4) (vC (.int 2)))))) (vRet (vCall q__law_leaf (vCons (vVar 0) (vCons (vVar 2) vNil)))) vNext)
  (vSeq (vAsg (vCall q__law_many (vCons (vVar 0) (vCons (vC (.int 30)) vNil))) (gNm 5))
  (vSeq (vIf (vOr (vTst (vOp rEq (vVar 4) (vC (.int 2)))) (vNot (vTst (vVar 3)))) (vRet (vTup (vCons (vC (.str "list")) (vCons (vCB rTuple (vCons (vLcF (iRg1 (vCons (vVar 5) vNil)) (gNm 7) vYes (t__law_value_e2 q__law_leaf q__law_many q__law_next q__law_points q__law_value) [7]) vNil)) vNil)))) vNext)
  (vSeq (vAsg (vLst vNil) (gNm 6))
  (vSeq (vFor (iRg1 (vCons (vVar 5) vNil)) (gNm 7)
  (t__law_value_b1 q__law_leaf q__law_many q__law_next q__law_points q__law_value))
  (vRet (vTup (vCons (vC (.str "map")) (vCons (vCB rTuple (vCons (vCB rSortE (vCons (vFrz (vVar 6)) vNil)) vNil)) vNil)))))))))))
theorem dv__law_value {C : Cmn} {k : Nat} {qual : Str} (g_range : C.mg "range" = none) (g_sorted : C.mg "sorted" = none) (g_tuple : C.mg "tuple" = none) {q__law_leaf : WSp} (D__law_leaf : DefOk C k "_law_leaf" q__law_leaf) {q__law_many : WSp} (D__law_many : DefOk C k "_law_many" q__law_many) {q__law_next : WSp} (D__law_next : DefOk C k "_law_next" q__law_next) {q__law_points : WSp} (D__law_points : DefOk C k "_law_points" q__law_points) {q__law_value : WSp} (D__law_value : DefOk C k "_law_value" q__law_value) : VSs C (fun i : DIx k qual (defScope s__law_value) => DR C N__law_value i) (defBody s__law_value) (t__law_value q__law_leaf q__law_many q__law_next q__law_points q__law_value) :=
  (vss_cons (vs_putL (ve_op ov_sub (ve_ix (ve_var (i := 0) (hv := fun _ => .inr (.inl rfl))) ve_int) ve_int) (ve_var (i := 0) (hv := fun _ => .inr (.inl rfl))) ve_int)
  (vss_cons (vs_set (i := 4) (fun _ => sc__law_value.nd) (ve_call D__law_next (va_cons (ve_var (i := 0) (hv := fun _ => .inr (.inl rfl))) (va_cons ve_int va_nil)) (fun i => i.room)) (hx := fun _ => .inl rfl) (hf := fun _ => .inl rfl))
  (vss_cons (vs_if (vw_pt (vw_or (vt_cmp (ov_eq (fun i => ru i.room)) (ve_var (i := 1) (hv := fun _ => .inr (.inl rfl))) ve_int) (vw_or (vt_cmp ov_le (ve_ix (ve_var (i := 0) (hv := fun _ => .inr (.inl rfl))) ve_int) ve_int) (vw_or1 (vt_cmp ov_lt (ve_var (i := 4) (hv := fun _ => .inl rfl)) ve_int))))) (vss_one (vs_ret (ve_call D__law_leaf (va_cons (ve_var (i := 0) (hv := fun _ => .inr (.inl rfl))) (va_cons (ve_var (i := 2) (hv := fun _ => .inr (.inl rfl))) va_nil)) (fun i => i.room)))) vss_nil)
  (vss_cons (vs_set (i := 5) (fun _ => sc__law_value.nd) (ve_call D__law_many (va_cons (ve_var (i := 0) (hv := fun _ => .inr (.inl rfl))) (va_cons ve_int va_nil)) (fun i => i.room)) (hx := fun _ => .inl rfl) (hf := fun _ => .inl rfl))
  (vss_cons (vs_if (vw_pt (vw_or (vt_cmp (ov_eq (fun i => ru i.room)) (ve_var (i := 4) (hv := fun _ => .inl rfl)) ve_int) (vw_or1 (vt_not (vt_val (ve_var (i := 3) (hv := fun _ => .inr (.inl rfl)))))))) (vss_one (vs_ret (ve_tup (va_cons ve_str (va_cons (ve_callTy cv_tuple g_tuple (va_cons (ve_lcF (hN := (fun _ => sc__law_value.nd)) (own := [("k", 7)]) (vi_rg1 g_range (va_cons (ve_var (i := 5) (hv := fun _ => .inl rfl)) va_nil)) (fun _ => blkOk_by (own := [("k", 7)]) (N := N__law_value) (sc := defScope s__law_value) (by decide +kernel)) (vgo_name (i := 7) (fun _ => sc__law_value.nd) (hx := fun _ => .inl rfl) (hf := fun _ => .inr rfl)) vts_nil (ve_call D__law_value (va_cons (ve_var (i := 0) (hv := fun _ => .inr (.inl rfl))) (va_cons (ve_op ov_sub (ve_var (i := 1) (hv := fun _ => .inr (.inl rfl))) ve_int) (va_cons (ve_var (i := 2) (hv := fun _ => .inr (.inl rfl))) (va_cons (ve_var (i := 3) (hv := fun _ => .inr (.inl rfl))) va_nil)))) (fun i => i.1.room))) va_nil)) va_nil))))) vss_nil)
  (vss_cons (vs_set (i := 6) (fun _ => sc__law_value.nd) (ve_lst va_nil) (hx := fun _ => .inl rfl) (hf := fun _ => .inl rfl))
  (vss_cons (vs_for (vi_rg1 g_range (va_cons (ve_var (i := 5) (hv := fun _ => .inl rfl)) va_nil)) (vg_name (i := 7) (fun _ => sc__law_value.nd) (hx := fun _ => .inl rfl) (hf := fun _ => .inl rfl))
  (vss_cons (vs_set (i := 8) (fun _ => sc__law_value.nd) (ve_call D__law_points (va_cons (ve_var (i := 0) (hv := fun _ => .inr (.inl rfl))) va_nil) (fun i => i.room)) (hx := fun _ => .inl rfl) (hf := fun _ => .inl rfl))
  (vss_one (vs_if (vt_cmp (ov_notin (fun i => ru i.room)) (ve_var (i := 8) (hv := fun _ => .inl rfl)) (ve_lcF (hN := (fun _ => sc__law_value.nd)) (own := [("entry", 9)]) (vi_lst (ve_var (i := 6) (hv := fun _ => .inl rfl))) (fun _ => blkOk_by (own := [("entry", 9)]) (N := N__law_value) (sc := defScope s__law_value) (by decide +kernel)) (vgo_name (i := 9) (fun _ => sc__law_value.nd) (hx := fun _ => .inl rfl) (hf := fun _ => .inr rfl)) vts_nil (ve_ix (ve_var (i := 9) (hv := fun _ => .inl rfl)) ve_int))) (vss_one (vs_expr (ve_mt PySem.F.slot_list_append PySem.F.type_list_append mv_append (ve_var (i := 6) (hv := fun _ => .inl rfl)) (va_cons (ve_tup (va_cons (ve_var (i := 8) (hv := fun _ => .inl rfl)) (va_cons (ve_call D__law_value (va_cons (ve_var (i := 0) (hv := fun _ => .inr (.inl rfl))) (va_cons (ve_op ov_sub (ve_var (i := 1) (hv := fun _ => .inr (.inl rfl))) ve_int) (va_cons (ve_var (i := 2) (hv := fun _ => .inr (.inl rfl))) (va_cons (ve_var (i := 3) (hv := fun _ => .inr (.inl rfl))) va_nil)))) (fun i => i.room)) va_nil))) va_nil)))) vss_nil))))
  (vss_one (vs_ret (ve_tup (va_cons ve_str (va_cons (ve_callTy cv_tuple g_tuple (va_cons (ve_callB (cv_sortE (fun i => ru i.room)) g_sorted (va_cons (ve_frz (ve_var (i := 6) (hv := fun _ => .inl rfl))) va_nil)) va_nil)) va_nil))))))))))))
abbrev s__law_depth : Stmt := top 23
abbrev N__law_depth : List Str := ["value", "item", "entry"]
theorem sc__law_depth : FnScope N__law_depth ["value"] (defScope s__law_depth) := ⟨rfl, rfl, rfl, by decide +kernel, rfl, by decide +kernel, by decide +kernel⟩
def t__law_depth_e1 (q__law_depth : WSp) : WE :=
  (vCall q__law_depth (vCons (vOp rIx (vVar 2) (vC (.int 1))) vNil))
def t__law_depth_e2 (q__law_depth : WSp) : WE :=
  (vCall q__law_depth (vCons (vVar 1) vNil))
def t__law_depth (q__law_depth : WSp) : WS :=
  (vSeq (vIf (vTst (vOp rEq (vOp rIx (vVar 0) (vC (.int 0))) (vC (.str "list")))) (vRet (vOp rAdd (vC (.int 1)) (vCB rMax (vCons (vOp rAdd (vLstF (vCons (vC (.int 0)) vNil)) (vLcF (iTpl (vOp rIx (vVar 0) (vC (.int 1)))) (gNm 1) vYes (t__law_depth_e2 q__law_depth) [1])) vNil)))) vNext)
  (vSeq (vIf (vTst (vOp rEq (vOp rIx (vVar 0) (vC (.int 0))) (vC (.str "map")))) (vRet (vOp rAdd (vC (.int 1)) (vCB rMax (vCons (vOp rAdd (vLstF (vCons (vC (.int 0)) vNil)) (vLcF (iTpl (vOp rIx (vVar 0) (vC (.int 1)))) (gNm 2) vYes (t__law_depth_e1 q__law_depth) [2])) vNil)))) vNext)
  (vRet (vC (.int 0)))))
theorem dv__law_depth {C : Cmn} {k : Nat} {qual : Str} (g_max : C.mg "max" = none) {q__law_depth : WSp} (D__law_depth : DefOk C k "_law_depth" q__law_depth) : VSs C (fun i : DIx k qual (defScope s__law_depth) => DR C N__law_depth i) (defBody s__law_depth) (t__law_depth q__law_depth) :=
  (vss_cons (vs_if (vt_cmp (ov_eq (fun i => ru i.room)) (ve_ix (ve_var (i := 0) (hv := fun _ => .inl rfl)) ve_int) ve_str) (vss_one (vs_ret (ve_op ov_add ve_int (ve_callB cv_max g_max (va_cons (ve_op ov_add (ve_lstF (va_cons ve_int va_nil)) (ve_lcF (hN := (fun _ => sc__law_depth.nd)) (own := [("item", 1)]) (vi_tpl (ve_ix (ve_var (i := 0) (hv := fun _ => .inl rfl)) ve_int)) (fun _ => blkOk_by (own := [("item", 1)]) (N := N__law_depth) (sc := defScope s__law_depth) (by decide +kernel)) (vgo_name (i := 1) (fun _ => sc__law_depth.nd) (hx := fun _ => .inl rfl) (hf := fun _ => .inr rfl)) vts_nil (ve_call D__law_depth (va_cons (ve_var (i := 1) (hv := fun _ => .inl rfl)) va_nil) (fun i => i.1.room)))) va_nil))))) vss_nil)
  (vss_cons (vs_if (vt_cmp (ov_eq (fun i => ru i.room)) (ve_ix (ve_var (i := 0) (hv := fun _ => .inl rfl)) ve_int) ve_str) (vss_one (vs_ret (ve_op ov_add ve_int (ve_callB cv_max g_max (va_cons (ve_op ov_add (ve_lstF (va_cons ve_int va_nil)) (ve_lcF (hN := (fun _ => sc__law_depth.nd)) (own := [("entry", 2)]) (vi_tpl (ve_ix (ve_var (i := 0) (hv := fun _ => .inl rfl)) ve_int)) (fun _ => blkOk_by (own := [("entry", 2)]) (N := N__law_depth) (sc := defScope s__law_depth) (by decide +kernel)) (vgo_name (i := 2) (fun _ => sc__law_depth.nd) (hx := fun _ => .inl rfl) (hf := fun _ => .inr rfl)) vts_nil (ve_call D__law_depth (va_cons (ve_ix (ve_var (i := 2) (hv := fun _ => .inl rfl)) ve_int) va_nil) (fun i => i.1.room)))) va_nil))))) vss_nil)
  (vss_one (vs_ret ve_int))))
abbrev s__law_part : Stmt := top 24
abbrev N__law_part : List Str := ["value", "path", "step", "entry"]
theorem sc__law_part : FnScope N__law_part ["value", "path"] (defScope s__law_part) := ⟨rfl, rfl, rfl, by decide +kernel, rfl, by decide +kernel, by decide +kernel⟩
def t__law_part_c1 : WT :=
  (vTst (vOp rEq (vOp rIx (vVar 3) (vC (.int 0))) (vVar 2)))
def t__law_part_e1 : WE :=
  (vOp rIx (vVar 3) (vC (.int 1)))
def t__law_part_b1 : WS :=
  (vIf (vTst (vOp rEq (vOp rIx (vVar 0) (vC (.int 0))) (vC (.str "map")))) (vAsg (vOp rIx (vLcF (iTpl (vOp rIx (vVar 0) (vC (.int 1)))) (gNm 3) (t__law_part_c1) (t__law_part_e1) [3]) (vC (.int 0))) (gNm 0)) (vAsg (vOp rIx (vOp rIx (vVar 0) (vC (.int 1))) (vVar 2)) (gNm 0)))
def t__law_part : WS :=
  (vSeq (vFor (iTpl (vVar 1)) (gNm 2)
  (t__law_part_b1))
  (vRet (vVar 0)))
theorem dv__law_part {C : Cmn} {k : Nat} {qual : Str} : VSs C (fun i : DIx k qual (defScope s__law_part) => DR C N__law_part i) (defBody s__law_part) (t__law_part) :=
  (vss_cons (vs_for (vi_tpl (ve_var (i := 1) (hv := fun _ => .inl rfl))) (vg_name (i := 2) (fun _ => sc__law_part.nd) (hx := fun _ => .inr rfl) (hf := fun _ => .inl rfl))
  (vss_one (vs_if (vt_cmp (ov_eq (fun i => ru i.room)) (ve_ix (ve_var (i := 0) (hv := fun _ => .inl rfl)) ve_int) ve_str) (vss_one (vs_set (i := 0) (fun _ => sc__law_part.nd) (ve_ix (ve_lcF (hN := (fun _ => sc__law_part.nd)) (own := [("entry", 3)]) (vi_tpl (ve_ix (ve_var (i := 0) (hv := fun _ => .inl rfl)) ve_int)) (fun _ => blkOk_by (own := [("entry", 3)]) (N := N__law_part) (sc := defScope s__law_part) (by decide +kernel)) (vgo_name (i := 3) (fun _ => sc__law_part.nd) (hx := fun _ => .inl rfl) (hf := fun _ => .inr rfl)) (vts_one (vt_cmp (ov_eq (fun i => ru i.1.room)) (ve_ix (ve_var (i := 3) (hv := fun _ => .inl rfl)) ve_int) (ve_var (i := 2) (hv := fun _ => .inr (.inl rfl))))) (ve_ix (ve_var (i := 3) (hv := fun _ => .inl rfl)) ve_int)) ve_int) (hx := fun _ => .inl rfl) (hf := fun _ => .inl rfl))) (vss_one (vs_set (i := 0) (fun _ => sc__law_part.nd) (ve_ix (ve_ix (ve_var (i := 0) (hv := fun _ => .inl rfl)) ve_int) (ve_var (i := 2) (hv := fun _ => .inr (.inl rfl)))) (hx := fun _ => .inl rfl) (hf := fun _ => .inl rfl))))))
  (vss_one (vs_ret (ve_var (i := 0) (hv := fun _ => .inl rfl)))))
abbrev s__law_steps : Stmt := top 25
abbrev N__law_steps : List Str := ["value", "k"]
theorem sc__law_steps : FnScope N__law_steps ["value"] (defScope s__law_steps) := ⟨rfl, rfl, rfl, by decide +kernel, rfl, by decide +kernel, by decide +kernel⟩
def t__law_steps_e1 : WE :=
  (vTup (vCons (vVar 1) (vCons (vOp rIx (vOp rIx (vVar 0) (vC (.int 1))) (vVar 1)) vNil)))
def t__law_steps : WS :=
  (vSeq (vIf (vTst (vOp rEq (vOp rIx (vVar 0) (vC (.int 0))) (vC (.str "list")))) (vRet (vLcF (iRg1 (vCons (vCB rLen (vCons (vOp rIx (vVar 0) (vC (.int 1))) vNil)) vNil)) (gNm 1) vYes (t__law_steps_e1) [1])) vNext)
  (vSeq (vIf (vTst (vOp rEq (vOp rIx (vVar 0) (vC (.int 0))) (vC (.str "map")))) (vRet (vCB rListF (vCons (vOp rIx (vVar 0) (vC (.int 1))) vNil))) vNext)
  (vRet (vLstF vNil))))
theorem dv__law_steps {C : Cmn} {k : Nat} {qual : Str} (g_len : C.mg "len" = none) (g_list : C.mg "list" = none) (g_range : C.mg "range" = none) : VSs C (fun i : DIx k qual (defScope s__law_steps) => DR C N__law_steps i) (defBody s__law_steps) (t__law_steps) :=
  (vss_cons (vs_if (vt_cmp (ov_eq (fun i => ru i.room)) (ve_ix (ve_var (i := 0) (hv := fun _ => .inr (.inl rfl))) ve_int) ve_str) (vss_one (vs_ret (ve_lcF (hN := (fun _ => sc__law_steps.nd)) (own := [("k", 1)]) (vi_rg1 g_range (va_cons (ve_callB cv_len g_len (va_cons (ve_ix (ve_var (i := 0) (hv := fun _ => .inr (.inl rfl))) ve_int) va_nil)) va_nil)) (fun _ => blkOk_by (own := [("k", 1)]) (N := N__law_steps) (sc := defScope s__law_steps) (by decide +kernel)) (vgo_name (i := 1) (fun _ => sc__law_steps.nd) (hx := fun _ => .inl rfl) (hf := fun _ => .inr rfl)) vts_nil (ve_tup (va_cons (ve_var (i := 1) (hv := fun _ => .inl rfl)) (va_cons (ve_ix (ve_ix (ve_var (i := 0) (hv := fun _ => .inr (.inl rfl))) ve_int) (ve_var (i := 1) (hv := fun _ => .inl rfl))) va_nil)))))) vss_nil)
  (vss_cons (vs_if (vt_cmp (ov_eq (fun i => ru i.room)) (ve_ix (ve_var (i := 0) (hv := fun _ => .inr (.inl rfl))) ve_int) ve_str) (vss_one (vs_ret (ve_callTy cv_listF g_list (va_cons (ve_ix (ve_var (i := 0) (hv := fun _ => .inr (.inl rfl))) ve_int) va_nil)))) vss_nil)
  (vss_one (vs_ret (ve_lstF va_nil)))))
abbrev s__law_ways : Stmt := top 26
abbrev N__law_ways : List Str := ["value", "found", "step", "part", "path"]
theorem sc__law_ways : FnScope N__law_ways ["value"] (defScope s__law_ways) := ⟨rfl, rfl, rfl, by decide +kernel, rfl, by decide +kernel, by decide +kernel⟩
def t__law_ways_e1 (q__law_steps : WSp) (q__law_ways : WSp) : WE :=
  (vOp rAdd (vTup (vCons (vVar 2) vNil)) (vVar 4))
def t__law_ways_b1 (q__law_steps : WSp) (q__law_ways : WSp) : WS :=
  (vExpr (vMt rExtend (vVar 1) (vCons (vLcF (iLst (vFrz (vCall q__law_ways (vCons (vVar 3) vNil)))) (gNm 4) vYes (t__law_ways_e1 q__law_steps q__law_ways) [4]) vNil)))
def t__law_ways (q__law_steps : WSp) (q__law_ways : WSp) : WS :=
  (vSeq (vAsg (vLst (vCons (vTup vNil) vNil)) (gNm 1))
  (vSeq (vFor (iLst (vCall q__law_steps (vCons (vVar 0) vNil))) (gTupD 2 (gThen (gNm 2) (gThen (gNm 3) gEnd)))
  (t__law_ways_b1 q__law_steps q__law_ways))
  (vRet (vVar 1))))
theorem dv__law_ways {C : Cmn} {k : Nat} {qual : Str} {q__law_steps : WSp} (D__law_steps : DefOk C k "_law_steps" q__law_steps) {q__law_ways : WSp} (D__law_ways : DefOk C k "_law_ways" q__law_ways) : VSs C (fun i : DIx k qual (defScope s__law_ways) => DR C N__law_ways i) (defBody s__law_ways) (t__law_ways q__law_steps q__law_ways) :=
  (vss_cons (vs_set (i := 1) (fun _ => sc__law_ways.nd) (ve_lst (va_cons (ve_tup va_nil) va_nil)) (hx := fun _ => .inl rfl) (hf := fun _ => .inl rfl))
  (vss_cons (vs_for (vi_lst (ve_call D__law_steps (va_cons (ve_var (i := 0) (hv := fun _ => .inl rfl)) va_nil) (fun i => i.room))) (vg_tup (vgs_cons (vg_name (i := 2) (fun _ => sc__law_ways.nd) (hx := fun _ => .inr rfl) (hf := fun _ => .inl rfl)) (vgs_cons (vg_name (i := 3) (fun _ => sc__law_ways.nd) (hx := fun _ => .inl rfl) (hf := fun _ => .inl rfl)) vgs_nil)))
  (vss_one (vs_expr (ve_mt PySem.F.slot_list_extend PySem.F.type_list_extend mv_extend (ve_var (i := 1) (hv := fun _ => .inl rfl)) (va_cons (ve_lcF (hN := (fun _ => sc__law_ways.nd)) (own := [("path", 4)]) (vi_lst (ve_frz (ve_call D__law_ways (va_cons (ve_var (i := 3) (hv := fun _ => .inl rfl)) va_nil) (fun i => i.room)))) (fun _ => blkOk_by (own := [("path", 4)]) (N := N__law_ways) (sc := defScope s__law_ways) (by decide +kernel)) (vgo_name (i := 4) (fun _ => sc__law_ways.nd) (hx := fun _ => .inl rfl) (hf := fun _ => .inr rfl)) vts_nil (ve_op ov_add (ve_tup (va_cons (ve_var (i := 2) (hv := fun _ => .inr (.inl rfl))) va_nil)) (ve_var (i := 4) (hv := fun _ => .inl rfl)))) va_nil)))))
  (vss_one (vs_ret (ve_var (i := 1) (hv := fun _ => .inl rfl))))))
abbrev s__law_drawn : Stmt := top 27
abbrev N__law_drawn : List Str := ["state", "value", "k", "ways"]
theorem sc__law_drawn : FnScope N__law_drawn ["state"] (defScope s__law_drawn) := ⟨rfl, rfl, rfl, by decide +kernel, rfl, by decide +kernel, by decide +kernel⟩
def t__law_drawn_b1 (q__law_depth : WSp) (q__law_next : WSp) (q__law_points : WSp) (q__law_value : WSp) : WS :=
  (vIf (vTst (vOp rLt (vCall q__law_depth (vCons (vVar 1) vNil)) (vC (.int 24)))) (vSeq (vAsg (vLstF (vCons (vTup (vCons (vC (.str "list")) (vCons (vTup (vCons (vVar 1) vNil)) vNil))) (vCons (vTup (vCons (vC (.str "map")) (vCons (vTup (vCons (vTup (vCons (vCall q__law_points (vCons (vVar 0) vNil)) (vCons (vVar 1) vNil))) vNil)) vNil))) (vCons (vTup (vCons (vC (.str "list")) (vCons (vTup (vCons (vTup (vCons (vC (.str "list")) (vCons (vTup vNil) vNil))) (vCons (vVar 1) vNil))) vNil))) vNil)))) (gNm 3))
  (vAsg (vOp rIx (vVar 3) (vCall q__law_next (vCons (vVar 0) (vCons (vC (.int 3)) vNil)))) (gNm 1))) vNext)
def t__law_drawn (q__law_depth : WSp) (q__law_next : WSp) (q__law_points : WSp) (q__law_value : WSp) : WS :=
  (vSeq (vAsg (vCall q__law_value (vCons (vVar 0) (vCons (vC (.int 4)) (vCons (vLstF (vCons (vC (.str "null")) (vCons (vC (.str "truth")) (vCons (vC (.str "number")) (vCons (vC (.str "bytes")) (vCons (vC (.str "text")) vNil)))))) (vCons (vC (.bl true)) vNil))))) (gNm 1))
  (vSeq (vIf (vTst (vOp rEq (vCall q__law_next (vCons (vVar 0) (vCons (vC (.int 4)) vNil))) (vC (.int 1)))) (vFor (iRg1 (vCons (vCall q__law_next (vCons (vVar 0) (vCons (vC (.int 25)) vNil))) vNil)) (gNm 2)
  (t__law_drawn_b1 q__law_depth q__law_next q__law_points q__law_value)) vNext)
  (vRet (vVar 1))))
theorem dv__law_drawn {C : Cmn} {k : Nat} {qual : Str} (g_range : C.mg "range" = none) {q__law_depth : WSp} (D__law_depth : DefOk C k "_law_depth" q__law_depth) {q__law_next : WSp} (D__law_next : DefOk C k "_law_next" q__law_next) {q__law_points : WSp} (D__law_points : DefOk C k "_law_points" q__law_points) {q__law_value : WSp} (D__law_value : DefOk C k "_law_value" q__law_value) : VSs C (fun i : DIx k qual (defScope s__law_drawn) => DR C N__law_drawn i) (defBody s__law_drawn) (t__law_drawn q__law_depth q__law_next q__law_points q__law_value) :=
  (vss_cons (vs_set (i := 1) (fun _ => sc__law_drawn.nd) (ve_call D__law_value (va_cons (ve_var (i := 0) (hv := fun _ => .inl rfl)) (va_cons ve_int (va_cons (ve_lstF (va_cons ve_str (va_cons ve_str (va_cons ve_str (va_cons ve_str (va_cons ve_str va_nil)))))) (va_cons ve_bl va_nil)))) (fun i => i.room)) (hx := fun _ => .inl rfl) (hf := fun _ => .inl rfl))
  (vss_cons (vs_if (vt_cmp (ov_eq (fun i => ru i.room)) (ve_call D__law_next (va_cons (ve_var (i := 0) (hv := fun _ => .inl rfl)) (va_cons ve_int va_nil)) (fun i => i.room)) ve_int) (vss_one (vs_for (vi_rg1 g_range (va_cons (ve_call D__law_next (va_cons (ve_var (i := 0) (hv := fun _ => .inl rfl)) (va_cons ve_int va_nil)) (fun i => i.room)) va_nil)) (vg_name (i := 2) (fun _ => sc__law_drawn.nd) (hx := fun _ => .inl rfl) (hf := fun _ => .inl rfl))
  (vss_one (vs_if (vt_cmp ov_lt (ve_call D__law_depth (va_cons (ve_var (i := 1) (hv := fun _ => .inl rfl)) va_nil) (fun i => i.room)) ve_int) (vss_cons (vs_set (i := 3) (fun _ => sc__law_drawn.nd) (ve_lstF (va_cons (ve_tup (va_cons ve_str (va_cons (ve_tup (va_cons (ve_var (i := 1) (hv := fun _ => .inl rfl)) va_nil)) va_nil))) (va_cons (ve_tup (va_cons ve_str (va_cons (ve_tup (va_cons (ve_tup (va_cons (ve_call D__law_points (va_cons (ve_var (i := 0) (hv := fun _ => .inl rfl)) va_nil) (fun i => i.room)) (va_cons (ve_var (i := 1) (hv := fun _ => .inl rfl)) va_nil))) va_nil)) va_nil))) (va_cons (ve_tup (va_cons ve_str (va_cons (ve_tup (va_cons (ve_tup (va_cons ve_str (va_cons (ve_tup va_nil) va_nil))) (va_cons (ve_var (i := 1) (hv := fun _ => .inl rfl)) va_nil))) va_nil))) va_nil)))) (hx := fun _ => .inl rfl) (hf := fun _ => .inl rfl))
  (vss_one (vs_set (i := 1) (fun _ => sc__law_drawn.nd) (ve_ix (ve_var (i := 3) (hv := fun _ => .inl rfl)) (ve_call D__law_next (va_cons (ve_var (i := 0) (hv := fun _ => .inl rfl)) (va_cons ve_int va_nil)) (fun i => i.room))) (hx := fun _ => .inl rfl) (hf := fun _ => .inl rfl)))) vss_nil)))) vss_nil)
  (vss_one (vs_ret (ve_var (i := 1) (hv := fun _ => .inl rfl))))))
abbrev s__law_found : Stmt := top 28
abbrev N__law_found : List Str := ["value", "path", "e"]
theorem sc__law_found : FnScope N__law_found ["value", "path"] (defScope s__law_found) := ⟨rfl, rfl, rfl, by decide +kernel, rfl, by decide +kernel, by decide +kernel⟩
def t__law_found (C : Cmn) (x_Astray : Addr) (x_Misplaced : Addr) (x_Overdeep : Addr) (q_part_at : WSp) : WS :=
  (vTry C.K x_Astray 2 (vRet (vTup (vCons (vC (.str "part")) (vCons (vCall q_part_at (vCons (vVar 0) (vCons (vVar 1) vNil))) vNil))))
  (fun a Cl dd => (vRet (vTup (vCons (vC (.str "astray")) (vCons (vWhat a Cl dd x_Astray (vVar 2)) (vCons (vOrV (vIsExc C.K a Cl dd x_Astray x_Misplaced (vVar 2)) (vIsExc C.K a Cl dd x_Astray x_Overdeep (vVar 2))) vNil)))))))
theorem dv__law_found {C : Cmn} {k : Nat} {qual : Str} (g_isinstance : C.mg "isinstance" = none) {x_Astray : Addr} (T_Astray : ExcT C "Astray" x_Astray) {x_Misplaced : Addr} (T_Misplaced : ExcT C "Misplaced" x_Misplaced) {x_Overdeep : Addr} (T_Overdeep : ExcT C "Overdeep" x_Overdeep) {q_part_at : WSp} (D_part_at : DefOk C k "part_at" q_part_at) : VSs C (fun i : DIx k qual (defScope s__law_found) => DR C N__law_found i) (defBody s__law_found) (t__law_found C x_Astray x_Misplaced x_Overdeep q_part_at) :=
  (vss_one (vs_try T_Astray (i := 2) (fun _ => sc__law_found.nd) (vss_one (vs_ret (ve_tup (va_cons ve_str (va_cons (ve_call D_part_at (va_cons (ve_var (i := 0) (hv := fun _ => .inl rfl)) (va_cons (ve_var (i := 1) (hv := fun _ => .inl rfl)) va_nil)) (fun i => i.1.room)) va_nil)))))
  (fun a Cl dd => (vss_one (vs_ret (ve_tup (va_cons ve_str (va_cons (ve_what T_Astray (ve_var (i := 2) (hv := fun _ => .inl rfl))) (va_cons (ve_or (ve_isExc g_isinstance T_Astray T_Misplaced (ve_var (i := 2) (hv := fun _ => .inl rfl))) (ve_one (ve_isExc g_isinstance T_Astray T_Overdeep (ve_var (i := 2) (hv := fun _ => .inl rfl))))) va_nil)))))))))
abbrev s__law_strays : Stmt := top 29
abbrev N__law_strays : List Str := ["state", "value", "count", "key", "keys", "near", "entry", "old", "row"]
theorem sc__law_strays : FnScope N__law_strays ["state", "value"] (defScope s__law_strays) := ⟨rfl, rfl, rfl, by decide +kernel, rfl, by decide +kernel, by decide +kernel⟩
def t__law_strays_c1 (q__law_next : WSp) (q__law_points : WSp) (q__law_steps : WSp) : WT :=
  (vTst (vOp (rIn true) (vVar 8) (vVar 4)))
def t__law_strays_e1 (q__law_next : WSp) (q__law_points : WSp) (q__law_steps : WSp) : WE :=
  (vVar 8)
def t__law_strays_e2 (q__law_next : WSp) (q__law_points : WSp) (q__law_steps : WSp) : WE :=
  (vOp rAdd (vVar 7) (vTup (vCons (vCall q__law_next (vCons (vVar 0) (vCons (vC (.int 128)) vNil))) vNil)))
def t__law_strays_e3 (q__law_next : WSp) (q__law_points : WSp) (q__law_steps : WSp) : WE :=
  (vSl rSlF (vVar 7) vNoP (vPart (vUn rNeg (vC (.int 1)))))
def t__law_strays_e4 (q__law_next : WSp) (q__law_points : WSp) (q__law_steps : WSp) : WE :=
  (vOp rIx (vVar 6) (vC (.int 0)))
def t__law_strays (q__law_next : WSp) (q__law_points : WSp) (q__law_steps : WSp) : WS :=
  (vSeq (vAsg (vCB rLen (vCons (vCall q__law_steps (vCons (vVar 1) vNil)) vNil)) (gNm 2))
  (vSeq (vAsg (vCall q__law_points (vCons (vVar 0) vNil)) (gNm 3))
  (vSeq (vIf (vTst (vOp rEq (vOp rIx (vVar 1) (vC (.int 0))) (vC (.str "list")))) (vRet (vLstF (vCons (vVar 2) (vCons (vOp rAdd (vVar 2) (vCall q__law_next (vCons (vVar 0) (vCons (vC (.int 1000)) vNil)))) (vCons (vVar 3) (vCons (vTup vNil) vNil)))))) vNext)
  (vSeq (vIf (vTst (vOp rEq (vOp rIx (vVar 1) (vC (.int 0))) (vC (.str "map")))) (vSeq (vAsg (vLcF (iTpl (vOp rIx (vVar 1) (vC (.int 1)))) (gNm 6) vYes (t__law_strays_e4 q__law_next q__law_points q__law_steps) [6]) (gNm 4))
  (vSeq (vAsg (vOp rAdd (vOp rAdd (vLcF (iLst (vVar 4)) (gNm 7) vYes (t__law_strays_e2 q__law_next q__law_points q__law_steps) [7]) (vLcF (iLst (vVar 4)) (gNm 7) vYes (t__law_strays_e3 q__law_next q__law_points q__law_steps) [7])) (vLstF (vCons (vVar 3) (vCons (vTup vNil) (vCons (vTup (vCons (vC (.int 0)) vNil)) vNil))))) (gNm 5))
  (vRet (vOp rAdd (vLstF (vCons (vC (.int 0)) (vCons (vVar 2) (vCons (vCall q__law_next (vCons (vVar 0) (vCons (vC (.int 9)) vNil))) vNil)))) (vLcF (iLst (vVar 5)) (gNm 8) (t__law_strays_c1 q__law_next q__law_points q__law_steps) (t__law_strays_e1 q__law_next q__law_points q__law_steps) [8]))))) vNext)
  (vRet (vLstF (vCons (vC (.int 0)) (vCons (vCall q__law_next (vCons (vVar 0) (vCons (vC (.int 1000)) vNil))) (vCons (vVar 3) (vCons (vTup vNil) vNil))))))))))
theorem dv__law_strays {C : Cmn} {k : Nat} {qual : Str} (g_len : C.mg "len" = none) {q__law_next : WSp} (D__law_next : DefOk C k "_law_next" q__law_next) {q__law_points : WSp} (D__law_points : DefOk C k "_law_points" q__law_points) {q__law_steps : WSp} (D__law_steps : DefOk C k "_law_steps" q__law_steps) : VSs C (fun i : DIx k qual (defScope s__law_strays) => DR C N__law_strays i) (defBody s__law_strays) (t__law_strays q__law_next q__law_points q__law_steps) :=
  (vss_cons (vs_set (i := 2) (fun _ => sc__law_strays.nd) (ve_callB cv_len g_len (va_cons (ve_call D__law_steps (va_cons (ve_var (i := 1) (hv := fun _ => .inl rfl)) va_nil) (fun i => i.room)) va_nil)) (hx := fun _ => .inl rfl) (hf := fun _ => .inl rfl))
  (vss_cons (vs_set (i := 3) (fun _ => sc__law_strays.nd) (ve_call D__law_points (va_cons (ve_var (i := 0) (hv := fun _ => .inr (.inl rfl))) va_nil) (fun i => i.room)) (hx := fun _ => .inl rfl) (hf := fun _ => .inl rfl))
  (vss_cons (vs_if (vt_cmp (ov_eq (fun i => ru i.room)) (ve_ix (ve_var (i := 1) (hv := fun _ => .inl rfl)) ve_int) ve_str) (vss_one (vs_ret (ve_lstF (va_cons (ve_var (i := 2) (hv := fun _ => .inl rfl)) (va_cons (ve_op ov_add (ve_var (i := 2) (hv := fun _ => .inl rfl)) (ve_call D__law_next (va_cons (ve_var (i := 0) (hv := fun _ => .inr (.inl rfl))) (va_cons ve_int va_nil)) (fun i => i.room))) (va_cons (ve_var (i := 3) (hv := fun _ => .inl rfl)) (va_cons (ve_tup va_nil) va_nil))))))) vss_nil)
  (vss_cons (vs_if (vt_cmp (ov_eq (fun i => ru i.room)) (ve_ix (ve_var (i := 1) (hv := fun _ => .inl rfl)) ve_int) ve_str) (vss_cons (vs_set (i := 4) (fun _ => sc__law_strays.nd) (ve_lcF (hN := (fun _ => sc__law_strays.nd)) (own := [("entry", 6)]) (vi_tpl (ve_ix (ve_var (i := 1) (hv := fun _ => .inl rfl)) ve_int)) (fun _ => blkOk_by (own := [("entry", 6)]) (N := N__law_strays) (sc := defScope s__law_strays) (by decide +kernel)) (vgo_name (i := 6) (fun _ => sc__law_strays.nd) (hx := fun _ => .inl rfl) (hf := fun _ => .inr rfl)) vts_nil (ve_ix (ve_var (i := 6) (hv := fun _ => .inl rfl)) ve_int)) (hx := fun _ => .inr rfl) (hf := fun _ => .inl rfl))
  (vss_cons (vs_set (i := 5) (fun _ => sc__law_strays.nd) (ve_op ov_add (ve_op ov_add (ve_lcF (hN := (fun _ => sc__law_strays.nd)) (own := [("old", 7)]) (vi_lst (ve_var (i := 4) (hv := fun _ => .inr (.inl rfl)))) (fun _ => blkOk_by (own := [("old", 7)]) (N := N__law_strays) (sc := defScope s__law_strays) (by decide +kernel)) (vgo_name (i := 7) (fun _ => sc__law_strays.nd) (hx := fun _ => .inl rfl) (hf := fun _ => .inr rfl)) vts_nil (ve_op ov_add (ve_var (i := 7) (hv := fun _ => .inl rfl)) (ve_tup (va_cons (ve_call D__law_next (va_cons (ve_var (i := 0) (hv := fun _ => .inr (.inl rfl))) (va_cons ve_int va_nil)) (fun i => i.1.room)) va_nil)))) (ve_lcF (hN := (fun _ => sc__law_strays.nd)) (own := [("old", 7)]) (vi_lst (ve_var (i := 4) (hv := fun _ => .inr (.inl rfl)))) (fun _ => blkOk_by (own := [("old", 7)]) (N := N__law_strays) (sc := defScope s__law_strays) (by decide +kernel)) (vgo_name (i := 7) (fun _ => sc__law_strays.nd) (hx := fun _ => .inl rfl) (hf := fun _ => .inr rfl)) vts_nil (ve_slice slF_sound (ve_var (i := 7) (hv := fun _ => .inl rfl)) vo_none (vo_some (ve_neg ve_int))))) (ve_lstF (va_cons (ve_var (i := 3) (hv := fun _ => .inl rfl)) (va_cons (ve_tup va_nil) (va_cons (ve_tup (va_cons ve_int va_nil)) va_nil))))) (hx := fun _ => .inl rfl) (hf := fun _ => .inl rfl))
  (vss_one (vs_ret (ve_op ov_add (ve_lstF (va_cons ve_int (va_cons (ve_var (i := 2) (hv := fun _ => .inl rfl)) (va_cons (ve_call D__law_next (va_cons (ve_var (i := 0) (hv := fun _ => .inr (.inl rfl))) (va_cons ve_int va_nil)) (fun i => i.room)) va_nil)))) (ve_lcF (hN := (fun _ => sc__law_strays.nd)) (own := [("row", 8)]) (vi_lst (ve_var (i := 5) (hv := fun _ => .inl rfl))) (fun _ => blkOk_by (own := [("row", 8)]) (N := N__law_strays) (sc := defScope s__law_strays) (by decide +kernel)) (vgo_name (i := 8) (fun _ => sc__law_strays.nd) (hx := fun _ => .inl rfl) (hf := fun _ => .inr rfl)) (vts_one (vt_cmp (ov_notin (fun i => ru i.1.room)) (ve_var (i := 8) (hv := fun _ => .inl rfl)) (ve_var (i := 4) (hv := fun _ => .inr (.inl rfl))))) (ve_var (i := 8) (hv := fun _ => .inl rfl)))))))) vss_nil)
  (vss_one (vs_ret (ve_lstF (va_cons ve_int (va_cons (ve_call D__law_next (va_cons (ve_var (i := 0) (hv := fun _ => .inr (.inl rfl))) (va_cons ve_int va_nil)) (fun i => i.room)) (va_cons (ve_var (i := 3) (hv := fun _ => .inl rfl)) (va_cons (ve_tup va_nil) va_nil)))))))))))
abbrev s_law : Stmt := top 30
abbrev N_law : List Str := ["script", "state", "value", "ways", "told", "path", "k", "rest", "step", "astray"]
theorem sc_law : FnScope N_law ["script"] (defScope s_law) := ⟨rfl, rfl, rfl, by decide +kernel, rfl, by decide +kernel, by decide +kernel⟩
def t_law_b1 (q__law_cell : WSp) (q__law_drawn : WSp) (q__law_found : WSp) (q__law_next : WSp) (q__law_part : WSp) (q__law_points : WSp) (q__law_same : WSp) (q__law_state : WSp) (q__law_strays : WSp) (q__law_ways : WSp) (q_paths_of : WSp) : WS :=
  (vSeq (vAsg (vOp rAdd (vOp rAdd (vVar 5) (vTup (vCons (vVar 8) vNil))) (vVar 7)) (gNm 9))
  (vIf (vNot (vTst (vCallR q__law_same (vCons (vCall q__law_found (vCons (vVar 2) (vCons (vVar 9) vNil))) (vCons (vTup (vCons (vC (.str "astray")) (vCons (vVar 9) (vCons (vC (.bl false)) vNil)))) vNil))))) (vRet (vC (.bl false))) vNext))
def t_law_b2 (q__law_cell : WSp) (q__law_drawn : WSp) (q__law_found : WSp) (q__law_next : WSp) (q__law_part : WSp) (q__law_points : WSp) (q__law_same : WSp) (q__law_state : WSp) (q__law_strays : WSp) (q__law_ways : WSp) (q_paths_of : WSp) : WS :=
  (vSeq (vAsg (vOp rIx (vVar 3) (vOp rMod (vOp rAdd (vCall q__law_next (vCons (vVar 1) (vCons (vC (.int 1000)) vNil))) (vOp rMul (vC (.int 1000)) (vVar 6))) (vCB rLen (vCons (vVar 3) vNil)))) (gNm 5))
  (vSeq (vAsg (vOp rIx (vTup (vCons (vTup vNil) (vCons (vTup (vCons (vCall q__law_next (vCons (vVar 1) (vCons (vC (.int 3)) vNil))) vNil)) (vCons (vTup (vCons (vCall q__law_points (vCons (vVar 1) vNil)) (vCons (vC (.int 0)) vNil))) vNil)))) (vCall q__law_next (vCons (vVar 1) (vCons (vC (.int 3)) vNil)))) (gNm 7))
  (vFor (iLst (vCall q__law_strays (vCons (vVar 1) (vCons (vCall q__law_part (vCons (vVar 2) (vCons (vVar 5) vNil))) vNil)))) (gNm 8)
  (t_law_b1 q__law_cell q__law_drawn q__law_found q__law_next q__law_part q__law_points q__law_same q__law_state q__law_strays q__law_ways q_paths_of))))
def t_law_b3 (q__law_cell : WSp) (q__law_drawn : WSp) (q__law_found : WSp) (q__law_next : WSp) (q__law_part : WSp) (q__law_points : WSp) (q__law_same : WSp) (q__law_state : WSp) (q__law_strays : WSp) (q__law_ways : WSp) (q_paths_of : WSp) : WS :=
  (vIf (vNot (vTst (vCallR q__law_same (vCons (vCall q__law_found (vCons (vVar 2) (vCons (vVar 5) vNil))) (vCons (vTup (vCons (vC (.str "part")) (vCons (vCall q__law_part (vCons (vVar 2) (vCons (vVar 5) vNil))) vNil))) vNil))))) (vRet (vC (.bl false))) vNext)
def t_law (q__law_cell : WSp) (q__law_drawn : WSp) (q__law_found : WSp) (q__law_next : WSp) (q__law_part : WSp) (q__law_points : WSp) (q__law_same : WSp) (q__law_state : WSp) (q__law_strays : WSp) (q__law_ways : WSp) (q_paths_of : WSp) : WS :=
  (vSeq (vAsg (vCall q__law_state (vCons (vVar 0) (vCons (vOp rAdd (vC (.int 6)) (vOp rMod (vCB rInt (vCons (vCB rAbs (vCons (vCall q__law_cell (vCons (vVar 0) (vCons (vC (.int 0)) vNil))) vNil)) vNil)) (vC (.int 30)))) vNil))) (gNm 1))
  (vSeq (vAsg (vCall q__law_drawn (vCons (vVar 1) vNil)) (gNm 2))
  (vSeq (vAsg (vFrz (vCall q__law_ways (vCons (vVar 2) vNil))) (gNm 3))
  (vSeq (vAsg (vCall q_paths_of (vCons (vVar 2) vNil)) (gNm 4))
  (vSeq (vIf (vNot (vTst (vCallR q__law_same (vCons (vVar 4) (vCons (vVar 3) vNil))))) (vRet (vC (.bl false))) vNext)
  (vSeq (vExpr (vMt rAppend (vVar 4) (vCons (vTup vNil) vNil)))
  (vSeq (vIf (vNot (vTst (vCallR q__law_same (vCons (vFrz (vCall q_paths_of (vCons (vVar 2) vNil))) (vCons (vVar 3) vNil))))) (vRet (vC (.bl false))) vNext)
  (vSeq (vFor (iLst (vVar 3)) (gNm 5)
  (t_law_b3 q__law_cell q__law_drawn q__law_found q__law_next q__law_part q__law_points q__law_same q__law_state q__law_strays q__law_ways q_paths_of))
  (vSeq (vFor (iRg1 (vCons (vC (.int 4)) vNil)) (gNm 6)
  (t_law_b2 q__law_cell q__law_drawn q__law_found q__law_next q__law_part q__law_points q__law_same q__law_state q__law_strays q__law_ways q_paths_of))
  (vRet (vC (.bl true))))))))))))
theorem dv_law {C : Cmn} {k : Nat} {qual : Str} (g_abs : C.mg "abs" = none) (g_int : C.mg "int" = none) (g_len : C.mg "len" = none) (g_range : C.mg "range" = none) {q__law_cell : WSp} (D__law_cell : DefOk C k "_law_cell" q__law_cell) {q__law_drawn : WSp} (D__law_drawn : DefOk C k "_law_drawn" q__law_drawn) {q__law_found : WSp} (D__law_found : DefOk C k "_law_found" q__law_found) {q__law_next : WSp} (D__law_next : DefOk C k "_law_next" q__law_next) {q__law_part : WSp} (D__law_part : DefOk C k "_law_part" q__law_part) {q__law_points : WSp} (D__law_points : DefOk C k "_law_points" q__law_points) {q__law_same : WSp} (D__law_same : DefOk C k "_law_same" q__law_same) {q__law_state : WSp} (D__law_state : DefOk C k "_law_state" q__law_state) {q__law_strays : WSp} (D__law_strays : DefOk C k "_law_strays" q__law_strays) {q__law_ways : WSp} (D__law_ways : DefOk C k "_law_ways" q__law_ways) {q_paths_of : WSp} (D_paths_of : DefOk C k "paths_of" q_paths_of) : VSs C (fun i : DIx k qual (defScope s_law) => DR C N_law i) (defBody s_law) (t_law q__law_cell q__law_drawn q__law_found q__law_next q__law_part q__law_points q__law_same q__law_state q__law_strays q__law_ways q_paths_of) :=
  (vss_cons (vs_set (i := 1) (fun _ => sc_law.nd) (ve_call D__law_state (va_cons (ve_var (i := 0) (hv := fun _ => .inl rfl)) (va_cons (ve_op ov_add ve_int (ve_op ov_mod (ve_callTy cv_int g_int (va_cons (ve_callB cv_abs g_abs (va_cons (ve_call D__law_cell (va_cons (ve_var (i := 0) (hv := fun _ => .inl rfl)) (va_cons ve_int va_nil)) (fun i => i.room)) va_nil)) va_nil)) ve_int)) va_nil)) (fun i => i.room)) (hx := fun _ => .inl rfl) (hf := fun _ => .inl rfl))
  (vss_cons (vs_set (i := 2) (fun _ => sc_law.nd) (ve_call D__law_drawn (va_cons (ve_var (i := 1) (hv := fun _ => .inl rfl)) va_nil) (fun i => i.room)) (hx := fun _ => .inl rfl) (hf := fun _ => .inl rfl))
  (vss_cons (vs_set (i := 3) (fun _ => sc_law.nd) (ve_frz (ve_call D__law_ways (va_cons (ve_var (i := 2) (hv := fun _ => .inl rfl)) va_nil) (fun i => i.room))) (hx := fun _ => .inl rfl) (hf := fun _ => .inl rfl))
  (vss_cons (vs_set (i := 4) (fun _ => sc_law.nd) (ve_call D_paths_of (va_cons (ve_var (i := 2) (hv := fun _ => .inl rfl)) va_nil) (fun i => i.room)) (hx := fun _ => .inl rfl) (hf := fun _ => .inl rfl))
  (vss_cons (vs_if (vt_not (vt_val (ve_callR D__law_same (va_cons (ve_var (i := 4) (hv := fun _ => .inl rfl)) (va_cons (ve_var (i := 3) (hv := fun _ => .inl rfl)) va_nil)) (fun i => i.room)))) (vss_one (vs_ret ve_bl)) vss_nil)
  (vss_cons (vs_expr (ve_mt PySem.F.slot_list_append PySem.F.type_list_append mv_append (ve_var (i := 4) (hv := fun _ => .inl rfl)) (va_cons (ve_tup va_nil) va_nil)))
  (vss_cons (vs_if (vt_not (vt_val (ve_callR D__law_same (va_cons (ve_frz (ve_call D_paths_of (va_cons (ve_var (i := 2) (hv := fun _ => .inl rfl)) va_nil) (fun i => i.room))) (va_cons (ve_var (i := 3) (hv := fun _ => .inl rfl)) va_nil)) (fun i => i.room)))) (vss_one (vs_ret ve_bl)) vss_nil)
  (vss_cons (vs_for (vi_lst (ve_var (i := 3) (hv := fun _ => .inl rfl))) (vg_name (i := 5) (fun _ => sc_law.nd) (hx := fun _ => .inl rfl) (hf := fun _ => .inl rfl))
  (vss_one (vs_if (vt_not (vt_val (ve_callR D__law_same (va_cons (ve_call D__law_found (va_cons (ve_var (i := 2) (hv := fun _ => .inl rfl)) (va_cons (ve_var (i := 5) (hv := fun _ => .inl rfl)) va_nil)) (fun i => i.room)) (va_cons (ve_tup (va_cons ve_str (va_cons (ve_call D__law_part (va_cons (ve_var (i := 2) (hv := fun _ => .inl rfl)) (va_cons (ve_var (i := 5) (hv := fun _ => .inl rfl)) va_nil)) (fun i => i.room)) va_nil))) va_nil)) (fun i => i.room)))) (vss_one (vs_ret ve_bl)) vss_nil)))
  (vss_cons (vs_for (vi_rg1 g_range (va_cons ve_int va_nil)) (vg_name (i := 6) (fun _ => sc_law.nd) (hx := fun _ => .inl rfl) (hf := fun _ => .inl rfl))
  (vss_cons (vs_set (i := 5) (fun _ => sc_law.nd) (ve_ix (ve_var (i := 3) (hv := fun _ => .inl rfl)) (ve_op ov_mod (ve_op ov_add (ve_call D__law_next (va_cons (ve_var (i := 1) (hv := fun _ => .inl rfl)) (va_cons ve_int va_nil)) (fun i => i.room)) (ve_op ov_mul ve_int (ve_var (i := 6) (hv := fun _ => .inl rfl)))) (ve_callB cv_len g_len (va_cons (ve_var (i := 3) (hv := fun _ => .inl rfl)) va_nil)))) (hx := fun _ => .inl rfl) (hf := fun _ => .inl rfl))
  (vss_cons (vs_set (i := 7) (fun _ => sc_law.nd) (ve_ix (ve_tup (va_cons (ve_tup va_nil) (va_cons (ve_tup (va_cons (ve_call D__law_next (va_cons (ve_var (i := 1) (hv := fun _ => .inl rfl)) (va_cons ve_int va_nil)) (fun i => i.room)) va_nil)) (va_cons (ve_tup (va_cons (ve_call D__law_points (va_cons (ve_var (i := 1) (hv := fun _ => .inl rfl)) va_nil) (fun i => i.room)) (va_cons ve_int va_nil))) va_nil)))) (ve_call D__law_next (va_cons (ve_var (i := 1) (hv := fun _ => .inl rfl)) (va_cons ve_int va_nil)) (fun i => i.room))) (hx := fun _ => .inl rfl) (hf := fun _ => .inl rfl))
  (vss_one (vs_for (vi_lst (ve_call D__law_strays (va_cons (ve_var (i := 1) (hv := fun _ => .inl rfl)) (va_cons (ve_call D__law_part (va_cons (ve_var (i := 2) (hv := fun _ => .inl rfl)) (va_cons (ve_var (i := 5) (hv := fun _ => .inl rfl)) va_nil)) (fun i => i.room)) va_nil)) (fun i => i.room))) (vg_name (i := 8) (fun _ => sc_law.nd) (hx := fun _ => .inl rfl) (hf := fun _ => .inl rfl))
  (vss_cons (vs_set (i := 9) (fun _ => sc_law.nd) (ve_op ov_add (ve_op ov_add (ve_var (i := 5) (hv := fun _ => .inl rfl)) (ve_tup (va_cons (ve_var (i := 8) (hv := fun _ => .inl rfl)) va_nil))) (ve_var (i := 7) (hv := fun _ => .inl rfl))) (hx := fun _ => .inl rfl) (hf := fun _ => .inl rfl))
  (vss_one (vs_if (vt_not (vt_val (ve_callR D__law_same (va_cons (ve_call D__law_found (va_cons (ve_var (i := 2) (hv := fun _ => .inl rfl)) (va_cons (ve_var (i := 9) (hv := fun _ => .inl rfl)) va_nil)) (fun i => i.room)) (va_cons (ve_tup (va_cons ve_str (va_cons (ve_var (i := 9) (hv := fun _ => .inl rfl)) (va_cons ve_bl va_nil)))) va_nil)) (fun i => i.room)))) (vss_one (vs_ret ve_bl)) vss_nil))))))))
  (vss_one (vs_ret ve_bl)))))))))))
end K75

set_option Elab.async false
set_option linter.all false
set_option maxRecDepth 100000
set_option maxHeartbeats 1000000
/-! k75: the state's draws. -/
namespace L3
open PySem PySem.Spec PyProof.Rows L2
section
variable {g : WG} {b : WS} {E : VEnds} {G : Sto → Prop}
theorem forW_inv (I : List D → Env → Sto → Prop) (hn : ∀ env S, I [] env S → G S ∧ E.nx env S)
    (hc : ∀ y r env S (N : Env → Sto → Prop), I (y :: r) env S → (∀ e S', I r e S' → N e S') → G S ∧ g y env S (fun e1 S1 => b { E with nx := N, ct := N, bk := E.nx } e1 S1)) :
    ∀ ys env S, I ys env S → forW g b E G ys env S
  | [], env, S, h => hn env S h
  | y :: r, env, S, h => hc y r env S _ h fun e S' h' => forW_inv I hn hc r e S' h'
variable {tt : WT} {te : WE} {env : Env} {Qd : List D → Sto → Prop}
theorem lcW_inv (I : List D → List D → Sto → Prop) (hn : ∀ acc S, I [] acc S → G S ∧ Qd acc S)
    (hc : ∀ y r acc S (N : List D → Sto → Prop), I (y :: r) acc S → (∀ acc' S', I r acc' S' → N acc' S') → G S ∧ g y env S (fun e1 S1 => tt e1 S1 (fun b S2 => if b = true then te e1 S2 (fun d S3 => acc.length < sizeLine ∧ N (acc ++ [d]) S3) NoEx else N acc S2) NoEx)) :
    ∀ ys acc S, I ys acc S → lcW g tt te G env Qd ys acc S
  | [], acc, S, h => hn acc S h
  | y :: r, acc, S, h => hc y r acc S _ h fun e S' h' => lcW_inv I hn hc r e S' h'
/-- a comprehension that leaves the store as it is -/
theorem lcW_pure (o : D → Option D) {S : Sto} (hG : G S) : ∀ (ys acc : List D), acc.length + ys.length ≤ sizeLine →
    (∀ y ∈ ys, ∀ (A : D → Sto → Prop) (B : Sto → Prop), (match o y with | some d => A d S | none => B S) → g y env S (fun e1 S1 => tt e1 S1 (fun b S2 => if b = true then te e1 S2 A NoEx else B S2) NoEx)) →
    Qd (acc ++ ys.filterMap o) S → lcW g tt te G env Qd ys acc S
  | [], acc, _, _, h => ⟨hG, by simpa using h⟩
  | y :: r, acc, hl, hf, h => by
    rw [List.length_cons] at hl
    refine ⟨hG, hf y List.mem_cons_self _ _ ?_⟩
    cases e : o y with
    | some d =>
      refine ⟨by omega, lcW_pure o hG r (acc ++ [d]) (by rw [List.length_append, List.length_singleton]; omega) (fun y' hy => hf y' (List.mem_cons_of_mem _ hy)) ?_⟩
      rw [List.filterMap_cons_some e] at h
      simpa using h
    | none =>
      refine lcW_pure o hG r acc (by omega) (fun y' hy => hf y' (List.mem_cons_of_mem _ hy)) ?_
      rw [List.filterMap_cons_none e] at h
      exact h
end
end L3
namespace K75
open PySem PySem.Spec L2 L3
/-- the state of the draws -/
structure Sta where
  nums : List Int
  at_ : Int
  left : Int
  scr : List Int
  cnt : Int
  ok : nums.length = 120
def Sta.so (s : Sta) : SO := .lst [.lst (s.nums.map D.int), .int s.at_, .int s.left, .fix (s.scr.map D.int), .int s.cnt]
/-- what a draw leaves -/
def After (G : D → Prop) (S : Sto) (p : Addr) (Q : VQ) : Prop := ∀ (r : D) (s : Sta), G r → Q r (sup S p s.so)
/-- a whole number from lo, below hi -/
def Num (lo hi : Int) (d : D) : Prop := ∃ i, d = .int i ∧ lo ≤ i ∧ i < hi
def sp_next : WSp := fun ds S Q _ => ∃ (p : Addr) (s : Sta) (m : Int), ds = [.ref p, .int m] ∧ S p = some s.so ∧ 0 < m ∧ After (Num 0 m) S p Q
theorem w_next (ds S Q E) (h : sp_next ds S Q E) : t__law_next (dEnds Q E) (L3.start 3 ds) S := by
  obtain ⟨p, s, m, rfl, hp, hm, k⟩ := h
  obtain ⟨nums, a, left, scr, cnt, hl⟩ := s
  have h0 : 0 ≤ a % 120 := Int.emod_nonneg a (by decide)
  have h1 : a % 120 < 120 := Int.emod_lt_of_pos a (by decide)
  obtain ⟨v, e1, e2⟩ := at_lt (xs := nums.map D.int) h0 (by simp only [List.length_map]; omega)
  obtain ⟨z, _, rfl⟩ : ∃ z, nums[(a % 120).toNat]? = some z ∧ v = .int z := by
    rw [List.getElem?_map] at e1
    cases q : nums[(a % 120).toNat]? with
    | none => rw [q] at e1; cases e1
    | some z => rw [q] at e1; cases e1; exact ⟨z, rfl, rfl⟩
  simp only [Sta.so] at hp
  simp [t__law_next, hp, ixN, e2, hm, cmul_l]
  exact k _ ⟨nums, a + 1, left, scr, cnt, hl⟩ ⟨_, rfl, Int.emod_nonneg _ (by omega), Int.emod_lt_of_pos _ hm⟩
theorem nx {p : Addr} (s : Sta) {m : Int} {S : Sto} {Q : VQ} {E : EX} {hh} (hp : S p = some s.so) (hm : 0 < m) (k : ∀ i (s' : Sta), 0 ≤ i → i < m → Q (.int i) (sup S p s'.so)) : Call sp_next [.ref p, .int m] S Q E hh :=
  ⟨p, s, m, rfl, hp, hm, fun r s' ⟨i, e, h0, h1⟩ => by rw [e]; exact k i s' h0 h1⟩
def sp_many : WSp := fun ds S Q _ => ∃ (p : Addr) (s : Sta) (m : Int), ds = [.ref p, .int m] ∧ S p = some s.so ∧ 0 < m ∧ After (Num 0 (20 + m)) S p Q
theorem w_many (ds S Q E) (h : sp_many ds S Q E) : t__law_many sp_next (dEnds Q E) (L3.start 4 ds) S := by
  obtain ⟨p, s, m, rfl, hp, hm, k⟩ := h
  simp [t__law_many]
  refine nx s hp (by decide) fun i s1 h0 h1 => ?_
  obtain ⟨n1, a1, l1, c1, k1, o1⟩ := s1
  simp [Sta.so]
  split
  · refine nx ⟨n1, a1, l1, c1, k1, o1⟩ (by simp [Sta.so]) (by decide) fun i2 s2 h2 h3 => ?_
    obtain ⟨n2, a2, l2, c2, k2, o2⟩ := s2
    simp [Sta.so, ixN]
    split
    · rename_i e; subst e
      refine nx ⟨n2, a2, l2, c2, k2 - 1, o2⟩ (by simp [Sta.so]) (by decide) fun i3 s3 h4 h5 => ?_
      obtain ⟨n3, a3, l3, c3, k3, o3⟩ := s3
      simp [Sta.so]
      refine nx ⟨n3, a3, l3, c3, k3, o3⟩ (by simp [Sta.so]) hm fun i4 s4 h6 h7 => ?_
      simp [line2]
      exact k _ s4 ⟨_, rfl, by omega, by omega⟩
    · split
      · rename_i e; subst e
        refine nx ⟨n2, a2, l2, c2, k2 - 1, o2⟩ (by simp [Sta.so]) (by decide) fun i3 s3 h4 h5 => ?_
        obtain ⟨n3, a3, l3, c3, k3, o3⟩ := s3
        simp [Sta.so]
        refine nx ⟨n3, a3, l3, c3, k3, o3⟩ (by simp [Sta.so]) hm fun i4 s4 h6 h7 => ?_
        simp [line2]
        exact k _ s4 ⟨_, rfl, by omega, by omega⟩
      · exact k _ ⟨n2, a2, l2, c2, k2, o2⟩ ⟨_, rfl, by omega, by omega⟩
  · exact k _ ⟨n1, a1, l1, c1, k1, o1⟩ ⟨_, rfl, by omega, by omega⟩
theorem mn {p : Addr} (s : Sta) {m : Int} {S : Sto} {Q : VQ} {E : EX} {hh} (hp : S p = some s.so) (hm : 0 < m) (k : ∀ i (s' : Sta), 0 ≤ i → i < 20 + m → Q (.int i) (sup S p s'.so)) : Call sp_many [.ref p, .int m] S Q E hh :=
  ⟨p, s, m, rfl, hp, hm, fun r s' ⟨i, e, h0, h1⟩ => by rw [e]; exact k i s' h0 h1⟩
end K75

set_option Elab.async false
set_option linter.all false
set_option maxRecDepth 100000
set_option maxHeartbeats 1000000
/-! k75: numbers, texts, octets, leaves. -/
namespace L3
open PySem PySem.Spec PyProof.Rows L2
theorem rng_len {lo : Int} {n : Nat} : (rngD lo n).length = n := by unfold rngD; simp
theorem rng_mem {lo : Int} {n : Nat} : ∀ y ∈ rngD lo n, ∃ i, y = .int i ∧ lo ≤ i ∧ i < lo + n := fun y hy => by
  unfold rngD at hy
  obtain ⟨i, hi, rfl⟩ := List.mem_map.mp hy
  exact ⟨_, rfl, by omega, by have := List.mem_range.mp hi; omega⟩
end L3
namespace K75
open PySem PySem.Spec L2 L3
def sp_cell : WSp := fun ds S Q _ => ∃ (scr : List Int) (k : Int), ds = [.fix (scr.map D.int), .int k] ∧ 0 ≤ k ∧ ∀ i, Q (.int i) S
theorem w_cell (ds S Q E) (h : sp_cell ds S Q E) : t__law_cell (dEnds Q E) (L3.start 2 ds) S := by
  obtain ⟨scr, k, rfl, hk, q⟩ := h
  simp [t__law_cell]
  split
  · rename_i hl
    obtain ⟨v, e1, e2⟩ := at_lt (xs := scr.map D.int) hk (by simpa using hl)
    rw [e2]
    rw [List.getElem?_map] at e1
    cases q' : scr[k.toNat]? with
    | none => rw [q'] at e1; cases e1
    | some z => rw [q'] at e1; cases e1; exact q z
  · exact q 0
def sp_numbers : WSp := fun ds S Q _ => ∃ (c m : Int), ds = [.int c, .int m] ∧ 0 ≤ m ∧ m ≤ 1000 ∧ ∀ p (ns : List Int), S p = none → ns.length = m.toNat → Q (.ref p) (sup S p (.lst (ns.map D.int)))
theorem w_numbers (ds S Q E) (h : sp_numbers ds S Q E) : t__law_numbers (dEnds Q E) (L3.start 7 ds) S := by
  obtain ⟨c, m, rfl, h0, h1, q⟩ := h
  simp [t__law_numbers, line2]
  refine fun p hp => ⟨⟨by omega, by omega⟩, ?_⟩
  refine forW_inv (fun ys env S' => ∃ (rest size : Int) (ns : List Int) (o1 o2 : Option D), env = [some (.int c), some (.int m), some (.int rest), some (.int size), some (.ref p), o1, o2] ∧ S' = sup S p (.lst (ns.map D.int)) ∧ ns.length + ys.length = m.toNat ∧ ∀ y ∈ ys, ∃ i, y = D.int i) ?_ ?_ _ _ _ ⟨_, _, [], none, none, rfl, by simp, by simp [rng_len], fun y hy => ?_⟩
  · rintro env S' ⟨rest, size, ns, o1, o2, rfl, rfl, hl, _⟩
    refine ⟨trivial, ?_⟩
    simp
    exact q p ns hp (by simpa using hl)
  · rintro y r env S' N ⟨rest, size, ns, o1, o2, rfl, rfl, hl, hy⟩ hN
    obtain ⟨k, rfl⟩ := hy _ List.mem_cons_self
    have hy' : ∀ y ∈ r, ∃ i, y = D.int i := fun y h => hy y (List.mem_cons_of_mem _ h)
    have hl' : ns.length + 1 + r.length = m.toNat := by simp at hl; omega
    have hz : ns.length < 16777216 := by omega
    have hc : CPow 10 18 := ⟨by decide, by decide, by decide⟩
    refine ⟨trivial, ?_⟩
    simp [t__law_numbers_b1, line2, hz, hc]
    have done : ∀ (z rest' : Int) (o1 o2 : Option D), N [some (.int c), some (.int m), some (.int rest'), some (.int size), some (.ref p), o1, o2] (sup S p (.lst (ns.map D.int ++ [.int z]))) := fun z rest' o1 o2 => hN _ _ ⟨rest', size, ns ++ [z], o1, o2, rfl, by simp, by simp; omega, hy'⟩
    have m1 : ∀ x : Int, CMul x 48271 := fun x => cmul_r (by decide) (by decide)
    have m2 : ∀ x : Int, CMul x 69621 := fun x => cmul_r (by decide) (by decide)
    have m3 : ∀ x : Int, CMul 40692 x := fun x => cmul_l (by decide) (by decide)
    have m4 : ∀ x : Int, CMul (x % 2147483647) (x % 2147483647) := fun x => cmul_l (by omega) (by omega)
    simp [m1, m2, m3, m4]
    split
    · split
      · exact done _ _ _ _
      · exact done _ _ _ _
    · exact done _ _ _ _
  · obtain ⟨i, e, _⟩ := rng_mem y hy
    exact ⟨i, e⟩
end K75

set_option Elab.async false
set_option linter.all false
set_option maxRecDepth 100000
set_option maxHeartbeats 2000000
/-! k75: the state, numbers, texts, octets, leaves. -/
namespace L3
open PySem PySem.Spec PyProof.Rows L2
theorem sdel_at {S : Sto} {p : Addr} : sdel S p p = none := sdel_same
end L3
namespace K75
open PySem PySem.Spec L2 L3
def sp_state : WSp := fun ds S Q _ => ∃ (scr : List Int) (left : Int), ds = [.fix (scr.map D.int), .int left] ∧ ∀ p (s : Sta), S p = none → Q (.ref p) (sup S p s.so)
theorem w_state (ds S Q E) (h : sp_state ds S Q E) : t__law_state sp_cell sp_numbers (dEnds Q E) (L3.start 5 ds) S := by
  obtain ⟨scr, left, rfl, q⟩ := h
  simp [t__law_state, line2]
  intro p hp
  refine lcW_inv (fun ys acc S' => S' = sup S p (.lst []) ∧ ∃ pts : List (List Int), acc = pts.map (fun ns => .lst (ns.map D.int)) ∧ (∀ ns ∈ pts, ns.length = 40) ∧ acc.length + ys.length = 3 ∧ ∀ y ∈ ys, ∃ i, y = D.int i ∧ 0 ≤ i) ?_ ?_ _ _ _ ⟨rfl, [], rfl, (by simp), by simp [rng_len], fun y hy => ?_⟩
  · rintro acc S' ⟨rfl, pts, rfl, hl, hn, _⟩
    refine ⟨trivial, ?_⟩
    simp at hn
    obtain ⟨x, y, z, rfl⟩ : ∃ x y z, pts = [x, y, z] := by
      match pts, hn with
      | [x, y, z], _ => exact ⟨x, y, z, rfl⟩
    have hx := hl x (by simp)
    have hy := hl y (by simp)
    have hz := hl z (by simp)
    simp
    refine forW_inv (fun ys env S' => ∃ (ns : List Int) (o : Option D), env = [some (.fix (scr.map D.int)), some (.int left), some (.ref p), some (.lst [.lst (x.map D.int), .lst (y.map D.int), .lst (z.map D.int)]), o] ∧ S' = sup S p (.lst (ns.map D.int)) ∧ ns.length + 3 * ys.length = 120 ∧ ∀ y ∈ ys, ∃ i, y = D.int i ∧ 0 ≤ i ∧ i < 40) ?_ ?_ _ _ _ ⟨[], none, rfl, by simp, by simp [rng_len], fun y hy => ?_⟩
    · rintro env S' ⟨ns, o, rfl, rfl, hl, _⟩
      refine ⟨trivial, ?_⟩
      simp [line2]
      intro r hr
      by_cases e : r = p
      · subst e
        rw [sdel_sup hp]
        exact q _ ⟨ns, 0, left, scr, 4, by simpa using hl⟩ hp
      · rw [sdel_sup hp]
        refine q _ ⟨ns, 0, left, scr, 4, by simpa using hl⟩ ?_
        rw [sdel_sup hp] at hr; exact hr
    · rintro y' r env S' N ⟨ns, o, rfl, rfl, hl, hy'⟩ hN
      obtain ⟨k, rfl, h0, h1⟩ := hy' _ List.mem_cons_self
      refine ⟨trivial, ?_⟩
      have at' : ∀ w : List Int, w.length = 40 → ∃ v, atI (w.map D.int) k = some (.int v) := fun w hw => by
        obtain ⟨v, e1, e2⟩ := at_lt (xs := w.map D.int) h0 (by simp; omega)
        rw [List.getElem?_map] at e1
        cases q' : w[k.toNat]? with
        | none => rw [q'] at e1; cases e1
        | some z => rw [q'] at e1; cases e1; exact ⟨z, e2⟩
      obtain ⟨v1, e1⟩ := at' x hx
      obtain ⟨v2, e2⟩ := at' y hy
      obtain ⟨v3, e3⟩ := at' z hz
      simp at hl
      simp [t__law_state_b1, e1, e2, e3, line2]
      refine ⟨by omega, hN _ _ ⟨ns ++ [v1, v2, v3], some (.int k), rfl, by simp, by simp; omega, fun y h => hy' y (List.mem_cons_of_mem _ h)⟩⟩
    · exact rng_mem y hy
  · rintro y r acc S' N ⟨rfl, pts, rfl, hl, hn, hy⟩ hN
    obtain ⟨k, rfl, h0⟩ := hy _ List.mem_cons_self
    refine ⟨trivial, ?_⟩
    simp [t__law_state_e1]
    refine ⟨scr, k, rfl, h0, fun i => ?_⟩
    simp
    refine ⟨i, 40, rfl, by decide, by decide, fun p2 ns hp2 hl2 => ?_⟩
    simp at hn
    simp [line2, sdel_sup hp2]
    refine ⟨by omega, hN _ _ ⟨rfl, pts ++ [ns], by simp, fun ns' h => ?_, by simp; omega, fun y h => hy y (List.mem_cons_of_mem _ h)⟩⟩
    rcases List.mem_append.mp h with h | h
    · exact hl _ h
    · rw [List.mem_singleton.mp h, hl2]; rfl
  · obtain ⟨i, e, h0, _⟩ := rng_mem y hy
    exact ⟨i, e, h0⟩
def sp_big : WSp := fun ds S Q _ => ∃ (p : Addr) (s : Sta) (m : Int), ds = [.ref p, .int m] ∧ S p = some s.so ∧ 0 < m ∧ After (Num 0 m) S p Q
theorem w_big (ds S Q E) (h : sp_big ds S Q E) : t__law_big sp_cell sp_next (dEnds Q E) (L3.start 3 ds) S := by
  obtain ⟨p, s, m, rfl, hp, hm, k⟩ := h
  obtain ⟨n0, a0, l0, c0, k0, o0⟩ := s
  simp only [Sta.so] at hp
  simp [t__law_big, hp]
  refine nx ⟨n0, a0, l0, c0, k0, o0⟩ hp (by decide) fun i s1 h0 h1 => ?_
  simp
  refine ⟨c0, 3 + i, rfl, by omega, fun c => ?_⟩
  have m1 : ∀ x : Int, CMul x 1009 := fun x => cmul_r (by decide) (by decide)
  simp [m1]
  refine nx s1 (by simp) (by decide) fun i2 s2 h2 h3 => ?_
  simp [hm]
  exact k _ s2 ⟨_, rfl, Int.emod_nonneg _ (by omega), Int.emod_lt_of_pos _ hm⟩
theorem bg {p : Addr} (s : Sta) {m : Int} {S : Sto} {Q : VQ} {E : EX} {hh} (hp : S p = some s.so) (hm : 0 < m) (k : ∀ i (s' : Sta), 0 ≤ i → i < m → Q (.int i) (sup S p s'.so)) : Call sp_big [.ref p, .int m] S Q E hh :=
  ⟨p, s, m, rfl, hp, hm, fun r s' ⟨i, e, h0, h1⟩ => by rw [e]; exact k i s' h0 h1⟩
def sp_normal : WSp := fun ds S Q _ => ∃ (m e : Int), ds = [.int m, .int e] ∧ ∀ m' e' : Int, Q (.tup [.int m', .int e']) S
theorem w_normal (ds S Q E) (h : sp_normal ds S Q E) : t__law_normal (dEnds Q E) (L3.start 3 ds) S := by
  obtain ⟨m, e, rfl, q⟩ := h
  simp [t__law_normal, line2]
  split
  · exact q 0 0
  · refine forW_inv (fun ys env S' => ∃ (m e : Int) (o : Option D), env = [some (.int m), some (.int e), o] ∧ S' = S) ?_ ?_ _ _ _ ⟨m, e, none, rfl, rfl⟩
    · rintro env S' ⟨m, e, o, rfl, rfl⟩
      refine ⟨trivial, ?_⟩
      simp [line2]
      exact q m e
    · rintro y r env S' N ⟨m, e, o, rfl, rfl⟩ hN
      refine ⟨trivial, ?_⟩
      simp [t__law_normal_b1, line2]
      split
      · exact hN _ _ ⟨_, _, _, rfl, rfl⟩
      · exact q m e
end K75

set_option Elab.async false
set_option linter.all false
set_option maxRecDepth 100000
set_option maxHeartbeats 4000000
/-! k75: numbers, texts, octets, leaves. -/
namespace K75
open PySem PySem.Spec L2 L3
theorem w_normal_use {m e : Int} {S : Sto} {Q : VQ} {E : EX} {hh} (k : ∀ m' e' : Int, Q (.tup [.int m', .int e']) S) : Call sp_normal [.int m, .int e] S Q E hh := ⟨m, e, rfl, k⟩
def IsNum (d : D) : Prop := ∃ m e, d = .tup [.str "number", .int m, .int e]
def sp_number : WSp := fun ds S Q _ => ∃ (p : Addr) (s : Sta), ds = [.ref p] ∧ S p = some s.so ∧ After IsNum S p Q
theorem at_use {xs : List D} {i : Int} {Q : D → Prop} {hh} (h0 : 0 ≤ i) (h1 : i < xs.length) (h : ∀ d ∈ xs, Q d) : AtC (atI xs i) Q hh := by
  obtain ⟨v, e1, e2⟩ := at_lt (xs := xs) h0 h1
  rw [e2]
  exact h v (List.mem_of_getElem? e1)
theorem inInts {i : Int} {xs : List Int} : InD (.int i) (xs.map D.int) (inV (.int i) ((xs.map D.int).map toV)) := .inl ⟨rfl, by simp [List.all_map], rfl⟩
/-- from the number on: its normal form -/
theorem number_end {p : Addr} {S : Sto} {Q : VQ} {E : EX} (k : After IsNum S p Q) (o : Option D) (m e : Int) (o1 o2 o3 : Option D) (s : Sta) :
    Call sp_next [.ref p, .int 2] (sup S p s.so) (fun y S2 => L3.rIx (.lst [.int m, .int (-m)]) y S2 fun d S1 =>
      vCons (vVar 3) vNil [some (.ref p), o, some (.int m), some (.int e), o1, o2, o3] S1 (fun ds S2 => Call sp_normal (d :: ds) S2 (fun d S1 => gTupD 2 (gThen (gNm 2) (gThen (gNm 3) gEnd)) d [some (.ref p), o, some (.int m), some (.int e), o1, o2, o3] S1
        (vRet (vTup (vCons (vC (.str "number")) (vCons (vVar 2) (vCons (vVar 3) vNil)))) (dEnds Q E))) E .mk) E) E .mk := by
  refine nx s (by simp) (by decide) fun i s1 h0 h1 => ?_
  simp
  refine at_use h0 (by simpa using h1) fun d hd => ?_
  have : ∃ z, d = .int z := by
    simp at hd
    rcases hd with rfl | rfl <;> exact ⟨_, rfl⟩
  obtain ⟨z, rfl⟩ := this
  simp
  refine w_normal_use fun m' e' => ?_
  simp [line2]
  exact k _ s1 ⟨_, _, rfl⟩
theorem w_number (ds S Q E) (h : sp_number ds S Q E) : t__law_number sp_big sp_next sp_normal (dEnds Q E) (L3.start 7 ds) S := by
  obtain ⟨p, s, rfl, hp, k⟩ := h
  simp [t__law_number]
  refine nx s hp (by decide) fun pick s1 _ _ => ?_
  simp
  refine nx s1 (by simp) (by decide) fun m s2 _ _ => ?_
  simp [line2]
  refine ⟨_, inInts (xs := [4, 5]), ?_⟩
  have c10 : CPow 10 40 := ⟨by decide, by decide, by decide⟩
  try simp [line2]
  split
  · have c1 : CPow 2 31 := ⟨by decide, by decide, by decide⟩
    have c2 : CPow 2 32 := ⟨by decide, by decide, by decide⟩
    have c3 : CPow 2 63 := ⟨by decide, by decide, by decide⟩
    have c4 : CPow 2 64 := ⟨by decide, by decide, by decide⟩
    have c5 : CPow 10 30 := ⟨by decide, by decide, by decide⟩
    simp [c1, c2, c3, c4, c5, line2]
    refine nx s2 (by simp) (by decide) fun i s3 h0 h1 => ?_
    simp
    refine at_use h0 (by simpa using h1) fun d hd => ?_
    have : ∃ z, d = .int z := by
      simp at hd
      rcases hd with rfl | rfl | rfl | rfl | rfl | rfl | rfl | rfl | rfl | rfl | rfl | rfl | rfl <;> exact ⟨_, rfl⟩
    obtain ⟨z, rfl⟩ := this
    simp
    refine nx s3 (by simp) (by decide) fun i2 s4 _ _ => ?_
    simp [line2]
    exact number_end k _ _ _ _ _ _ _
  · try simp [line2]
    refine ⟨_, inInts (xs := [6, 7, 8]), ?_⟩
    try simp [line2]
    split
    · try simp
      refine nx s2 (by simp) (by decide) fun i s3 h0 h1 => ?_
      simp
      refine nx s3 (by simp) (by decide) fun i2 s4 _ _ => ?_
      simp [line2]
      exact number_end k _ _ _ _ _ _ _
    · try simp [line2]
      split
      · try simp [line2]
        refine nx s2 (by simp) (by decide) fun i s3 h0 h1 => ?_
        simp [line2]
        refine nx s3 (by simp) (by decide) fun i2 s4 h2 h3 => ?_
        simp
        refine at_use h2 (by simpa using h3) fun d hd => ?_
        have : ∃ z, d = .int z := by
          simp at hd
          rcases hd with rfl | rfl | rfl | rfl | rfl | rfl | rfl | rfl | rfl | rfl <;> exact ⟨_, rfl⟩
        obtain ⟨z, rfl⟩ := this
        obtain ⟨n4, a4, l4, c4, k4, o4⟩ := s4
        simp [Sta.so, ixN, line2]
        repeat' split
        all_goals first
          | exact number_end k _ _ _ _ _ _ ⟨n4, a4, l4, c4, k4 - 1, o4⟩
          | exact number_end k _ _ _ _ _ _ ⟨n4, a4, l4, c4, k4, o4⟩
      · try simp [line2]
        split
        · try simp [line2]
          refine nx s2 (by simp) (by decide) fun i s3 h0 h1 => ?_
          simp [line2]
          refine ⟨⟨by omega, by omega⟩, ?_⟩
          refine forW_inv (fun ys env S' => ∃ (w : Nat) (o : Option D), env = [some (.ref p), some (.int pick), some (.int m), some (.int 0), none, some (.int w), o] ∧ S' = sup S p s3.so ∧ 0 < w ∧ w * 16 ^ ys.length ≤ 2 ^ 164) ?_ ?_ _ _ _ ⟨10, none, by simp, by simp, by decide, ?_⟩
          · rintro env S' ⟨w, o, rfl, rfl, hw, hb⟩
            refine ⟨trivial, ?_⟩
            simp
            refine bg s3 (by simp) (by omega) fun m' s4 g0 g1 => ?_
            simp
            refine nx s4 (by simp) (by decide) fun e s5 g2 g3 => ?_
            obtain ⟨n5, a5, l5, c5, k5, o5⟩ := s5
            simp [Sta.so, ixN, line2]
            split
            · split
              · refine nx ⟨n5, a5, l5, c5, k5 - 1, o5⟩ (by simp [Sta.so]) (by decide) fun t s6 g4 g5 => ?_
                simp [line2]
                refine ⟨⟨by omega, by omega⟩, ?_⟩
                refine forW_inv (fun ys env S' => ∃ (v : Nat) (s : Sta) (o : Option D), env = [some (.ref p), some (.int pick), some (.int v), some (.int (e - 45)), none, some (.int w), o] ∧ S' = sup S p s.so ∧ (v + 1) * 2 ^ (140 * ys.length) ≤ 2 ^ 1300) ?_ ?_ _ _ _ ⟨m'.toNat, s6, o, by simp; omega, by simp, ?_⟩
                · rintro env S' ⟨v, s, o, rfl, rfl, _⟩
                  refine ⟨trivial, ?_⟩
                  simp [line2]
                  exact number_end k _ _ _ _ _ _ s
                · rintro y r env S' N ⟨v, s, o, rfl, rfl, hv⟩ hN
                  refine ⟨trivial, ?_⟩
                  have e1 : (2 : Nat) ^ (140 * (r.length + 1)) = 2 ^ (140 * r.length) * 2 ^ 140 := by rw [← Nat.pow_add]; congr 1
                  have e2 : 0 < (2 : Nat) ^ (140 * r.length) := Nat.pow_pos (by decide)
                  rw [List.length_cons, e1] at hv
                  generalize (2 : Nat) ^ (140 * r.length) = X at hv e2 hN
                  have hv' : v < 2 ^ 1300 := by
                    refine Nat.lt_of_lt_of_le (Nat.lt_succ_self v) (Nat.le_trans ?_ hv)
                    exact Nat.le_mul_of_pos_right _ (Nat.mul_pos e2 (by decide))
                  have cm : CMulW (v : Int) 10000000000000000000000000000000000000007 := wide_mul (a := 1300) (b := 140) (by simpa using hv') (by decide) (by decide) (by decide) (by decide)
                  simp [t__law_number_b1, c10, cm, line2]
                  refine nx s (by simp) (by decide) fun j s7 g6 g7 => ?_
                  simp
                  refine hN _ _ ⟨v * 10000000000000000000000000000000000000007 + j.toNat, s7, some y, by simp; omega, rfl, ?_⟩
                  refine Nat.le_trans ?_ hv
                  rw [Nat.mul_comm X, ← Nat.mul_assoc]
                  exact Nat.mul_le_mul_right _ (by omega)
                · simp [rng_len]
                  simp at hb
                  have hm : m'.toNat + 1 ≤ 2 ^ 164 := by omega
                  refine Nat.le_trans (Nat.mul_le_mul hm (Nat.pow_le_pow_right (n := 2) (by decide) (show 140 * t.toNat ≤ 980 by omega))) (by rw [← Nat.pow_add]; exact Nat.pow_le_pow_right (by decide) (by decide))
              · exact number_end k _ _ _ _ _ _ ⟨n5, a5, l5, c5, k5, o5⟩
            · exact number_end k _ _ _ _ _ _ ⟨n5, a5, l5, c5, k5, o5⟩
          · rintro y r env S' N ⟨w, o, rfl, rfl, hw, hb⟩ hN
            refine ⟨trivial, ?_⟩
            simp [t__law_number_b2, cmul_r]
            refine hN _ _ ⟨w * 10, some y, by simp, rfl, by omega, ?_⟩
            rw [List.length_cons, Nat.pow_succ] at hb
            refine Nat.le_trans ?_ hb
            rw [Nat.mul_comm (16 ^ r.length) 16, ← Nat.mul_assoc]
            exact Nat.mul_le_mul_right _ (by omega)
          · simp [rng_len]
            have : i.toNat ≤ 40 := by omega
            exact Nat.le_trans (Nat.mul_le_mul_left 10 (Nat.pow_le_pow_right (by decide) this)) (by decide)
        · try simp [line2]
          exact number_end k _ _ _ _ _ _ s2
end K75

set_option Elab.async false
set_option linter.all false
set_option maxRecDepth 100000
set_option maxHeartbeats 4000000
/-! k75: texts, octets, leaves. -/
namespace K75
open PySem PySem.Spec L2 L3
def IsInts (n : Nat) (d : D) : Prop := ∃ ns : List Int, d = .tup (ns.map D.int) ∧ ns.length < n
def sp_points : WSp := fun ds S Q _ => ∃ (p : Addr) (s : Sta), ds = [.ref p] ∧ S p = some s.so ∧ After (IsInts 1000) S p Q
theorem pt {p : Addr} (s : Sta) {S : Sto} {Q : VQ} {E : EX} {hh} (hp : S p = some s.so) (k : ∀ (ns : List Int) (s' : Sta), ns.length < 1000 → Q (.tup (ns.map D.int)) (sup S p s'.so)) : Call sp_points [.ref p] S Q E hh :=
  ⟨p, s, rfl, hp, fun r s' ⟨ns, e, h⟩ => by rw [e]; exact k ns s' h⟩
/-- a draw, with a list of the def's own beside the state -/
theorem nx2 {p q : Addr} {o : SO} (s : Sta) {m : Int} {S : Sto} {Q : VQ} {E : EX} {hh} (hq : p ≠ q) (hm : 0 < m) (k : ∀ i (s' : Sta), 0 ≤ i → i < m → Q (.int i) (sup (sup S p s'.so) q o)) : Call sp_next [.ref p, .int m] (sup (sup S p s.so) q o) Q E hh :=
  nx s (by rw [sup_ne hq]; exact sup_same) hm fun i s' h0 h1 => by
    have z := k i s' h0 h1
    rw [sup_comm hq.symm, sup_sup]
    exact z
theorem w_points (ds S Q E) (h : sp_points ds S Q E) : t__law_points sp_many sp_next (dEnds Q E) (L3.start 7 ds) S := by
  obtain ⟨p, s, rfl, hp, k⟩ := h
  simp [t__law_points, line2]
  refine mn s hp (by decide) fun n s1 h0 h1 => ?_
  simp [line2]
  intro q hq
  have hpq : p ≠ q := fun e => by subst e; simp at hq
  refine ⟨⟨by omega, by omega⟩, ?_⟩
  let menu : D := .lst [.int 34, .int 92, .int 47, .int 127, .int 128, .int 2047, .int 2048, .int 55295, .int 57344, .int 65535, .int 65536, .int 1114111]
  refine forW_inv (fun ys env S' => ∃ (ns : List Int) (s : Sta) (o1 o2 o3 : Option D), env = [some (.ref p), some menu, some (.int n), some (.ref q), o1, o2, o3] ∧ S' = sup (sup S p s.so) q (.lst (ns.map D.int)) ∧ ns.length + ys.length < 1000) ?_ ?_ _ _ _ ⟨[], s1, none, none, none, rfl, by simp, by simp [rng_len]; omega⟩
  · rintro env S' ⟨ns, s, o1, o2, o3, rfl, rfl, hl⟩
    refine ⟨trivial, ?_⟩
    simp
    have hq' : sup S p s.so q = none := by rw [sup_ne (Ne.symm hpq)]; rw [sup_ne (Ne.symm hpq)] at hq; exact hq
    rw [sdel_sup hq']
    exact k _ s ⟨ns, rfl, by simpa using hl⟩
  · rintro y r env S' N ⟨ns, s, o1, o2, o3, rfl, rfl, hl⟩ hN
    refine ⟨trivial, ?_⟩
    simp at hl
    have hz : ns.length < 16777216 := by omega
    have done : ∀ (z : Int) (s : Sta) (o1 o2 o3 : Option D), N [some (.ref p), some menu, some (.int n), some (.ref q), o1, o2, o3] (sup (sup S p s.so) q (.lst (ns.map D.int ++ [.int z]))) := fun z s o1 o2 o3 => hN _ _ ⟨ns ++ [z], s, o1, o2, o3, rfl, by simp, by simp; omega⟩
    simp [t__law_points_b1]
    refine nx2 s hpq (by decide) fun pick s2 _ _ => ?_
    simp
    refine nx2 s2 hpq (by decide) fun i s3 _ _ => ?_
    simp
    have fin : ∀ (z pick : Int) (s : Sta) (o1 o2 : Option D), pick ≠ 0 → pick ≠ 1 → pick ≠ 2 → True := fun _ _ _ _ _ _ _ _ => trivial
    have m1 : ∀ x : Int, CMul 1112 x := fun x => cmul_l (by decide) (by decide)
    have m2 : ∀ x : Int, CMul 2048 x := fun x => cmul_l (by decide) (by decide)
    split
    · rename_i e; subst e
      refine nx2 s3 hpq (by decide) fun j s4 g0 g1 => ?_
      simp [menu]
      refine at_use g0 (by simpa using g1) fun d hd => ?_
      have : ∃ z, d = .int z := by
        simp at hd
        rcases hd with rfl | rfl | rfl | rfl | rfl | rfl | rfl | rfl | rfl | rfl | rfl | rfl <;> exact ⟨_, rfl⟩
      obtain ⟨z, rfl⟩ := this
      simp [line2, hz]
      exact done _ _ _ _ _
    · split
      · rename_i e; subst e
        refine nx2 s3 hpq (by decide) fun j s4 g0 g1 => ?_
        simp [line2, hz]
        exact done _ _ _ _ _
      · split
        · rename_i e; subst e
          refine nx2 s3 hpq (by decide) fun j s4 g0 g1 => ?_
          simp [m1]
          refine nx2 s4 hpq (by decide) fun j2 s5 g2 g3 => ?_
          simp [m2, line2, hz]
          exact done _ _ _ _ _
        · simp [line2, hz]
          exact done _ _ _ _ _
def sp_octets : WSp := fun ds S Q _ => ∃ (p : Addr) (s : Sta), ds = [.ref p] ∧ S p = some s.so ∧ After (IsInts 1000) S p Q
theorem oc {p : Addr} (s : Sta) {S : Sto} {Q : VQ} {E : EX} {hh} (hp : S p = some s.so) (k : ∀ (ns : List Int) (s' : Sta), ns.length < 1000 → Q (.tup (ns.map D.int)) (sup S p s'.so)) : Call sp_octets [.ref p] S Q E hh :=
  ⟨p, s, rfl, hp, fun r s' ⟨ns, e, h⟩ => by rw [e]; exact k ns s' h⟩
theorem w_octets (ds S Q E) (h : sp_octets ds S Q E) : t__law_octets sp_many sp_next (dEnds Q E) (L3.start 5 ds) S := by
  obtain ⟨p, s, rfl, hp, k⟩ := h
  simp [t__law_octets, line2]
  refine mn s hp (by decide) fun n s1 h0 h1 => ?_
  simp [line2]
  refine nx s1 (by simp) (by decide) fun i s2 g0 g1 => ?_
  simp
  refine at_use g0 (by simpa using g1) fun d hd => ?_
  have : ∃ lo sp, d = .tup [.int lo, .int sp] ∧ 0 < sp := by
    simp at hd
    rcases hd with rfl | rfl | rfl <;> exact ⟨_, _, rfl, by decide⟩
  obtain ⟨lo, sp, rfl, hsp⟩ := this
  simp
  refine ⟨⟨by omega, by omega⟩, ?_⟩
  refine lcW_inv (fun ys acc S' => ∃ (ns : List Int) (s : Sta), acc = ns.map D.int ∧ S' = sup S p s.so ∧ ns.length + ys.length < 1000) ?_ ?_ _ _ _ ⟨[], s2, rfl, by simp, by simp [rng_len]; omega⟩
  · rintro acc S' ⟨ns, s, rfl, rfl, hl⟩
    refine ⟨trivial, ?_⟩
    simp
    exact k _ s ⟨ns, rfl, by simpa using hl⟩
  · rintro y r acc S' N ⟨ns, s, rfl, rfl, hl⟩ hN
    refine ⟨trivial, ?_⟩
    simp [t__law_octets_e1]
    refine nx s (by simp) hsp fun j s4 g0 g1 => ?_
    simp at hl
    simp [line2]
    exact ⟨by omega, hN _ _ ⟨ns ++ [lo + j], s4, by simp, rfl, by simp; omega⟩⟩
/-- a value without parts -/
inductive IsLeaf : D → Prop
  | null : IsLeaf (.tup [.str "null"])
  | truth (b : Bool) : IsLeaf (.tup [.str "truth", .bl b])
  | num (m e : Int) : IsLeaf (.tup [.str "number", .int m, .int e])
  | bytes (ns : List Int) : ns.length < 1000 → IsLeaf (.tup [.str "bytes", .tup (ns.map D.int)])
  | text (ns : List Int) : ns.length < 1000 → IsLeaf (.tup [.str "text", .tup (ns.map D.int)])
def sp_leaf : WSp := fun ds S Q _ => ∃ (p : Addr) (s : Sta) (ks : List Str), ds = [.ref p, .lst (ks.map D.str)] ∧ S p = some s.so ∧ 0 < ks.length ∧ After IsLeaf S p Q
theorem w_leaf (ds S Q E) (h : sp_leaf ds S Q E) : t__law_leaf sp_next sp_number sp_octets sp_points (dEnds Q E) (L3.start 3 ds) S := by
  obtain ⟨p, s, ks, rfl, hp, hk, k⟩ := h
  simp [t__law_leaf, line2]
  refine nx s hp (by omega) fun i s1 h0 h1 => ?_
  simp
  refine at_use h0 (by simpa using h1) fun d hd => ?_
  obtain ⟨z, _, rfl⟩ := List.mem_map.mp hd
  simp
  split
  · refine nx s1 (by simp) (by decide) fun j s2 _ _ => ?_
    simp [line2]
    exact k _ s2 (.truth _)
  · split
    · refine ⟨p, s1, rfl, by simp, fun r s2 ⟨m, e, he⟩ => ?_⟩
      subst he
      simp
      exact k _ s2 (.num _ _)
    · split
      · refine oc s1 (by simp) fun ns s2 hn => ?_
        simp [line2]
        exact k _ s2 (.bytes _ hn)
      · split
        · refine pt s1 (by simp) fun ns s2 hn => ?_
          simp [line2]
          exact k _ s2 (.text _ hn)
        · simp [line2]
          exact k _ s1 .null
end K75

set_option Elab.async false
set_option linter.all false
set_option maxRecDepth 100000
set_option maxHeartbeats 4000000
/-! k75: values, depth. -/
namespace K75
open PySem PySem.Spec L2 L3
def Vl : Nat → D → Prop
  | 0, d => IsLeaf d
  | n + 1, d => IsLeaf d ∨ (∃ xs, d = .tup [.str "list", .tup xs] ∧ xs.length ≤ 49 ∧ ∀ x ∈ xs, Vl n x) ∨
    ∃ es : List (List Int × D), d = .tup [.str "map", .tup (es.map ent)] ∧ es.length ≤ 49 ∧ (es.map (·.1)).Nodup ∧ ∀ e ∈ es, e.1.length < 1000 ∧ Vl n e.2
theorem Vl.leaf {d : D} (h : IsLeaf d) : ∀ n, Vl n d
  | 0 => h
  | n + 1 => .inl h
theorem Vl.up : ∀ {n : Nat} {d : D}, Vl n d → Vl (n + 1) d
  | 0, d, h => .inl h
  | n + 1, d, h => by
    rcases h with h | ⟨xs, e, hl, h⟩ | ⟨es, e, hl, hn, h⟩
    · exact .inl h
    · exact .inr (.inl ⟨xs, e, hl, fun x hx => (h x hx).up⟩)
    · exact .inr (.inr ⟨es, e, hl, hn, fun x hx => ⟨(h x hx).1, (h x hx).2.up⟩⟩)
theorem Vl.mono {n m : Nat} {d : D} (h : Vl n d) (le : n ≤ m) : Vl m d := by
  induction le with
  | refl => exact h
  | step _ ih => exact ih.up
theorem leaf_head {d : D} (h : IsLeaf d) : ∃ nm r, d = .tup (.str nm :: r) ∧ nm ≠ "list" ∧ nm ≠ "map" := by
  cases h <;> exact ⟨_, _, rfl, by decide, by decide⟩
theorem map_list : ("map" : Str) ≠ "list" := by decide
/-- what a value is, one level of it -/
theorem Vl.look {n : Nat} {d : D} (h : Vl n d) : (∃ nm r, d = .tup (.str nm :: r) ∧ nm ≠ "list" ∧ nm ≠ "map" ∧ IsLeaf d) ∨
    ∃ m, n = m + 1 ∧ ((∃ xs, d = .tup [.str "list", .tup xs] ∧ xs.length ≤ 49 ∧ ∀ x ∈ xs, Vl m x) ∨
    ∃ es : List (List Int × D), d = .tup [.str "map", .tup (es.map ent)] ∧ es.length ≤ 49 ∧ (es.map (·.1)).Nodup ∧ ∀ e ∈ es, e.1.length < 1000 ∧ Vl m e.2) := by
  cases n with
  | zero =>
    obtain ⟨nm, r, e, h1, h2⟩ := leaf_head h
    exact .inl ⟨nm, r, e, h1, h2, h⟩
  | succ m =>
    rcases h with h | h
    · obtain ⟨nm, r, e, h1, h2⟩ := leaf_head h
      exact .inl ⟨nm, r, e, h1, h2, h⟩
    · exact .inr ⟨m, rfl, h⟩
theorem after2 {p q : Addr} {o : SO} {s : Sta} {S : Sto} {Q : VQ} {G : D → Prop} (hq : p ≠ q) (k : ∀ r (s' : Sta), G r → Q r (sup (sup S p s'.so) q o)) : After G (sup (sup S p s.so) q o) p Q := fun r s' g => by
  have z := k r s' g
  rw [sup_comm hq.symm, sup_sup]
  exact z
theorem at2 {p q : Addr} {o : SO} {s : Sta} {S : Sto} (hq : p ≠ q) : sup (sup S p s.so) q o p = some s.so := by rw [sup_ne hq]; exact sup_same
theorem toPy_ints : ∀ ns : List Int, toPys (ns.map D.int) = some (ns.map .int)
  | [] => by simp [toPys]
  | n :: ns => by simp [toPys, toPy, toPy_ints ns]
theorem lay_ints : ∀ ns : List Int, PyData.canLayAll0 (ns.map .int) = true
  | [] => by simp [PyData.canLayAll0]
  | n :: ns => by simp [PyData.canLayAll0, PyData.canLay0, lay_ints ns]
def keyD (k : List Int) : D := .tup (k.map D.int)
theorem py_key (k : List Int) : toPy (keyD k) = some (.tuple (k.map .int)) := by simp [keyD, toPy, toPy_ints]
theorem py_keys : ∀ ks : List (List Int), toPys (ks.map keyD) = some (ks.map fun k => .tuple (k.map .int))
  | [] => by simp [toPys]
  | k :: ks => by simp [toPys, py_key, py_keys ks]
theorem dep_keys : ∀ ks : List (List Int), PyData.depthAll (ks.map fun k => PyData.tuple (k.map .int)) ≤ 1 ∧ PyData.canLayAll0 (ks.map fun k => PyData.tuple (k.map .int)) = true
  | [] => by simp [PyData.depthAll, PyData.canLayAll0]
  | k :: ks => by
    obtain ⟨h1, h2⟩ := dep_keys ks
    simp [PyData.depthAll, PyData.canLayAll0, PyData.canLay0, PyData.depth, lay_ints, plain_ints, h2]
    omega
theorem in_keys (k : List Int) (ks : List (List Int)) : InD (keyD k) (ks.map keyD) (decide (k ∈ ks)) := by
  refine .inr ⟨_, _, py_key k, py_keys ks, ?_, ?_, ?_⟩
  · simp [SeqAt.shaped, PyData.canLay0, PyData.depth, lay_ints, plain_ints]
  · obtain ⟨h1, h2⟩ := dep_keys ks
    simp [SeqAt.shaped, PyData.canLay0, PyData.depth, h2]
    omega
  · induction ks with
    | nil => simp
    | cons x ks ih =>
      simp only [List.map_cons, List.any_cons, ih, PyData.eqv, eqvAll_ints]
      by_cases e : x = k
      · simp [e]
      · have e' : ¬ k = x := fun z => e z.symm
        simp [e, e']
theorem in_keys2 (k : List Int) (es : List (List Int × D)) : InD (.tup (k.map D.int)) (es.map (keyD ∘ fun x => x.1)) (decide (k ∈ es.map (·.1))) := by
  have z := in_keys k (es.map (·.1))
  rw [List.map_map] at z
  exact z
def sp_value (k : Nat) : WSp := fun ds S Q _ => ∃ (p : Addr) (s : Sta) (deep : Nat) (ks : List Str) (hm : Bool), deep < k ∧ ds = [.ref p, .int deep, .lst (ks.map D.str), .bl hm] ∧ S p = some s.so ∧ 0 < ks.length ∧ After (Vl deep) S p Q
theorem w_value (k : Nat) (ds S Q E) (h : sp_value (k + 1) ds S Q E) : t__law_value sp_leaf sp_many sp_next sp_points (sp_value k) (dEnds Q E) (L3.start 10 ds) S := by
  obtain ⟨p, s, deep, ks, hm, hd, rfl, hp, hk, q⟩ := h
  obtain ⟨n0, a0, l0, c0, k0, o0⟩ := s
  simp only [Sta.so] at hp
  simp [t__law_value, hp, ixN]
  refine nx ⟨n0, a0, l0 - 1, c0, k0, o0⟩ (by simp [Sta.so]) (by decide) fun pick s1 g0 g1 => ?_
  obtain ⟨n1, a1, l1, c1, k1, o1⟩ := s1
  simp [Sta.so]
  have leaf : ∀ E, Call sp_leaf [.ref p, .lst (ks.map D.str)] (sup S p (SO.lst [.lst (n1.map D.int), .int a1, .int l1, .fix (c1.map D.int), .int k1])) Q E .mk := fun E =>
    ⟨p, ⟨n1, a1, l1, c1, k1, o1⟩, ks, rfl, by simp [Sta.so], hk, fun r s' g => by rw [sup_sup]; exact q r s' (Vl.leaf g deep)⟩
  split
  · exact leaf _
  · split
    · exact leaf _
    · split
      · exact leaf _
      · rename_i h0 h1 h2
        obtain ⟨m, rfl⟩ : ∃ m, deep = m + 1 := ⟨deep - 1, by omega⟩
        refine mn ⟨n1, a1, l1, c1, k1, o1⟩ (by simp [Sta.so]) (by decide) fun many s2 g2 g3 => ?_
        have hdeep : ((m + 1 : Nat) : Int) - 1 = (m : Nat) := by omega
        have lst : ∀ (Qd : List D → Sto → Prop), (∀ xs (s : Sta), xs.length ≤ 49 → (∀ x ∈ xs, Vl m x) → Qd xs (sup S p s.so)) → LcC (gNm 7) vYes (t__law_value_e2 sp_leaf sp_many sp_next sp_points (sp_value k)) Always [some (.ref p), some (.int ((m : Int) + 1)), some (.lst (ks.map D.str)), some (.bl hm), some (.int pick), some (.int many), none, none, none, none] Qd (rngD 0 many.toNat) [] (sup S p s2.so) .mk := fun Qd hQ => by
          refine lcW_inv (fun ys acc S' => ∃ (s : Sta), S' = sup S p s.so ∧ acc.length + ys.length ≤ 49 ∧ ∀ x ∈ acc, Vl m x) ?_ ?_ _ _ _ ⟨s2, rfl, by simp [rng_len]; omega, fun x hx => (by cases hx)⟩
          · rintro acc S' ⟨s, rfl, hl, hv⟩
            exact ⟨trivial, hQ acc s (by simpa using hl) hv⟩
          · rintro y r acc S' N ⟨s, rfl, hl, hv⟩ hN
            refine ⟨trivial, ?_⟩
            simp at hl
            simp [t__law_value_e2]
            refine ⟨p, s, m, ks, hm, by omega, rfl, by simp, hk, fun v s' hv' => ?_⟩
            simp [line2]
            refine ⟨by omega, hN _ _ ⟨s', rfl, by simp; omega, fun x hx => ?_⟩⟩
            rcases List.mem_append.mp hx with hx | hx
            · exact hv x hx
            · rw [List.mem_singleton.mp hx]; exact hv'
        have both : (-4611686018427387904 ≤ many ∧ many < 4611686018427387904) := ⟨by omega, by omega⟩
        simp [line2]
        split
        · refine ⟨both, lst _ fun xs s hl hv => ?_⟩
          simp [line2]
          exact q _ s (.inr (.inl ⟨xs, rfl, hl, hv⟩))
        · split
          · intro e he
            have hpe : p ≠ e := fun z => by subst z; simp at he
            refine ⟨both, ?_⟩
            refine forW_inv (fun ys env S' => ∃ (es : List (List Int × D)) (s : Sta) (o1 o2 o3 : Option D), env = [some (.ref p), some (.int ((m : Int) + 1)), some (.lst (ks.map D.str)), some (.bl hm), some (.int pick), some (.int many), some (.ref e), o1, o2, o3] ∧ S' = sup (sup S p s.so) e (.lst (es.map ent)) ∧ es.length + ys.length ≤ 49 ∧ (es.map (·.1)).Nodup ∧ ∀ x ∈ es, x.1.length < 1000 ∧ Vl m x.2) ?_ ?_ _ _ _ ⟨[], s2, none, none, none, rfl, by simp, by simp [rng_len]; omega, by simp, fun x hx => (by cases hx)⟩
            · rintro env S' ⟨es, s, o1, o2, o3, rfl, rfl, hl, hn, hv⟩
              refine ⟨trivial, ?_⟩
              have he' : sup S p s.so e = none := by rw [sup_ne (Ne.symm hpe)]; rw [sup_ne (Ne.symm hpe)] at he; exact he
              simp [sdel_sup he']
              refine ⟨es, by simp, hn, fun fs pf => ?_⟩
              simp [line2]
              exact q _ s (.inr (.inr ⟨fs, by simp, by rw [pf.length_eq]; simpa using hl, (pf.map _).nodup_iff.mpr hn, fun x hx => hv x (pf.mem_iff.mp hx)⟩))
            · rintro y r env S' N ⟨es, s, o1, o2, o3, rfl, rfl, hl, hn, hv⟩ hN
              refine ⟨trivial, ?_⟩
              simp at hl
              simp [t__law_value_b1]
              refine ⟨p, s, rfl, at2 hpe, after2 hpe fun key s3 hkey => ?_⟩
              obtain ⟨kn, rfl, hkl⟩ := hkey
              simp
              refine lcW_pure (fun d => match d with | .tup (x :: _) => some x | _ => none) (by simp) _ _ (by simp [line2]; omega) (fun y hy A B hh => ?_) ?_
              · obtain ⟨x, _, rfl⟩ := List.mem_map.mp hy
                simpa [t__law_value_e1] using hh
              · have e1 : ∀ es : List (List Int × D), (es.map ent).filterMap (fun d => match d with | .tup (x :: _) => some x | _ => none) = (es.map (·.1)).map keyD := fun es => by
                  induction es with
                  | nil => rfl
                  | cons x es ih => simp only [List.map_cons, ent, List.filterMap_cons, ih, keyD]
                rw [List.nil_append, e1]
                simp
                refine ⟨_, in_keys2 kn es, ?_⟩
                simp
                by_cases hin : kn ∈ es.map (·.1)
                · simp only [hin, decide_true, Bool.not_true, Bool.false_eq_true, if_false]
                  exact hN _ _ ⟨es, s3, some y, _, o3, rfl, rfl, by omega, hn, hv⟩
                · simp only [hin, decide_false, Bool.not_false, if_true]
                  refine ⟨p, s3, m, ks, hm, by omega, rfl, at2 hpe, hk, after2 hpe fun v s4 hv4 => ?_⟩
                  simp [line2]
                  refine ⟨by omega, hN _ _ ⟨es ++ [(kn, v)], s4, some y, _, o3, rfl, by simp, by simp; omega, ?_, fun x hx => ?_⟩⟩
                  · rw [List.map_append, List.nodup_append]
                    refine ⟨hn, by simp, fun a ha b hb => ?_⟩
                    simp at hb
                    subst hb
                    exact fun z => hin (z ▸ ha)
                  · rcases List.mem_append.mp hx with hx | hx
                    · exact hv x hx
                    · rw [List.mem_singleton.mp hx]; exact ⟨hkl, hv4⟩
          · refine ⟨both, lst _ fun xs s hl hv => ?_⟩
            simp [line2]
            exact q _ s (.inr (.inl ⟨xs, rfl, hl, hv⟩))
end K75

set_option Elab.async false
set_option linter.all false
set_option maxRecDepth 100000
set_option maxHeartbeats 4000000
/-! k75: steps and ways; the values that are drawn. -/
namespace K75
open PySem PySem.Spec L2 L3
/-- the parts of a value: which step leads to which -/
def steps : D → List (D × D)
  | .tup [.str a, .tup xs] => if a = "list" then xs.zipIdx.map (fun p => (.int (p.2 : Int), p.1)) else if a = "map" then xs.filterMap (fun
    | .tup [k, v] => some (k, v)
    | _ => none) else []
  | _ => []
theorem steps_leaf {d : D} (h : IsLeaf d) : steps d = [] := by
  cases h <;> first | rfl | (simp only [steps]; rw [if_neg (by decide), if_neg (by decide)])
theorem steps_list {xs : List D} : steps (.tup [.str "list", .tup xs]) = xs.zipIdx.map (fun p => (.int (p.2 : Int), p.1)) := by
  simp only [steps]; rw [if_pos trivial]
theorem steps_map {es : List (List Int × D)} : steps (.tup [.str "map", .tup (es.map ent)]) = es.map (fun e => (keyD e.1, e.2)) := by
  simp only [steps]; rw [if_neg (by decide), if_pos trivial]
  induction es with
  | nil => rfl
  | cons e es ih => simp only [List.map_cons, ent, List.filterMap_cons, ih, keyD]
/-- the ways into a value, f levels deep at most -/
def ways : Nat → D → List (List D)
  | 0, _ => [[]]
  | f + 1, d => [] :: (steps d).flatMap fun p => (ways f p.2).map (p.1 :: ·)
def W : Nat → Nat
  | 0 => 1
  | n + 1 => 1 + 49 * W n
theorem sum_le {α : Type} {g : α → Nat} {B : Nat} : ∀ {l : List α}, (∀ x ∈ l, g x ≤ B) → (l.map g).sum ≤ l.length * B
  | [], _ => by simp
  | a :: l, h => by
    have h1 := h a List.mem_cons_self
    have h2 := sum_le (l := l) fun x hx => h x (List.mem_cons_of_mem _ hx)
    simp only [List.map_cons, List.sum_cons, List.length_cons, Nat.add_mul]
    omega
theorem ways_len (f : Nat) (d : D) : (ways (f + 1) d).length = 1 + ((steps d).map fun p => (ways f p.2).length).sum := by
  simp only [ways, List.length_cons, List.length_flatMap, List.length_map]
  omega
/-- what is known of the parts -/
theorem Vl.parts {n : Nat} {d : D} (h : Vl n d) : (steps d).length ≤ 49 ∧ ∀ q ∈ steps d, ∃ m, n = m + 1 ∧ Vl m q.2 := by
  rcases h.look with ⟨nm, r, rfl, h1, h2, hl⟩ | ⟨m, rfl, ⟨xs, rfl, hl, hv⟩ | ⟨es, rfl, hl, hn, hv⟩⟩
  · rw [steps_leaf hl]
    exact ⟨by simp, fun q hq => (by cases hq)⟩
  · rw [steps_list]
    refine ⟨by simpa using hl, fun q hq => ?_⟩
    obtain ⟨⟨x, i⟩, hx, rfl⟩ := List.mem_map.mp hq
    exact ⟨m, rfl, hv x (List.fst_mem_of_mem_zipIdx hx)⟩
  · rw [steps_map]
    refine ⟨by simpa using hl, fun q hq => ?_⟩
    obtain ⟨e, he, rfl⟩ := List.mem_map.mp hq
    exact ⟨m, rfl, (hv e he).2⟩
theorem W_pos : ∀ n, 1 ≤ W n
  | 0 => Nat.le_refl _
  | n + 1 => by simp only [W]; omega
theorem ways_le : ∀ {n : Nat} {d : D}, Vl n d → ∀ f, (ways f d).length ≤ W n
  | n, d, h, 0 => by simp only [ways, List.length_singleton]; exact W_pos n
  | n, d, h, f + 1 => by
    rw [ways_len]
    obtain ⟨h1, h2⟩ := h.parts
    cases n with
    | zero =>
      have e : steps d = [] := by
        cases q : steps d with
        | nil => rfl
        | cons a l =>
          obtain ⟨m, e, _⟩ := h2 a (by rw [q]; exact List.mem_cons_self)
          cases e
      rw [e]; simp [W]
    | succ m =>
      have := sum_le (l := steps d) (g := fun p => (ways f p.2).length) (B := W m) fun q hq => by
        obtain ⟨m', e, hv⟩ := h2 q hq
        cases e
        exact ways_le hv f
      have := Nat.mul_le_mul_right (W m) h1
      simp only [W]; omega
def sp_depth (k : Nat) : WSp := fun ds S Q _ => ∃ (n : Nat) (d : D), n < k ∧ ds = [d] ∧ Vl n d ∧ ∀ i, Q (.int i) S
theorem depth_lc {k m : Nat} {S : Sto} {env : L3.Env} {g : WG} {te : WE} {Qd : List D → Sto → Prop} {f : D → D} {xs : List D} {hh} (hl : xs.length ≤ 49)
    (ht : ∀ x ∈ xs, ∀ A : D → Sto → Prop, (∀ i, A (.int i) S) → g x env S (fun e1 S1 => te e1 S1 A NoEx)) (hQ : ∀ ns : List Int, ns.length ≤ 49 → Qd (ns.map D.int) S) : LcC g vYes te Always env Qd xs [] S hh := by
  refine lcW_inv (fun ys acc S' => ∃ ns : List Int, acc = ns.map D.int ∧ S' = S ∧ acc.length + ys.length ≤ 49 ∧ ∀ y ∈ ys, y ∈ xs) ?_ ?_ _ _ _ ⟨[], rfl, rfl, by simpa using hl, fun y hy => hy⟩
  · rintro acc S' ⟨ns, rfl, rfl, h, _⟩
    exact ⟨trivial, hQ ns (by simpa using h)⟩
  · rintro y r acc S' N ⟨ns, rfl, rfl, h, hy⟩ hN
    refine ⟨trivial, ?_⟩
    simp at h
    simp only [vYes_eq, if_true]
    refine ht y (hy y List.mem_cons_self) _ fun i => ⟨by simp [line2]; omega, hN _ _ ⟨ns ++ [i], by simp, rfl, by simp; omega, fun y h => hy y (List.mem_cons_of_mem _ h)⟩⟩
theorem w_depth (k : Nat) (ds S Q E) (h : sp_depth (k + 1) ds S Q E) : t__law_depth (sp_depth k) (dEnds Q E) (L3.start 3 ds) S := by
  obtain ⟨n, d, hn, rfl, hv, q⟩ := h
  have fin : ∀ (ns : List Int) (Q' : VQ) hh, ns.length ≤ 49 → (∀ i, Q' (.int i) S) → RMax [.lst (.int 0 :: ns.map D.int)] S Q' hh := fun ns Q' hh hl hq => ⟨0 :: ns, by simp, by simp, fun m _ _ => hq m⟩
  rcases hv.look with ⟨nm, r, rfl, h1, h2, _⟩ | ⟨m, rfl, ⟨xs, rfl, hl, hx⟩ | ⟨es, rfl, hl, _, hx⟩⟩
  · simp [t__law_depth, h1, h2]
    exact q 0
  · simp [t__law_depth, line2]
    refine depth_lc (m := m) (k := k) (f := id) hl (fun x hxm A hA => ?_) fun ns hns => ?_
    · simp [t__law_depth_e2]
      exact ⟨m, x, by omega, rfl, hx x hxm, hA⟩
    · simp [line2]
      refine ⟨by omega, fin ns _ _ hns fun i => ?_⟩
      simp
      exact q _
  · have hne := map_list
    simp [t__law_depth, line2, hne]
    refine depth_lc (m := m) (k := k) (f := id) (by simpa using hl) (fun x hxm A hA => ?_) fun ns hns => ?_
    · obtain ⟨e, he, rfl⟩ := List.mem_map.mp hxm
      simp [t__law_depth_e1]
      exact ⟨m, _, by omega, rfl, (hx e he).2, hA⟩
    · simp [line2]
      refine ⟨by omega, fin ns _ _ hns fun i => ?_⟩
      simp
      exact q _
end K75

set_option Elab.async false
set_option linter.all false
set_option maxRecDepth 100000
set_option maxHeartbeats 4000000
/-! k75: the value drawn; steps and ways as the program finds them. -/
namespace K75
open PySem PySem.Spec L2 L3
def Fine (d : D) : Prop := Vl 28 d ∧ ∀ f, (ways f d).length ≤ 6000000
def sp_drawn : WSp := fun ds S Q _ => ∃ (p : Addr) (s : Sta), ds = [.ref p] ∧ S p = some s.so ∧ After Fine S p Q
theorem ways_one {d : D} (h : steps d = []) (f : Nat) : (ways f d).length = 1 := by
  cases f with
  | zero => rfl
  | succ f => rw [ways_len, h]; rfl
theorem ways_wrap {d v : D} {k : D} {B : Nat} (h : steps d = [(k, v)]) (hb : ∀ f, (ways f v).length ≤ B) (f : Nat) : (ways f d).length ≤ B + 2 := by
  cases f with
  | zero => simp [ways]
  | succ f =>
    have := hb f
    rw [ways_len, h]; simp; omega
theorem ways_wrap2 {d u v : D} {k l : D} {B : Nat} (h : steps d = [(k, u), (l, v)]) (hu : steps u = []) (hb : ∀ f, (ways f v).length ≤ B) (f : Nat) : (ways f d).length ≤ B + 2 := by
  cases f with
  | zero => simp [ways]
  | succ f =>
    have := hb f
    rw [ways_len, h]; simp [ways_one hu]; omega
theorem W4 : W 4 = 5884901 := by decide
theorem w_drawn (ds S Q E) (h : sp_drawn ds S Q E) : t__law_drawn (sp_depth 29) sp_next sp_points (sp_value 5) (dEnds Q E) (L3.start 4 ds) S := by
  obtain ⟨p, s, rfl, hp, q⟩ := h
  simp [t__law_drawn, line2]
  refine ⟨p, s, 4, ["null", "truth", "number", "bytes", "text"], true, by decide, rfl, hp, by decide, fun v s1 hv => ?_⟩
  simp
  refine nx s1 (by simp) (by decide) fun i s2 _ _ => ?_
  simp
  have w4 : ∀ f, (ways f v).length ≤ W 4 := ways_le hv
  split
  · rename_i e
    refine nx s2 (by simp) (by decide) fun many s3 g0 g1 => ?_
    simp
    refine ⟨⟨by omega, by omega⟩, ?_⟩
    refine forW_inv (fun ys env S' => ∃ (v : D) (n : Nat) (s : Sta) (o1 o2 : Option D), env = [some (.ref p), some v, o1, o2] ∧ S' = sup S p s.so ∧ Vl n v ∧ n + ys.length ≤ 28 ∧ 1 ≤ n ∧ ∀ f, (ways f v).length + 2 * ys.length ≤ W 4 + 48) ?_ ?_ _ _ _ ⟨v, 4, s3, none, none, rfl, by simp, hv, by simp [rng_len]; omega, by decide, fun f => by have := w4 f; simp [rng_len]; omega⟩
    · rintro env S' ⟨v, n, s, o1, o2, rfl, rfl, hv, hl, hn1, hw⟩
      refine ⟨trivial, ?_⟩
      simp
      exact q _ s ⟨hv.mono (by omega), fun f => by have := hw f; rw [W4] at this; omega⟩
    · rintro y r env S' N ⟨v, n, s, o1, o2, rfl, rfl, hv, hl, hn1, hw⟩ hN
      refine ⟨trivial, ?_⟩
      simp at hl hw
      simp [t__law_drawn_b1]
      refine ⟨n, v, by omega, rfl, hv, fun i => ?_⟩
      simp
      have hb : ∀ f, (ways f v).length ≤ W 4 + 46 - 2 * r.length := fun f => by have := hw f; omega
      have hr : 2 * r.length ≤ W 4 + 46 := by have := hw 0; omega
      split
      · simp [line2]
        refine pt s (by simp) fun ns s4 hns => ?_
        simp [line2]
        refine nx s4 (by simp) (by decide) fun j s5 g2 g3 => ?_
        simp
        refine at_use g2 (by simpa using g3) fun d hd => ?_
        simp at hd
        have hd' : Vl (n + 1) d ∧ ∀ f, (ways f d).length ≤ W 4 + 46 - 2 * r.length + 2 := by
          rcases hd with rfl | rfl | rfl
          · exact ⟨.inr (.inl ⟨[v], rfl, by simp, fun x hx => by rw [List.mem_singleton.mp hx]; exact hv⟩), ways_wrap (by rw [steps_list]; rfl) hb⟩
          · refine ⟨.inr (.inr ⟨[(ns, v)], rfl, by simp, by simp, fun x hx => by rw [List.mem_singleton.mp hx]; exact ⟨hns, hv⟩⟩), ways_wrap (k := keyD ns) ?_ hb⟩
            have z := steps_map (es := [(ns, v)])
            exact z
          · refine ⟨.inr (.inl ⟨[.tup [.str "list", .tup []], v], rfl, by simp, fun x hx => ?_⟩), ways_wrap2 (by rw [steps_list]; rfl) (by rw [steps_list]; rfl) hb⟩
            have hx' : x = .tup [.str "list", .tup []] ∨ x = v := by simpa using hx
            rcases hx' with rfl | rfl
            · cases n with
              | zero => omega
              | succ n => exact .inr (.inl ⟨[], rfl, by decide, fun x hx => (by cases hx)⟩)
            · exact hv
        exact hN _ _ ⟨d, n + 1, s5, some y, _, rfl, by simp, hd'.1, by omega, by omega, fun f => by have := hd'.2 f; omega⟩
      · exact hN _ _ ⟨v, n, s, some y, o2, rfl, rfl, hv, by omega, hn1, fun f => by have := hw f; omega⟩
  · exact q _ s2 ⟨hv.mono (by decide), fun f => by have := w4 f; rw [W4] at this; omega⟩
def pairD (q : D × D) : D := .tup [q.1, q.2]
def sp_steps : WSp := fun ds S Q _ => ∃ (n : Nat) (d : D), ds = [d] ∧ Vl n d ∧ Q (.lst ((steps d).map pairD)) S
theorem filterMap_some' {α : Type} : ∀ l : List α, l.filterMap some = l
  | [] => rfl
  | x :: l => by simp
theorem w_steps (ds S Q E) (h : sp_steps ds S Q E) : t_steps_of (dEnds Q E) (L3.start 3 ds) S := by
  obtain ⟨n, d, rfl, hv, q⟩ := h
  rcases hv.look with ⟨nm, r, rfl, h1, h2, hl⟩ | ⟨m, rfl, ⟨xs, rfl, hl, hx⟩ | ⟨es, rfl, hl, _, hx⟩⟩
  · simp [t_steps_of, h1, h2, line2]
    rw [steps_leaf hl] at q
    exact q
  · simp [t_steps_of]
    refine lcW_pure some trivial _ _ (by simp [enumD, line2]; omega) (fun y hy A B hh => ?_) ?_
    · obtain ⟨⟨x, i⟩, _, rfl⟩ := List.mem_map.mp hy
      simpa [t_steps_of_e1, line2] using hh
    · rw [filterMap_some', List.nil_append]
      rw [steps_list, List.map_map] at q
      exact q
  · have hne := map_list
    simp [t_steps_of, hne]
    rw [steps_map, List.map_map] at q
    exact q
theorem w_lsteps (ds S Q E) (h : sp_steps ds S Q E) : t__law_steps (dEnds Q E) (L3.start 2 ds) S := by
  obtain ⟨n, d, rfl, hv, q⟩ := h
  rcases hv.look with ⟨nm, r, rfl, h1, h2, hl⟩ | ⟨m, rfl, ⟨xs, rfl, hl, hx⟩ | ⟨es, rfl, hl, _, hx⟩⟩
  · simp [t__law_steps, h1, h2, line2]
    rw [steps_leaf hl] at q
    exact q
  · simp [t__law_steps]
    refine ⟨(by omega), ?_⟩
    refine lcW_inv (fun ys acc S' => S' = S ∧ ∃ j, j + ys.length = xs.length ∧ acc = ((steps (.tup [.str "list", .tup xs])).map pairD).take j ∧ ys = (rngD 0 xs.length).drop j) ?_ ?_ _ _ _ ⟨rfl, 0, by simp [rng_len], by simp, by simp⟩
    · rintro acc S' ⟨rfl, j, hj, rfl, _⟩
      refine ⟨trivial, ?_⟩
      simp at hj
      rw [List.take_of_length_le (by rw [List.length_map, steps_list, List.length_map, List.length_zipIdx]; omega)]
      exact q
    · rintro y r acc S' N ⟨rfl, j, hj, rfl, hy⟩ hN
      refine ⟨trivial, ?_⟩
      simp at hj
      have hjl : j < xs.length := by omega
      have hd := List.drop_eq_getElem_cons (l := rngD 0 xs.length) (i := j) (by rw [rng_len]; exact hjl)
      rw [← hy] at hd
      injection hd with e1 e2
      have e3 : y = .int j := by rw [e1]; simp [rngD]
      subst e3
      have at' : atI xs j = some xs[j] := by
        obtain ⟨v, a1, a2⟩ := at_lt (xs := xs) (i := (j : Int)) (by omega) (by omega)
        rw [a2]
        simp at a1
        rw [List.getElem?_eq_getElem hjl] at a1
        exact a1.symm ▸ rfl
      simp [t__law_steps_e1, line2, at']
      refine ⟨by omega, hN _ _ ⟨rfl, j + 1, by omega, ?_, by rw [e2]⟩⟩
      rw [List.take_succ, steps_list]
      congr 1
      simp [hjl, pairD]
  · have hne := map_list
    simp [t__law_steps, hne]
    rw [steps_map, List.map_map] at q
    exact q
end K75

set_option Elab.async false
set_option linter.all false
set_option maxRecDepth 100000
set_option maxHeartbeats 4000000
/-! k75: the ways, as the program and as the law find them. -/
namespace K75
open PySem PySem.Spec L2 L3
def Fw (f : Nat) (q : D × D) : List (List D) := (ways (f - 1) q.2).map (q.1 :: ·)
theorem ways_eq {f n : Nat} {d : D} (h : Vl n d) (le : n ≤ f) : ways f d = [] :: (steps d).flatMap (Fw f) := by
  cases f with
  | zero =>
    obtain rfl : n = 0 := by omega
    rw [steps_leaf h]; rfl
  | succ f => rfl
theorem ways_depth : ∀ {f : Nat} {d : D}, ∀ path ∈ ways f d, path.length ≤ f
  | 0, d, path, h => by
    simp only [ways, List.mem_singleton] at h
    rw [h]; exact Nat.le_refl _
  | f + 1, d, path, h => by
    simp only [ways, List.mem_cons, List.mem_flatMap, List.mem_map] at h
    rcases h with rfl | ⟨q, _, r, hr, rfl⟩
    · exact Nat.zero_le _
    · have := ways_depth r hr
      simp; omega
def sp_ways (k : Nat) : WSp := fun ds S Q _ => ∃ (f n : Nat) (d : D), f < k ∧ f ≤ 1000 ∧ n ≤ f ∧ ds = [d] ∧ Vl n d ∧ (ways f d).length ≤ 6000000 ∧ ∀ p, S p = none → Q (.ref p) (sup S p (.lst ((ways f d).map D.tup)))
/-- how far a walk over the steps has come -/
structure Half (f : Nat) (d : D) (q : D × D) (a b : List (D × D)) : Prop where
  eq : steps d = a ++ q :: b
  len : ([] :: a.flatMap (Fw f)).length + (Fw f q).length ≤ 6000000
theorem half {f n : Nat} {d : D} {q : D × D} {a b : List (D × D)} (h : Vl n d) (le : n ≤ f) (hw : (ways f d).length ≤ 6000000) (e : steps d = a ++ q :: b) : ([] :: a.flatMap (Fw f)).length + (Fw f q).length ≤ 6000000 := by
  rw [ways_eq h le, e] at hw
  simp only [List.length_cons, List.flatMap_append, List.flatMap_cons, List.length_append] at hw ⊢
  omega
theorem w_ways (k : Nat) (ds S Q E) (h : sp_ways (k + 1) ds S Q E) : t__law_ways sp_steps (sp_ways k) (dEnds Q E) (L3.start 5 ds) S := by
  obtain ⟨f, n, d, hf, hf2, hn, rfl, hv, hw, q⟩ := h
  simp [t__law_ways, line2]
  intro p hp
  refine ⟨n, d, rfl, hv, ?_⟩
  simp
  refine forW_inv (fun ys env S' => ∃ (a b : List (D × D)) (o1 o2 o3 : Option D), steps d = a ++ b ∧ ys = b.map pairD ∧ env = [some d, some (.ref p), o1, o2, o3] ∧ S' = sup S p (.lst (([] :: a.flatMap (Fw f)).map D.tup))) ?_ ?_ _ _ _ ⟨[], steps d, none, none, none, rfl, rfl, rfl, by simp⟩
  · rintro env S' ⟨a, b, o1, o2, o3, e, hb, rfl, rfl⟩
    refine ⟨trivial, ?_⟩
    obtain rfl : b = [] := by simpa using hb.symm
    rw [List.append_nil] at e
    have z := q p hp
    rw [ways_eq hv hn, e] at z
    simpa using z
  · rintro y r env S' N ⟨a, b, o1, o2, o3, e, hb, rfl, rfl⟩ hN
    obtain ⟨⟨s, c⟩, b', rfl⟩ : ∃ x b', b = x :: b' := by
      cases b with
      | nil => simp at hb
      | cons x b' => exact ⟨x, b', rfl⟩
    simp only [List.map_cons, List.cons.injEq] at hb
    obtain ⟨rfl, rfl⟩ := hb
    obtain ⟨m, hm, hc⟩ := hv.parts.2 (s, c) (by rw [e]; simp)
    have hlen := half hv hn hw e
    have hlen2 : (Fw f (s, c)).length = (ways (f - 1) c).length := by simp [Fw]
    refine ⟨trivial, ?_⟩
    simp [t__law_ways_b1, pairD]
    refine ⟨f - 1, m, c, by omega, by omega, by omega, rfl, hc, by omega, fun p2 hp2 => ?_⟩
    simp [sdel_sup hp2]
    refine lcW_pure (fun y => match y with | .tup r => some (.tup (s :: r)) | _ => none) trivial _ _ (by simp [line2]; omega) (fun y hy A B hh => ?_) ?_
    · obtain ⟨path, hpath, rfl⟩ := List.mem_map.mp hy
      have := ways_depth path hpath
      simp [t__law_ways_e1, line2]
      exact ⟨by omega, hh⟩
    · have e1 : ((ways (f - 1) c).map D.tup).filterMap (fun y => match y with | .tup r => some (.tup (s :: r)) | _ => none) = (Fw f (s, c)).map D.tup := by
        unfold Fw
        induction ways (f - 1) c with
        | nil => rfl
        | cons x l ih => simp only [List.map_cons, List.filterMap_cons, ih]
      rw [List.nil_append, e1]
      simp [line2]
      simp at hlen
      refine ⟨by omega, hN _ _ ⟨a ++ [(s, c)], b', some s, some c, o3, by simp [e], rfl, by simp, by simp⟩⟩
theorem w_paths (k : Nat) (ds S Q E) (h : sp_ways (k + 1) ds S Q E) : t_paths_of (sp_ways k) sp_steps (dEnds Q E) (L3.start 5 ds) S := by
  obtain ⟨f, n, d, hf, hf2, hn, rfl, hv, hw, q⟩ := h
  simp [t_paths_of, line2]
  intro p hp
  refine ⟨n, d, rfl, hv, ?_⟩
  simp
  refine forW_inv (fun ys env S' => ∃ (a b : List (D × D)) (o1 o2 o3 : Option D), steps d = a ++ b ∧ ys = b.map pairD ∧ env = [some d, some (.ref p), o1, o2, o3] ∧ S' = sup S p (.lst (([] :: a.flatMap (Fw f)).map D.tup))) ?_ ?_ _ _ _ ⟨[], steps d, none, none, none, rfl, rfl, rfl, by simp⟩
  · rintro env S' ⟨a, b, o1, o2, o3, e, hb, rfl, rfl⟩
    refine ⟨trivial, ?_⟩
    obtain rfl : b = [] := by simpa using hb.symm
    rw [List.append_nil] at e
    have z := q p hp
    rw [ways_eq hv hn, e] at z
    simpa using z
  · rintro y r env S' N ⟨a, b, o1, o2, o3, e, hb, rfl, rfl⟩ hN
    obtain ⟨⟨s, c⟩, b', rfl⟩ : ∃ x b', b = x :: b' := by
      cases b with
      | nil => simp at hb
      | cons x b' => exact ⟨x, b', rfl⟩
    simp only [List.map_cons, List.cons.injEq] at hb
    obtain ⟨rfl, rfl⟩ := hb
    obtain ⟨m, hm, hc⟩ := hv.parts.2 (s, c) (by rw [e]; simp)
    have hlen := half hv hn hw e
    have hlen2 : (Fw f (s, c)).length = (ways (f - 1) c).length := by simp [Fw]
    refine ⟨trivial, ?_⟩
    simp [t_paths_of_b2, pairD]
    refine ⟨f - 1, m, c, by omega, by omega, by omega, rfl, hc, by omega, fun p2 hp2 => ?_⟩
    simp [sdel_sup hp2]
    simp at hlen
    refine forW_inv (fun ys env S' => ∃ (u w : List (List D)) (o3 : Option D), ways (f - 1) c = u ++ w ∧ ys = w.map D.tup ∧ env = [some d, some (.ref p), some s, some c, o3] ∧ S' = sup S p (.lst (([] :: (a.flatMap (Fw f) ++ u.map (s :: ·))).map D.tup))) ?_ ?_ _ _ _ ⟨[], _, o3, rfl, rfl, rfl, by simp⟩
    · rintro env S' ⟨u, w, o4, e2, hb, rfl, rfl⟩
      refine ⟨trivial, ?_⟩
      obtain rfl : w = [] := by simpa using hb.symm
      rw [List.append_nil] at e2
      refine hN _ _ ⟨a ++ [(s, c)], b', some s, some c, o4, by simp [e], rfl, rfl, ?_⟩
      simp [Fw, e2]
    · rintro y r env S' N2 ⟨u, w, o4, e2, hb, rfl, rfl⟩ hN2
      obtain ⟨x, w', rfl⟩ : ∃ x w', w = x :: w' := by
        cases w with
        | nil => simp at hb
        | cons x w' => exact ⟨x, w', rfl⟩
      simp only [List.map_cons, List.cons.injEq] at hb
      obtain ⟨rfl, rfl⟩ := hb
      have hx := ways_depth x (show x ∈ ways (f - 1) c by rw [e2]; simp)
      rw [hlen2, e2] at hlen
      simp at hlen
      refine ⟨trivial, ?_⟩
      simp [t_paths_of_b1, line2]
      exact ⟨by omega, by omega, hN2 _ _ ⟨u ++ [x], w', _, by simp [e2], rfl, rfl, by simp⟩⟩
end K75

set_option Elab.async false
set_option linter.all false
set_option maxRecDepth 100000
set_option maxHeartbeats 4000000
/-! k75: parts at paths. -/
namespace K75
open PySem PySem.Spec L2 L3
inductive Fol : D → List D → D → Prop
  | nil {d : D} : Fol d [] d
  | cons {d s e f : D} {r : List D} : (s, e) ∈ steps d → Fol e r f → Fol d (s :: r) f
inductive Stray : D → List D → Prop
  | here {d s : D} {r : List D} : (∀ q ∈ steps d, q.1 ≠ s) → Stray d (s :: r)
  | there {d s e : D} {r : List D} : (s, e) ∈ steps d → Stray e r → Stray d (s :: r)
theorem Fol.stray {d e s : D} {a r : List D} (h : Fol d a e) (hs : ∀ q ∈ steps e, q.1 ≠ s) : Stray d (a ++ s :: r) := by
  induction h with
  | nil => exact .here hs
  | cons h _ ih => exact .there h (ih hs)
theorem Fol.vl {d e : D} {a : List D} (h : Fol d a e) : ∀ {n : Nat}, Vl n d → ∃ m, m ≤ n ∧ Vl m e := by
  induction h with
  | nil => exact fun {n} hv => ⟨n, Nat.le_refl _, hv⟩
  | cons h _ ih =>
    intro n hv
    obtain ⟨m, e, hc⟩ := hv.parts.2 _ h
    obtain ⟨m', h1, h2⟩ := ih hc
    exact ⟨m', by omega, h2⟩
theorem ways_fol : ∀ {f : Nat} {d : D}, ∀ path ∈ ways f d, ∃ e, Fol d path e
  | 0, d, path, h => by
    simp only [ways, List.mem_singleton] at h
    rw [h]; exact ⟨d, .nil⟩
  | f + 1, d, path, h => by
    simp only [ways, List.mem_cons, List.mem_flatMap, List.mem_map] at h
    rcases h with rfl | ⟨q, hq, r, hr, rfl⟩
    · exact ⟨d, .nil⟩
    · obtain ⟨e, he⟩ := ways_fol r hr
      exact ⟨e, .cons hq he⟩
def IsKey (d : D) : Prop := (∃ i, d = .int i) ∨ ∃ ns : List Int, d = keyD ns ∧ ns.length ≤ 5000
theorem Vl.keys {n : Nat} {d : D} (h : Vl n d) : ∀ q ∈ steps d, IsKey q.1 := by
  rcases h.look with ⟨nm, r, rfl, h1, h2, hl⟩ | ⟨m, rfl, ⟨xs, rfl, hl, hv⟩ | ⟨es, rfl, hl, hn, hv⟩⟩
  · rw [steps_leaf hl]
    exact fun q hq => (by cases hq)
  · rw [steps_list]
    intro q hq
    obtain ⟨⟨x, i⟩, hx, rfl⟩ := List.mem_map.mp hq
    exact .inl ⟨_, rfl⟩
  · rw [steps_map]
    intro q hq
    obtain ⟨e, he, rfl⟩ := List.mem_map.mp hq
    exact .inr ⟨_, rfl, by have := (hv e he).1; omega⟩
theorem ints_inj : ∀ {k l : List Int}, k.map D.int = l.map D.int → k = l
  | [], [], _ => rfl
  | [], _ :: _, h => by cases h
  | _ :: _, [], h => by cases h
  | a :: k, b :: l, h => by
    simp only [List.map_cons, List.cons.injEq, D.int.injEq] at h
    rw [h.1, ints_inj h.2]
theorem key_inj {k l : List Int} (h : keyD k = keyD l) : k = l := by
  unfold keyD at h
  exact ints_inj (D.tup.inj h)
theorem Vl.uniq {n : Nat} {d s e e' : D} (h : Vl n d) (h1 : (s, e) ∈ steps d) (h2 : (s, e') ∈ steps d) : e = e' := by
  rcases h.look with ⟨nm, r, rfl, _, _, hl⟩ | ⟨m, rfl, ⟨xs, rfl, hl, hv⟩ | ⟨es, rfl, hl, hn, hv⟩⟩
  · rw [steps_leaf hl] at h1; cases h1
  · rw [steps_list] at h1 h2
    obtain ⟨⟨x, i⟩, hx, e1⟩ := List.mem_map.mp h1
    obtain ⟨⟨y, j⟩, hy, e2⟩ := List.mem_map.mp h2
    simp only [Prod.mk.injEq] at e1 e2
    have : (D.int i) = .int j := e1.1.trans e2.1.symm
    simp only [D.int.injEq] at this
    have hij : i = j := by omega
    subst hij
    have a := List.mem_zipIdx_iff_getElem?.mp hx
    have b := List.mem_zipIdx_iff_getElem?.mp hy
    simp only at a b
    rw [a] at b
    rw [← e1.2, ← e2.2]
    exact Option.some.inj b
  · rw [steps_map] at h1 h2
    obtain ⟨x, hx, e1⟩ := List.mem_map.mp h1
    obtain ⟨y, hy, e2⟩ := List.mem_map.mp h2
    simp only [Prod.mk.injEq] at e1 e2
    have : x = y := nodup_inj hn x hx y hy (key_inj (e1.1.trans e2.1.symm))
    rw [← e1.2, ← e2.2, this]
theorem rEq_key {a b : D} {S : Sto} {Q : VQ} (ha : IsKey a) (hb : IsKey b) (h : ∀ t : Bool, (t = true ↔ a = b) → Q (.bl t) S) : L3.rEq a b S Q := by
  rcases ha with ⟨i, rfl⟩ | ⟨k, rfl, _⟩
  · rcases hb with ⟨j, rfl⟩ | ⟨l, rfl, _⟩
    · simp
      exact h _ (by simp)
    · rw [keyD] at h ⊢
      simp
      refine ⟨false, ⟨_, _, rfl, py_key l, ?_, ?_, ?_, ?_⟩, h false (by simp)⟩
      · simp [PyData.canLay0]
      · simp [PyData.canLay0, lay_ints]
      · simp [PyData.depth, plain_ints]
      · simp [PyData.eqv]
  · rcases hb with ⟨j, rfl⟩ | ⟨l, rfl, _⟩
    · rw [keyD] at h ⊢
      simp
      refine ⟨false, ⟨_, _, py_key k, rfl, ?_, ?_, ?_, ?_⟩, h false (by simp)⟩
      · simp [PyData.canLay0, lay_ints]
      · simp [PyData.canLay0]
      · simp [PyData.depth, plain_ints]
      · simp [PyData.eqv]
    · rw [keyD, keyD] at h ⊢
      simp
      refine ⟨decide (k = l), ⟨_, _, py_key k, py_key l, ?_, ?_, ?_, ?_⟩, h _ ?_⟩
      · simp [PyData.canLay0, lay_ints]
      · simp [PyData.canLay0, lay_ints]
      · simp [PyData.depth, plain_ints]
      · simp [PyData.eqv, eqvAll_ints]
      · rw [decide_eq_true_iff]
        exact ⟨fun e => by rw [e], fun e => ints_inj (D.tup.inj e)⟩
theorem exKey {k : List Int} {b : D} {Q : Bool → Prop} {hh} (hb : IsKey b) (h : ∀ t : Bool, (t = true ↔ keyD k = b) → Q t) : ExC (Deep (.tup (k.map D.int)) b) Q hh := by
  rcases hb with ⟨j, rfl⟩ | ⟨l, rfl, _⟩
  · refine ⟨false, ⟨_, _, py_key k, rfl, ?_, ?_, ?_, ?_⟩, h false (by simp [keyD])⟩
    · simp [PyData.canLay0, lay_ints]
    · simp [PyData.canLay0]
    · simp [PyData.depth, plain_ints]
    · simp [PyData.eqv]
  · refine ⟨decide (k = l), ⟨_, _, py_key k, py_key l, ?_, ?_, ?_, ?_⟩, h _ ?_⟩
    · simp [PyData.canLay0, lay_ints]
    · simp [PyData.canLay0, lay_ints]
    · simp [PyData.depth, plain_ints]
    · simp [PyData.eqv, eqvAll_ints]
    · rw [decide_eq_true_iff]
      exact ⟨fun e => by rw [e], key_inj⟩
theorem fm_first {o : D → Option D} {e : D} : ∀ {l : List D}, (∀ y ∈ l, o y = none ∨ o y = some e) → (∃ y ∈ l, o y = some e) → ∃ r, l.filterMap o = e :: r
  | [], _, ⟨y, h, _⟩ => by cases h
  | x :: l, h, hx => by
    rcases h x List.mem_cons_self with e1 | e1
    · rw [List.filterMap_cons_none e1]
      refine fm_first (fun y hy => h y (List.mem_cons_of_mem _ hy)) ?_
      obtain ⟨y, hy, e2⟩ := hx
      rcases List.mem_cons.mp hy with rfl | hy
      · rw [e1] at e2; cases e2
      · exact ⟨y, hy, e2⟩
    · rw [List.filterMap_cons_some e1]
      exact ⟨_, rfl⟩
open Classical in
/-- of a row (key, value): the value, if the key is s -/
noncomputable def pick (s : D) : D → Option D
  | .tup [k, v] => if k = s then some v else none
  | _ => none
def sp_lpart : WSp := fun ds S Q _ => ∃ (n : Nat) (d e : D) (path : List D), ds = [d, .tup path] ∧ Vl n d ∧ Fol d path e ∧ Q e S
theorem Fol.key {d e : D} {path : List D} (h : Fol d path e) : ∀ {n : Nat}, Vl n d → ∀ s ∈ path, IsKey s := by
  induction h with
  | nil => exact fun hv s hs => (by cases hs)
  | cons h _ ih =>
    intro n hv s hs
    rcases List.mem_cons.mp hs with rfl | hs
    · exact hv.keys _ h
    · obtain ⟨m, _, hc⟩ := hv.parts.2 _ h
      exact ih hc s hs
theorem w_lpart (ds S Q E) (h : sp_lpart ds S Q E) : t__law_part (dEnds Q E) (L3.start 4 ds) S := by
  obtain ⟨n, d, e, path, rfl, hv, hf, q⟩ := h
  simp [t__law_part]
  refine forW_inv (fun ys env S' => ∃ (n : Nat) (cur : D) (o2 o3 : Option D), env = [some cur, some (.tup path), o2, o3] ∧ S' = S ∧ Vl n cur ∧ Fol cur ys e) ?_ ?_ _ _ _ ⟨n, d, none, none, rfl, rfl, hv, hf⟩
  · rintro env S' ⟨n, cur, o2, o3, rfl, rfl, hv, hf⟩
    cases hf
    exact ⟨trivial, by simpa using q⟩
  · rintro s r env S' N ⟨n, cur, o2, o3, rfl, rfl, hv, hf⟩ hN
    refine ⟨trivial, ?_⟩
    cases hf with
    | @cons _ _ c _ _ hs hf =>
    have hk := hv.keys _ hs
    obtain ⟨m, hm, hc⟩ := hv.parts.2 _ hs
    rcases hv.look with ⟨nm, w, rfl, _, _, hl⟩ | ⟨m', hm', ⟨xs, rfl, hl, hx⟩ | ⟨es, rfl, hl, hn, hx⟩⟩
    · rw [steps_leaf hl] at hs; cases hs
    · have hne : ("list" : Str) ≠ "map" := by decide
      rw [steps_list] at hs
      obtain ⟨⟨x, i⟩, hx', e1⟩ := List.mem_map.mp hs
      simp only [Prod.mk.injEq] at e1
      obtain ⟨rfl, rfl⟩ := e1
      have a := List.mem_zipIdx_iff_getElem?.mp hx'
      simp only at a
      have at' : atI xs (i : Int) = some x := by
        obtain ⟨hi, _⟩ := List.getElem?_eq_some_iff.mp a
        obtain ⟨v, a1, a2⟩ := at_lt (xs := xs) (i := (i : Int)) (by omega) (by omega)
        rw [a2, ← a1]
        simp at a ⊢
        exact a
      simp [t__law_part_b1, hne, at']
      exact hN _ _ ⟨m, x, _, _, rfl, rfl, hc, hf⟩
    · simp [t__law_part_b1]
      refine lcW_pure (pick s) trivial _ _ (by simp [line2]; omega) (fun y hy A B hh => ?_) ?_
      · obtain ⟨z, hz, rfl⟩ := List.mem_map.mp hy
        simp [t__law_part_c1, t__law_part_e1]
        refine exKey hk fun t ht => ?_
        simp only [ent, pick] at hh
        by_cases e2 : D.tup (z.1.map D.int) = s
        · rw [if_pos e2] at hh
          rw [ht.mpr e2]
          simpa using hh
        · rw [if_neg e2] at hh
          have : t = false := by
            cases t with
            | true => exact absurd (ht.mp rfl) e2
            | false => rfl
          rw [this]
          simpa using hh
      · obtain ⟨w, e2⟩ := fm_first (o := pick s) (e := c) (l := es.map ent) (fun y hy => by
          obtain ⟨z, hz, rfl⟩ := List.mem_map.mp hy
          simp only [ent, pick]
          by_cases e2 : D.tup (z.1.map D.int) = s
          · right
            rw [if_pos e2]
            congr 1
            exact hv.uniq (by rw [steps_map]; exact List.mem_map.mpr ⟨z, hz, by rw [keyD, e2]⟩) hs
          · left
            rw [if_neg e2]) (by
          rw [steps_map] at hs
          obtain ⟨z, hz, e1⟩ := List.mem_map.mp hs
          simp only [Prod.mk.injEq] at e1
          refine ⟨ent z, List.mem_map.mpr ⟨z, hz, rfl⟩, ?_⟩
          simp only [ent, pick]
          have e3 : D.tup (z.1.map D.int) = s := e1.1
          rw [if_pos e3, e1.2])
        rw [List.nil_append, e2]
        simp
        exact hN _ _ ⟨m, c, _, _, rfl, rfl, hc, hf⟩
end K75

set_option Elab.async false
set_option linter.all false
set_option maxRecDepth 100000
set_option maxHeartbeats 4000000
/-! k75: part_at, and what it finds. -/
namespace K75
open PySem PySem.Spec L2 L3
def Pl (d : D) : Prop := ∃ x, toPy d = some x ∧ x.canLay0 = true
theorem pl_all : ∀ {xs : List D}, (∀ x ∈ xs, Pl x) → ∃ ys, toPys xs = some ys ∧ PyData.canLayAll0 ys = true
  | [], _ => ⟨[], by simp [toPys], by simp [PyData.canLayAll0]⟩
  | x :: xs, h => by
    obtain ⟨y, h1, h2⟩ := h x List.mem_cons_self
    obtain ⟨ys, h3, h4⟩ := pl_all fun x hx => h x (List.mem_cons_of_mem _ hx)
    exact ⟨y :: ys, by simp [toPys, h1, h3], by simp [PyData.canLayAll0, h2, h4]⟩
theorem pl_tup {xs : List D} (h : ∀ x ∈ xs, Pl x) : Pl (.tup xs) := by
  obtain ⟨ys, h1, h2⟩ := pl_all h
  exact ⟨.tuple ys, by simp [toPy, h1], by simp [PyData.canLay0, h2]⟩
theorem pl_lst {xs : List D} (h : ∀ x ∈ xs, Pl x) : Pl (.lst xs) := by
  obtain ⟨ys, h1, h2⟩ := pl_all h
  exact ⟨.list ys, by simp [toPy, h1], by simp [PyData.canLay0, h2]⟩
theorem pl_int (i : Int) : Pl (.int i) := ⟨.int i, by simp [toPy], by simp [PyData.canLay0]⟩
theorem pl_bl (b : Bool) : Pl (.bl b) := ⟨.bool b, by simp [toPy], by simp [PyData.canLay0]⟩
theorem pl_key (k : List Int) : Pl (.tup (k.map D.int)) := pl_tup fun x hx => by
  obtain ⟨i, _, rfl⟩ := List.mem_map.mp hx
  exact pl_int i
theorem pl_str {x : Str} (h : (PyData.str x).canLay0 = true) : Pl (.str x) := ⟨.str x, by simp [toPy], h⟩
theorem pl_one {x : Str} (h : (PyData.str x).canLay0 = true) : Pl (.tup [.str x]) := pl_tup fun y hy => by
  rw [List.mem_singleton.mp hy]; exact pl_str h
theorem pl_two {x : Str} {d : D} (h : (PyData.str x).canLay0 = true) (hd : Pl d) : Pl (.tup [.str x, d]) := pl_tup fun y hy => by
  have hy' : y = .str x ∨ y = d := by simpa using hy
  rcases hy' with rfl | rfl
  · exact pl_str h
  · exact hd
theorem pl_three {x : Str} {d e : D} (h : (PyData.str x).canLay0 = true) (hd : Pl d) (he : Pl e) : Pl (.tup [.str x, d, e]) := pl_tup fun y hy => by
  have hy' : y = .str x ∨ y = d ∨ y = e := by simpa using hy
  rcases hy' with rfl | rfl | rfl
  · exact pl_str h
  · exact hd
  · exact he
theorem lay_null : (PyData.str "null").canLay0 = true := by decide +kernel
theorem lay_truth : (PyData.str "truth").canLay0 = true := by decide +kernel
theorem lay_number : (PyData.str "number").canLay0 = true := by decide +kernel
theorem lay_bytes : (PyData.str "bytes").canLay0 = true := by decide +kernel
theorem lay_text : (PyData.str "text").canLay0 = true := by decide +kernel
theorem lay_list : (PyData.str "list").canLay0 = true := by decide +kernel
theorem lay_map : (PyData.str "map").canLay0 = true := by decide +kernel
theorem lay_part : (PyData.str "part").canLay0 = true := by decide +kernel
theorem lay_astray : (PyData.str "astray").canLay0 = true := by decide +kernel
theorem pl_leaf {d : D} (h : IsLeaf d) : Pl d := by
  cases h with
  | null => exact pl_one lay_null
  | truth b => exact pl_two lay_truth (pl_bl b)
  | num m e => exact pl_three lay_number (pl_int m) (pl_int e)
  | bytes ns _ => exact pl_two lay_bytes (pl_key ns)
  | text ns _ => exact pl_two lay_text (pl_key ns)
theorem Vl.pl : ∀ {n : Nat} {d : D}, Vl n d → Pl d
  | n, d, h => by
    rcases h.look with ⟨nm, w, rfl, _, _, hl⟩ | ⟨m, rfl, ⟨xs, rfl, hl, hx⟩ | ⟨es, rfl, hl, hn, hx⟩⟩
    · exact pl_leaf hl
    · exact pl_two lay_list (pl_tup fun x hx' => Vl.pl (hx x hx'))
    · refine pl_two lay_map (pl_tup fun x hx' => ?_)
      obtain ⟨e, he, rfl⟩ := List.mem_map.mp hx'
      refine pl_tup fun x hx' => ?_
      have hx3 : x = .tup (e.1.map D.int) ∨ x = e.2 := by simpa using hx'
      rcases hx3 with rfl | rfl
      · exact pl_key e.1
      · exact Vl.pl (hx e he).2
/-- a list beside the empty one -/
theorem exNil {xs : List D} {Q : Bool → Prop} {hh} (hx : ∀ x ∈ xs, Pl x) (h : Q (decide (xs = []))) : ExC (Deep (.lst xs) (.lst [])) Q hh := by
  obtain ⟨ys, h1, h2⟩ := pl_all hx
  refine ⟨_, ⟨.list ys, .list [], by simp [toPy, h1], by simp [toPy, toPys], by simp [PyData.canLay0, h2], by simp [PyData.canLay0, PyData.canLayAll0], by simp [PyData.depth, PyData.depthAll], ?_⟩, h⟩
  cases xs with
  | nil =>
    simp [toPys] at h1
    subst h1
    simp [PyData.eqv, PyData.eqvAll]
  | cons x xs =>
    cases ys with
    | nil =>
      simp only [toPys] at h1
      split at h1 <;> cases h1
    | cons y ys => simp [PyData.eqv, PyData.eqvAll]
def sp_part (x : Addr) : WSp := fun ds S Q E => ∃ (n : Nat) (d : D) (path : List D), ds = [d, .tup path] ∧ Vl n d ∧ (∀ s ∈ path, IsKey s) ∧ ((∃ e, Fol d path e ∧ Q e S) ∨ (Stray d path ∧ E x (.tup path) S))
theorem w_part (x : Addr) (ds S Q E) (h : sp_part x ds S Q E) : t_part_at x sp_steps (dEnds Q E) (L3.start 6 ds) S := by
  obtain ⟨n, d, path, rfl, hv, hk, q⟩ := h
  simp [t_part_at]
  refine forW_inv (fun ys env S' => ∃ (n : Nat) (cur : D) (o3 o4 o5 : Option D), env = [some d, some (.tup path), some cur, o3, o4, o5] ∧ S' = S ∧ Vl n cur ∧ (∀ s ∈ ys, IsKey s) ∧ ((∃ e, Fol cur ys e ∧ Q e S) ∨ (Stray cur ys ∧ E x (.tup path) S))) ?_ ?_ _ _ _ ⟨n, d, none, none, none, rfl, rfl, hv, hk, q⟩
  · rintro env S' ⟨n, cur, o3, o4, o5, rfl, rfl, hv, _, q⟩
    refine ⟨trivial, ?_⟩
    rcases q with ⟨e, hf, q⟩ | ⟨hs, _⟩
    · cases hf
      simpa using q
    · cases hs
  · rintro s r env S' N ⟨n, cur, o3, o4, o5, rfl, rfl, hv, hk, q⟩ hN
    refine ⟨trivial, ?_⟩
    simp [t_part_at_b1]
    refine ⟨n, cur, rfl, hv, ?_⟩
    simp
    have hks := hk s List.mem_cons_self
    have hkr : ∀ t ∈ r, IsKey t := fun t ht => hk t (List.mem_cons_of_mem _ ht)
    refine lcW_pure (pick s) trivial _ _ (by have := hv.parts.1; simp [line2]; omega) (fun y hy A B hh => ?_) ?_
    · obtain ⟨z, hz, rfl⟩ := List.mem_map.mp hy
      simp [t_part_at_c1, t_part_at_e1, pairD, -L3.rEq_eq]
      refine rEq_key (hv.keys z hz) hks fun t ht => ?_
      simp only [pairD, pick] at hh
      by_cases e2 : z.1 = s
      · rw [if_pos e2] at hh
        rw [ht.mpr e2]
        simpa using hh
      · rw [if_neg e2] at hh
        have : t = false := by
          cases t with
          | true => exact absurd (ht.mp rfl) e2
          | false => rfl
        rw [this]
        simpa using hh
    · rw [List.nil_append]
      have hpl : ∀ x ∈ ((steps cur).map pairD).filterMap (pick s), Pl x := fun x hx => by
        obtain ⟨y, hy, e⟩ := List.mem_filterMap.mp hx
        obtain ⟨z, hz, rfl⟩ := List.mem_map.mp hy
        simp only [pairD, pick] at e
        by_cases e2 : z.1 = s
        · rw [if_pos e2] at e
          obtain ⟨m, _, hc⟩ := hv.parts.2 z hz
          cases e
          exact hc.pl
        · rw [if_neg e2] at e; cases e
      have hit : ∀ c, (s, c) ∈ steps cur → ∃ w, ((steps cur).map pairD).filterMap (pick s) = c :: w := fun c hs => by
        refine fm_first (fun y hy => ?_) ⟨pairD (s, c), List.mem_map.mpr ⟨_, hs, rfl⟩, by simp [pairD, pick]⟩
        obtain ⟨z, hz, rfl⟩ := List.mem_map.mp hy
        simp only [pairD, pick]
        by_cases e2 : z.1 = s
        · right
          rw [if_pos e2]
          congr 1
          exact hv.uniq (by rw [← e2]; exact hz) hs
        · left
          rw [if_neg e2]
      have go : ∀ c, (s, c) ∈ steps cur → ((∃ e, Fol c r e ∧ Q e S') ∨ (Stray c r ∧ E x (.tup path) S')) → ∃ w, ((steps cur).map pairD).filterMap (pick s) = c :: w ∧ ∃ m, Vl m c := fun c hs _ => by
        obtain ⟨w, e⟩ := hit c hs
        obtain ⟨m, _, hc⟩ := hv.parts.2 _ hs
        exact ⟨w, e, m, hc⟩
      have next : ∀ c, (s, c) ∈ steps cur → ((∃ e, Fol c r e ∧ Q e S') ∨ (Stray c r ∧ E x (.tup path) S')) → ∃ w, ((steps cur).map pairD).filterMap (pick s) = c :: w ∧ ∀ o, N [some d, some (.tup path), some c, some s, some (.lst (c :: w)), o] S' := fun c hs hq => by
        obtain ⟨w, e, m, hc⟩ := go c hs hq
        exact ⟨w, e, fun o => hN _ _ ⟨m, c, _, _, _, rfl, rfl, hc, hkr, hq⟩⟩
      have cases3 : (∃ c, (s, c) ∈ steps cur ∧ ((∃ e, Fol c r e ∧ Q e S') ∨ (Stray c r ∧ E x (.tup path) S'))) ∨ ((∀ q ∈ steps cur, q.1 ≠ s) ∧ E x (.tup path) S') := by
        rcases q with ⟨e, hf, q⟩ | ⟨hs, q⟩
        · cases hf with
          | @cons _ _ c _ _ hs hf => exact .inl ⟨c, hs, .inl ⟨e, hf, q⟩⟩
        · cases hs with
          | here h => exact .inr ⟨h, q⟩
          | @there _ _ c _ hs hr => exact .inl ⟨c, hs, .inr ⟨hr, q⟩⟩
      have nilE : (∀ q ∈ steps cur, q.1 ≠ s) → ((steps cur).map pairD).filterMap (pick s) = [] := fun h => List.filterMap_eq_nil_iff.mpr fun y hy => by
        obtain ⟨z, hz, rfl⟩ := List.mem_map.mp hy
        simp only [pairD, pick]
        rw [if_neg (h z hz)]
      clear go hit
      generalize ((steps cur).map pairD).filterMap (pick s) = fm at hpl next nilE
      simp [line2]
      refine exNil hpl ?_
      rcases cases3 with ⟨c, hs, hq⟩ | ⟨h, q⟩
      · obtain ⟨w, e, hN'⟩ := next c hs hq
        subst e
        simp
        exact hN' _
      · rw [nilE h]
        simp
        exact q
end K75

set_option Elab.async false
set_option linter.all false
set_option maxRecDepth 100000
set_option maxHeartbeats 4000000
/-! k75: what is found; the law's own comparison. -/
namespace K75
open PySem PySem.Spec L2 L3
def sp_found : WSp := fun ds S Q _ => ∃ (n : Nat) (d : D) (path : List D), ds = [d, .tup path] ∧ Vl n d ∧ (∀ s ∈ path, IsKey s) ∧ ((∃ e, Fol d path e ∧ Q (.tup [.str "part", e]) S) ∨ (Stray d path ∧ Q (.tup [.str "astray", .tup path, .bl false]) S))
theorem w_found (C : Cmn) (xA xM xO : Addr) (h1 : PySem.W.exmOne C.K (.ref xA) (.ref xA) = some true) (h2 : PySem.W.kitOne C.K (.ref xA) (.ref xM) = some false) (h3 : PySem.W.kitOne C.K (.ref xA) (.ref xO) = some false)
    (ds S Q E) (h : sp_found ds S Q E) : t__law_found C xA xM xO (sp_part xA) (dEnds Q E) (L3.start 3 ds) S := by
  obtain ⟨n, d, path, rfl, hv, hk, q⟩ := h
  simp [t__law_found]
  refine ⟨n, d, path, rfl, hv, hk, ?_⟩
  rcases q with ⟨e, hf, q⟩ | ⟨hs, q⟩
  · refine .inl ⟨e, hf, ?_⟩
    simp [line2]
    exact q
  · refine .inr ⟨hs, ?_⟩
    simp [h1, h2, h3, line2]
    exact q
def Flat (d : D) : Prop := d = .non ∨ (∃ b, d = .bl b) ∨ (∃ i, d = .int i) ∨ ∃ x, d = .str x ∧ (PyData.str x).canLay0 = true
def Sm : Nat → D → Prop
  | 0, d => Flat d
  | n + 1, d => Flat d ∨ ∃ xs, (d = .tup xs ∨ d = .lst xs) ∧ xs.length ≤ 16000000 ∧ ∀ x ∈ xs, Sm n x
theorem Sm.look {n : Nat} {d : D} (h : Sm n d) : Flat d ∨ ∃ m xs, n = m + 1 ∧ (d = .tup xs ∨ d = .lst xs) ∧ xs.length ≤ 16000000 ∧ ∀ x ∈ xs, Sm m x := by
  cases n with
  | zero => exact .inl h
  | succ m =>
    rcases h with h | ⟨xs, h⟩
    · exact .inl h
    · exact .inr ⟨m, xs, rfl, h⟩
theorem pl_non : Pl .non := ⟨.none, by simp [toPy], by simp [PyData.canLay0]⟩
theorem Flat.pl {d : D} (h : Flat d) : Pl d := by
  rcases h with rfl | ⟨b, rfl⟩ | ⟨i, rfl⟩ | ⟨x, rfl, hx⟩
  · exact pl_non
  · exact pl_bl b
  · exact pl_int i
  · exact pl_str hx
theorem Sm.pl : ∀ {n : Nat} {d : D}, Sm n d → Pl d
  | n, d, h => by
    rcases h.look with h | ⟨m, xs, rfl, e, hl, hx⟩
    · exact h.pl
    · rcases e with rfl | rfl
      · exact pl_tup fun x hx' => Sm.pl (hx x hx')
      · exact pl_lst fun x hx' => Sm.pl (hx x hx')
def notInt : D → Option D
  | .int _ => none
  | d => some d
/-- of no use when all are ints -/
theorem all_int {xs : List D} (h : xs.filterMap notInt = []) : ∃ ns : List Int, xs = ns.map D.int := by
  induction xs with
  | nil => exact ⟨[], rfl⟩
  | cons x xs ih =>
    cases x with
    | int i =>
      obtain ⟨ns, e⟩ := ih (by simpa [notInt] using h)
      exact ⟨i :: ns, by rw [e]; rfl⟩
    | _ => simp [notInt] at h
theorem deep_ints_t (ns : List Int) : Deep (.tup (ns.map D.int)) (.tup (ns.map D.int)) true := ⟨.tuple (ns.map .int), .tuple (ns.map .int), by simp [toPy, toPy_ints], by simp [toPy, toPy_ints], by simp [PyData.canLay0, lay_ints], by simp [PyData.canLay0, lay_ints], by simp [PyData.depth, plain_ints], by simp [PyData.eqv, eqvAll_ints]⟩
theorem deep_ints_l (ns : List Int) : Deep (.lst (ns.map D.int)) (.lst (ns.map D.int)) true := ⟨.list (ns.map .int), .list (ns.map .int), by simp [toPy, toPy_ints], by simp [toPy, toPy_ints], by simp [PyData.canLay0, lay_ints], by simp [PyData.canLay0, lay_ints], by simp [PyData.depth, plain_ints], by simp [PyData.eqv, eqvAll_ints]⟩
def sp_same (k : Nat) : WSp := fun ds S Q _ => ∃ (n : Nat) (d : D), n < k ∧ ds = [d, d] ∧ Sm n d ∧ Q (.bl true) S
theorem same_lc {m : Nat} {xs : List D} {o : Option D} {d : D} {q : WSp} {S : Sto} {Qd : List D → Sto → Prop} {hh} (hl : xs.length ≤ 16000000) (hx : ∀ x ∈ xs, Sm m x) (hQ : Qd (xs.filterMap notInt) S) :
    LcC (gNm 3) (t__law_same_c1 q) (t__law_same_e1 q) Always [some d, some d, o, none] Qd xs [] S hh := by
  refine lcW_pure notInt trivial _ _ (by simp [line2]; omega) (fun y hy A B h => ?_) (by simpa using hQ)
  rcases (hx y hy).look with h0 | ⟨m', ys, rfl, e, _, _⟩
  · rcases h0 with rfl | ⟨b, rfl⟩ | ⟨i, rfl⟩ | ⟨x, rfl, hx⟩
    · simpa [t__law_same_c1, t__law_same_e1, tys, notInt] using h
    · simpa [t__law_same_c1, t__law_same_e1, tys, notInt] using h
    · simpa [t__law_same_c1, t__law_same_e1, tys, notInt] using h
    · simpa [t__law_same_c1, t__law_same_e1, tys, notInt] using h
  · rcases e with rfl | rfl
    · simpa [t__law_same_c1, t__law_same_e1, tys, notInt] using h
    · simpa [t__law_same_c1, t__law_same_e1, tys, notInt] using h
theorem w_same (k : Nat) (ds S Q E) (h : sp_same (k + 1) ds S Q E) : t__law_same (sp_same k) (dEnds Q E) (L3.start 4 ds) S := by
  obtain ⟨n, d, hn, rfl, hs, q⟩ := h
  rcases hs.look with h0 | ⟨m, xs, rfl, e, hl, hx⟩
  · rcases h0 with rfl | ⟨b, rfl⟩ | ⟨i, rfl⟩ | ⟨x, rfl, hx⟩
    · simp [t__law_same, tys, line2]
      exact q
    · cases b <;> (simp [t__law_same, tys, line2]; exact q)
    · simp [t__law_same, tys, line2]
      exact q
    · simp [t__law_same, tys, line2]
      exact q
  · have hpl : ∀ x ∈ xs.filterMap notInt, Pl x := fun x hx' => by
      obtain ⟨y, hy, e⟩ := List.mem_filterMap.mp hx'
      have : y = x := by
        cases y <;> simp [notInt] at e <;> exact e
      rw [← this]
      exact (hx y hy).pl
    rcases e with rfl | rfl
    · simp [t__law_same, tys, line2]
      refine same_lc hl hx ?_
      generalize hg : xs.filterMap notInt = fm at hpl
      simp [line2]
      refine exNil hpl ?_
      by_cases hz : fm = []
      · subst hz
        simp
        refine same_lc (q := sp_same k) hl hx ?_
        rw [hg]
        simp [line2]
        refine exNil (by simp) ?_
        obtain ⟨ns, rfl⟩ := all_int hg
        simp
        exact ⟨true, deep_ints_t ns, q⟩
      · simp [hz]
        refine ⟨by omega, ?_⟩
        refine forW_inv (fun ys env S' => ∃ (o1 o2 : Option D), env = [some (D.tup xs), some (D.tup xs), o1, o2] ∧ S' = S ∧ ∀ y ∈ ys, ∃ i, y = D.int i ∧ 0 ≤ i ∧ i < xs.length) ?_ ?_ _ _ _ ⟨none, none, rfl, rfl, fun y hy => ?_⟩
        · rintro env S' ⟨o1, o2, rfl, rfl, _⟩
          exact ⟨trivial, by simpa using q⟩
        · rintro y r env S' N ⟨o1, o2, rfl, rfl, hy⟩ hN
          refine ⟨trivial, ?_⟩
          obtain ⟨i, rfl, h0, h1⟩ := hy y List.mem_cons_self
          obtain ⟨v, a1, a2⟩ := at_lt (xs := xs) h0 h1
          have hv := hx v (List.mem_of_getElem? a1)
          simp [t__law_same_b1, a2]
          refine ⟨m, v, by omega, rfl, hv, ?_⟩
          simp
          exact hN _ _ ⟨_, o2, rfl, rfl, fun y h => hy y (List.mem_cons_of_mem _ h)⟩
        · obtain ⟨i, e, h0, h1⟩ := rng_mem y hy
          exact ⟨i, e, h0, by omega⟩
    · simp [t__law_same, tys, line2]
      refine same_lc hl hx ?_
      generalize hg : xs.filterMap notInt = fm at hpl
      simp [line2]
      refine exNil hpl ?_
      by_cases hz : fm = []
      · subst hz
        simp
        refine same_lc (q := sp_same k) hl hx ?_
        rw [hg]
        simp [line2]
        refine exNil (by simp) ?_
        obtain ⟨ns, rfl⟩ := all_int hg
        simp
        exact ⟨true, deep_ints_l ns, q⟩
      · simp [hz]
        refine ⟨by omega, ?_⟩
        refine forW_inv (fun ys env S' => ∃ (o1 o2 : Option D), env = [some (D.lst xs), some (D.lst xs), o1, o2] ∧ S' = S ∧ ∀ y ∈ ys, ∃ i, y = D.int i ∧ 0 ≤ i ∧ i < xs.length) ?_ ?_ _ _ _ ⟨none, none, rfl, rfl, fun y hy => ?_⟩
        · rintro env S' ⟨o1, o2, rfl, rfl, _⟩
          exact ⟨trivial, by simpa using q⟩
        · rintro y r env S' N ⟨o1, o2, rfl, rfl, hy⟩ hN
          refine ⟨trivial, ?_⟩
          obtain ⟨i, rfl, h0, h1⟩ := hy y List.mem_cons_self
          obtain ⟨v, a1, a2⟩ := at_lt (xs := xs) h0 h1
          have hv := hx v (List.mem_of_getElem? a1)
          simp [t__law_same_b1, a2]
          refine ⟨m, v, by omega, rfl, hv, ?_⟩
          simp
          exact hN _ _ ⟨_, o2, rfl, rfl, fun y h => hy y (List.mem_cons_of_mem _ h)⟩
        · obtain ⟨i, e, h0, h1⟩ := rng_mem y hy
          exact ⟨i, e, h0, by omega⟩
end K75

set_option Elab.async false
set_option linter.all false
set_option maxRecDepth 100000
set_option maxHeartbeats 4000000
/-! k75: steps that lead nowhere. -/
namespace K75
open PySem PySem.Spec L2 L3
/-- steps that lead nowhere in d -/
def Off (d : D) (ss : List D) : Prop := ∀ x ∈ ss, IsKey x ∧ ∀ q ∈ steps d, q.1 ≠ x
def sp_strays : WSp := fun ds S Q _ => ∃ (p : Addr) (s : Sta) (n : Nat) (d : D), ds = [.ref p, d] ∧ S p = some s.so ∧ Vl n d ∧ ∀ ss (s' : Sta), Off d ss → Q (.lst ss) (sup S p s'.so)
theorem key_empty : IsKey (.tup []) := .inr ⟨[], rfl, by decide⟩
theorem key_int (i : Int) : IsKey (.int i) := .inl ⟨i, rfl⟩
theorem key_tup {ns : List Int} (h : ns.length ≤ 5000) : IsKey (.tup (ns.map D.int)) := .inr ⟨ns, rfl, h⟩
theorem cut_ints (ns : List Int) (lo hi : Option Int) : ∃ ms : List Int, cutD (ns.map D.int) lo hi = ms.map D.int ∧ ms.length ≤ ns.length := by
  unfold cutD
  refine ⟨(ns.drop (HT.sIx (ns.map D.int).length 0 lo)).take (HT.sIx (ns.map D.int).length (ns.map D.int).length hi - HT.sIx (ns.map D.int).length 0 lo), ?_, ?_⟩
  · rw [List.map_take, List.map_drop]
  · rw [List.length_take, List.length_drop]; omega
open Classical in
/-- what is no key of ks -/
noncomputable def noKey (ks : List (List Int)) (y : D) : Option D := if ∃ k ∈ ks, y = keyD k then none else some y
theorem w_strays (ds S Q E) (h : sp_strays ds S Q E) : t__law_strays sp_next sp_points sp_steps (dEnds Q E) (L3.start 9 ds) S := by
  obtain ⟨p, s, n, d, rfl, hp, hv, q⟩ := h
  simp [t__law_strays]
  refine ⟨n, d, rfl, hv, ?_⟩
  simp
  refine pt s hp fun ns s1 hns => ?_
  have hkey : IsKey (.tup (ns.map D.int)) := key_tup (by omega)
  rcases hv.look with ⟨nm, w, rfl, h1, h2, hl⟩ | ⟨m', hm', ⟨xs, rfl, hl, hx⟩ | ⟨es, rfl, hl, hn, hx⟩⟩
  · have e := steps_leaf hl
    simp [h1, h2]
    refine nx s1 (by simp) (by decide) fun i s2 _ _ => ?_
    simp [line2]
    refine q _ s2 fun x hx => ⟨?_, by rw [e]; exact fun q hq => (by cases hq)⟩
    have hx' : x = .int 0 ∨ x = .int i ∨ x = .tup (ns.map D.int) ∨ x = .tup [] := by simpa using hx
    rcases hx' with rfl | rfl | rfl | rfl
    · exact key_int _
    · exact key_int _
    · exact hkey
    · exact key_empty
  · simp
    refine nx s1 (by simp) (by decide) fun i s2 hi _ => ?_
    simp [line2]
    refine q _ s2 fun x hx => ?_
    rw [steps_list] at hx ⊢
    have hx' : x = .int xs.length ∨ x = .int (xs.length + i) ∨ x = .tup (ns.map D.int) ∨ x = .tup [] := by simpa using hx
    have hq : ∀ q ∈ xs.zipIdx.map (fun p => (D.int (p.2 : Int), p.1)), ∃ j : Nat, q.1 = .int j ∧ j < xs.length := fun q hq => by
      obtain ⟨⟨y, j⟩, hy, rfl⟩ := List.mem_map.mp hq
      have a := List.mem_zipIdx_iff_getElem?.mp hy
      exact ⟨j, rfl, (List.getElem?_eq_some_iff.mp a).1⟩
    rcases hx' with rfl | rfl | rfl | rfl
    · refine ⟨key_int _, fun q hq' => ?_⟩
      obtain ⟨j, e, hj⟩ := hq q hq'
      rw [e]
      intro z; simp at z; omega
    · refine ⟨key_int _, fun q hq' => ?_⟩
      obtain ⟨j, e, hj⟩ := hq q hq'
      rw [e]
      intro z; simp at z; omega
    · refine ⟨hkey, fun q hq' => ?_⟩
      obtain ⟨j, e, hj⟩ := hq q hq'
      rw [e]
      intro z; cases z
    · refine ⟨key_empty, fun q hq' => ?_⟩
      obtain ⟨j, e, hj⟩ := hq q hq'
      rw [e]
      intro z; cases z
  · have hne := map_list
    simp [hne]
    refine lcW_pure (fun d => match d with | .tup (x :: _) => some x | _ => none) trivial _ _ (by simp [line2]; omega) (fun y hy A B hh => ?_) ?_
    · obtain ⟨x, _, rfl⟩ := List.mem_map.mp hy
      simpa [t__law_strays_e4] using hh
    · have e1 : ∀ es : List (List Int × D), (es.map ent).filterMap (fun d => match d with | .tup (x :: _) => some x | _ => none) = (es.map (·.1)).map keyD := fun es => by
        induction es with
        | nil => rfl
        | cons x es ih => simp only [List.map_cons, ent, List.filterMap_cons, ih, keyD]
      rw [List.nil_append, e1]
      have hks : ∀ k ∈ es.map (·.1), k.length < 1000 := fun k hk => by
        obtain ⟨e, he, rfl⟩ := List.mem_map.mp hk
        exact (hx e he).1
      have hlen : (es.map (·.1)).length ≤ 49 := by simpa using hl
      have hsteps : ∀ q ∈ steps (.tup [.str "map", .tup (es.map ent)]), ∃ k ∈ es.map (·.1), q.1 = keyD k := fun q hq => by
        rw [steps_map] at hq
        obtain ⟨e, he, rfl⟩ := List.mem_map.mp hq
        exact ⟨e.1, List.mem_map.mpr ⟨e, he, rfl⟩, rfl⟩
      generalize es.map (·.1) = ks at hks hlen hsteps
      have hl2 : ((ks.map keyD) : List D).length ≤ 49 := by simpa using hlen
      simp
      refine lcW_inv (fun ys acc S' => ∃ (as : List (List Int)) (s : Sta), acc = as.map keyD ∧ S' = sup S p s.so ∧ as.length + ys.length ≤ 49 ∧ (∀ a ∈ as, a.length ≤ 1001) ∧ ∀ y ∈ ys, ∃ k ∈ ks, y = keyD k) ?_ ?_ _ _ _ ⟨[], s1, rfl, rfl, by simpa using hlen, fun a ha => (by cases ha), fun y hy => ?_⟩
      · rintro acc S' ⟨as, s2, rfl, rfl, has, hal, hyy⟩
        clear hyy
        refine ⟨trivial, ?_⟩
        simp at has
        simp
        refine lcW_pure (fun y => match y with | .tup l => some (.tup (cutD l none (some (-1)))) | _ => none) trivial _ _ (by simp [line2]; omega) (fun y hy A B hh => ?_) ?_
        · obtain ⟨k, _, rfl⟩ := List.mem_map.mp hy
          simpa [t__law_strays_e3, keyD] using hh
        · have e2 : ∃ bs : List (List Int), (ks.map keyD).filterMap (fun y => match y with | .tup l => some (.tup (cutD l none (some (-1)))) | _ => none) = bs.map keyD ∧ bs.length ≤ 49 ∧ ∀ b ∈ bs, b.length ≤ 1001 := by
            clear hsteps hl2 has
            revert hlen
            generalize 49 = B
            intro hlen
            induction ks generalizing B with
            | nil => exact ⟨[], rfl, by simp, fun b hb => (by cases hb)⟩
            | cons k ks ih =>
              obtain ⟨bs, a1, a2, a3⟩ := ih (fun k hk => hks k (List.mem_cons_of_mem _ hk)) (B - 1) (by simp at hlen; omega)
              obtain ⟨ms, b1, b2⟩ := cut_ints k none (some (-1))
              refine ⟨ms :: bs, ?_, by simp at hlen ⊢; omega, fun b hb => ?_⟩
              · simp only [List.map_cons, keyD, List.filterMap_cons, b1, a1]
              · rcases List.mem_cons.mp hb with rfl | hb
                · have := hks k List.mem_cons_self; omega
                · exact a3 b hb
          obtain ⟨bs, e2, hbl, hbb⟩ := e2
          rw [List.nil_append, e2]
          have near : ∃ rs : List (List Int), rs.length ≤ 101 ∧ (∀ r ∈ rs, r.length ≤ 5000) ∧ as.map keyD ++ (bs.map keyD ++ [.tup (ns.map D.int), .tup [], .tup [.int 0]]) = rs.map keyD := by
            refine ⟨as ++ (bs ++ [ns, [], [0]]), by simp; omega, fun r hr => ?_, by simp [keyD]⟩
            simp only [List.mem_append, List.mem_cons, List.mem_singleton] at hr
            rcases hr with hr | hr | rfl | rfl | rfl | hr
            · have := hal r hr; omega
            · have := hbb r hr; omega
            · omega
            · simp
            · simp
            · cases hr
          obtain ⟨rs, hrl, hrr, e3⟩ := near
          simp [line2]
          refine ⟨by omega, by omega, ?_⟩
          refine nx s2 (by simp) (by decide) fun i s3 hi _ => ?_
          simp [line2]
          rw [e3]
          refine lcW_pure (noKey ks) trivial _ _ (by simp [line2]; omega) (fun y hy A B hh => ?_) ?_
          · obtain ⟨r, hr, rfl⟩ := List.mem_map.mp hy
            simp [t__law_strays_c1, t__law_strays_e1, keyD]
            refine ⟨_, in_keys r ks, ?_⟩
            by_cases hin : r ∈ ks
            · have e4 : noKey ks (keyD r) = none := if_pos ⟨r, hin, rfl⟩
              rw [e4] at hh
              simpa [hin] using hh
            · have e4 : noKey ks (keyD r) = some (keyD r) := if_neg fun ⟨k, hk, e⟩ => hin (key_inj e ▸ hk)
              rw [e4] at hh
              simpa [hin, keyD] using hh
          · have hf : ∀ x ∈ (rs.map keyD).filterMap (noKey ks), (∃ r ∈ rs, x = keyD r) ∧ ∀ k ∈ ks, x ≠ keyD k := fun x hx => by
              obtain ⟨y, hy, e⟩ := List.mem_filterMap.mp hx
              obtain ⟨r, hr, rfl⟩ := List.mem_map.mp hy
              unfold noKey at e
              split at e
              · cases e
              · rename_i h0
                cases e
                exact ⟨⟨r, hr, rfl⟩, fun k hk z => h0 ⟨k, hk, z⟩⟩
            have hfl : ((rs.map keyD).filterMap (noKey ks)).length ≤ 101 := Nat.le_trans (List.length_filterMap_le _ _) (by simpa using hrl)
            rw [List.nil_append]
            generalize (rs.map keyD).filterMap (noKey ks) = ff at hf hfl
            simp [line2]
            refine ⟨by omega, q _ s3 fun x hx => ?_⟩
            rcases List.mem_cons.mp hx with rfl | hx
            · refine ⟨key_int _, fun q hq z => ?_⟩
              obtain ⟨k, _, e⟩ := hsteps q hq
              rw [e] at z; cases z
            · rcases List.mem_cons.mp hx with rfl | hx
              · refine ⟨key_int _, fun q hq z => ?_⟩
                obtain ⟨k, _, e⟩ := hsteps q hq
                rw [e] at z; cases z
              · rcases List.mem_cons.mp hx with rfl | hx
                · refine ⟨key_int _, fun q hq z => ?_⟩
                  obtain ⟨k, _, e⟩ := hsteps q hq
                  rw [e] at z; cases z
                · obtain ⟨⟨r, hr, rfl⟩, h3⟩ := hf x hx
                  refine ⟨.inr ⟨r, rfl, hrr r hr⟩, fun q hq z => ?_⟩
                  obtain ⟨k, hk, e⟩ := hsteps q hq
                  exact h3 k hk (by rw [← z, e])
      · rintro y r acc S' N ⟨as, s2, rfl, rfl, has, hal, hy⟩ hN
        obtain ⟨k, hk, rfl⟩ := hy _ List.mem_cons_self
        refine ⟨trivial, ?_⟩
        simp [t__law_strays_e2, keyD]
        refine nx s2 (by simp) (by decide) fun i s3 _ _ => ?_
        have := hks k hk
        simp at has
        simp [line2]
        refine ⟨by omega, by omega, hN _ _ ⟨as ++ [k ++ [i]], s3, by simp [keyD], rfl, by simp; omega, fun a ha => ?_, fun y h => hy y (List.mem_cons_of_mem _ h)⟩⟩
        rcases List.mem_append.mp ha with ha | ha
        · exact hal a ha
        · rw [List.mem_singleton.mp ha]; simp; omega
      · obtain ⟨k, hk, rfl⟩ := List.mem_map.mp hy
        exact ⟨k, hk, rfl⟩
end K75

set_option Elab.async false
set_option linter.all false
set_option maxRecDepth 100000
set_option maxHeartbeats 4000000
/-! k75: the law. -/
namespace K75
open PySem PySem.Spec L2 L3
theorem Sm.up : ∀ {n : Nat} {d : D}, Sm n d → Sm (n + 1) d
  | 0, d, h => .inl h
  | n + 1, d, h => by
    rcases h with h | ⟨xs, e, hl, hx⟩
    · exact .inl h
    · exact .inr ⟨xs, e, hl, fun x hx' => (hx x hx').up⟩
theorem Sm.mono {n m : Nat} {d : D} (h : Sm n d) (le : n ≤ m) : Sm m d := by
  induction le with
  | refl => exact h
  | step _ ih => exact ih.up
theorem sm_str {n : Nat} {x : Str} (h : (PyData.str x).canLay0 = true) : Sm n (.str x) := Sm.mono (n := 0) (.inr (.inr (.inr ⟨x, rfl, h⟩))) (Nat.zero_le _)
theorem sm_int {n : Nat} (i : Int) : Sm n (.int i) := Sm.mono (n := 0) (.inr (.inr (.inl ⟨i, rfl⟩))) (Nat.zero_le _)
theorem sm_bl {n : Nat} (b : Bool) : Sm n (.bl b) := Sm.mono (n := 0) (.inr (.inl ⟨b, rfl⟩)) (Nat.zero_le _)
theorem sm_tup {n : Nat} {xs : List D} (hl : xs.length ≤ 16000000) (h : ∀ x ∈ xs, Sm n x) : Sm (n + 1) (.tup xs) := .inr ⟨xs, .inl rfl, hl, h⟩
theorem sm_lst {n : Nat} {xs : List D} (hl : xs.length ≤ 16000000) (h : ∀ x ∈ xs, Sm n x) : Sm (n + 1) (.lst xs) := .inr ⟨xs, .inr rfl, hl, h⟩
theorem sm_ints {n : Nat} {ns : List Int} (hl : ns.length ≤ 16000000) : Sm (n + 1) (.tup (ns.map D.int)) := sm_tup (by simpa using hl) fun x hx => by
  obtain ⟨i, _, rfl⟩ := List.mem_map.mp hx
  exact sm_int i
theorem sm_key {n : Nat} {d : D} (h : IsKey d) : Sm (n + 1) d := by
  rcases h with ⟨i, rfl⟩ | ⟨ns, rfl, hl⟩
  · exact sm_int i
  · exact sm_ints (by omega)
theorem sm_two {n : Nat} {x : Str} {d : D} (h : (PyData.str x).canLay0 = true) (hd : Sm n d) : Sm (n + 1) (.tup [.str x, d]) := sm_tup (by simp) fun y hy => by
  have hy' : y = .str x ∨ y = d := by simpa using hy
  rcases hy' with rfl | rfl
  · exact sm_str h
  · exact hd
theorem sm_three {n : Nat} {x : Str} {d e : D} (h : (PyData.str x).canLay0 = true) (hd : Sm n d) (he : Sm n e) : Sm (n + 1) (.tup [.str x, d, e]) := sm_tup (by simp) fun y hy => by
  have hy' : y = .str x ∨ y = d ∨ y = e := by simpa using hy
  rcases hy' with rfl | rfl | rfl
  · exact sm_str h
  · exact hd
  · exact he
theorem sm_leaf {d : D} (h : IsLeaf d) : Sm 2 d := by
  cases h with
  | null => exact sm_tup (by simp) fun y hy => by rw [List.mem_singleton.mp hy]; exact sm_str lay_null
  | truth b => exact sm_two lay_truth (sm_bl b)
  | num m e => exact sm_three lay_number (sm_int m) (sm_int e)
  | bytes ns h => exact sm_two lay_bytes (sm_ints (by omega))
  | text ns h => exact sm_two lay_text (sm_ints (by omega))
theorem Vl.sm : ∀ {n : Nat} {d : D}, Vl n d → Sm (3 * n + 3) d
  | n, d, h => by
    rcases h.look with ⟨nm, w, rfl, _, _, hl⟩ | ⟨m, rfl, ⟨xs, rfl, hl, hx⟩ | ⟨es, rfl, hl, hn, hx⟩⟩
    · exact (sm_leaf hl).mono (by omega)
    · exact sm_two lay_list (sm_tup (by omega) fun x hx' => (Vl.sm (hx x hx')).mono (by omega))
    · refine sm_two lay_map (sm_tup (by simp; omega) fun x hx' => ?_)
      obtain ⟨e, he, rfl⟩ := List.mem_map.mp hx'
      refine sm_tup (by simp) fun x hx' => ?_
      have hx3 : x = .tup (e.1.map D.int) ∨ x = e.2 := by simpa using hx'
      rcases hx3 with rfl | rfl
      · exact sm_ints (by have := (hx e he).1; omega)
      · exact Vl.sm (hx e he).2
theorem cell0 {scr : List Int} {S : Sto} {Q : VQ} {E : EX} {hh} (k : ∀ i, Q (.int i) S) : Call sp_cell [.fix (scr.map D.int), .int 0] S Q E hh := ⟨scr, 0, rfl, by decide, k⟩
theorem same_eq {d : D} {n : Nat} {S : Sto} {Q : VQ} {E : EX} {hh} (h : Sm n d) (hn : n < 200) (q : Q (.bl true) S) : Call (sp_same 200) [d, d] S Q E hh := ⟨n, d, hn, rfl, h, q⟩
theorem w_law (ds S Q E) (h : spTrue ds S Q E) : t_law sp_cell sp_drawn sp_found sp_next sp_lpart sp_points (sp_same 200) sp_state sp_strays (sp_ways 29) (sp_ways 29) (dEnds Q E) (L3.start 10 ds) S := by
  obtain ⟨scr, rfl, hl, rfl, q⟩ := h
  simp [t_law]
  refine cell0 fun c => ?_
  simp
  refine ⟨scr, _, rfl, fun p s hp => ?_⟩
  simp
  refine ⟨p, s, rfl, by simp, fun v s1 hv => ?_⟩
  obtain ⟨hv, hw⟩ := hv
  simp
  have hwl : ((ways 28 v).map D.tup).length ≤ 6000000 := by simpa using hw 28
  have hsm : Sm 4 (.lst ((ways 28 v).map D.tup)) := sm_lst (by omega) fun x hx => by
    obtain ⟨path, hpath, rfl⟩ := List.mem_map.mp hx
    have := ways_depth path hpath
    obtain ⟨e, he⟩ := ways_fol path hpath
    exact sm_tup (by omega) fun y hy => sm_key (he.key hv y hy)
  refine ⟨28, 28, v, by decide, by decide, by decide, rfl, hv, hw 28, fun p2 hp2 => ?_⟩
  simp [sdel_sup hp2]
  refine ⟨28, 28, v, by decide, by decide, by decide, rfl, hv, hw 28, fun p3 hp3 => ?_⟩
  have hpp : p ≠ p3 := fun e => by subst e; simp at hp3
  simp
  refine same_eq hsm (by decide) ⟨rfl, ?_⟩
  simp [line2]
  refine ⟨by simpa using Nat.lt_of_le_of_lt (hw 28) (by decide), ?_⟩
  refine ⟨28, 28, v, by decide, by decide, by decide, rfl, hv, hw 28, fun p4 hp4 => ?_⟩
  simp [sdel_sup hp4]
  refine same_eq hsm (by decide) ⟨rfl, ?_⟩
  simp
  rw [sdel_sup hp4]
  clear hp4 hp3 hp2 hp
  generalize SO.lst ((ways 28 v).map D.tup ++ [D.tup []]) = T
  have hpath : ∀ y ∈ (ways 28 v).map D.tup, ∃ path e, y = .tup path ∧ path.length ≤ 28 ∧ Fol v path e ∧ (∀ s ∈ path, IsKey s) ∧ ∃ m, m ≤ 28 ∧ Vl m e := fun y hy => by
    obtain ⟨path, hp, rfl⟩ := List.mem_map.mp hy
    obtain ⟨e, he⟩ := ways_fol path hp
    obtain ⟨m, hm, hv'⟩ := he.vl hv
    exact ⟨path, e, rfl, ways_depth path hp, he, he.key hv, m, hm, hv'⟩
  have hpos : 0 < ((ways 28 v).map D.tup).length := by simp [ways]
  generalize (ways 28 v).map D.tup = W' at hwl hpath hpos
  refine forW_inv (fun ys env S' => ∃ (o5 o6 o7 o8 o9 : Option D), env = [some (.fix (scr.map D.int)), some (.ref p), some v, some (.lst W'), some (.ref p3), o5, o6, o7, o8, o9] ∧ S' = sup (sup (fun _ => none) p s1.so) p3 T ∧ ∀ y ∈ ys, y ∈ W') ?_ ?_ _ _ _ ⟨none, none, none, none, none, rfl, rfl, fun y hy => hy⟩
  · rintro env S' ⟨o5, o6, o7, o8, o9, rfl, rfl, _⟩
    refine ⟨trivial, ?_⟩
    simp
    refine forW_inv (fun ys env S' => ∃ (s : Sta) (o5 o6 o7 o8 o9 : Option D), env = [some (.fix (scr.map D.int)), some (.ref p), some v, some (.lst W'), some (.ref p3), o5, o6, o7, o8, o9] ∧ S' = sup (sup (fun _ => none) p s.so) p3 T ∧ ∀ y ∈ ys, ∃ i, y = D.int i ∧ 0 ≤ i) ?_ ?_ _ _ _ ⟨s1, o5, o6, o7, o8, o9, rfl, rfl, fun y hy => ?_⟩
    · rintro env S' ⟨s, o5, o6, o7, o8, o9, rfl, rfl, _⟩
      refine ⟨trivial, ?_⟩
      simp
      exact q _
    · rintro y r env S' N ⟨s, o5, o6, o7, o8, o9, rfl, rfl, hy⟩ hN
      obtain ⟨k, rfl, hk0⟩ := hy _ List.mem_cons_self
      have hN' : ∀ (s : Sta) (o5 o6 o7 o8 o9 : Option D), N [some (.fix (scr.map D.int)), some (.ref p), some v, some (.lst W'), some (.ref p3), o5, o6, o7, o8, o9] (sup (sup (fun _ => none) p s.so) p3 T) := fun s o5 o6 o7 o8 o9 => hN _ _ ⟨s, o5, o6, o7, o8, o9, rfl, rfl, fun y h => hy y (List.mem_cons_of_mem _ h)⟩
      refine ⟨trivial, ?_⟩
      have m1 : ∀ x : Int, CMul 1000 x := fun x => cmul_l (by decide) (by decide)
      simp [t_law_b2]
      refine nx2 s hpp (by decide) fun i s2 _ _ => ?_
      simp [m1, hpos]
      refine at_use (Int.emod_nonneg _ (by omega)) (Int.emod_lt_of_pos _ (by omega)) fun d hd => ?_
      obtain ⟨path, e, rfl, hpl, hf, hkeys, m, hm, hvm⟩ := hpath d hd
      simp [line2]
      refine nx2 s2 hpp (by decide) fun i3 s3 _ _ => ?_
      simp [line2]
      refine ⟨p, s3, rfl, at2 hpp, fun r s4 ⟨ns, er, hns⟩ => ?_⟩
      subst er
      rw [sup_comm hpp.symm, sup_sup]
      simp [line2]
      refine nx2 s4 hpp (by decide) fun i4 s5 g0 g1 => ?_
      simp
      refine at_use g0 (by simpa using g1) fun rest hrest => ?_
      obtain ⟨rs, rfl, hrl, hrk⟩ : ∃ rs, rest = .tup rs ∧ rs.length ≤ 2 ∧ ∀ x ∈ rs, IsKey x := by
        simp at hrest
        rcases hrest with rfl | rfl | rfl
        · exact ⟨[], rfl, by simp, fun x hx => (by cases hx)⟩
        · exact ⟨[.int i3], rfl, by simp, fun x hx => by rw [List.mem_singleton.mp hx]; exact key_int _⟩
        · refine ⟨[.tup (ns.map D.int), .int 0], rfl, by simp, fun x hx => ?_⟩
          have hx' : x = .tup (ns.map D.int) ∨ x = .int 0 := by simpa using hx
          rcases hx' with rfl | rfl
          · exact key_tup (by omega)
          · exact key_int _
      simp
      refine ⟨28, v, e, path, rfl, hv, hf, ?_⟩
      simp
      refine ⟨p, s5, m, e, rfl, at2 hpp, hvm, fun ss s6 hss => ?_⟩
      rw [sup_comm hpp.symm, sup_sup]
      simp
      refine forW_inv (fun ys env S' => ∃ (o6 o8 o9 : Option D), env = [some (.fix (scr.map D.int)), some (.ref p), some v, some (.lst W'), some (.ref p3), some (.tup path), o6, some (.tup rs), o8, o9] ∧ S' = sup (sup (fun _ => none) p s6.so) p3 T ∧ ∀ y ∈ ys, y ∈ ss) ?_ ?_ _ _ _ ⟨_, o8, o9, rfl, rfl, fun y hy => hy⟩
      · rintro env S' ⟨o6, o8, o9, rfl, rfl, _⟩
        exact ⟨trivial, hN' _ _ _ _ _ _⟩
      · rintro st r' env S' N2 ⟨o6, o8, o9, rfl, rfl, hy2⟩ hN2
        refine ⟨trivial, ?_⟩
        obtain ⟨hk1, hk2⟩ := hss st (hy2 st List.mem_cons_self)
        have hall : ∀ x ∈ path ++ st :: rs, IsKey x := fun x hx => by
          rcases List.mem_append.mp hx with hx | hx
          · exact hkeys x hx
          · rcases List.mem_cons.mp hx with rfl | hx
            · exact hk1
            · exact hrk x hx
        have hlen : (path ++ st :: rs).length ≤ 40 := by simp; omega
        simp [t_law_b1, line2]
        refine ⟨by omega, by omega, ?_⟩
        refine ⟨28, v, path ++ st :: rs, rfl, hv, hall, .inr ⟨hf.stray hk2, ?_⟩⟩
        simp [line2]
        refine same_eq (n := 3) (sm_three lay_astray (sm_tup (by omega) fun x hx => sm_key (hall x hx)) (sm_bl _)) (by decide) ⟨rfl, ?_⟩
        simp
        exact hN2 _ _ ⟨o6, _, _, rfl, rfl, fun y h => hy2 y (List.mem_cons_of_mem _ h)⟩
    · obtain ⟨i, e, h0, _⟩ := rng_mem y hy
      exact ⟨i, e, h0⟩
  · rintro y r env S' N ⟨o5, o6, o7, o8, o9, rfl, rfl, hy⟩ hN
    obtain ⟨path, e, rfl, hpl, hf, hkeys, m, hm, hvm⟩ := hpath y (hy y List.mem_cons_self)
    refine ⟨trivial, ?_⟩
    simp [t_law_b3]
    refine ⟨28, v, path, rfl, hv, hkeys, .inl ⟨e, hf, ?_⟩⟩
    simp
    refine ⟨28, v, e, path, rfl, hv, hf, ?_⟩
    simp [line2]
    refine same_eq (n := 3 * m + 3 + 1) (sm_two lay_part hvm.sm) (by omega) ⟨rfl, ?_⟩
    simp
    exact hN _ _ ⟨_, o6, o7, o8, o9, rfl, rfl, fun y h => hy y (List.mem_cons_of_mem _ h)⟩
end K75

set_option Elab.async false
set_option linter.all false
set_option maxRecDepth 100000
set_option maxHeartbeats 0
/-! Printed by head.py: the head of the row. -/
namespace K75
open PySem PySem.Spec L2 L3
def h_fa_0 : List He.Fa := [.glo "steps_of", .glo "paths_of", .glo "part_at", .glo "_law_cell", .glo "_law_numbers", .glo "_law_state", .glo "_law_next", .glo "_law_same", .glo "_law_many", .glo "_law_big", .glo "_law_normal", .glo "_law_number", .glo "_law_points", .glo "_law_octets", .glo "_law_leaf", .glo "_law_value", .glo "_law_depth", .glo "_law_part", .glo "_law_steps", .glo "_law_ways", .glo "_law_drawn", .glo "_law_found", .glo "_law_strays", .glo "law", .free "len", .free "range", .free "int", .free "abs", .free "isinstance", .free "list"]
def h_fa_1 : List He.Fa := [.free "tuple", .free "enumerate", .free "sorted", .free "max", .free "bool", .free "str", .exm "Astray" "Astray" true]
def h_fa : List He.Fa := h_fa_0 ++ h_fa_1
abbrev s_init_Astray : Stmt := inClass (PySem.Challenge.pw_formsbrief_k75_paths_and_parts.main.body.getD 1 (.Pass ⟨0, 0, 0, 0⟩)) 0
abbrev s_init_Misplaced : Stmt := inClass (PySem.Challenge.pw_formsbrief_k75_paths_and_parts.main.body.getD 1 (.Pass ⟨0, 0, 0, 0⟩)) 0
abbrev s_init_Overdeep : Stmt := inClass (PySem.Challenge.pw_formsbrief_k75_paths_and_parts.main.body.getD 1 (.Pass ⟨0, 0, 0, 0⟩)) 0
def h_fn_0 : List He.DefD := [⟨("steps_of", none), "steps_of", "steps_of", defArgs s_steps_of, defBody s_steps_of, defScope s_steps_of, [], []⟩, ⟨("paths_of", none), "paths_of", "paths_of", defArgs s_paths_of, defBody s_paths_of, defScope s_paths_of, [], []⟩, ⟨("part_at", none), "part_at", "part_at", defArgs s_part_at, defBody s_part_at, defScope s_part_at, [], []⟩, ⟨("_law_cell", none), "_law_cell", "_law_cell", defArgs s__law_cell, defBody s__law_cell, defScope s__law_cell, [], []⟩, ⟨("_law_numbers", none), "_law_numbers", "_law_numbers", defArgs s__law_numbers, defBody s__law_numbers, defScope s__law_numbers, [], []⟩, ⟨("_law_state", none), "_law_state", "_law_state", defArgs s__law_state, defBody s__law_state, defScope s__law_state, [], []⟩, ⟨("_law_next", none), "_law_next", "_law_next", defArgs s__law_next, defBody s__law_next, defScope s__law_next, [], []⟩, ⟨("_law_same", none), "_law_same", "_law_same", defArgs s__law_same, defBody s__law_same, defScope s__law_same, [], []⟩, ⟨("_law_many", none), "_law_many", "_law_many", defArgs s__law_many, defBody s__law_many, defScope s__law_many, [], []⟩, ⟨("_law_big", none), "_law_big", "_law_big", defArgs s__law_big, defBody s__law_big, defScope s__law_big, [], []⟩, ⟨("_law_normal", none), "_law_normal", "_law_normal", defArgs s__law_normal, defBody s__law_normal, defScope s__law_normal, [], []⟩, ⟨("_law_number", none), "_law_number", "_law_number", defArgs s__law_number, defBody s__law_number, defScope s__law_number, [], []⟩, ⟨("_law_points", none), "_law_points", "_law_points", defArgs s__law_points, defBody s__law_points, defScope s__law_points, [], []⟩, ⟨("_law_octets", none), "_law_octets", "_law_octets", defArgs s__law_octets, defBody s__law_octets, defScope s__law_octets, [], []⟩, ⟨("_law_leaf", none), "_law_leaf", "_law_leaf", defArgs s__law_leaf, defBody s__law_leaf, defScope s__law_leaf, [], []⟩, ⟨("_law_value", none), "_law_value", "_law_value", defArgs s__law_value, defBody s__law_value, defScope s__law_value, [], []⟩, ⟨("_law_depth", none), "_law_depth", "_law_depth", defArgs s__law_depth, defBody s__law_depth, defScope s__law_depth, [], []⟩, ⟨("_law_part", none), "_law_part", "_law_part", defArgs s__law_part, defBody s__law_part, defScope s__law_part, [], []⟩, ⟨("_law_steps", none), "_law_steps", "_law_steps", defArgs s__law_steps, defBody s__law_steps, defScope s__law_steps, [], []⟩, ⟨("_law_ways", none), "_law_ways", "_law_ways", defArgs s__law_ways, defBody s__law_ways, defScope s__law_ways, [], []⟩, ⟨("_law_drawn", none), "_law_drawn", "_law_drawn", defArgs s__law_drawn, defBody s__law_drawn, defScope s__law_drawn, [], []⟩, ⟨("_law_found", none), "_law_found", "_law_found", defArgs s__law_found, defBody s__law_found, defScope s__law_found, [], []⟩, ⟨("_law_strays", none), "_law_strays", "_law_strays", defArgs s__law_strays, defBody s__law_strays, defScope s__law_strays, [], []⟩, ⟨("law", none), "law", "law", defArgs s_law, defBody s_law, defScope s_law, [], []⟩, ⟨("Astray", some "__init__"), "__init__", "AlikeError.__init__", defArgs s_init_Astray, defBody s_init_Astray, defScope s_init_Astray, [.non], []⟩, ⟨("Misplaced", some "__init__"), "__init__", "AlikeError.__init__", defArgs s_init_Misplaced, defBody s_init_Misplaced, defScope s_init_Misplaced, [.non], []⟩, ⟨("Overdeep", some "__init__"), "__init__", "AlikeError.__init__", defArgs s_init_Overdeep, defBody s_init_Overdeep, defScope s_init_Overdeep, [.non], []⟩]
def h_fn : List He.DefD := h_fn_0
def h_ex (K : PySem.W.Frag) : Bool := (excB "Astray" K) && (excB "Misplaced" K) && (excB "Overdeep" K) && (decide (PySem.W.kitOne K (.ref (He.ga K "Astray")) (.ref (He.ga K "Misplaced")) = some false)) && (decide (PySem.W.kitOne K (.ref (He.ga K "Astray")) (.ref (He.ga K "Overdeep")) = some false))
def h_names_0 : List Str := ["AlikeError", "Astray", "Misplaced", "Overdeep", "steps_of", "paths_of", "part_at", "_law_cell", "_law_numbers", "_law_state", "_law_next", "_law_same", "_law_many", "_law_big", "_law_normal", "_law_number", "_law_points", "_law_octets", "_law_leaf", "_law_value", "_law_depth", "_law_part", "_law_steps", "_law_ways", "_law_drawn", "_law_found", "_law_strays"]
def h_names : List Str := h_names_0
abbrev h_R : PySem.W.OpenRow := PySem.W.OpenLaw.row PySem.Challenge.rw_formsbrief_k75_paths_and_parts
abbrev h_hk : PySem.W.Hook := hookV 5 h_fa h_fn h_ex
def h_ob (s : PySem.W.SharedT) : AlV := obsV 5 h_fa h_fn h_ex (HandSHeadRun.getT s)
theorem h_ob_eq (s : PySem.W.SharedT) : h_ob s = h_hk.obs s.abs := obsV_eq (HandSHeadRun.getT_eq s)
theorem h_run (w : World) : HandSHeadRun.RunEq h_R (PySem.W.view h_R.prog [30]) h_hk h_ob 4000 h_names w := by
  intro os
  kernel_rfl
end K75

set_option Elab.async false
set_option linter.all false
set_option maxRecDepth 100000
set_option maxHeartbeats 0
/-! Printed by fin.py: the row holds. -/
namespace K75
open PySem PySem.Spec PyProof.Rows L2 L3
theorem z_abs {C : Cmn} {h : Heap} (X : C.K.In h) (G : h.Ns mainGlobals C.mg) (c : SaysV h_fa h_fn h_ex C.K) : C.mg "abs" = none := free_mk X G c.d (List.mem_of_getElem? (i := 27) rfl)
theorem z_bool {C : Cmn} {h : Heap} (X : C.K.In h) (G : h.Ns mainGlobals C.mg) (c : SaysV h_fa h_fn h_ex C.K) : C.mg "bool" = none := free_mk X G c.d (List.mem_of_getElem? (i := 34) rfl)
theorem z_enumerate {C : Cmn} {h : Heap} (X : C.K.In h) (G : h.Ns mainGlobals C.mg) (c : SaysV h_fa h_fn h_ex C.K) : C.mg "enumerate" = none := free_mk X G c.d (List.mem_of_getElem? (i := 31) rfl)
theorem z_int {C : Cmn} {h : Heap} (X : C.K.In h) (G : h.Ns mainGlobals C.mg) (c : SaysV h_fa h_fn h_ex C.K) : C.mg "int" = none := free_mk X G c.d (List.mem_of_getElem? (i := 26) rfl)
theorem z_isinstance {C : Cmn} {h : Heap} (X : C.K.In h) (G : h.Ns mainGlobals C.mg) (c : SaysV h_fa h_fn h_ex C.K) : C.mg "isinstance" = none := free_mk X G c.d (List.mem_of_getElem? (i := 28) rfl)
theorem z_len {C : Cmn} {h : Heap} (X : C.K.In h) (G : h.Ns mainGlobals C.mg) (c : SaysV h_fa h_fn h_ex C.K) : C.mg "len" = none := free_mk X G c.d (List.mem_of_getElem? (i := 24) rfl)
theorem z_list {C : Cmn} {h : Heap} (X : C.K.In h) (G : h.Ns mainGlobals C.mg) (c : SaysV h_fa h_fn h_ex C.K) : C.mg "list" = none := free_mk X G c.d (List.mem_of_getElem? (i := 29) rfl)
theorem z_max {C : Cmn} {h : Heap} (X : C.K.In h) (G : h.Ns mainGlobals C.mg) (c : SaysV h_fa h_fn h_ex C.K) : C.mg "max" = none := free_mk X G c.d (List.mem_of_getElem? (i := 33) rfl)
theorem z_range {C : Cmn} {h : Heap} (X : C.K.In h) (G : h.Ns mainGlobals C.mg) (c : SaysV h_fa h_fn h_ex C.K) : C.mg "range" = none := free_mk X G c.d (List.mem_of_getElem? (i := 25) rfl)
theorem z_sorted {C : Cmn} {h : Heap} (X : C.K.In h) (G : h.Ns mainGlobals C.mg) (c : SaysV h_fa h_fn h_ex C.K) : C.mg "sorted" = none := free_mk X G c.d (List.mem_of_getElem? (i := 32) rfl)
theorem z_str {C : Cmn} {h : Heap} (X : C.K.In h) (G : h.Ns mainGlobals C.mg) (c : SaysV h_fa h_fn h_ex C.K) : C.mg "str" = none := free_mk X G c.d (List.mem_of_getElem? (i := 35) rfl)
theorem z_tuple {C : Cmn} {h : Heap} (X : C.K.In h) (G : h.Ns mainGlobals C.mg) (c : SaysV h_fa h_fn h_ex C.K) : C.mg "tuple" = none := free_mk X G c.d (List.mem_of_getElem? (i := 30) rfl)
theorem st_steps_of {C : Cmn} {h : Heap} (X : C.K.In h) (G : h.Ns mainGlobals C.mg) (c : SaysV h_fa h_fn h_ex C.K) : Stands C "steps_of" s_steps_of ["value"] := stands_mk X G c.d 0 rfl (List.mem_of_getElem? (i := 0) rfl) fun _ _ _ _ _ _ us hl => match us, hl with | [_], _ => rfl
theorem st_paths_of {C : Cmn} {h : Heap} (X : C.K.In h) (G : h.Ns mainGlobals C.mg) (c : SaysV h_fa h_fn h_ex C.K) : Stands C "paths_of" s_paths_of ["value"] := stands_mk X G c.d 1 rfl (List.mem_of_getElem? (i := 1) rfl) fun _ _ _ _ _ _ us hl => match us, hl with | [_], _ => rfl
theorem st_part_at {C : Cmn} {h : Heap} (X : C.K.In h) (G : h.Ns mainGlobals C.mg) (c : SaysV h_fa h_fn h_ex C.K) : Stands C "part_at" s_part_at ["value", "path"] := stands_mk X G c.d 2 rfl (List.mem_of_getElem? (i := 2) rfl) fun _ _ _ _ _ _ us hl => match us, hl with | [_, _], _ => rfl
theorem st__law_cell {C : Cmn} {h : Heap} (X : C.K.In h) (G : h.Ns mainGlobals C.mg) (c : SaysV h_fa h_fn h_ex C.K) : Stands C "_law_cell" s__law_cell ["script", "k"] := stands_mk X G c.d 3 rfl (List.mem_of_getElem? (i := 3) rfl) fun _ _ _ _ _ _ us hl => match us, hl with | [_, _], _ => rfl
theorem st__law_numbers {C : Cmn} {h : Heap} (X : C.K.In h) (G : h.Ns mainGlobals C.mg) (c : SaysV h_fa h_fn h_ex C.K) : Stands C "_law_numbers" s__law_numbers ["cell", "many"] := stands_mk X G c.d 4 rfl (List.mem_of_getElem? (i := 4) rfl) fun _ _ _ _ _ _ us hl => match us, hl with | [_, _], _ => rfl
theorem st__law_state {C : Cmn} {h : Heap} (X : C.K.In h) (G : h.Ns mainGlobals C.mg) (c : SaysV h_fa h_fn h_ex C.K) : Stands C "_law_state" s__law_state ["script", "left"] := stands_mk X G c.d 5 rfl (List.mem_of_getElem? (i := 5) rfl) fun _ _ _ _ _ _ us hl => match us, hl with | [_, _], _ => rfl
theorem st__law_next {C : Cmn} {h : Heap} (X : C.K.In h) (G : h.Ns mainGlobals C.mg) (c : SaysV h_fa h_fn h_ex C.K) : Stands C "_law_next" s__law_next ["state", "many"] := stands_mk X G c.d 6 rfl (List.mem_of_getElem? (i := 6) rfl) fun _ _ _ _ _ _ us hl => match us, hl with | [_, _], _ => rfl
theorem st__law_same {C : Cmn} {h : Heap} (X : C.K.In h) (G : h.Ns mainGlobals C.mg) (c : SaysV h_fa h_fn h_ex C.K) : Stands C "_law_same" s__law_same ["told", "due"] := stands_mk X G c.d 7 rfl (List.mem_of_getElem? (i := 7) rfl) fun _ _ _ _ _ _ us hl => match us, hl with | [_, _], _ => rfl
theorem st__law_many {C : Cmn} {h : Heap} (X : C.K.In h) (G : h.Ns mainGlobals C.mg) (c : SaysV h_fa h_fn h_ex C.K) : Stands C "_law_many" s__law_many ["state", "wide"] := stands_mk X G c.d 8 rfl (List.mem_of_getElem? (i := 8) rfl) fun _ _ _ _ _ _ us hl => match us, hl with | [_, _], _ => rfl
theorem st__law_big {C : Cmn} {h : Heap} (X : C.K.In h) (G : h.Ns mainGlobals C.mg) (c : SaysV h_fa h_fn h_ex C.K) : Stands C "_law_big" s__law_big ["state", "many"] := stands_mk X G c.d 9 rfl (List.mem_of_getElem? (i := 9) rfl) fun _ _ _ _ _ _ us hl => match us, hl with | [_, _], _ => rfl
theorem st__law_normal {C : Cmn} {h : Heap} (X : C.K.In h) (G : h.Ns mainGlobals C.mg) (c : SaysV h_fa h_fn h_ex C.K) : Stands C "_law_normal" s__law_normal ["m", "e"] := stands_mk X G c.d 10 rfl (List.mem_of_getElem? (i := 10) rfl) fun _ _ _ _ _ _ us hl => match us, hl with | [_, _], _ => rfl
theorem st__law_number {C : Cmn} {h : Heap} (X : C.K.In h) (G : h.Ns mainGlobals C.mg) (c : SaysV h_fa h_fn h_ex C.K) : Stands C "_law_number" s__law_number ["state"] := stands_mk X G c.d 11 rfl (List.mem_of_getElem? (i := 11) rfl) fun _ _ _ _ _ _ us hl => match us, hl with | [_], _ => rfl
theorem st__law_points {C : Cmn} {h : Heap} (X : C.K.In h) (G : h.Ns mainGlobals C.mg) (c : SaysV h_fa h_fn h_ex C.K) : Stands C "_law_points" s__law_points ["state"] := stands_mk X G c.d 12 rfl (List.mem_of_getElem? (i := 12) rfl) fun _ _ _ _ _ _ us hl => match us, hl with | [_], _ => rfl
theorem st__law_octets {C : Cmn} {h : Heap} (X : C.K.In h) (G : h.Ns mainGlobals C.mg) (c : SaysV h_fa h_fn h_ex C.K) : Stands C "_law_octets" s__law_octets ["state"] := stands_mk X G c.d 13 rfl (List.mem_of_getElem? (i := 13) rfl) fun _ _ _ _ _ _ us hl => match us, hl with | [_], _ => rfl
theorem st__law_leaf {C : Cmn} {h : Heap} (X : C.K.In h) (G : h.Ns mainGlobals C.mg) (c : SaysV h_fa h_fn h_ex C.K) : Stands C "_law_leaf" s__law_leaf ["state", "kinds"] := stands_mk X G c.d 14 rfl (List.mem_of_getElem? (i := 14) rfl) fun _ _ _ _ _ _ us hl => match us, hl with | [_, _], _ => rfl
theorem st__law_value {C : Cmn} {h : Heap} (X : C.K.In h) (G : h.Ns mainGlobals C.mg) (c : SaysV h_fa h_fn h_ex C.K) : Stands C "_law_value" s__law_value ["state", "deep", "kinds", "has_maps"] := stands_mk X G c.d 15 rfl (List.mem_of_getElem? (i := 15) rfl) fun _ _ _ _ _ _ us hl => match us, hl with | [_, _, _, _], _ => rfl
theorem st__law_depth {C : Cmn} {h : Heap} (X : C.K.In h) (G : h.Ns mainGlobals C.mg) (c : SaysV h_fa h_fn h_ex C.K) : Stands C "_law_depth" s__law_depth ["value"] := stands_mk X G c.d 16 rfl (List.mem_of_getElem? (i := 16) rfl) fun _ _ _ _ _ _ us hl => match us, hl with | [_], _ => rfl
theorem st__law_part {C : Cmn} {h : Heap} (X : C.K.In h) (G : h.Ns mainGlobals C.mg) (c : SaysV h_fa h_fn h_ex C.K) : Stands C "_law_part" s__law_part ["value", "path"] := stands_mk X G c.d 17 rfl (List.mem_of_getElem? (i := 17) rfl) fun _ _ _ _ _ _ us hl => match us, hl with | [_, _], _ => rfl
theorem st__law_steps {C : Cmn} {h : Heap} (X : C.K.In h) (G : h.Ns mainGlobals C.mg) (c : SaysV h_fa h_fn h_ex C.K) : Stands C "_law_steps" s__law_steps ["value"] := stands_mk X G c.d 18 rfl (List.mem_of_getElem? (i := 18) rfl) fun _ _ _ _ _ _ us hl => match us, hl with | [_], _ => rfl
theorem st__law_ways {C : Cmn} {h : Heap} (X : C.K.In h) (G : h.Ns mainGlobals C.mg) (c : SaysV h_fa h_fn h_ex C.K) : Stands C "_law_ways" s__law_ways ["value"] := stands_mk X G c.d 19 rfl (List.mem_of_getElem? (i := 19) rfl) fun _ _ _ _ _ _ us hl => match us, hl with | [_], _ => rfl
theorem st__law_drawn {C : Cmn} {h : Heap} (X : C.K.In h) (G : h.Ns mainGlobals C.mg) (c : SaysV h_fa h_fn h_ex C.K) : Stands C "_law_drawn" s__law_drawn ["state"] := stands_mk X G c.d 20 rfl (List.mem_of_getElem? (i := 20) rfl) fun _ _ _ _ _ _ us hl => match us, hl with | [_], _ => rfl
theorem st__law_found {C : Cmn} {h : Heap} (X : C.K.In h) (G : h.Ns mainGlobals C.mg) (c : SaysV h_fa h_fn h_ex C.K) : Stands C "_law_found" s__law_found ["value", "path"] := stands_mk X G c.d 21 rfl (List.mem_of_getElem? (i := 21) rfl) fun _ _ _ _ _ _ us hl => match us, hl with | [_, _], _ => rfl
theorem st__law_strays {C : Cmn} {h : Heap} (X : C.K.In h) (G : h.Ns mainGlobals C.mg) (c : SaysV h_fa h_fn h_ex C.K) : Stands C "_law_strays" s__law_strays ["state", "value"] := stands_mk X G c.d 22 rfl (List.mem_of_getElem? (i := 22) rfl) fun _ _ _ _ _ _ us hl => match us, hl with | [_, _], _ => rfl
theorem st_law {C : Cmn} {h : Heap} (X : C.K.In h) (G : h.Ns mainGlobals C.mg) (c : SaysV h_fa h_fn h_ex C.K) : Stands C "law" s_law ["script"] := stands_mk X G c.d 23 rfl (List.mem_of_getElem? (i := 23) rfl) fun _ _ _ _ _ _ us hl => match us, hl with | [_], _ => rfl
theorem ex_Astray {C : Cmn} {h : Heap} (X : C.K.In h) (G : h.Ns mainGlobals C.mg) (c : SaysV h_fa h_fn h_ex C.K) : ExcT C "Astray" (He.ga C.K "Astray") := by
  obtain ⟨fd, F⟩ := c.d.def_ 24 (d := ⟨("Astray", some "__init__"), "__init__", "AlikeError.__init__", defArgs s_init_Astray, defBody s_init_Astray, defScope s_init_Astray, [.non], []⟩) rfl
  have Sc : FnScope ["self", "what"] ["self", "what"] (defScope s_init_Astray) := ⟨rfl, rfl, rfl, by decide +kernel, rfl, by decide +kernel, by decide +kernel⟩
  obtain ⟨ds, hv, hb⟩ := FunD.binds1 (ps := ["self", "what"]) F 2 1 (fun z => by cases z) rfl (fun T kV doc pm an cdv ct us its hu hi => match us, hu, its, hi with | [_, _], _, [_], _ => ⟨_, rfl, rfl⟩)
  have e0 : ds = [] := by cases hv; rfl
  subst e0
  have m := c.more
  simp only [h_ex, Bool.and_eq_true] at m
  exact excT_mk X G m.1.1.1.1 rfl (init_ok F Sc (by decide +kernel) (by decide +kernel)) hb
theorem ex_Misplaced {C : Cmn} {h : Heap} (X : C.K.In h) (G : h.Ns mainGlobals C.mg) (c : SaysV h_fa h_fn h_ex C.K) : ExcT C "Misplaced" (He.ga C.K "Misplaced") := by
  obtain ⟨fd, F⟩ := c.d.def_ 25 (d := ⟨("Misplaced", some "__init__"), "__init__", "AlikeError.__init__", defArgs s_init_Misplaced, defBody s_init_Misplaced, defScope s_init_Misplaced, [.non], []⟩) rfl
  have Sc : FnScope ["self", "what"] ["self", "what"] (defScope s_init_Misplaced) := ⟨rfl, rfl, rfl, by decide +kernel, rfl, by decide +kernel, by decide +kernel⟩
  obtain ⟨ds, hv, hb⟩ := FunD.binds1 (ps := ["self", "what"]) F 2 1 (fun z => by cases z) rfl (fun T kV doc pm an cdv ct us its hu hi => match us, hu, its, hi with | [_, _], _, [_], _ => ⟨_, rfl, rfl⟩)
  have e0 : ds = [] := by cases hv; rfl
  subst e0
  have m := c.more
  simp only [h_ex, Bool.and_eq_true] at m
  exact excT_mk X G m.1.1.1.2 rfl (init_ok F Sc (by decide +kernel) (by decide +kernel)) hb
theorem ex_Overdeep {C : Cmn} {h : Heap} (X : C.K.In h) (G : h.Ns mainGlobals C.mg) (c : SaysV h_fa h_fn h_ex C.K) : ExcT C "Overdeep" (He.ga C.K "Overdeep") := by
  obtain ⟨fd, F⟩ := c.d.def_ 26 (d := ⟨("Overdeep", some "__init__"), "__init__", "AlikeError.__init__", defArgs s_init_Overdeep, defBody s_init_Overdeep, defScope s_init_Overdeep, [.non], []⟩) rfl
  have Sc : FnScope ["self", "what"] ["self", "what"] (defScope s_init_Overdeep) := ⟨rfl, rfl, rfl, by decide +kernel, rfl, by decide +kernel, by decide +kernel⟩
  obtain ⟨ds, hv, hb⟩ := FunD.binds1 (ps := ["self", "what"]) F 2 1 (fun z => by cases z) rfl (fun T kV doc pm an cdv ct us its hu hi => match us, hu, its, hi with | [_, _], _, [_], _ => ⟨_, rfl, rfl⟩)
  have e0 : ds = [] := by cases hv; rfl
  subst e0
  have m := c.more
  simp only [h_ex, Bool.and_eq_true] at m
  exact excT_mk X G m.1.1.2 rfl (init_ok F Sc (by decide +kernel) (by decide +kernel)) hb
theorem kit_M {C : Cmn} {h : Heap} (X : C.K.In h) (G : h.Ns mainGlobals C.mg) (c : SaysV h_fa h_fn h_ex C.K) : PySem.W.kitOne C.K (.ref (He.ga C.K "Astray")) (.ref (He.ga C.K "Misplaced")) = some false := by
  have m := c.more
  simp only [h_ex, Bool.and_eq_true, decide_eq_true_eq] at m
  exact m.1.2
theorem kit_O {C : Cmn} {h : Heap} (X : C.K.In h) (G : h.Ns mainGlobals C.mg) (c : SaysV h_fa h_fn h_ex C.K) : PySem.W.kitOne C.K (.ref (He.ga C.K "Astray")) (.ref (He.ga C.K "Overdeep")) = some false := by
  have m := c.more
  simp only [h_ex, Bool.and_eq_true, decide_eq_true_eq] at m
  exact m.2
theorem ok_steps_of {C : Cmn} {h : Heap} (X : C.K.In h) (G : h.Ns mainGlobals C.mg) (c : SaysV h_fa h_fn h_ex C.K) : DefOk C 1 "steps_of" sp_steps := (st_steps_of X G c).ok sc_steps_of (fun ds S Q E z => by obtain ⟨_, _, rfl, _⟩ := z; rfl) (dv_steps_of (k := 0) (z_enumerate X G c) (z_list X G c)) (w_steps)
theorem rec_paths_of {C : Cmn} {h : Heap} (X : C.K.In h) (G : h.Ns mainGlobals C.mg) (c : SaysV h_fa h_fn h_ex C.K) : ∀ n, DefOk C (n + 1) "paths_of" (sp_ways n)
  | 0 => ((st_paths_of X G c).none (fun ds S Q E z => by obtain ⟨_, _, _, hz, _⟩ := z; omega)).mono (Nat.zero_le _)
  | n + 1 => (st_paths_of X G c).ok sc_paths_of (fun ds S Q E z => by obtain ⟨_, _, _, _, _, _, rfl, _⟩ := z; rfl) (dv_paths_of (k := n + 1) (rec_paths_of X G c n) ((ok_steps_of X G c).mono (by omega))) (w_paths n)
theorem ok_paths_of {C : Cmn} {h : Heap} (X : C.K.In h) (G : h.Ns mainGlobals C.mg) (c : SaysV h_fa h_fn h_ex C.K) : DefOk C 30 "paths_of" (sp_ways 29) := rec_paths_of X G c 29
theorem ok_part_at {C : Cmn} {h : Heap} (X : C.K.In h) (G : h.Ns mainGlobals C.mg) (c : SaysV h_fa h_fn h_ex C.K) : DefOk C 3 "part_at" (sp_part (He.ga C.K "Astray")) := (st_part_at X G c).ok sc_part_at (fun ds S Q E z => by obtain ⟨_, _, _, rfl, _⟩ := z; rfl) (dv_part_at (k := 0) (z_tuple X G c) (ex_Astray X G c) ((ok_steps_of X G c).mono (by omega))) (w_part _)
theorem ok__law_cell {C : Cmn} {h : Heap} (X : C.K.In h) (G : h.Ns mainGlobals C.mg) (c : SaysV h_fa h_fn h_ex C.K) : DefOk C 1 "_law_cell" sp_cell := (st__law_cell X G c).ok sc__law_cell (fun ds S Q E z => by obtain ⟨_, _, rfl, _⟩ := z; rfl) (dv__law_cell (k := 0) (z_len X G c)) (w_cell)
theorem ok__law_numbers {C : Cmn} {h : Heap} (X : C.K.In h) (G : h.Ns mainGlobals C.mg) (c : SaysV h_fa h_fn h_ex C.K) : DefOk C 1 "_law_numbers" sp_numbers := (st__law_numbers X G c).ok sc__law_numbers (fun ds S Q E z => by obtain ⟨_, _, rfl, _⟩ := z; rfl) (dv__law_numbers (k := 0) (z_abs X G c) (z_int X G c) (z_range X G c)) (w_numbers)
theorem ok__law_state {C : Cmn} {h : Heap} (X : C.K.In h) (G : h.Ns mainGlobals C.mg) (c : SaysV h_fa h_fn h_ex C.K) : DefOk C 2 "_law_state" sp_state := (st__law_state X G c).ok sc__law_state (fun ds S Q E z => by obtain ⟨_, _, rfl, _⟩ := z; rfl) (dv__law_state (k := 1) (z_range X G c) ((ok__law_cell X G c).mono (by omega)) ((ok__law_numbers X G c).mono (by omega))) (w_state)
theorem ok__law_next {C : Cmn} {h : Heap} (X : C.K.In h) (G : h.Ns mainGlobals C.mg) (c : SaysV h_fa h_fn h_ex C.K) : DefOk C 1 "_law_next" sp_next := (st__law_next X G c).ok sc__law_next (fun ds S Q E z => by obtain ⟨_, _, _, rfl, _⟩ := z; rfl) (dv__law_next (k := 0) (z_int X G c)) (w_next)
theorem rec__law_same {C : Cmn} {h : Heap} (X : C.K.In h) (G : h.Ns mainGlobals C.mg) (c : SaysV h_fa h_fn h_ex C.K) : ∀ n, DefOk C (n + 0) "_law_same" (sp_same n)
  | 0 => ((st__law_same X G c).none (fun ds S Q E z => by obtain ⟨_, _, hz, _⟩ := z; omega)).mono (Nat.zero_le _)
  | n + 1 => (st__law_same X G c).ok sc__law_same (fun ds S Q E z => by obtain ⟨_, _, _, rfl, _⟩ := z; rfl) (dv__law_same (k := n + 0) (z_bool X G c) (z_int X G c) (z_isinstance X G c) (z_len X G c) (z_list X G c) (z_range X G c) (z_str X G c) (z_tuple X G c) (rec__law_same X G c n)) (w_same n)
theorem ok__law_same {C : Cmn} {h : Heap} (X : C.K.In h) (G : h.Ns mainGlobals C.mg) (c : SaysV h_fa h_fn h_ex C.K) : DefOk C 200 "_law_same" (sp_same 200) := rec__law_same X G c 200
theorem ok__law_many {C : Cmn} {h : Heap} (X : C.K.In h) (G : h.Ns mainGlobals C.mg) (c : SaysV h_fa h_fn h_ex C.K) : DefOk C 2 "_law_many" sp_many := (st__law_many X G c).ok sc__law_many (fun ds S Q E z => by obtain ⟨_, _, _, rfl, _⟩ := z; rfl) (dv__law_many (k := 1) ((ok__law_next X G c).mono (by omega))) (w_many)
theorem ok__law_big {C : Cmn} {h : Heap} (X : C.K.In h) (G : h.Ns mainGlobals C.mg) (c : SaysV h_fa h_fn h_ex C.K) : DefOk C 2 "_law_big" sp_big := (st__law_big X G c).ok sc__law_big (fun ds S Q E z => by obtain ⟨_, _, _, rfl, _⟩ := z; rfl) (dv__law_big (k := 1) (z_abs X G c) (z_int X G c) ((ok__law_cell X G c).mono (by omega)) ((ok__law_next X G c).mono (by omega))) (w_big)
theorem ok__law_normal {C : Cmn} {h : Heap} (X : C.K.In h) (G : h.Ns mainGlobals C.mg) (c : SaysV h_fa h_fn h_ex C.K) : DefOk C 1 "_law_normal" sp_normal := (st__law_normal X G c).ok sc__law_normal (fun ds S Q E z => by obtain ⟨_, _, rfl, _⟩ := z; rfl) (dv__law_normal (k := 0) (z_range X G c)) (w_normal)
theorem ok__law_number {C : Cmn} {h : Heap} (X : C.K.In h) (G : h.Ns mainGlobals C.mg) (c : SaysV h_fa h_fn h_ex C.K) : DefOk C 3 "_law_number" sp_number := (st__law_number X G c).ok sc__law_number (fun ds S Q E z => by obtain ⟨_, _, rfl, _⟩ := z; rfl) (dv__law_number (k := 2) (z_abs X G c) (z_range X G c) ((ok__law_big X G c).mono (by omega)) ((ok__law_next X G c).mono (by omega)) ((ok__law_normal X G c).mono (by omega))) (w_number)
theorem ok__law_points {C : Cmn} {h : Heap} (X : C.K.In h) (G : h.Ns mainGlobals C.mg) (c : SaysV h_fa h_fn h_ex C.K) : DefOk C 3 "_law_points" sp_points := (st__law_points X G c).ok sc__law_points (fun ds S Q E z => by obtain ⟨_, _, rfl, _⟩ := z; rfl) (dv__law_points (k := 2) (z_int X G c) (z_range X G c) (z_tuple X G c) ((ok__law_many X G c).mono (by omega)) ((ok__law_next X G c).mono (by omega))) (w_points)
theorem ok__law_octets {C : Cmn} {h : Heap} (X : C.K.In h) (G : h.Ns mainGlobals C.mg) (c : SaysV h_fa h_fn h_ex C.K) : DefOk C 3 "_law_octets" sp_octets := (st__law_octets X G c).ok sc__law_octets (fun ds S Q E z => by obtain ⟨_, _, rfl, _⟩ := z; rfl) (dv__law_octets (k := 2) (z_range X G c) (z_tuple X G c) ((ok__law_many X G c).mono (by omega)) ((ok__law_next X G c).mono (by omega))) (w_octets)
theorem ok__law_leaf {C : Cmn} {h : Heap} (X : C.K.In h) (G : h.Ns mainGlobals C.mg) (c : SaysV h_fa h_fn h_ex C.K) : DefOk C 4 "_law_leaf" sp_leaf := (st__law_leaf X G c).ok sc__law_leaf (fun ds S Q E z => by obtain ⟨_, _, _, rfl, _⟩ := z; rfl) (dv__law_leaf (k := 3) (z_len X G c) ((ok__law_next X G c).mono (by omega)) ((ok__law_number X G c).mono (by omega)) ((ok__law_octets X G c).mono (by omega)) ((ok__law_points X G c).mono (by omega))) (w_leaf)
theorem rec__law_value {C : Cmn} {h : Heap} (X : C.K.In h) (G : h.Ns mainGlobals C.mg) (c : SaysV h_fa h_fn h_ex C.K) : ∀ n, DefOk C (n + 4) "_law_value" (sp_value n)
  | 0 => ((st__law_value X G c).none (fun ds S Q E z => by obtain ⟨_, _, _, _, _, hz, _⟩ := z; omega)).mono (Nat.zero_le _)
  | n + 1 => (st__law_value X G c).ok sc__law_value (fun ds S Q E z => by obtain ⟨_, _, _, _, _, _, rfl, _⟩ := z; rfl) (dv__law_value (k := n + 4) (z_range X G c) (z_sorted X G c) (z_tuple X G c) ((ok__law_leaf X G c).mono (by omega)) ((ok__law_many X G c).mono (by omega)) ((ok__law_next X G c).mono (by omega)) ((ok__law_points X G c).mono (by omega)) (rec__law_value X G c n)) (w_value n)
theorem ok__law_value {C : Cmn} {h : Heap} (X : C.K.In h) (G : h.Ns mainGlobals C.mg) (c : SaysV h_fa h_fn h_ex C.K) : DefOk C 9 "_law_value" (sp_value 5) := rec__law_value X G c 5
theorem rec__law_depth {C : Cmn} {h : Heap} (X : C.K.In h) (G : h.Ns mainGlobals C.mg) (c : SaysV h_fa h_fn h_ex C.K) : ∀ n, DefOk C (n + 0) "_law_depth" (sp_depth n)
  | 0 => ((st__law_depth X G c).none (fun ds S Q E z => by obtain ⟨_, _, hz, _⟩ := z; omega)).mono (Nat.zero_le _)
  | n + 1 => (st__law_depth X G c).ok sc__law_depth (fun ds S Q E z => by obtain ⟨_, _, _, rfl, _⟩ := z; rfl) (dv__law_depth (k := n + 0) (z_max X G c) (rec__law_depth X G c n)) (w_depth n)
theorem ok__law_depth {C : Cmn} {h : Heap} (X : C.K.In h) (G : h.Ns mainGlobals C.mg) (c : SaysV h_fa h_fn h_ex C.K) : DefOk C 29 "_law_depth" (sp_depth 29) := rec__law_depth X G c 29
theorem ok__law_part {C : Cmn} {h : Heap} (X : C.K.In h) (G : h.Ns mainGlobals C.mg) (c : SaysV h_fa h_fn h_ex C.K) : DefOk C 1 "_law_part" sp_lpart := (st__law_part X G c).ok sc__law_part (fun ds S Q E z => by obtain ⟨_, _, _, _, rfl, _⟩ := z; rfl) (dv__law_part (k := 0) ) (w_lpart)
theorem ok__law_steps {C : Cmn} {h : Heap} (X : C.K.In h) (G : h.Ns mainGlobals C.mg) (c : SaysV h_fa h_fn h_ex C.K) : DefOk C 1 "_law_steps" sp_steps := (st__law_steps X G c).ok sc__law_steps (fun ds S Q E z => by obtain ⟨_, _, rfl, _⟩ := z; rfl) (dv__law_steps (k := 0) (z_len X G c) (z_list X G c) (z_range X G c)) (w_lsteps)
theorem rec__law_ways {C : Cmn} {h : Heap} (X : C.K.In h) (G : h.Ns mainGlobals C.mg) (c : SaysV h_fa h_fn h_ex C.K) : ∀ n, DefOk C (n + 1) "_law_ways" (sp_ways n)
  | 0 => ((st__law_ways X G c).none (fun ds S Q E z => by obtain ⟨_, _, _, hz, _⟩ := z; omega)).mono (Nat.zero_le _)
  | n + 1 => (st__law_ways X G c).ok sc__law_ways (fun ds S Q E z => by obtain ⟨_, _, _, _, _, _, rfl, _⟩ := z; rfl) (dv__law_ways (k := n + 1) ((ok__law_steps X G c).mono (by omega)) (rec__law_ways X G c n)) (w_ways n)
theorem ok__law_ways {C : Cmn} {h : Heap} (X : C.K.In h) (G : h.Ns mainGlobals C.mg) (c : SaysV h_fa h_fn h_ex C.K) : DefOk C 30 "_law_ways" (sp_ways 29) := rec__law_ways X G c 29
theorem ok__law_drawn {C : Cmn} {h : Heap} (X : C.K.In h) (G : h.Ns mainGlobals C.mg) (c : SaysV h_fa h_fn h_ex C.K) : DefOk C 30 "_law_drawn" sp_drawn := (st__law_drawn X G c).ok sc__law_drawn (fun ds S Q E z => by obtain ⟨_, _, rfl, _⟩ := z; rfl) (dv__law_drawn (k := 29) (z_range X G c) ((ok__law_depth X G c).mono (by omega)) ((ok__law_next X G c).mono (by omega)) ((ok__law_points X G c).mono (by omega)) ((ok__law_value X G c).mono (by omega))) (w_drawn)
theorem ok__law_found {C : Cmn} {h : Heap} (X : C.K.In h) (G : h.Ns mainGlobals C.mg) (c : SaysV h_fa h_fn h_ex C.K) : DefOk C 4 "_law_found" sp_found := (st__law_found X G c).ok sc__law_found (fun ds S Q E z => by obtain ⟨_, _, _, rfl, _⟩ := z; rfl) (dv__law_found (k := 3) (z_isinstance X G c) (ex_Astray X G c) (ex_Misplaced X G c) (ex_Overdeep X G c) ((ok_part_at X G c).mono (by omega))) (w_found C _ _ _ (He.exm_ok (c.d.fact 36 (f := .exm "Astray" "Astray" true) rfl)) (kit_M X G c) (kit_O X G c))
theorem ok__law_strays {C : Cmn} {h : Heap} (X : C.K.In h) (G : h.Ns mainGlobals C.mg) (c : SaysV h_fa h_fn h_ex C.K) : DefOk C 4 "_law_strays" sp_strays := (st__law_strays X G c).ok sc__law_strays (fun ds S Q E z => by obtain ⟨_, _, _, _, rfl, _⟩ := z; rfl) (dv__law_strays (k := 3) (z_len X G c) ((ok__law_next X G c).mono (by omega)) ((ok__law_points X G c).mono (by omega)) ((ok__law_steps X G c).mono (by omega))) (w_strays)
theorem facts {P : Program} {w : World} {K : PySem.W.Frag} {h : Heap} {mg : Str → Option Value} {f : Addr} (X : K.In h) (G : h.Ns mainGlobals mg) (hfa : mg ("law" : Str) = some (.ref f)) (c : SaysV h_fa h_fn h_ex K) :
    ∃ fd : FuncData, (∀ (s : Shared) (v : Value), BindsTo s fd ⟨[v], []⟩ [("script", v)]) ∧ ∀ base : Heap, K.In base → base.Ns mainGlobals mg → FnOk P w K mg base CX0 201 f fd ["script"] (spLaw K) := by
  obtain ⟨fd, F⟩ := c.d.def_ 23 (d := ⟨("law", none), "law", "law", defArgs s_law, defBody s_law, defScope s_law, [], []⟩) rfl
  have e := hfa.symm.trans (He.glo_ok X G (c.d.fact 23 (f := .glo "law") rfl))
  cases e
  have b := FunD.bindsA (ps := ["script"]) F fun _ _ _ _ _ _ us hl => match us, hl with | [_], _ => rfl
  refine ⟨fd, fun s v => b s [v] rfl, fun base _ _ => law_fn (C := ⟨P, w, K, mg, base⟩) (fn_ok (C := ⟨P, w, K, mg, base⟩) F sc_law (fun ds S Q E z => by obtain ⟨_, rfl, _⟩ := z; rfl) (dv_law (C := ⟨P, w, K, mg, base⟩) (k := 200) (z_abs X G c) (z_int X G c) (z_len X G c) (z_range X G c) ((ok__law_cell X G c).mono (by omega)) ((ok__law_drawn X G c).mono (by omega)) ((ok__law_found X G c).mono (by omega)) ((ok__law_next X G c).mono (by omega)) ((ok__law_part X G c).mono (by omega)) ((ok__law_points X G c).mono (by omega)) ((ok__law_same X G c).mono (by omega)) ((ok__law_state X G c).mono (by omega)) ((ok__law_strays X G c).mono (by omega)) ((ok__law_ways X G c).mono (by omega)) ((ok_paths_of X G c).mono (by omega))) w_law)⟩
end K75
open PySem PySem.W PySem.Calls PyProof.Rows
theorem PySem.Challenge.cw_formsbrief_k75_paths_and_parts_holds : PySem.Challenge.rw_formsbrief_k75_paths_and_parts.Holds := by
  w_on; o_law
  refine HandSHeadRun.head_any (r := OpenLaw.row PySem.Challenge.rw_formsbrief_k75_paths_and_parts) (q := view (OpenLaw.row PySem.Challenge.rw_formsbrief_k75_paths_and_parts).prog [30]) (H := K75.h_hk) (ob := K75.h_ob) (M := 4000) (loose := K75.h_names) (d := HandSHeadRun.topDef (OpenLaw.row PySem.Challenge.rw_formsbrief_k75_paths_and_parts).prog 30) (kwd := []) K75.h_ob_eq
    (by kernel_rfl) (fun s => by kernel_rfl) K75.h_run (by kernel_rfl) (by kernel_rfl) (by kernel_rfl) (by rfl) (by first | assumption | decide +kernel) (by decide +kernel) ⟨rfl, rfl, rfl, rfl, rfl, by decide +kernel⟩ ?hw ?hc
  case hw => w_witness2
  case hc =>
    refine L2.walk_ofE (l := PySem.Challenge.rw_formsbrief_k75_paths_and_parts) (n := 63) (k := 201) (x := "script") (CX := L2.CX0) rfl (by decide) (by kernel_rfl) ⟨rfl, by decide, by decide⟩ ?F (fun _ _ _ _ z => z)
    intro w mg fa h Y G hmg0
    obtain ⟨K, KX, c⟩ := Y
    have hmg : mg ("law" : PySem.Str) = some (.ref fa) := by
      have e : (HandSHeadRun.topDef (OpenLaw.row PySem.Challenge.rw_formsbrief_k75_paths_and_parts).prog 30).name = ("law" : PySem.Str) := by kernel_rfl
      rw [← e]
      exact hmg0
    obtain ⟨fd, hb, hF⟩ := K75.facts (P := (PySem.Challenge.rw_formsbrief_k75_paths_and_parts).prog) (w := w) KX G hmg c
    exact ⟨K, fd, L3.spLaw K, KX, hb, fun H a ns hl _ hS => ⟨a, ns, rfl, hS, hl, fun _ => rfl⟩, hF⟩
