import PyProof.Rows.All
import Wide.All
import OpenK.AllK
import Wide.FinOn
import HandS.ForMost
import HandS.Exc
import HandS.TryOnly
import HandS.ExcOwn
import HandS.WordsExc
import HandS.CallSlots
import HandS.Defaults
import HandS.TupAny
import HandS.Deep
import HandS.IsInst
import HandS.ExcInit
import HandS.ExcField
import HandS.ExcIs
import HandS.TupLe
import HandS.More
import KE.GoesEnum
import KE.GoesMore
import HandS.Wide
import KE.KExcIs
import HandS.Sort
import HandS.SortOrd
import HandS.NamedTupSort
import KE.DatumOrd
import KE.SortData
import HandS.Dict
import HandS.Conv
import KE.DataCmp
import PyProof.RulesMatch
import HandS.Style
import HandS.DictComp
import KE.KStateDown
import HandS.Head0
import HandS.Head1
import HandS.Head2
import HandS.HeadEnd
import HandS.HeadHook1
import HandS.HeadHook2
import PySem.Challenge.RW_formsbrief_k77_differences
set_option Elab.async false
set_option linter.all false
set_option maxRecDepth 100000
set_option maxHeartbeats 4000000
/-! The value layer: readings without a heap. D: a value as a tree; F: what is frozen; S: what may still be written. -/
namespace L3
open PySem PySem.Spec PyProof.Rows L2

/-- a value as a tree; ref: an object that stands in the store, or a class -/
inductive D where
  | non | bl (b : Bool) | int (i : Int) | str (x : Str) | ref (a : Addr) | ty (n : String)
  | tup (xs : List D) | lst (xs : List D) | fix (xs : List D) | ins (C : Addr) (ns : List Str) (xs : List D)
  /-- the exception that an except suite holds: where, its class, its own dict, what it carries -/
  | exc (a Cl dd : Addr) (x : D)

/-- a written tuple begins with a text or an object (so it is no key) -/
def wr : List V → Bool
  | .str _ :: _ => true
  | .ref _ :: _ => true
  | _ => false
def TupAt (K : PySem.W.Frag) (F : Hp) (a : Addr) (vs : List V) : Prop := F a = some (.tup vs) ∨ (SqT K F a vs ∧ wr vs = true)
section
variable (K : PySem.W.Frag) (F : Hp)
mutual
def Rep : D → V → Prop
  | .non, v => v = .non
  | .bl b, v => v = .bl b
  | .int i, v => v = .int i
  | .str x, v => v = .str x
  | .ref a, v => v = .ref a
  | .ty n, v => v = .ty n
  | .exc a _ dd x, v => v = .ref a ∧ ∃ u, F dd = some (.xd [(("what" : Str), u)]) ∧ Rep x u
  | .tup xs, v => ∃ a vs, v = .ref a ∧ TupAt K F a vs ∧ Reps xs vs
  | .lst xs, v => ∃ a vs, v = .ref a ∧ F a = some (.lst vs) ∧ Reps xs vs
  | .fix xs, v => ∃ a vs, v = .ref a ∧ SqL K F a vs ∧ Reps xs vs
  | .ins C ns xs, v => ∃ a dx fs, v = .ref a ∧ F a = some (.ins C dx fs) ∧ fs.map (·.1) = ns ∧ Reps xs (fs.map (·.2))
def Reps : List D → List V → Prop
  | [], vs => vs = []
  | d :: ds, vs => ∃ v r, vs = v :: r ∧ Rep d v ∧ Reps ds r
end
end

theorem same_sqt {K : PySem.W.Frag} {H H' : Hp} {a : Addr} {xs : List V} (e : Same H H') (h : SqT K H a xs) : SqT K H' a xs := by
  rcases h with (h | ⟨o, h⟩) | h
  · exact .inl (.inl (e _ _ h))
  · exact .inl (.inr ⟨o, e _ _ h⟩)
  · exact .inr h
theorem TupAt.sq {K : PySem.W.Frag} {F : Hp} {a : Addr} {vs : List V} (h : TupAt K F a vs) : SqT K F a vs := h.elim SqT.of fun z => z.1
theorem TupAt.mono {K : PySem.W.Frag} {F F' : Hp} {a : Addr} {vs : List V} (e : Same F F') (h : TupAt K F a vs) : TupAt K F' a vs := h.elim (fun z => .inl (e _ _ z)) fun z => .inr ⟨same_sqt e z.1, z.2⟩
mutual
theorem Rep.mono {K : PySem.W.Frag} {F F' : Hp} (e : Same F F') : ∀ (d : D) (v : V), Rep K F d v → Rep K F' d v
  | .non, _, h => h
  | .bl _, _, h => h
  | .int _, _, h => h
  | .str _, _, h => h
  | .ref _, _, h => h
  | .ty _, _, h => h
  | .exc a c dd x, v, h => by
    obtain ⟨h1, u, h2, h3⟩ := h
    exact ⟨h1, u, e _ _ h2, Rep.mono e x u h3⟩
  | .tup xs, v, h => by
    obtain ⟨a, vs, h1, h2, h3⟩ := h
    exact ⟨a, vs, h1, h2.mono e, Reps.mono e xs vs h3⟩
  | .lst xs, v, h => by
    obtain ⟨a, vs, h1, h2, h3⟩ := h
    exact ⟨a, vs, h1, e _ _ h2, Reps.mono e xs vs h3⟩
  | .fix xs, v, h => by
    obtain ⟨a, vs, h1, h2, h3⟩ := h
    exact ⟨a, vs, h1, e.seq h2, Reps.mono e xs vs h3⟩
  | .ins C ns xs, v, h => by
    obtain ⟨a, dx, fs, h1, h2, h3, h4⟩ := h
    exact ⟨a, dx, fs, h1, e _ _ h2, h3, Reps.mono e xs _ h4⟩
theorem Reps.mono {K : PySem.W.Frag} {F F' : Hp} (e : Same F F') : ∀ (ds : List D) (vs : List V), Reps K F ds vs → Reps K F' ds vs
  | [], _, h => h
  | d :: ds, vs, h => by
    obtain ⟨v, r, h1, h2, h3⟩ := h
    exact ⟨v, r, h1, Rep.mono e d v h2, Reps.mono e ds r h3⟩
end
theorem Reps.length {K : PySem.W.Frag} {F : Hp} : ∀ {ds : List D} {vs : List V}, Reps K F ds vs → ds.length = vs.length
  | [], _, h => by cases h; rfl
  | d :: ds, vs, h => by
    obtain ⟨v, r, rfl, _, h3⟩ := h
    simp [Reps.length h3]
theorem Reps.get {K : PySem.W.Frag} {F : Hp} : ∀ {ds : List D} {vs : List V} {i : Nat} {d : D}, Reps K F ds vs → ds[i]? = some d → ∃ v, vs[i]? = some v ∧ Rep K F d v
  | [], _, _, _, _, e => by simp at e
  | d :: ds, vs, 0, d', h, e => by
    obtain ⟨v, r, rfl, h2, _⟩ := h
    simp at e; subst e
    exact ⟨v, by simp, h2⟩
  | d :: ds, vs, i + 1, d', h, e => by
    obtain ⟨v, r, rfl, _, h3⟩ := h
    obtain ⟨v', h4, h5⟩ := Reps.get (i := i) h3 (by simpa using e)
    exact ⟨v', by simpa using h4, h5⟩
theorem Reps.get' {K : PySem.W.Frag} {F : Hp} {ds : List D} {vs : List V} {i : Nat} {v : V} (h : Reps K F ds vs) (e : vs[i]? = some v) : ∃ d, ds[i]? = some d ∧ Rep K F d v := by
  have hl := h.length
  obtain ⟨hi, _⟩ := List.getElem?_eq_some_iff.mp e
  have hd : ds[i]? = some ds[i] := List.getElem?_eq_getElem (by omega)
  obtain ⟨v', h1, h2⟩ := h.get hd
  rw [e] at h1; cases h1
  exact ⟨_, hd, h2⟩
theorem Reps.append {K : PySem.W.Frag} {F : Hp} : ∀ {ds es : List D} {vs ws : List V}, Reps K F ds vs → Reps K F es ws → Reps K F (ds ++ es) (vs ++ ws)
  | [], _, _, _, h, h' => by cases h; exact h'
  | d :: ds, _, _, _, h, h' => by
    obtain ⟨v, r, rfl, h2, h3⟩ := h
    exact ⟨v, _, rfl, h2, Reps.append h3 h'⟩
theorem Reps.take {K : PySem.W.Frag} {F : Hp} : ∀ {ds : List D} {vs : List V} (n : Nat), Reps K F ds vs → Reps K F (ds.take n) (vs.take n)
  | _, _, 0, _ => rfl
  | [], _, n + 1, h => by cases h; rfl
  | d :: ds, _, n + 1, h => by
    obtain ⟨v, r, rfl, h2, h3⟩ := h
    exact ⟨v, _, rfl, h2, Reps.take n h3⟩
theorem Reps.drop {K : PySem.W.Frag} {F : Hp} : ∀ {ds : List D} {vs : List V} (n : Nat), Reps K F ds vs → Reps K F (ds.drop n) (vs.drop n)
  | _, _, 0, h => h
  | [], _, n + 1, h => by cases h; rfl
  | d :: ds, _, n + 1, h => by
    obtain ⟨v, r, rfl, h2, h3⟩ := h
    exact Reps.drop n h3
theorem Reps.set {K : PySem.W.Frag} {F : Hp} {d : D} {v : V} (r : Rep K F d v) : ∀ {ds : List D} {vs : List V} (n : Nat), Reps K F ds vs → Reps K F (ds.set n d) (vs.set n v)
  | [], _, _, h => by cases h; rfl
  | d :: ds, _, 0, h => by
    obtain ⟨v, r', rfl, h2, h3⟩ := h
    exact ⟨_, _, rfl, r, h3⟩
  | d :: ds, _, n + 1, h => by
    obtain ⟨v, r', rfl, h2, h3⟩ := h
    exact ⟨v, _, rfl, h2, Reps.set r n h3⟩
theorem Reps.reverse {K : PySem.W.Frag} {F : Hp} : ∀ {ds : List D} {vs : List V}, Reps K F ds vs → Reps K F ds.reverse vs.reverse
  | [], _, h => by cases h; rfl
  | d :: ds, _, h => by
    obtain ⟨v, r, rfl, h2, h3⟩ := h
    rw [List.reverse_cons, List.reverse_cons]
    exact Reps.append (Reps.reverse h3) ⟨v, [], rfl, h2, rfl⟩
theorem Reps.one {K : PySem.W.Frag} {F : Hp} {d : D} {v : V} (h : Rep K F d v) : Reps K F [d] [v] := ⟨v, [], rfl, h, rfl⟩
theorem Reps.ints {K : PySem.W.Frag} {F : Hp} : ∀ {ns : List Int} {vs : List V}, Reps K F (ns.map D.int) vs → vs = ns.map V.int
  | [], _, h => h
  | n :: ns, _, h => by
    obtain ⟨v, r, rfl, h2, h3⟩ := h
    rw [Reps.ints h3, show v = V.int n from h2] <;> rfl
theorem Reps.ofInts {K : PySem.W.Frag} {F : Hp} : ∀ (ns : List Int), Reps K F (ns.map D.int) (ns.map V.int)
  | [] => rfl
  | n :: ns => ⟨_, _, rfl, rfl, Reps.ofInts ns⟩

/-! ### the store -/
inductive SO where
  | lst (xs : List D) | ins (C : Addr) (ns : List Str) (xs : List D)
  | dK (ks : List Key) (xs : List D) | dT (ks : List (List Key)) (xs : List D)
  /-- a dict that is being walked -/
  | fT (od : Obj) (kvs : List (List Key × V)) (xs : List D)
abbrev Sto := Addr → Option SO
def sup (S : Sto) (a : Addr) (o : SO) : Sto := fun b => if b = a then some o else S b
def sdel (S : Sto) (a : Addr) : Sto := fun b => if b = a then none else S b
theorem sup_same {S : Sto} {a : Addr} {o : SO} : sup S a o a = some o := if_pos rfl
theorem sup_ne {S : Sto} {a b : Addr} {o : SO} (h : b ≠ a) : sup S a o b = S b := if_neg h
theorem sdel_same {S : Sto} {a : Addr} : sdel S a a = none := if_pos rfl
theorem sdel_ne {S : Sto} {a b : Addr} (h : b ≠ a) : sdel S a b = S b := if_neg h
theorem sup_sup {S : Sto} {a : Addr} {o u : SO} : sup (sup S a o) a u = sup S a u := by
  funext b; unfold sup; split <;> rfl
def RepO (K : PySem.W.Frag) (F : Hp) : SO → HO → Prop
  | .lst xs, h => ∃ vs, h = .lst vs ∧ Reps K F xs vs
  | .ins C ns xs, h => ∃ dx fs, h = .ins C dx fs ∧ fs.map (·.1) = ns ∧ Reps K F xs (fs.map (·.2))
  | .dK ks xs, h => ∃ kvs, h = .dK kvs ∧ kvs.map (·.1) = ks ∧ Reps K F xs (kvs.map (·.2))
  | .dT ks xs, h => ∃ kvs, h = .dT kvs ∧ kvs.map (·.1) = ks ∧ Reps K F xs (kvs.map (·.2))
  | .fT od kvs xs, h => h = .frz od (.dT kvs) ∧ Reps K F xs (kvs.map (·.2))
theorem RepO.notTup {K : PySem.W.Frag} {F : Hp} : ∀ {o : SO} {h : HO}, RepO K F o h → ∀ xs, h ≠ .tup xs
  | .lst _, _, ⟨_, e, _⟩, _ => fun z => by rw [e] at z; cases z
  | .ins _ _ _, _, ⟨_, _, e, _⟩, _ => fun z => by rw [e] at z; cases z
  | .dK _ _, _, ⟨_, e, _⟩, _ => fun z => by rw [e] at z; cases z
  | .dT _ _, _, ⟨_, e, _⟩, _ => fun z => by rw [e] at z; cases z
  | .fT _ _ _, _, ⟨e, _⟩, _ => fun z => by rw [e] at z; cases z
theorem RepO.mono {K : PySem.W.Frag} {F F' : Hp} (e : Same F F') : ∀ {o : SO} {h : HO}, RepO K F o h → RepO K F' o h
  | .lst xs, h, ⟨vs, h1, h2⟩ => ⟨vs, h1, Reps.mono e _ _ h2⟩
  | .ins C ns xs, h, ⟨dx, fs, h1, h2, h3⟩ => ⟨dx, fs, h1, h2, Reps.mono e _ _ h3⟩
  | .dK ks xs, h, ⟨kvs, h1, h2, h3⟩ => ⟨kvs, h1, h2, Reps.mono e _ _ h3⟩
  | .dT ks xs, h, ⟨kvs, h1, h2, h3⟩ => ⟨kvs, h1, h2, Reps.mono e _ _ h3⟩
  | .fT od kvs xs, h, ⟨h1, h2⟩ => ⟨h1, Reps.mono e _ _ h2⟩

/-- the abstract heap holds what is frozen, what is around (untouched), and what stands in the store, apart -/
structure Ok (K : PySem.W.Frag) (F Z : Hp) (S : Sto) (H : Hp) : Prop where
  fro : Same F H
  own : ∀ a o, S a = some o → F a = none ∧ ∃ h, H a = some h ∧ RepO K F o h
  zed : ∀ a o, Z a = some o → F a = none ∧ S a = none ∧ H a = some o
  zt : ∀ a xs, Z a ≠ some (.tup xs)
section
variable {K : PySem.W.Frag} {F Z : Hp} {S : Sto} {H : Hp} {p : Addr}
theorem Ok.newF (ok : Ok K F Z S H) (hp : H p = none) : F p = none := ok.fro.free hp
theorem Ok.newS (ok : Ok K F Z S H) (hp : H p = none) : S p = none := by
  cases e : S p with
  | none => rfl
  | some o =>
    obtain ⟨_, h, q, _⟩ := ok.own _ _ e
    rw [hp] at q; cases q
theorem Ok.newZ (ok : Ok K F Z S H) (hp : H p = none) : Z p = none := by
  cases e : Z p with
  | none => rfl
  | some o =>
    have q := (ok.zed _ _ e).2.2
    rw [hp] at q; cases q
theorem same_upd {H : Hp} {p : Addr} (h : H p = none) (o : HO) : Same H (upd H p o) := fun b u q => by rw [upd_ne (ne_of_none q h)]; exact q
/-- a new object, frozen -/
theorem Ok.frz (ok : Ok K F Z S H) (hp : H p = none) (o : HO) : Ok K (upd F p o) Z S (upd H p o) := by
  refine ⟨fun b u q => ?_, fun a so e => ?_, fun a u e => ?_, ok.zt⟩
  · by_cases hb : b = p
    · subst hb; rw [upd_same] at q ⊢; exact q
    · rw [upd_ne hb] at q ⊢; exact ok.fro _ _ q
  · obtain ⟨h1, h, h2, h3⟩ := ok.own a so e
    have hne : a ≠ p := ne_of_none h2 hp
    exact ⟨by rw [upd_ne hne]; exact h1, h, by rw [upd_ne hne]; exact h2, h3.mono (same_upd (ok.newF hp) o)⟩
  · obtain ⟨h1, h2, h3⟩ := ok.zed a u e
    have hne : a ≠ p := ne_of_none h3 hp
    exact ⟨by rw [upd_ne hne]; exact h1, h2, by rw [upd_ne hne]; exact h3⟩
/-- a new object of the store -/
theorem Ok.new (ok : Ok K F Z S H) (hp : H p = none) {o : HO} {so : SO} (r : RepO K F so o) : Ok K F Z (sup S p so) (upd H p o) := by
  have hf := ok.newF hp
  refine ⟨fun b u q => ?_, fun a s e => ?_, fun a u e => ?_, ok.zt⟩
  · rw [upd_ne (ne_of_none q hf)]; exact ok.fro _ _ q
  · by_cases ha : a = p
    · subst ha; rw [sup_same] at e; cases e
      exact ⟨hf, o, upd_same, r⟩
    · rw [sup_ne ha] at e
      obtain ⟨h1, h, h2, h3⟩ := ok.own a s e
      exact ⟨h1, h, by rw [upd_ne ha]; exact h2, h3⟩
  · obtain ⟨h1, h2, h3⟩ := ok.zed a u e
    have hne : a ≠ p := ne_of_none h3 hp
    exact ⟨h1, by rw [sup_ne hne]; exact h2, by rw [upd_ne hne]; exact h3⟩
/-- an object of the store is written -/
theorem Ok.put (ok : Ok K F Z S H) {s0 : SO} (hp : S p = some s0) {o : HO} {so : SO} (r : RepO K F so o) : Ok K F Z (sup S p so) (upd H p o) := by
  have hf := (ok.own _ _ hp).1
  refine ⟨fun b u q => ?_, fun a s e => ?_, fun a u e => ?_, ok.zt⟩
  · rw [upd_ne (ne_of_none q hf)]; exact ok.fro _ _ q
  · by_cases ha : a = p
    · subst ha; rw [sup_same] at e; cases e
      exact ⟨hf, o, upd_same, r⟩
    · rw [sup_ne ha] at e
      obtain ⟨h1, h, h2, h3⟩ := ok.own a s e
      exact ⟨h1, h, by rw [upd_ne ha]; exact h2, h3⟩
  · obtain ⟨h1, h2, h3⟩ := ok.zed a u e
    have hne : a ≠ p := fun z => by rw [z, hp] at h2; cases h2
    exact ⟨h1, by rw [sup_ne hne]; exact h2, by rw [upd_ne hne]; exact h3⟩
/-- an object of the store is frozen -/
theorem Ok.freeze (ok : Ok K F Z S H) {s0 : SO} (hp : S p = some s0) : ∃ h, H p = some h ∧ RepO K F s0 h ∧ Same F (upd F p h) ∧ Ok K (upd F p h) Z (sdel S p) H := by
  obtain ⟨hf, h, hh, r⟩ := ok.own _ _ hp
  have sm := same_upd hf h
  refine ⟨h, hh, r, sm, fun b u q => ?_, fun a s e => ?_, fun a u e => ?_, ok.zt⟩
  · by_cases hb : b = p
    · subst hb; rw [upd_same] at q; cases q; exact hh
    · rw [upd_ne hb] at q; exact ok.fro _ _ q
  · by_cases ha : a = p
    · subst ha; rw [sdel_same] at e; cases e
    · rw [sdel_ne ha] at e
      obtain ⟨h1, h', h2, h3⟩ := ok.own a s e
      exact ⟨by rw [upd_ne ha]; exact h1, h', h2, h3.mono sm⟩
  · obtain ⟨h1, h2, h3⟩ := ok.zed a u e
    have hne : a ≠ p := fun z => by rw [z, hp] at h2; cases h2
    exact ⟨by rw [upd_ne hne]; exact h1, by rw [sdel_ne hne]; exact h2, h3⟩
/-- a smaller store -/
theorem Ok.less {S' : Sto} (ok : Ok K F Z S H) (h : ∀ a o, S' a = some o → S a = some o) : Ok K F Z S' H := by
  refine ⟨ok.fro, fun a o e => ok.own a o (h a o e), fun a u e => ?_, ok.zt⟩
  obtain ⟨h1, h2, h3⟩ := ok.zed a u e
  refine ⟨h1, ?_, h3⟩
  cases q : S' a with
  | none => rfl
  | some o => rw [h a o q] at h2; cases h2
/-- a smaller around -/
theorem Ok.lessZ {Z' : Hp} (ok : Ok K F Z S H) (h : Same Z' Z) : Ok K F Z' S H := ⟨ok.fro, ok.own, fun a u e => ok.zed a u (h a u e), fun a xs e => ok.zt a xs (h a _ e)⟩
/-- the whole store is set aside: what stands there is around -/
def around (Z : Hp) (S : Sto) (H : Hp) : Hp := fun a => match S a with
  | some _ => H a
  | none => Z a
theorem Ok.aside (ok : Ok K F Z S H) : Ok K F (around Z S H) (fun _ => none) H := by
  refine ⟨ok.fro, (fun a o e => nomatch e), fun a u e => ?_, fun a xs e => ?_⟩
  unfold around at e
  cases q : S a with
  | some o =>
    rw [q] at e
    exact ⟨(ok.own _ _ q).1, rfl, e⟩
  | none =>
    rw [q] at e
    obtain ⟨h1, _, h3⟩ := ok.zed a u e
    exact ⟨h1, rfl, h3⟩
  · unfold around at e
    cases q : S a with
    | some o =>
      rw [q] at e
      obtain ⟨_, h, h2, h3⟩ := ok.own _ _ q
      rw [show H a = _ from e] at h2
      cases h2
      exact h3.notTup _ rfl
    | none => rw [q] at e; exact ok.zt a xs e
/-- .. and taken back -/
theorem Ok.back {F' H' : Hp} (ok : Ok K F Z S H) (ok' : Ok K F' (around Z S H) (fun _ => none) H') (sm : Same F F') : Ok K F' Z S H' := by
  refine ⟨ok'.fro, fun a o e => ?_, fun a u e => ?_, ok.zt⟩
  · obtain ⟨h1, h, h2, h3⟩ := ok.own a o e
    have q : around Z S H a = some h := by unfold around; rw [e]; exact h2
    obtain ⟨g1, _, g3⟩ := ok'.zed a h q
    exact ⟨g1, h, g3, h3.mono sm⟩
  · obtain ⟨h1, h2, h3⟩ := ok.zed a u e
    have q : around Z S H a = some u := by unfold around; rw [h2]; exact e
    obtain ⟨g1, _, g3⟩ := ok'.zed a u q
    exact ⟨g1, h2, g3⟩
theorem Rep.inH (ok : Ok K F Z S H) {d : D} {v : V} (r : Rep K F d v) : Rep K H d v := Rep.mono ok.fro _ _ r
end

/-! ### slots -/
abbrev Env := List (Option D)
/-- slots: what the layer knows of them -/
inductive Envs (K : PySem.W.Frag) (F : Hp) : L2.St → Env → Prop where
  | nil : Envs K F [] []
  | cons {v : V} {d : D} {σ : L2.St} {e : Env} : Rep K F d v → Envs K F σ e → Envs K F (some v :: σ) (some d :: e)
  | skip {v : Option V} {σ : L2.St} {e : Env} : Envs K F σ e → Envs K F (v :: σ) (none :: e)
@[simp] def nth : Env → Nat → Option D
  | [], _ => none
  | x :: _, 0 => x
  | _ :: r, n + 1 => nth r n
@[simp] def put : Env → Nat → D → Env
  | [], _, _ => []
  | _ :: r, 0, d => .some d :: r
  | x :: r, n + 1, d => x :: put r n d
@[simp] def forget : Env → Nat → Env
  | [], _ => []
  | _ :: r, 0 => .none :: r
  | x :: r, n + 1 => x :: forget r n
section
variable {K : PySem.W.Frag} {F F' : Hp}
theorem Envs.mono (e : Same F F') : ∀ {σ : L2.St} {env : Env}, Envs K F σ env → Envs K F' σ env := fun {σ env} h => by
  induction h with
  | nil => exact .nil
  | cons r _ ih => exact .cons (Rep.mono e _ _ r) ih
  | skip _ ih => exact .skip ih
theorem Envs.get : ∀ {σ : L2.St} {env : Env} {i : Nat} {d : D}, Envs K F σ env → nth env i = some d → ∃ v, σ[i]? = some (some v) ∧ Rep K F d v := fun {σ env i d} h => by
  induction h generalizing i with
  | nil => intro q; cases i <;> cases q
  | @cons v d0 σ e r _ ih =>
    intro q
    cases i with
    | zero => cases q; exact ⟨v, rfl, r⟩
    | succ i => exact ih q
  | skip _ ih =>
    intro q
    cases i with
    | zero => cases q
    | succ i => exact ih q
theorem Envs.put {d : D} {v : V} (r : Rep K F d v) : ∀ {σ : L2.St} {env : Env} (i : Nat), Envs K F σ env → Envs K F (σ.set i (some v)) (put env i d) := fun {σ env} i h => by
  induction h generalizing i with
  | nil => cases i <;> exact .nil
  | @cons v' d0 σ e r' h' ih =>
    cases i with
    | zero => exact .cons r h'
    | succ i => exact .cons r' (ih i)
  | @skip v' σ e h' ih =>
    cases i with
    | zero => exact .cons r h'
    | succ i => exact .skip (ih i)
theorem Envs.gone {o : Option V} : ∀ {σ : L2.St} {env : Env} (i : Nat), Envs K F σ env → Envs K F (σ.set i o) (forget env i) := fun {σ env} i h => by
  induction h generalizing i with
  | nil => cases i <;> exact .nil
  | @cons v' d0 σ e r' h' ih =>
    cases i with
    | zero => exact .skip h'
    | succ i => exact .cons r' (ih i)
  | @skip v' σ e h' ih =>
    cases i with
    | zero => exact .skip h'
    | succ i => exact .skip (ih i)
@[simp] def start (N : Nat) (ds : List D) : Env := ds.map some ++ List.replicate (N - ds.length) none
theorem envs_none : ∀ (n : Nat), Envs K F (List.replicate n none) (List.replicate n none)
  | 0 => .nil
  | n + 1 => .skip (envs_none n)
theorem Envs.start {N : List Str} : ∀ {ds : List D} {vs : List V}, Reps K F ds vs → Envs K F (L2.start N vs) (L3.start N.length ds) := fun {ds vs} h => by
  have hl := h.length
  unfold L2.start L3.start
  rw [← hl]
  have key : ∀ {ds : List D} {vs : List V} {k : Nat}, Reps K F ds vs → Envs K F (vs.map some ++ List.replicate k none) (ds.map some ++ List.replicate k none) := by
    intro ds
    induction ds with
    | nil => intro vs k h; cases h; exact envs_none k
    | cons d ds ih =>
      intro vs k h
      obtain ⟨v, r, rfl, h2, h3⟩ := h
      exact .cons h2 (ih h3)
  exact key h
end

/-! ### judgements -/
abbrev VQ := D → Sto → Prop
/-- an own exception: its class, what it holds -/
abbrev EX := Addr → D → Sto → Prop
abbrev WE := Env → Sto → VQ → EX → Prop
abbrev WT := Env → Sto → (Bool → Sto → Prop) → EX → Prop
abbrev WA := Env → Sto → (List D → Sto → Prop) → EX → Prop
/-- the exception's own dict -/
def XdAt (F : Hp) (dd : Addr) (v : V) : Prop := F dd = some (.xd [(("what" : Str), v)])
/-- what the layer wants of exceptions goes to what L2 wants -/
def Thr (K : PySem.W.Frag) (F Z : Hp) (W : WX) (σ : L2.St) (Ex : EX) : Prop := ∀ C x S' H' F' dd v, Same F F' → Ok K F' Z S' H' → XdAt F' dd v → Rep K F' x v → Ex C x S' → W (.ref C) (some dd) σ H'
def KQ (K : PySem.W.Frag) (F Z : Hp) (Q : VQ) (R : V → Hp → Prop) : Prop := ∀ v H' F' S' d, Same F F' → Ok K F' Z S' H' → Rep K F' d v → Q d S' → R v H'
def KB (K : PySem.W.Frag) (F Z : Hp) (Q : Bool → Sto → Prop) (R : Bool → Hp → Prop) : Prop := ∀ b H' F' S', Same F F' → Ok K F' Z S' H' → Q b S' → R b H'
def KA (K : PySem.W.Frag) (F Z : Hp) (Q : List D → Sto → Prop) (R : List V → Hp → Prop) : Prop := ∀ vs H' F' S' ds, Same F F' → Ok K F' Z S' H' → Reps K F' ds vs → Q ds S' → R vs H'
section
variable {K : PySem.W.Frag} {F F1 Z : Hp}
theorem Thr.mono {W : WX} {σ : L2.St} {Ex : EX} (h : Thr K F Z W σ Ex) (e : Same F F1) : Thr K F1 Z W σ Ex := fun C x S' H' F' dd v sm => h C x S' H' F' dd v (e.trans sm)
theorem KQ.mono {Q : VQ} {R : V → Hp → Prop} (h : KQ K F Z Q R) (e : Same F F1) : KQ K F1 Z Q R := fun v H' F' S' d sm => h v H' F' S' d (e.trans sm)
theorem KB.mono {Q : Bool → Sto → Prop} {R : Bool → Hp → Prop} (h : KB K F Z Q R) (e : Same F F1) : KB K F1 Z Q R := fun v H' F' S' sm => h v H' F' S' (e.trans sm)
theorem KA.mono {Q : List D → Sto → Prop} {R : List V → Hp → Prop} (h : KA K F Z Q R) (e : Same F F1) : KA K F1 Z Q R := fun v H' F' S' d sm => h v H' F' S' d (e.trans sm)
end
def SndE (K : PySem.W.Frag) (W : WX) (t : WE) (u : TE) : Prop := ∀ σ H F Z env S Q Ex R, Ok K F Z S H → Envs K F σ env → Thr K F Z W σ Ex → KQ K F Z Q R → t env S Q Ex → u σ H R
def SndT (K : PySem.W.Frag) (W : WX) (t : WT) (u : TT) : Prop := ∀ σ H F Z env S Q Ex R, Ok K F Z S H → Envs K F σ env → Thr K F Z W σ Ex → KB K F Z Q R → t env S Q Ex → u σ H R
def SndA (K : PySem.W.Frag) (W : WX) (t : WA) (u : TA) : Prop := ∀ σ H F Z env S Q Ex R, Ok K F Z S H → Envs K F σ env → Thr K F Z W σ Ex → KA K F Z Q R → t env S Q Ex → u σ H R
/-- what is common to the contexts of a proof; the rest of a context -/
structure Cmn where
  P : Program
  w : World
  K : PySem.W.Frag
  mg : Str → Option Value
  base : Heap
structure Rst where
  A : Around
  N : List Str
  s_0 : Shared
  H_0 : Hp
  env : PySem.Env
  outer : List PySem.Env
  stack : List PySem.Env
  ex : List Addr
  fn : Str → Bool
  calm : Bool
  pn : List (Addr × Obj)
  xe : Value → Shared → Prop
abbrev Cmn.at (C : Cmn) (r : Rst) : Cx where
  prog := C.P
  w := C.w
  K := C.K
  mg := C.mg
  base := C.base
  A := r.A
  N := r.N
  s_0 := r.s_0
  H_0 := r.H_0
  env := r.env
  outer := r.outer
  stack := r.stack
  ex := r.ex
  fn := r.fn
  calm := r.calm
  pn := r.pn
  xe := r.xe
section
variable {ι : Type}
/-- e is read by t in all contexts R -/
def VE (C : Cmn) (R : ι → Rst) (e : Expr) (t : WE) : Prop := ∀ W, ∃ u, (∀ i, Takes (C.at (R i)) W → PE (C.at (R i)) e u) ∧ SndE C.K W t u
def VT (C : Cmn) (R : ι → Rst) (e : Expr) (t : WT) : Prop := ∀ W, ∃ u, (∀ i, Takes (C.at (R i)) W → PT (C.at (R i)) e u) ∧ SndT C.K W t u
def VW (C : Cmn) (R : ι → Rst) (e : Expr) (t : WT) : Prop := ∀ W, ∃ u, (∀ i, Takes (C.at (R i)) W → PW (C.at (R i)) e u) ∧ SndT C.K W t u
def VA (C : Cmn) (R : ι → Rst) (es : List Expr) (t : WA) : Prop := ∀ W, ∃ u, (∀ i, Takes (C.at (R i)) W → PA (C.at (R i)) es u) ∧ SndA C.K W t u
end

/-! ### statements -/
structure VEnds where
  nx : Env → Sto → Prop
  rt : VQ
  bk : Env → Sto → Prop
  ct : Env → Sto → Prop
  ex : Env → EX
abbrev WS := VEnds → Env → Sto → Prop
def KN (K : PySem.W.Frag) (F Z : Hp) (P : Env → Sto → Prop) (R : L2.St → Hp → Prop) : Prop := ∀ F' σ H env S, Same F F' → Ok K F' Z S H → Envs K F' σ env → P env S → R σ H
theorem KN.mono {K : PySem.W.Frag} {F F1 Z : Hp} {P : Env → Sto → Prop} {R : L2.St → Hp → Prop} (h : KN K F Z P R) (e : Same F F1) : KN K F1 Z P R := fun F' σ H env S sm => h F' σ H env S (e.trans sm)
/-- what the layer wants behind a statement goes to what L2 wants -/
structure Lk (K : PySem.W.Frag) (F Z : Hp) (W : WX) (E : VEnds) (R : Ends) : Prop where
  nx : KN K F Z E.nx R.nx
  rt : KQ K F Z E.rt R.rt
  bk : KN K F Z E.bk R.bk
  ct : KN K F Z E.ct R.ct
  ex : ∀ F' σ env, Same F F' → Envs K F' σ env → Thr K F' Z W σ (E.ex env)
theorem Lk.mono {K : PySem.W.Frag} {F F1 Z : Hp} {W : WX} {E : VEnds} {R : Ends} (h : Lk K F Z W E R) (e : Same F F1) : Lk K F1 Z W E R :=
  ⟨h.nx.mono e, h.rt.mono e, h.bk.mono e, h.ct.mono e, fun F' σ env sm => h.ex F' σ env (e.trans sm)⟩
def SndS (K : PySem.W.Frag) (W : WX) (t : WS) (u : TS) : Prop := ∀ σ H F Z env S E R, Ok K F Z S H → Envs K F σ env → Lk K F Z W E R → t E env S → u R σ H
section
variable {ι : Type}
/-- what a statement's rule may ask of a context -/
structure Tk (C : Cmn) (r : Rst) (W : WX) : Prop where
  tk : Takes (C.at r) W
  ps : PassesOwn (model C.P C.w) r.A r.env r.xe
def VS (C : Cmn) (R : ι → Rst) (st : Stmt) (t : WS) : Prop := ∀ W, ∃ u, (∀ i, Tk C (R i) W → PS (C.at (R i)) st u) ∧ SndS C.K W t u
def VSs (C : Cmn) (R : ι → Rst) (st : List Stmt) (t : WS) : Prop := ∀ W, ∃ u, (∀ i, Tk C (R i) W → PSs (C.at (R i)) st u) ∧ SndS C.K W t u
end
end L3

set_option Elab.async false
set_option linter.all false
set_option maxRecDepth 100000
set_option maxHeartbeats 4000000
/-! The value layer: expressions. -/
namespace L3
open PySem PySem.Spec PyProof.Rows L2

section
variable {C : Cmn} {ι : Type} {R : ι → Rst} {K : PySem.W.Frag}
/-- a rule of L2 that stands in every context -/
theorem VE.of {e : Expr} {t : WE} {u : TE} (h : ∀ i, PE (C.at (R i)) e u) (s : ∀ W, SndE C.K W t u) : VE C R e t := fun W => ⟨u, fun i _ => h i, s W⟩

/-! ### names, constants -/
def vVar (i : Nat) : WE := fun env S Q _ => match nth env i with
  | some d => Q d S
  | none => False
@[simp ↓] theorem vVar_eq (i : Nat) (env) (S) (Q) (z0) : vVar i env S Q z0 = (match nth env i with
  | some d => Q d S
  | none => False) := id rfl
def vC (d : D) : WE := fun _ S Q _ => Q d S
@[simp ↓] theorem vC_eq (d : D) (z0) (S) (Q) (z1) : vC d z0 S Q z1 = (Q d S) := id rfl
theorem ve_var {i : Nat} {x : Str} {pos : Pos} (hN : ∀ j, (R j).N[i]? = some x := by exact fun _ => rfl) (hv : ∀ j, Vis (R j).env.scope x := by first | exact fun _ => .inl rfl | exact fun _ => .inr (.inl rfl) | exact fun _ => .inr (.inr rfl)) (hd : (x == ("__debug__" : Str)) = false := by decide) (hcd : (x == ("__classdict__" : Str)) = false := by decide) :
    VE C R (.Name x pos) (vVar i) := by
  refine .of (fun j => pe_var (X := C.at (R j)) (hN j) (hv j) hd hcd) fun W σ H F Z env S Q Ex R ok en th k h => ?_
  unfold vVar at h
  cases e : nth env i with
  | none => rw [e] at h; exact h.elim
  | some d =>
    rw [e] at h
    obtain ⟨v, h1, h2⟩ := en.get e
    exact ⟨v, h1, k v H F S d (Same.refl F) ok h2 h⟩
theorem snd_c {W : WX} {d : D} {v : V} (r : ∀ F, Rep K F d v) : SndE K W (vC d) (tC v) := fun σ H F Z env S Q Ex R ok en th k h => k v H F S d (Same.refl F) ok (r F) h
theorem ve_int {i : Int} {j pos} : VE C R (.Constant (.int i) j pos) (vC (.int i)) := .of (fun i => pe_int) fun W => snd_c fun _ => rfl
theorem ve_bl {i : Bool} {j pos} : VE C R (.Constant (.bool i) j pos) (vC (.bl i)) := .of (fun i => pe_bl) fun W => snd_c fun _ => rfl
theorem ve_non {j pos} : VE C R (.Constant .none j pos) (vC .non) := .of (fun i => pe_non) fun W => snd_c fun _ => rfl
theorem ve_str {x j pos} : VE C R (.Constant (.str x) j pos) (vC (.str x)) := .of (fun i => pe_str) fun W => snd_c fun _ => rfl
/-- a module's name that stands for something written -/
theorem ve_glob {x : Str} {d : D} {v : V} {u : Value} {pos : Pos} (hm : C.mg x = some u) (r : RelV v u) (rd : ∀ F, Rep C.K F d v) (hg : ∀ i, Gl (C.at (R i)) x := by exact fun _ => rfl) (hd : (x == ("__debug__" : Str)) = false := by decide) : VE C R (.Name x pos) (vC d) :=
  .of (fun i => pe_glob (X := C.at (R i)) (hg i) hm r hd) fun W => snd_c rd

/-! ### operators -/
/-- what simp shall keep off -/
inductive Hold {α : Type} (a : α) : Type
  | mk : Hold a
/-- an item, if there is one -/
def AtC {α : Type} (o : Option α) (Q : α → Prop) (_ : Hold Q) : Prop := match o with
  | some d => Q d
  | none => False
@[simp] theorem atC_some {α : Type} {d : α} {Q : α → Prop} {h : Hold Q} : AtC (some d) Q h = Q d := rfl
/-- an answer that P allows -/
def ExC (P : Bool → Prop) (Q : Bool → Prop) (_ : Hold Q) : Prop := ∃ b, P b ∧ Q b
abbrev R2V := D → D → Sto → VQ → Prop
def vOp (r : R2V) (ta tb : WE) : WE := fun env S Q E => ta env S (fun x S1 => tb env S1 (fun y S2 => r x y S2 Q) E) E
@[simp ↓] theorem vOp_eq (r : R2V) (ta tb : WE) (env) (S) (Q) (E) : vOp r ta tb env S Q E = (ta env S (fun x S1 => tb env S1 (fun y S2 => r x y S2 Q) E) E) := id rfl
def SndR (K : PySem.W.Frag) (r : R2V) (u : R2) : Prop := ∀ F Z S H x y d e Q R, Ok K F Z S H → Rep K F d x → Rep K F e y → KQ K F Z Q R → r d e S Q → u x y H R
def OpV (C : Cmn) (R : ι → Rst) (f : Value → Value → Sem Value) (r : R2V) : Prop := ∃ u, (∀ i, OpR (C.at (R i)) f u) ∧ SndR C.K r u
theorem snd_op {W : WX} {r : R2V} {u : R2} {ta tb : WE} {ua ub : TE} (hr : SndR K r u) (sa : SndE K W ta ua) (sb : SndE K W tb ub) : SndE K W (vOp r ta tb) (tOp u ua ub) := fun σ H F Z env S Q Ex R ok en th k h =>
  sa σ H F Z env S _ Ex _ ok en th (fun x H1 F1 S1 d sm1 ok1 r1 h1 => sb σ H1 F1 Z env S1 _ Ex _ ok1 (en.mono sm1) (th.mono sm1)
    (fun y H2 F2 S2 e sm2 ok2 r2 h2 => hr F2 Z S2 H2 x y d e _ _ ok2 (Rep.mono sm2 _ _ r1) r2 (k.mono (sm1.trans sm2)) h2) h1) h
theorem ve_op {op : Operator} {r : R2V} {a b : Expr} {ta tb : WE} {pos : Pos} (ho : OpV C R (binaryOp op) r) (ha : VE C R a ta) (hb : VE C R b tb) : VE C R (.BinOp a op b pos) (vOp r ta tb) := fun W => by
  obtain ⟨ua, pa, sa⟩ := ha W
  obtain ⟨ub, pb, sb⟩ := hb W
  obtain ⟨u, hu, su⟩ := ho
  exact ⟨_, fun i tk => pe_op (hu i) (pa i tk) (pb i tk), snd_op su sa sb⟩
/-- two rules for one operator -/
theorem OpV.of {f : Value → Value → Sem Value} {r : R2V} (u : R2) (h : ∀ i, OpR (C.at (R i)) f u) (s : SndR C.K r u) : OpV C R f r := ⟨u, h, s⟩

def rAdd : R2V := fun x y S Q => match x, y with
  | .int i, .int j => Q (.int (i + j)) S
  | .str a, .str b => a.length + b.length ≤ sizeLine ∧ Q (.str (a ++ b)) S
  | .tup xs, .tup ys => xs.length + ys.length ≤ sizeLine ∧ Q (.tup (xs ++ ys)) S
  | .lst xs, .lst ys => xs.length + ys.length ≤ sizeLine ∧ Q (.lst (xs ++ ys)) S
  | _, _ => False
@[simp ↓] theorem rAdd_eq (x) (y) (S) (Q) : rAdd x y S Q = (match x, y with
  | .int i, .int j => Q (.int (i + j)) S
  | .str a, .str b => a.length + b.length ≤ sizeLine ∧ Q (.str (a ++ b)) S
  | .tup xs, .tup ys => xs.length + ys.length ≤ sizeLine ∧ Q (.tup (xs ++ ys)) S
  | .lst xs, .lst ys => xs.length + ys.length ≤ sizeLine ∧ Q (.lst (xs ++ ys)) S
  | _, _ => False) := id rfl
theorem KQ.tup {F Z : Hp} {S : Sto} {H : Hp} {Q : VQ} {R : V → Hp → Prop} {xs : List D} {vs : List V} {p : Addr} (k : KQ K F Z Q R) (ok : Ok K F Z S H) (hp : H p = none) (r : Reps K F xs vs) (h : Q (.tup xs) S) : R (.ref p) (upd H p (.tup vs)) :=
  k _ _ _ _ (.tup xs) (same_upd (ok.newF hp) _) (ok.frz hp _) ⟨p, vs, rfl, .inl upd_same, Reps.mono (same_upd (ok.newF hp) _) _ _ r⟩ h
theorem KQ.lst {F Z : Hp} {S : Sto} {H : Hp} {Q : VQ} {R : V → Hp → Prop} {xs : List D} {vs : List V} {p : Addr} (k : KQ K F Z Q R) (ok : Ok K F Z S H) (hp : H p = none) (r : Reps K F xs vs) (h : Q (.lst xs) S) : R (.ref p) (upd H p (.lst vs)) :=
  k _ _ _ _ (.lst xs) (same_upd (ok.newF hp) _) (ok.frz hp _) ⟨p, vs, rfl, upd_same, Reps.mono (same_upd (ok.newF hp) _) _ _ r⟩ h
theorem KQ.own {F Z : Hp} {S : Sto} {H : Hp} {Q : VQ} {R : V → Hp → Prop} {xs : List D} {vs : List V} {p : Addr} (k : KQ K F Z Q R) (ok : Ok K F Z S H) (hp : H p = none) (r : Reps K F xs vs) (h : Q (.ref p) (sup S p (.lst xs))) : R (.ref p) (upd H p (.lst vs)) :=
  k _ _ _ _ (.ref p) (Same.refl F) (ok.new (so := .lst xs) hp ⟨vs, rfl, r⟩) rfl h
theorem reps_nil {F : Hp} {ds : List D} {vs : List V} (h : Reps K F ds vs) : ds = [] ↔ vs = [] := by
  have := h.length
  constructor
  · intro e; subst e; simpa using this.symm
  · intro e; subst e; simpa using this
theorem ov_add : OpV C R (binaryOp .Add) rAdd := by
  refine .of (fun x y H Q => (rI0 fun i j => .int (i + j)) x y H Q ∨ (∃ i j, x = .str i ∧ y = .str j ∧ i.length + j.length ≤ sizeLine ∧ Q (.str (i ++ j)) H) ∨ rCatA C.K x y H Q ∨ rCat x y H Q) (fun i => (op_add.or (op_add_str.or (OpR.or (X := C.at (R i)) op_catA op_cat)))) fun F Z S H x y d e Q R ok rx ry k h => ?_
  unfold rAdd at h
  split at h
  · exact .inl ⟨_, _, rx, ry, k _ _ _ _ (.int _) (Same.refl F) ok rfl h⟩
  · exact .inr (.inl ⟨_, _, rx, ry, h.1, k _ _ _ _ (.str _) (Same.refl F) ok rfl h.2⟩)
  · obtain ⟨a, vs, rfl, h1, h2⟩ := rx
    obtain ⟨b, ws, rfl, h3, h4⟩ := ry
    refine .inr (.inr (.inl ⟨a, b, vs, ws, rfl, rfl, same_sqt ok.fro h1.sq, same_sqt ok.fro h3.sq, by rw [← h2.length, ← h4.length]; exact h.1, fun e => ?_, fun _ e => ?_, fun _ _ p hp => k.tup ok hp (h2.append h4) h.2⟩))
    · have e1 := (reps_nil h2).mpr e
      subst e1
      exact k _ _ _ _ (.tup _) (Same.refl F) ok ⟨b, ws, rfl, h3, h4⟩ h.2
    · have e1 := (reps_nil h4).mpr e
      subst e1
      refine k _ _ _ _ (.tup _) (Same.refl F) ok ⟨a, vs, rfl, h1, ?_⟩ h.2
      rw [List.append_nil]; exact h2
  · obtain ⟨a, vs, rfl, h1, h2⟩ := rx
    obtain ⟨b, ws, rfl, h3, h4⟩ := ry
    exact .inr (.inr (.inr ⟨a, b, vs, ws, rfl, rfl, ok.fro _ _ h1, ok.fro _ _ h3, by rw [← h2.length, ← h4.length]; exact h.1, fun p hp => k.lst ok hp (h2.append h4) h.2⟩))
  · exact h.elim
def rI2 (C : Int → Int → Prop) (g : Int → Int → D) : R2V := fun x y S Q => match x, y with
  | .int i, .int j => C i j ∧ Q (g i j) S
  | _, _ => False
@[simp ↓] theorem rI2_eq (C : Int → Int → Prop) (g : Int → Int → D) (x) (y) (S) (Q) : rI2 C g x y S Q = (match x, y with
  | .int i, .int j => C i j ∧ Q (g i j) S
  | _, _ => False) := id rfl
def rI20 (g : Int → Int → D) : R2V := fun x y S Q => match x, y with
  | .int i, .int j => Q (g i j) S
  | _, _ => False
@[simp ↓] theorem rI20_eq (g : Int → Int → D) (x) (y) (S) (Q) : rI20 g x y S Q = (match x, y with
  | .int i, .int j => Q (g i j) S
  | _, _ => False) := id rfl
theorem snd_i2 {C : Int → Int → Prop} {g : Int → Int → D} {gv : Int → Int → V} (hg : ∀ F i j, Rep K F (g i j) (gv i j)) : SndR K (rI2 C g) (rI C gv) := fun F Z S H x y d e Q R ok rx ry k h => by
  unfold rI2 at h
  split at h
  · exact ⟨_, _, rx, ry, h.1, k _ _ _ _ _ (Same.refl F) ok (hg _ _ _) h.2⟩
  · exact h.elim
theorem snd_i20 {g : Int → Int → D} {gv : Int → Int → V} (hg : ∀ F i j, Rep K F (g i j) (gv i j)) : SndR K (rI20 g) (rI0 gv) := fun F Z S H x y d e Q R ok rx ry k h => by
  unfold rI20 at h
  split at h
  · exact ⟨_, _, rx, ry, k _ _ _ _ _ (Same.refl F) ok (hg _ _ _) h⟩
  · exact h.elim
abbrev rSub : R2V := rI20 fun i j => .int (i - j)
abbrev rFdiv : R2V := rI2 CDiv fun i j => .int (i / j)
abbrev rMod : R2V := rI2 (fun _ j => 0 < j) fun i j => .int (i % j)
abbrev rPow : R2V := rI2 CPow fun i j => .int (i ^ j.toNat)
theorem ov_sub : OpV C R (binaryOp .Sub) rSub := .of _ (fun i => op_sub) (snd_i20 fun _ _ _ => rfl)
theorem ov_fdiv : OpV C R (binaryOp .FloorDiv) rFdiv := .of _ (fun i => op_fdiv) (snd_i2 fun _ _ _ => rfl)
theorem ov_mod : OpV C R (binaryOp .Mod) rMod := .of _ (fun i => op_mod) (snd_i2 fun _ _ _ => rfl)
theorem ov_pow : OpV C R (binaryOp .Pow) rPow := .of _ (fun i => op_pow) (snd_i2 fun _ _ _ => rfl)
/-- comparisons of ints -/
abbrev rLt : R2V := rI20 fun i j => .bl (decide (i < j))
abbrev rLe : R2V := rI20 fun i j => .bl (decide (i ≤ j))
abbrev rGt : R2V := rI20 fun i j => .bl (decide (j < i))
abbrev rGe : R2V := rI20 fun i j => .bl (decide (j ≤ i))
theorem ov_lt : OpV C R (compareOp .Lt) rLt := .of _ (fun i => op_lt) (snd_i20 fun _ _ _ => rfl)
theorem ov_le : OpV C R (compareOp .LtE) rLe := .of _ (fun i => op_le) (snd_i20 fun _ _ _ => rfl)
theorem ov_gt : OpV C R (compareOp .Gt) rGt := .of _ (fun i => op_gt) (snd_i20 fun _ _ _ => rfl)
theorem ov_ge : OpV C R (compareOp .GtE) rGe := .of _ (fun i => op_ge) (snd_i20 fun _ _ _ => rfl)

/-! ### == -/
mutual
def toPy : D → Option PyData
  | .non => some .none
  | .bl b => some (.bool b)
  | .int i => some (.int i)
  | .str x => some (.str x)
  | .tup xs => (toPys xs).map .tuple
  | .lst xs => (toPys xs).map .list
  | .fix xs => (toPys xs).map .list
  | .ref _ => none
  | .ty _ => none
  | .exc _ _ _ _ => none
  | .ins _ _ _ => none
def toPys : List D → Option (List PyData)
  | [] => some []
  | d :: ds => match toPy d, toPys ds with
    | some x, some xs => some (x :: xs)
    | _, _ => none
end
mutual
theorem rep_dp {F H : Hp} (sm : Same F H) : ∀ (d : D) (v : V) (x : PyData), Rep K F d v → toPy d = some x → Dp K H v x
  | .non, v, x, h, e => by
    rw [toPy] at e; cases e
    rw [show v = .non from h]; exact .non
  | .bl b, v, x, h, e => by
    rw [toPy] at e; cases e
    rw [show v = .bl b from h]; exact .bl b
  | .int b, v, x, h, e => by
    rw [toPy] at e; cases e
    rw [show v = .int b from h]; exact .int b
  | .str b, v, x, h, e => by
    rw [toPy] at e; cases e
    rw [show v = .str b from h]; exact .str b
  | .tup xs, v, x, h, e => by
    rw [toPy] at e
    obtain ⟨a, vs, rfl, h1, h2⟩ := h
    cases q : toPys xs with
    | none => rw [q] at e; cases e
    | some ys =>
      rw [q] at e; cases e
      exact .tup (same_sqt sm h1.sq) (reps_dp sm xs vs ys h2 q)
  | .lst xs, v, x, h, e => by
    rw [toPy] at e
    obtain ⟨a, vs, rfl, h1, h2⟩ := h
    cases q : toPys xs with
    | none => rw [q] at e; cases e
    | some ys =>
      rw [q] at e; cases e
      exact .lst (SqL.of (sm _ _ h1)) (reps_dp sm xs vs ys h2 q)
  | .fix xs, v, x, h, e => by
    rw [toPy] at e
    obtain ⟨a, vs, rfl, h1, h2⟩ := h
    cases q : toPys xs with
    | none => rw [q] at e; cases e
    | some ys =>
      rw [q] at e; cases e
      exact .lst (sm.seq h1) (reps_dp sm xs vs ys h2 q)
  | .ref _, v, x, h, e => by rw [toPy] at e; cases e
  | .ty _, v, x, h, e => by rw [toPy] at e; cases e
  | .exc _ _ _ _, v, x, h, e => by rw [toPy] at e; cases e
  | .ins _ _ _, v, x, h, e => by rw [toPy] at e; cases e
theorem reps_dp {F H : Hp} (sm : Same F H) : ∀ (ds : List D) (vs : List V) (xs : List PyData), Reps K F ds vs → toPys ds = some xs → DpAll K H vs xs
  | [], vs, xs, h, e => by
    rw [toPys] at e; cases e
    rw [show vs = [] from h]; exact .nil
  | d :: ds, vs, xs, h, e => by
    rw [toPys] at e
    obtain ⟨v, r, rfl, h2, h3⟩ := h
    cases q1 : toPy d with
    | none => rw [q1] at e; cases e
    | some y =>
      cases q2 : toPys ds with
      | none => rw [q1, q2] at e; cases e
      | some ys =>
        rw [q1, q2] at e; cases e
        exact .cons (rep_dp sm d v y h2 q1) (reps_dp sm ds r ys h3 q2)
end
def rEqG (K : PySem.W.Frag) (ne : Bool) : R2 := fun x y H Q => ∃ d e, Dp K H x d ∧ Dp K H y e ∧ d.canLay0 = true ∧ e.canLay0 = true ∧ min d.depth e.depth ≤ 200 ∧ Q (.bl (if ne then !PyData.eqv d e else PyData.eqv d e)) H
theorem op_eqG {X : Cx} (hu : X.A.units + 200 < cLine) : OpR X (compareOp .Eq) (rEqG X.K false) := by
  intro pins s σ H x y v u Q I rx ry h
  obtain ⟨d, e, hd, he, sd, se, hm, q⟩ := h
  obtain ⟨as, r1⟩ := Dp.reads I d x v hd rx
  obtain ⟨bs, r2⟩ := Dp.reads I e y u he ry
  exact SeqAt.compareEq_reads r1 r2 sd se (by omega) ⟨.bl _, H, I, rfl, q⟩
theorem op_neG {X : Cx} (hu : X.A.units + 200 < cLine) : OpR X (compareOp .NotEq) (rEqG X.K true) := by
  intro pins s σ H x y v u Q I rx ry h
  obtain ⟨d, e, hd, he, sd, se, hm, q⟩ := h
  obtain ⟨as, r1⟩ := Dp.reads I d x v hd rx
  obtain ⟨bs, r2⟩ := Dp.reads I e y u he ry
  exact SeqAt.compareNe_reads r1 r2 sd se (by omega) ⟨.bl _, H, I, rfl, q⟩
/-- deep == -/
def Deep (x y : D) (b : Bool) : Prop := ∃ d e, toPy x = some d ∧ toPy y = some e ∧ d.canLay0 = true ∧ e.canLay0 = true ∧ min d.depth e.depth ≤ 200 ∧ PyData.eqv d e = b
def rEq : R2V := fun x y S Q => match x, y with
  | .int i, .int j => Q (.bl (decide (i = j))) S
  | .str i, .str j => Q (.bl (decide (i = j))) S
  | .bl i, .bl j => Q (.bl (decide (i = j))) S
  | x, y => ExC (Deep x y) (fun b => Q (.bl b) S) .mk
@[simp ↓] theorem rEq_eq (x) (y) (S) (Q) : rEq x y S Q = (match x, y with
  | .int i, .int j => Q (.bl (decide (i = j))) S
  | .str i, .str j => Q (.bl (decide (i = j))) S
  | .bl i, .bl j => Q (.bl (decide (i = j))) S
  | x, y => ExC (Deep x y) (fun b => Q (.bl b) S) .mk) := id rfl
def rNe : R2V := fun x y S Q => match x, y with
  | .int i, .int j => Q (.bl (!decide (i = j))) S
  | .str i, .str j => Q (.bl (!decide (i = j))) S
  | .bl i, .bl j => Q (.bl (!decide (i = j))) S
  | x, y => ExC (Deep x y) (fun b => Q (.bl (!b)) S) .mk
@[simp ↓] theorem rNe_eq (x) (y) (S) (Q) : rNe x y S Q = (match x, y with
  | .int i, .int j => Q (.bl (!decide (i = j))) S
  | .str i, .str j => Q (.bl (!decide (i = j))) S
  | .bl i, .bl j => Q (.bl (!decide (i = j))) S
  | x, y => ExC (Deep x y) (fun b => Q (.bl (!b)) S) .mk) := id rfl
theorem ov_eq (hu : ∀ i, (R i).A.units + 200 < cLine) : OpV C R (compareOp .Eq) rEq := by
  refine .of (fun x y H Q => L2.rEq x y H Q ∨ rEqG C.K false x y H Q) (fun i => (op_eq.or (op_eqG (X := C.at (R i)) (hu i)))) fun F Z S H x y d e Q R ok rx ry k h => ?_
  unfold rEq at h
  split at h
  · cases (show x = _ from rx); cases (show y = _ from ry)
    exact .inl ⟨rfl, k _ _ _ _ _ (Same.refl F) ok (by simp [Rep]) h⟩
  · cases (show x = _ from rx); cases (show y = _ from ry)
    exact .inl ⟨rfl, k _ _ _ _ _ (Same.refl F) ok (by simp [Rep]) h⟩
  · cases (show x = _ from rx); cases (show y = _ from ry)
    exact .inl ⟨rfl, k _ _ _ _ _ (Same.refl F) ok (by simp [Rep]) h⟩
  · obtain ⟨b, ⟨dx, dy, h1, h2, h3, h4, h5, rfl⟩, q⟩ := h
    exact .inr ⟨dx, dy, rep_dp ok.fro _ _ _ rx h1, rep_dp ok.fro _ _ _ ry h2, h3, h4, h5, k _ _ _ _ (.bl _) (Same.refl F) ok rfl q⟩
theorem ov_ne (hu : ∀ i, (R i).A.units + 200 < cLine) : OpV C R (compareOp .NotEq) rNe := by
  refine .of (fun x y H Q => L2.rNe x y H Q ∨ rEqG C.K true x y H Q) (fun i => (op_ne.or (op_neG (X := C.at (R i)) (hu i)))) fun F Z S H x y d e Q R ok rx ry k h => ?_
  unfold rNe at h
  split at h
  · cases (show x = _ from rx); cases (show y = _ from ry)
    exact .inl ⟨rfl, k _ _ _ _ _ (Same.refl F) ok (by simp [Rep]) h⟩
  · cases (show x = _ from rx); cases (show y = _ from ry)
    exact .inl ⟨rfl, k _ _ _ _ _ (Same.refl F) ok (by simp [Rep]) h⟩
  · cases (show x = _ from rx); cases (show y = _ from ry)
    exact .inl ⟨rfl, k _ _ _ _ _ (Same.refl F) ok (by simp [Rep]) h⟩
  · obtain ⟨b, ⟨dx, dy, h1, h2, h3, h4, h5, rfl⟩, q⟩ := h
    exact .inr ⟨dx, dy, rep_dp ok.fro _ _ _ rx h1, rep_dp ok.fro _ _ _ ry h2, h3, h4, h5, k _ _ _ _ (.bl _) (Same.refl F) ok rfl q⟩
end
end L3

set_option Elab.async false
set_option linter.all false
set_option maxRecDepth 100000
set_option maxHeartbeats 4000000
/-! The value layer: tests, displays, subscripts, calls. -/
namespace L3
open PySem PySem.Spec PyProof.Rows L2

section
variable {C : Cmn} {ι : Type} {R : ι → Rst} {K : PySem.W.Frag} {W : WX}
/-! ### tests -/
def vTst (t : WE) : WT := fun env S Q E => t env S (fun d S1 => match d with
  | .bl b => Q b S1
  | _ => False) E
@[simp ↓] theorem vTst_eq (t : WE) (env) (S) (Q) (E) : vTst t env S Q E = (t env S (fun d S1 => match d with
  | .bl b => Q b S1
  | _ => False) E) := id rfl
def vNot (t : WT) : WT := fun env S Q E => t env S (fun b S1 => Q (!b) S1) E
@[simp ↓] theorem vNot_eq (t : WT) (env) (S) (Q) (E) : vNot t env S Q E = (t env S (fun b S1 => Q (!b) S1) E) := id rfl
def vAnd (t u : WT) : WT := fun env S Q E => t env S (fun c S1 => if c = true then u env S1 Q E else Q false S1) E
@[simp ↓] theorem vAnd_eq (t u : WT) (env) (S) (Q) (E) : vAnd t u env S Q E = (t env S (fun c S1 => if c = true then u env S1 Q E else Q false S1) E) := id rfl
def vOr (t u : WT) : WT := fun env S Q E => t env S (fun c S1 => if c = true then Q true S1 else u env S1 Q E) E
@[simp ↓] theorem vOr_eq (t u : WT) (env) (S) (Q) (E) : vOr t u env S Q E = (t env S (fun c S1 => if c = true then Q true S1 else u env S1 Q E) E) := id rfl
theorem snd_tst {t : WE} {u : TE} (s : SndE K W t u) : SndT K W (vTst t) (fun σ H Q => u σ H fun x H' => ∃ k, x = .bl k ∧ Q k H') := fun σ H F Z env S Q Ex R ok en th k h =>
  s σ H F Z env S _ Ex _ ok en th (fun v H' F' S' d sm ok' r q => by
    cases d with
    | bl b => exact ⟨b, r, k b H' F' S' sm ok' q⟩
    | _ => exact q.elim) h
theorem vt_cmp {op : CmpOp} {r : R2V} {a b : Expr} {ta tb : WE} {pos : Pos} (ho : OpV C R (compareOp op) r) (ha : VE C R a ta) (hb : VE C R b tb) (hm : behindInMarks op b = false := by first | exact nomark _ | rfl) : VT C R (.Compare a [op] [b] pos) (vTst (vOp r ta tb)) := fun W => by
  obtain ⟨ua, pa, sa⟩ := ha W
  obtain ⟨ub, pb, sb⟩ := hb W
  obtain ⟨u, hu, su⟩ := ho
  exact ⟨_, fun i tk => pt_cmpR (hu i) (pa i tk) (pb i tk) hm, snd_tst (snd_op su sa sb)⟩
theorem ve_cmp {op : CmpOp} {r : R2V} {a b : Expr} {ta tb : WE} {pos : Pos} (ho : OpV C R (compareOp op) r) (ha : VE C R a ta) (hb : VE C R b tb) (hm : behindInMarks op b = false := by first | exact nomark _ | rfl) : VE C R (.Compare a [op] [b] pos) (vOp r ta tb) := fun W => by
  obtain ⟨ua, pa, sa⟩ := ha W
  obtain ⟨ub, pb, sb⟩ := hb W
  obtain ⟨u, hu, su⟩ := ho
  exact ⟨_, fun i tk => pe_cmpR (hu i) (pa i tk) (pb i tk) hm, snd_op su sa sb⟩
theorem vt_val {e : Expr} {t : WE} (h : VE C R e t) (he : ∀ i whole, isTrue e (R i).env whole = (do let v ← whole; standAt e.pos; holding [v] (truthy v)) := by exact fun _ _ => rfl) : VT C R e (vTst t) := fun W => by
  obtain ⟨u, p, s⟩ := h W
  exact ⟨_, fun i tk => pt_val (X := C.at (R i)) (p i tk) (he i), snd_tst s⟩
theorem vt_not {e : Expr} {t : WT} {pos : Pos} (h : VT C R e t) : VT C R (.UnaryOp .Not e pos) (vNot t) := fun W => by
  obtain ⟨u, p, s⟩ := h W
  exact ⟨_, fun i tk => pt_not (p i tk), fun σ H F Z env S Q Ex R ok en th k q => s σ H F Z env S _ Ex _ ok en th (fun b H' F' S' sm ok' q' => k (!b) H' F' S' sm ok' q') q⟩
theorem vw_pt {e : Expr} {t : WT} (h : VW C R e t) : VT C R e t := fun W => by
  obtain ⟨u, p, s⟩ := h W
  exact ⟨u, fun i tk => (p i tk).pt, s⟩
theorem vw_and1 {a : Expr} {t : WT} {pos : Pos} (h : VT C R a t) : VW C R (.BoolOp .And [a] pos) t := fun W => by
  obtain ⟨u, p, s⟩ := h W
  exact ⟨u, fun i tk => pw_and1 (p i tk), s⟩
theorem vw_or1 {a : Expr} {t : WT} {pos : Pos} (h : VT C R a t) : VW C R (.BoolOp .Or [a] pos) t := fun W => by
  obtain ⟨u, p, s⟩ := h W
  exact ⟨u, fun i tk => pw_or1 (p i tk), s⟩
theorem vw_and {a b : Expr} {rest : List Expr} {t t' : WT} {pos : Pos} (h : VT C R a t) (h' : VW C R (.BoolOp .And (b :: rest) pos) t') : VW C R (.BoolOp .And (a :: b :: rest) pos) (vAnd t t') := fun W => by
  obtain ⟨u, p, s⟩ := h W
  obtain ⟨u', p', s'⟩ := h' W
  refine ⟨_, fun i tk => pw_and (p i tk) (p' i tk), fun σ H F Z env S Q Ex R ok en th k q => s σ H F Z env S _ Ex _ ok en th (fun b H' F' S' sm ok' q' => ?_) q⟩
  cases b with
  | true => exact s' σ H' F' Z env S' Q Ex R ok' (en.mono sm) (th.mono sm) (k.mono sm) q'
  | false => exact k false H' F' S' sm ok' q'
theorem vw_or {a b : Expr} {rest : List Expr} {t t' : WT} {pos : Pos} (h : VT C R a t) (h' : VW C R (.BoolOp .Or (b :: rest) pos) t') : VW C R (.BoolOp .Or (a :: b :: rest) pos) (vOr t t') := fun W => by
  obtain ⟨u, p, s⟩ := h W
  obtain ⟨u', p', s'⟩ := h' W
  refine ⟨_, fun i tk => pw_or (p i tk) (p' i tk), fun σ H F Z env S Q Ex R ok en th k q => s σ H F Z env S _ Ex _ ok en th (fun b H' F' S' sm ok' q' => ?_) q⟩
  cases b with
  | true => exact k true H' F' S' sm ok' q'
  | false => exact s' σ H' F' Z env S' Q Ex R ok' (en.mono sm) (th.mono sm) (k.mono sm) q'
/-- and, or, not as values -/
def vAndV (t u : WE) : WE := fun env S Q E => t env S (fun d S1 => match d with
  | .bl c => if c = true then u env S1 Q E else Q (.bl false) S1
  | _ => False) E
@[simp ↓] theorem vAndV_eq (t u : WE) (env) (S) (Q) (E) : vAndV t u env S Q E = (t env S (fun d S1 => match d with
  | .bl c => if c = true then u env S1 Q E else Q (.bl false) S1
  | _ => False) E) := id rfl
def vOrV (t u : WE) : WE := fun env S Q E => t env S (fun d S1 => match d with
  | .bl c => if c = true then Q (.bl true) S1 else u env S1 Q E
  | _ => False) E
@[simp ↓] theorem vOrV_eq (t u : WE) (env) (S) (Q) (E) : vOrV t u env S Q E = (t env S (fun d S1 => match d with
  | .bl c => if c = true then Q (.bl true) S1 else u env S1 Q E
  | _ => False) E) := id rfl
def vNotV (t : WE) : WE := fun env S Q E => t env S (fun d S1 => match d with
  | .bl c => Q (.bl (!c)) S1
  | _ => False) E
@[simp ↓] theorem vNotV_eq (t : WE) (env) (S) (Q) (E) : vNotV t env S Q E = (t env S (fun d S1 => match d with
  | .bl c => Q (.bl (!c)) S1
  | _ => False) E) := id rfl
theorem ve_one {op} {a : Expr} {t : WE} {pos : Pos} (h : VE C R a t) : VE C R (.BoolOp op [a] pos) t := fun W => by
  obtain ⟨u, p, s⟩ := h W
  exact ⟨u, fun i tk => pe_one (p i tk), s⟩
theorem ve_and {a b : Expr} {rest : List Expr} {t t' : WE} {pos : Pos} (h : VE C R a t) (h' : VE C R (.BoolOp .And (b :: rest) pos) t') : VE C R (.BoolOp .And (a :: b :: rest) pos) (vAndV t t') := fun W => by
  obtain ⟨u, p, s⟩ := h W
  obtain ⟨u', p', s'⟩ := h' W
  refine ⟨_, fun i tk => pe_and (p i tk) (p' i tk), fun σ H F Z env S Q Ex R ok en th k q => s σ H F Z env S _ Ex _ ok en th (fun v H' F' S' d sm ok' r q' => ?_) q⟩
  cases d with
  | bl b =>
    cases b with
    | true => exact ⟨true, r, s' σ H' F' Z env S' Q Ex R ok' (en.mono sm) (th.mono sm) (k.mono sm) q'⟩
    | false => exact ⟨false, r, k (.bl false) H' F' S' (.bl false) sm ok' rfl q'⟩
  | _ => exact q'.elim
theorem ve_or {a b : Expr} {rest : List Expr} {t t' : WE} {pos : Pos} (h : VE C R a t) (h' : VE C R (.BoolOp .Or (b :: rest) pos) t') : VE C R (.BoolOp .Or (a :: b :: rest) pos) (vOrV t t') := fun W => by
  obtain ⟨u, p, s⟩ := h W
  obtain ⟨u', p', s'⟩ := h' W
  refine ⟨_, fun i tk => pe_or (p i tk) (p' i tk), fun σ H F Z env S Q Ex R ok en th k q => s σ H F Z env S _ Ex _ ok en th (fun v H' F' S' d sm ok' r q' => ?_) q⟩
  cases d with
  | bl b =>
    cases b with
    | true => exact ⟨true, r, k (.bl true) H' F' S' (.bl true) sm ok' rfl q'⟩
    | false => exact ⟨false, r, s' σ H' F' Z env S' Q Ex R ok' (en.mono sm) (th.mono sm) (k.mono sm) q'⟩
  | _ => exact q'.elim
theorem ve_not {a : Expr} {t : WE} {pos : Pos} (h : VE C R a t) : VE C R (.UnaryOp .Not a pos) (vNotV t) := fun W => by
  obtain ⟨u, p, s⟩ := h W
  refine ⟨_, fun i tk => pe_not (p i tk), fun σ H F Z env S Q Ex R ok en th k q => s σ H F Z env S _ Ex _ ok en th (fun v H' F' S' d sm ok' r q' => ?_) q⟩
  cases d with
  | bl b => exact ⟨b, r, k (.bl (!b)) H' F' S' (.bl (!b)) sm ok' rfl q'⟩
  | _ => exact q'.elim
def vIfE (c : WT) (t u : WE) : WE := fun env S Q E => c env S (fun b S1 => if b = true then t env S1 Q E else u env S1 Q E) E
@[simp ↓] theorem vIfE_eq (c : WT) (t u : WE) (env) (S) (Q) (E) : vIfE c t u env S Q E = (c env S (fun b S1 => if b = true then t env S1 Q E else u env S1 Q E) E) := id rfl
theorem ve_if {c a b : Expr} {tc : WT} {ta tb : WE} {pos : Pos} (hc : VT C R c tc) (ha : VE C R a ta) (hb : VE C R b tb) : VE C R (.IfExp c a b pos) (vIfE tc ta tb) := fun W => by
  obtain ⟨uc, pc, sc⟩ := hc W
  obtain ⟨ua, pa, sa⟩ := ha W
  obtain ⟨ub, pb, sb⟩ := hb W
  refine ⟨_, fun i tk => pe_ifExp (pc i tk) (pa i tk) (pb i tk), fun σ H F Z env S Q Ex R ok en th k q => sc σ H F Z env S _ Ex _ ok en th (fun b H' F' S' sm ok' q' => ?_) q⟩
  cases b with
  | true => exact sa σ H' F' Z env S' Q Ex R ok' (en.mono sm) (th.mono sm) (k.mono sm) q'
  | false => exact sb σ H' F' Z env S' Q Ex R ok' (en.mono sm) (th.mono sm) (k.mono sm) q'
/-- a < b < c -/
def vChain (r r' : R2V) (ta tb tc : WE) : WE := fun env S Q E => ta env S (fun x S1 => tb env S1 (fun y S2 => r x y S2 (fun d S3 => match d with
  | .bl k => if k = true then tc env S3 (fun z S4 => r' y z S4 Q) E else Q (.bl false) S3
  | _ => False)) E) E
@[simp ↓] theorem vChain_eq (r r' : R2V) (ta tb tc : WE) (env) (S) (Q) (E) : vChain r r' ta tb tc env S Q E = (ta env S (fun x S1 => tb env S1 (fun y S2 => r x y S2 (fun d S3 => match d with
  | .bl k => if k = true then tc env S3 (fun z S4 => r' y z S4 Q) E else Q (.bl false) S3
  | _ => False)) E) E) := id rfl
theorem snd_chain {r r' : R2V} {u u' : R2} {ta tb tc : WE} {ua ub uc : TE} (hr : SndR K r u) (hr' : SndR K r' u') (sa : SndE K W ta ua) (sb : SndE K W tb ub) (sc : SndE K W tc uc) : SndE K W (vChain r r' ta tb tc) (tChain u u' ua ub uc) := fun σ H F Z env S Q Ex R ok en th k h =>
  sa σ H F Z env S _ Ex _ ok en th (fun x H1 F1 S1 d sm1 ok1 r1 h1 => sb σ H1 F1 Z env S1 _ Ex _ ok1 (en.mono sm1) (th.mono sm1) (fun y H2 F2 S2 e sm2 ok2 r2 h2 =>
    hr F2 Z S2 H2 x y d e _ _ ok2 (Rep.mono sm2 _ _ r1) r2 (fun z H3 F3 S3 c sm3 ok3 r3 h3 => by
      cases c with
      | bl b =>
        have sm13 := sm1.trans (sm2.trans sm3)
        cases b with
        | true => exact ⟨true, r3, sc σ H3 F3 Z env S3 _ Ex _ ok3 (en.mono sm13) (th.mono sm13) (fun w H4 F4 S4 f sm4 ok4 r4 h4 => hr' F4 Z S4 H4 y w e f _ _ ok4 (Rep.mono (sm3.trans sm4) _ _ r2) r4 (k.mono (sm13.trans sm4)) h4) h3⟩
        | false => exact ⟨false, r3, k (.bl false) H3 F3 S3 (.bl false) sm13 ok3 rfl h3⟩
      | _ => exact h3.elim) h2) h1) h
theorem ve_chain {op op' : CmpOp} {r r' : R2V} {a b c : Expr} {ta tb tc : WE} {pos : Pos} (ho : OpV C R (compareOp op) r) (ho' : OpV C R (compareOp op') r') (ha : VE C R a ta) (hb : VE C R b tb) (hc : VE C R c tc)
    (hm : lastMarks [op, op'] [b, c] = false := by with_unfolding_all rfl) : VE C R (.Compare a [op, op'] [b, c] pos) (vChain r r' ta tb tc) := fun W => by
  obtain ⟨ua, pa, sa⟩ := ha W
  obtain ⟨ub, pb, sb⟩ := hb W
  obtain ⟨uc, pc, sc⟩ := hc W
  obtain ⟨u, hu, su⟩ := ho
  obtain ⟨u', hu', su'⟩ := ho'
  exact ⟨_, fun i tk => pe_chain (hu i) (hu' i) (pa i tk) (pb i tk) (pc i tk) hm, snd_chain su su' sa sb sc⟩
theorem vt_chain {op op' : CmpOp} {r r' : R2V} {a b c : Expr} {ta tb tc : WE} {pos : Pos} (ho : OpV C R (compareOp op) r) (ho' : OpV C R (compareOp op') r') (ha : VE C R a ta) (hb : VE C R b tb) (hc : VE C R c tc)
    (hm : lastMarks [op, op'] [b, c] = false := by with_unfolding_all rfl) : VT C R (.Compare a [op, op'] [b, c] pos) (vTst (vChain r r' ta tb tc)) := fun W => by
  obtain ⟨ua, pa, sa⟩ := ha W
  obtain ⟨ub, pb, sb⟩ := hb W
  obtain ⟨uc, pc, sc⟩ := hc W
  obtain ⟨u, hu, su⟩ := ho
  obtain ⟨u', hu', su'⟩ := ho'
  exact ⟨_, fun i tk => pt_chain (hu i) (hu' i) (pa i tk) (pb i tk) (pc i tk) hm, snd_tst (snd_chain su su' sa sb sc)⟩

/-! ### -a -/
def vUn (r : D → Sto → VQ → Prop) (ta : WE) : WE := fun env S Q E => ta env S (fun x S1 => r x S1 Q) E
@[simp ↓] theorem vUn_eq (r : D → Sto → VQ → Prop) (ta : WE) (env) (S) (Q) (E) : vUn r ta env S Q E = (ta env S (fun x S1 => r x S1 Q) E) := id rfl
def rNeg : D → Sto → VQ → Prop := fun x S Q => match x with
  | .int i => Q (.int (-i)) S
  | _ => False
@[simp ↓] theorem rNeg_eq (x) (S) (Q) : rNeg x S Q = (match x with
  | .int i => Q (.int (-i)) S
  | _ => False) := id rfl
theorem ve_neg {a : Expr} {ta : WE} {pos : Pos} (ha : VE C R a ta) : VE C R (.UnaryOp .USub a pos) (vUn rNeg ta) := fun W => by
  obtain ⟨ua, pa, sa⟩ := ha W
  refine ⟨_, fun i tk => pe_un un_neg (pa i tk), fun σ H F Z env S Q Ex R ok en th k q => sa σ H F Z env S _ Ex _ ok en th (fun v H' F' S' d sm ok' r q' => ?_) q⟩
  cases d with
  | int i => exact ⟨i, r, k (.int (-i)) H' F' S' (.int (-i)) sm ok' rfl q'⟩
  | _ => exact q'.elim

/-! ### arguments, displays -/
def vNil : WA := fun _ S Q _ => Q [] S
@[simp ↓] theorem vNil_eq (z0) (S) (Q) (z1) : vNil z0 S Q z1 = (Q [] S) := id rfl
def vCons (t : WE) (u : WA) : WA := fun env S Q E => t env S (fun d S1 => u env S1 (fun ds S2 => Q (d :: ds) S2) E) E
@[simp ↓] theorem vCons_eq (t : WE) (u : WA) (env) (S) (Q) (E) : vCons t u env S Q E = (t env S (fun d S1 => u env S1 (fun ds S2 => Q (d :: ds) S2) E) E) := id rfl
theorem va_nil : VA C R [] vNil := fun W => ⟨_, fun i tk => pa_nil, fun σ H F Z env S Q Ex R ok en th k q => k [] H F S [] (Same.refl F) ok rfl q⟩
theorem va_cons {e : Expr} {es : List Expr} {t : WE} {u : WA} (h : VE C R e t) (h' : VA C R es u) (hs : ∀ i, starEach (e :: es) (R i).env = (false, eval e (R i).env) :: starEach es (R i).env := by exact fun _ => rfl) : VA C R (e :: es) (vCons t u) := fun W => by
  obtain ⟨ua, pa, sa⟩ := h W
  obtain ⟨ub, pb, sb⟩ := h' W
  exact ⟨_, fun i tk => pa_cons (pa i tk) (pb i tk) (hs i), fun σ H F Z env S Q Ex R ok en th k q => sa σ H F Z env S _ Ex _ ok en th (fun v H1 F1 S1 d sm1 ok1 r1 q1 => sb σ H1 F1 Z env S1 _ Ex _ ok1 (en.mono sm1) (th.mono sm1)
    (fun vs H2 F2 S2 ds sm2 ok2 r2 q2 => k (v :: vs) H2 F2 S2 (d :: ds) (sm1.trans sm2) ok2 ⟨v, vs, rfl, Rep.mono sm2 _ _ r1, r2⟩ q2) q1) q⟩
def vTup (t : WA) : WE := fun env S Q E => t env S (fun ds S1 => ds.length ≤ sizeLine ∧ Q (.tup ds) S1) E
@[simp ↓] theorem vTup_eq (t : WA) (env) (S) (Q) (E) : vTup t env S Q E = (t env S (fun ds S1 => ds.length ≤ sizeLine ∧ Q (.tup ds) S1) E) := id rfl
/-- a list display, frozen at once -/
def vLstF (t : WA) : WE := fun env S Q E => t env S (fun ds S1 => ds.length ≤ sizeLine ∧ Q (.lst ds) S1) E
@[simp ↓] theorem vLstF_eq (t : WA) (env) (S) (Q) (E) : vLstF t env S Q E = (t env S (fun ds S1 => ds.length ≤ sizeLine ∧ Q (.lst ds) S1) E) := id rfl
/-- a list display, for the store -/
def vLst (t : WA) : WE := fun env S Q E => t env S (fun ds S1 => ds.length ≤ sizeLine ∧ ∀ p, S1 p = none → Q (.ref p) (sup S1 p (.lst ds))) E
@[simp ↓] theorem vLst_eq (t : WA) (env) (S) (Q) (E) : vLst t env S Q E = (t env S (fun ds S1 => ds.length ≤ sizeLine ∧ ∀ p, S1 p = none → Q (.ref p) (sup S1 p (.lst ds))) E) := id rfl
theorem ve_tup {es : List Expr} {t : WA} {x1} {pos : Pos} (h : VA C R es t) : VE C R (.Tuple es x1 pos) (vTup t) := fun W => by
  obtain ⟨u, p, s⟩ := h W
  exact ⟨_, fun i tk => pe_tup (p i tk), fun σ H F Z env S Q Ex R ok en th k q => s σ H F Z env S _ Ex _ ok en th (fun vs H1 F1 S1 ds sm1 ok1 r1 q1 => ⟨by rw [← r1.length]; exact q1.1, fun p hp => (k.mono sm1).tup ok1 hp r1 q1.2⟩) q⟩
theorem ve_lstF {es : List Expr} {t : WA} {pos : Pos} (h : VA C R es t) : VE C R (.List es pos) (vLstF t) := fun W => by
  obtain ⟨u, p, s⟩ := h W
  exact ⟨_, fun i tk => pe_lst (p i tk), fun σ H F Z env S Q Ex R ok en th k q => s σ H F Z env S _ Ex _ ok en th (fun vs H1 F1 S1 ds sm1 ok1 r1 q1 => ⟨by rw [← r1.length]; exact q1.1, fun p hp => (k.mono sm1).lst ok1 hp r1 q1.2⟩) q⟩
theorem ve_lst {es : List Expr} {t : WA} {pos : Pos} (h : VA C R es t) : VE C R (.List es pos) (vLst t) := fun W => by
  obtain ⟨u, p, s⟩ := h W
  exact ⟨_, fun i tk => pe_lst (p i tk), fun σ H F Z env S Q Ex R ok en th k q => s σ H F Z env S _ Ex _ ok en th (fun vs H1 F1 S1 ds sm1 ok1 r1 q1 => ⟨by rw [← r1.length]; exact q1.1, fun p hp => (k.mono sm1).own ok1 hp r1 (q1.2 p (ok1.newS hp))⟩) q⟩

/-! ### subscripts -/
/-- the item at i, counted from the end if i is below 0 -/
def atD (xs : List D) (i : Int) : Option D := atI xs i
def rIx : R2V := fun x y S Q => match x, y with
  | .tup xs, .int i => AtC (atI xs i) (fun d => Q d S) .mk
  | .lst xs, .int i => AtC (atI xs i) (fun d => Q d S) .mk
  | .fix xs, .int i => AtC (atI xs i) (fun d => Q d S) .mk
  | .str z, .int i => z.length ≤ sizeLine ∧ AtC (atI z.cps.toList i) (fun c => Q (.str ⟨#[c]⟩) S) .mk
  | .ref p, .int i => match S p with
    | some (.lst xs) => AtC (atI xs i) (fun d => Q d S) .mk
    | _ => False
  | _, _ => False
@[simp ↓] theorem rIx_eq (x) (y) (S) (Q) : rIx x y S Q = (match x, y with
  | .tup xs, .int i => AtC (atI xs i) (fun d => Q d S) .mk
  | .lst xs, .int i => AtC (atI xs i) (fun d => Q d S) .mk
  | .fix xs, .int i => AtC (atI xs i) (fun d => Q d S) .mk
  | .str z, .int i => z.length ≤ sizeLine ∧ AtC (atI z.cps.toList i) (fun c => Q (.str ⟨#[c]⟩) S) .mk
  | .ref p, .int i => match S p with
    | some (.lst xs) => AtC (atI xs i) (fun d => Q d S) .mk
    | _ => False
  | _, _ => False) := id rfl
theorem Reps.at {F : Hp} {ds : List D} {vs : List V} {i : Int} {d : D} (r : Reps K F ds vs) (h : atI ds i = some d) : ∃ v, atI vs i = some v ∧ Rep K F d v := by
  unfold atI at h ⊢
  rw [← r.length]
  cases e : ixN ds.length i with
  | none => rw [e] at h; cases h
  | some j =>
    rw [e] at h
    exact r.get h
theorem ix_sound : SndR K rIx (L2.rIx K) := fun F Z S H x y d e Q R ok rx ry k h => by
  unfold rIx at h
  delta AtC at h
  split at h
  · split at h
    · obtain ⟨a, vs, rfl, h1, h2⟩ := rx
      cases (show y = _ from ry)
      rename_i e
      obtain ⟨v, h3, h4⟩ := h2.at e
      exact .inr (.inl ⟨a, vs, _, v, rfl, rfl, same_sqt ok.fro h1.sq, h3, k _ _ _ _ _ (Same.refl F) ok h4 h⟩)
    · exact h.elim
  · split at h
    · obtain ⟨a, vs, rfl, h1, h2⟩ := rx
      cases (show y = _ from ry)
      rename_i e
      obtain ⟨v, h3, h4⟩ := h2.at e
      exact .inl ⟨a, vs, _, v, rfl, rfl, SqL.of (ok.fro _ _ h1), h3, k _ _ _ _ _ (Same.refl F) ok h4 h⟩
    · exact h.elim
  · split at h
    · obtain ⟨a, vs, rfl, h1, h2⟩ := rx
      cases (show y = _ from ry)
      rename_i e
      obtain ⟨v, h3, h4⟩ := h2.at e
      exact .inl ⟨a, vs, _, v, rfl, rfl, ok.fro.seq h1, h3, k _ _ _ _ _ (Same.refl F) ok h4 h⟩
    · exact h.elim
  · obtain ⟨hz, h⟩ := h
    split at h
    · cases (show x = _ from rx); cases (show y = _ from ry)
      rename_i e
      exact .inr (.inr ⟨_, _, _, rfl, rfl, hz, e, k _ _ _ _ (.str _) (Same.refl F) ok rfl h⟩)
    · exact h.elim
  · split at h
    · rename_i q
      split at h
      · rename_i e
        cases (show x = _ from rx); cases (show y = _ from ry)
        obtain ⟨_, ho, h1, vs, rfl, h2⟩ := ok.own _ _ q
        obtain ⟨v, h3, h4⟩ := h2.at e
        exact .inl ⟨_, vs, _, v, rfl, rfl, SqL.of h1, h3, k _ _ _ _ _ (Same.refl F) ok h4 h⟩
      · exact h.elim
    · exact h.elim
  · exact h.elim
theorem ve_ix {a b : Expr} {ta tb : WE} {pos : Pos} (ha : VE C R a ta) (hb : VE C R b tb) (hs : PlainIx b := by exact fun _ _ => rfl) : VE C R (.Subscript a b pos) (vOp rIx ta tb) := fun W => by
  obtain ⟨ua, pa, sa⟩ := ha W
  obtain ⟨ub, pb, sb⟩ := hb W
  exact ⟨_, fun i tk => pe_ix (ix_seq (X := C.at (R i))) (pa i tk) (pb i tk) hs, snd_op ix_sound sa sb⟩
/-! slices -/
abbrev WO := Env → Sto → (Option Int → Sto → Prop) → EX → Prop
def vNoP : WO := fun _ S Q _ => Q none S
@[simp ↓] theorem vNoP_eq (z0) (S) (Q) (z1) : vNoP z0 S Q z1 = (Q none S) := id rfl
def vPart (t : WE) : WO := fun env S Q E => t env S (fun d S1 => match d with
  | .int i => Q (some i) S1
  | _ => False) E
@[simp ↓] theorem vPart_eq (t : WE) (env) (S) (Q) (E) : vPart t env S Q E = (t env S (fun d S1 => match d with
  | .int i => Q (some i) S1
  | _ => False) E) := id rfl
def SndO (K : PySem.W.Frag) (W : WX) (t : WO) (u : TO) : Prop := ∀ σ H F Z env S Q Ex (R : Option Int → Hp → Prop), Ok K F Z S H → Envs K F σ env → Thr K F Z W σ Ex → (∀ o H' F' S', Same F F' → Ok K F' Z S' H' → Q o S' → R o H') → t env S Q Ex → u σ H R
def VO (C : Cmn) (R : ι → Rst) (e : Option Expr) (t : WO) : Prop := ∀ W, ∃ u, (∀ i, Takes (C.at (R i)) W → PO (C.at (R i)) e u) ∧ SndO C.K W t u
theorem vo_none : VO C R none vNoP := fun W => ⟨_, fun i tk => po_none, fun σ H F Z env S Q Ex R ok en th k q => k none H F S (Same.refl F) ok q⟩
theorem vo_some {e : Expr} {t : WE} (h : VE C R e t) : VO C R (some e) (vPart t) := fun W => by
  obtain ⟨u, p, s⟩ := h W
  refine ⟨_, fun i tk => po_some (p i tk), fun σ H F Z env S Q Ex R ok en th k q => s σ H F Z env S _ Ex _ ok en th (fun v H1 F1 S1 d sm1 ok1 r1 q1 => ?_) q⟩
  cases d with
  | int i => exact ⟨i, r1, k (some i) H1 F1 S1 sm1 ok1 q1⟩
  | _ => exact q1.elim
/-- the items of xs[lo:hi] -/
def cutD (xs : List D) (lo hi : Option Int) : List D := (xs.drop (HT.sIx xs.length 0 lo)).take (HT.sIx xs.length xs.length hi - HT.sIx xs.length 0 lo)
theorem Reps.cut {F : Hp} {ds : List D} {vs : List V} {lo hi : Option Int} (r : Reps K F ds vs) : Reps K F (cutD ds lo hi) (cutV vs lo hi) := by
  unfold cutD cutV
  rw [← r.length]
  exact (r.drop _).take _
abbrev RSl := D → Option Int → Option Int → Sto → VQ → Prop
def vSl (r : RSl) (te : WE) (tl th : WO) : WE := fun env S Q E => te env S (fun x S1 => tl env S1 (fun l S2 => th env S2 (fun h S3 => r x l h S3 Q) E) E) E
@[simp ↓] theorem vSl_eq (r : RSl) (te : WE) (tl th : WO) (env) (S) (Q) (E) : vSl r te tl th env S Q E = (te env S (fun x S1 => tl env S1 (fun l S2 => th env S2 (fun h S3 => r x l h S3 Q) E) E) E) := id rfl
/-- a slice; a list's slice is frozen at once -/
def rSlF : RSl := fun x l h S Q => match x with
  | .tup xs => Q (.tup (cutD xs l h)) S
  | .lst xs => Q (.lst (cutD xs l h)) S
  | .fix xs => Q (.lst (cutD xs l h)) S
  | .str z => z.length ≤ sizeLine ∧ Q (.str (cutS z l h)) S
  | .ref p => match S p with
    | some (.lst xs) => Q (.lst (cutD xs l h)) S
    | _ => False
  | _ => False
@[simp ↓] theorem rSlF_eq (x) (l) (h) (S) (Q) : rSlF x l h S Q = (match x with
  | .tup xs => Q (.tup (cutD xs l h)) S
  | .lst xs => Q (.lst (cutD xs l h)) S
  | .fix xs => Q (.lst (cutD xs l h)) S
  | .str z => z.length ≤ sizeLine ∧ Q (.str (cutS z l h)) S
  | .ref p => match S p with
    | some (.lst xs) => Q (.lst (cutD xs l h)) S
    | _ => False
  | _ => False) := id rfl
/-- a list's slice for the store -/
def rSlO : RSl := fun x l h S Q => match x with
  | .lst xs => ∀ p, S p = none → Q (.ref p) (sup S p (.lst (cutD xs l h)))
  | .ref p => match S p with
    | some (.lst xs) => ∀ q, S q = none → Q (.ref q) (sup S q (.lst (cutD xs l h)))
    | _ => False
  | _ => False
@[simp ↓] theorem rSlO_eq (x) (l) (h) (S) (Q) : rSlO x l h S Q = (match x with
  | .lst xs => ∀ p, S p = none → Q (.ref p) (sup S p (.lst (cutD xs l h)))
  | .ref p => match S p with
    | some (.lst xs) => ∀ q, S q = none → Q (.ref q) (sup S q (.lst (cutD xs l h)))
    | _ => False
  | _ => False) := id rfl
def SndSl (K : PySem.W.Frag) (r : RSl) (u : V → Option Int → Option Int → Hp → VK → Prop) : Prop := ∀ F Z S H x d l h Q R, Ok K F Z S H → Rep K F d x → KQ K F Z Q R → r d l h S Q → u x l h H R
theorem slF_sound : SndSl K rSlF (fun x lo hi H Q => rSlA K x lo hi H Q ∨ rSlL K x lo hi H Q ∨ (∃ z, x = .str z ∧ z.length ≤ sizeLine ∧ Q (.str (cutS z lo hi)) H)) := fun F Z S H x d l hh Q R ok rx k h => by
  unfold rSlF at h
  split at h
  · obtain ⟨a, vs, rfl, h1, h2⟩ := rx
    refine .inl ⟨a, vs, rfl, same_sqt ok.fro h1.sq, fun w => ?_, fun _ p hp => k.tup ok hp h2.cut h⟩
    refine k _ _ _ _ (.tup _) (Same.refl F) ok ⟨a, vs, rfl, h1, ?_⟩ h
    have e : cutD _ l hh = _ := show (_ : List D) = _ from by
      unfold cutD
      rw [h2.length, w.1, w.2, List.drop_zero, Nat.sub_zero, ← h2.length, List.take_length]
    rw [e]; exact h2
  · obtain ⟨a, vs, rfl, h1, h2⟩ := rx
    exact .inr (.inl ⟨a, vs, rfl, SqL.of (ok.fro _ _ h1), fun p hp => k.lst ok hp h2.cut h⟩)
  · obtain ⟨a, vs, rfl, h1, h2⟩ := rx
    exact .inr (.inl ⟨a, vs, rfl, ok.fro.seq h1, fun p hp => k.lst ok hp h2.cut h⟩)
  · cases (show x = _ from rx)
    exact .inr (.inr ⟨_, rfl, h.1, k _ _ _ _ (.str _) (Same.refl F) ok rfl h.2⟩)
  · split at h
    · rename_i q
      cases (show x = _ from rx)
      obtain ⟨_, ho, h1, vs, rfl, h2⟩ := ok.own _ _ q
      exact .inr (.inl ⟨_, vs, rfl, SqL.of h1, fun p hp => k.lst ok hp h2.cut h⟩)
    · exact h.elim
  · exact h.elim
theorem slO_sound : SndSl K rSlO (fun x lo hi H Q => rSlA K x lo hi H Q ∨ rSlL K x lo hi H Q ∨ (∃ z, x = .str z ∧ z.length ≤ sizeLine ∧ Q (.str (cutS z lo hi)) H)) := fun F Z S H x d l hh Q R ok rx k h => by
  unfold rSlO at h
  split at h
  · obtain ⟨a, vs, rfl, h1, h2⟩ := rx
    exact .inr (.inl ⟨a, vs, rfl, SqL.of (ok.fro _ _ h1), fun p hp => k.own ok hp h2.cut (h p (ok.newS hp))⟩)
  · split at h
    · rename_i q
      cases (show x = _ from rx)
      obtain ⟨_, ho, h1, vs, rfl, h2⟩ := ok.own _ _ q
      exact .inr (.inl ⟨_, vs, rfl, SqL.of h1, fun p hp => k.own ok hp h2.cut (h p (ok.newS hp))⟩)
    · exact h.elim
  · exact h.elim
theorem ve_slice {r : RSl} {e : Expr} {lo hi : Option Expr} {te : WE} {tl th : WO} {pos p2 : Pos} (hr : SndSl C.K r (fun x lo hi H Q => rSlA C.K x lo hi H Q ∨ rSlL C.K x lo hi H Q ∨ (∃ z, x = .str z ∧ z.length ≤ sizeLine ∧ Q (.str (cutS z lo hi)) H)))
    (he : VE C R e te) (hl : VO C R lo tl) (hh : VO C R hi th) : VE C R (.Subscript e (.Slice lo hi none p2) pos) (vSl r te tl th) := fun W => by
  obtain ⟨ue, pe, se⟩ := he W
  obtain ⟨ul, pl, sl⟩ := hl W
  obtain ⟨uh, ph, sh⟩ := hh W
  refine ⟨_, fun i tk => pe_slice (X := C.at (R i)) (r := fun x lo hi H Q => rSlA C.K x lo hi H Q ∨ rSlL C.K x lo hi H Q ∨ (∃ z, x = .str z ∧ z.length ≤ sizeLine ∧ Q (.str (cutS z lo hi)) H)) (SlR.or (X := C.at (R i)) sl_tupA (SlR.or (X := C.at (R i)) sl_list sl_str)) (pe i tk) (pl i tk) (ph i tk), fun σ H F Z env S Q Ex R ok en th k q => se σ H F Z env S _ Ex _ ok en th (fun v H1 F1 S1 d sm1 ok1 r1 q1 => ?_) q⟩
  refine sl σ H1 F1 Z env S1 _ Ex _ ok1 (en.mono sm1) (th.mono sm1) (fun l H2 F2 S2 sm2 ok2 q2 => ?_) q1
  refine sh σ H2 F2 Z env S2 _ Ex _ ok2 (en.mono (sm1.trans sm2)) (th.mono (sm1.trans sm2)) (fun h H3 F3 S3 sm3 ok3 q3 => ?_) q2
  exact hr F3 Z S3 H3 v d l h _ _ ok3 (Rep.mono (sm2.trans sm3) _ _ r1) (k.mono (sm1.trans (sm2.trans sm3))) q3

/-! ### calls of built-ins by name -/
abbrev RCV := List D → Sto → VQ → Prop
def SndC (K : PySem.W.Frag) (r : RCV) (u : List V → Hp → VK → Prop) : Prop := ∀ F Z S H vs ds Q R, Ok K F Z S H → Reps K F ds vs → KQ K F Z Q R → r ds S Q → u vs H R
def CallV (C : Cmn) (R : ι → Rst) (f : Value) (r : RCV) : Prop := ∃ u, (∀ i, CallR (C.at (R i)) f u) ∧ SndC C.K r u
def vCB (r : RCV) (t : WA) : WE := fun env S Q E => t env S (fun ds S1 => r ds S1 Q) E
@[simp ↓] theorem vCB_eq (r : RCV) (t : WA) (env) (S) (Q) (E) : vCB r t env S Q E = (t env S (fun ds S1 => r ds S1 Q) E) := id rfl
theorem snd_cb {r : RCV} {u : List V → Hp → VK → Prop} {t : WA} {ut : TA} (hr : SndC K r u) (s : SndA K W t ut) : SndE K W (vCB r t) (tCB u ut) := fun σ H F Z env S Q Ex R ok en th k h =>
  s σ H F Z env S _ Ex _ ok en th (fun vs H1 F1 S1 ds sm1 ok1 r1 h1 => hr F1 Z S1 H1 vs ds _ _ ok1 r1 (k.mono sm1) h1) h
theorem ve_callB {id : String} {r : RCV} {x : Str} {e : Expr} {es : List Expr} {t : WA} {p pos : Pos} (hc : CallV C R (.builtin id) r) (hm : C.mg x = none) (ha : VA C R (e :: es) t) (hg : ∀ i, Gl (C.at (R i)) x := by exact fun _ => rfl) (hv : bootBuiltins x = some (.builtin id) := by decide +kernel) (hn : x ≠ "__name__" := by decide) (hdb : (x == ("__debug__" : Str)) = false := by decide)
    (he : ∀ i, starEach (e :: es) (R i).env = (false, eval e (R i).env) :: starEach es (R i).env := by exact fun _ => rfl) (hpl : ∀ i, (backTo pos (starEach es (R i).env)).any (·.1) = false := by exact fun _ => rfl) : VE C R (.Call (.Name x p) (e :: es) [] pos) (vCB r t) := fun W => by
  obtain ⟨ut, pt, st⟩ := ha W
  obtain ⟨u, hu, su⟩ := hc
  exact ⟨_, fun i tk => pe_callB (hu i) (hg i) hm hv (pt i tk) hn hdb (he i) (hpl i), snd_cb su st⟩
theorem ve_callTy {T : String} {r : RCV} {x : Str} {e : Expr} {es : List Expr} {t : WA} {p pos : Pos} (hc : CallV C R (.type T) r) (hm : C.mg x = none) (ha : VA C R (e :: es) t) (hg : ∀ i, Gl (C.at (R i)) x := by exact fun _ => rfl) (hv : bootBuiltins x = some (.type T) := by decide +kernel) (hn : x ≠ "__name__" := by decide) (hdb : (x == ("__debug__" : Str)) = false := by decide)
    (he : ∀ i, starEach (e :: es) (R i).env = (false, eval e (R i).env) :: starEach es (R i).env := by exact fun _ => rfl) (hpl : ∀ i, (backTo pos (starEach es (R i).env)).any (·.1) = false := by exact fun _ => rfl) : VE C R (.Call (.Name x p) (e :: es) [] pos) (vCB r t) := fun W => by
  obtain ⟨ut, pt, st⟩ := ha W
  obtain ⟨u, hu, su⟩ := hc
  exact ⟨_, fun i tk => pe_callTy (hu i) (hg i) hm hv (pt i tk) hn hdb (he i) (hpl i), snd_cb su st⟩
/-- len -/
def rLen : RCV := fun ds S Q => match ds with
  | [.tup xs] => Q (.int xs.length) S
  | [.lst xs] => Q (.int xs.length) S
  | [.fix xs] => Q (.int xs.length) S
  | [.str z] => z.length ≤ sizeLine ∧ Q (.int z.length) S
  | [.ref p] => match S p with
    | some (.lst xs) => Q (.int xs.length) S
    | _ => False
  | _ => False
@[simp ↓] theorem rLen_eq (ds) (S) (Q) : rLen ds S Q = (match ds with
  | [.tup xs] => Q (.int xs.length) S
  | [.lst xs] => Q (.int xs.length) S
  | [.fix xs] => Q (.int xs.length) S
  | [.str z] => z.length ≤ sizeLine ∧ Q (.int z.length) S
  | [.ref p] => match S p with
    | some (.lst xs) => Q (.int xs.length) S
    | _ => False
  | _ => False) := id rfl
theorem reps1 {F : Hp} {d : D} {vs : List V} (h : Reps K F [d] vs) : ∃ v, vs = [v] ∧ Rep K F d v := by
  obtain ⟨v, r, rfl, h1, h2⟩ := h
  cases (show r = [] from h2)
  exact ⟨v, rfl, h1⟩
theorem reps2 {F : Hp} {d e : D} {vs : List V} (h : Reps K F [d, e] vs) : ∃ v w, vs = [v, w] ∧ Rep K F d v ∧ Rep K F e w := by
  obtain ⟨v, r, rfl, h1, h2⟩ := h
  obtain ⟨w, rfl, h3⟩ := reps1 h2
  exact ⟨v, w, rfl, h1, h3⟩
theorem cv_len : CallV C R (.builtin "len") rLen := by
  refine ⟨fun xs H Q => ∃ x n, xs = [x] ∧ LenV C.K x H n ∧ Q (.int n) H, fun i => call_len (X := C.at (R i)), fun F Z S H vs ds Q R ok r k h => ?_⟩
  unfold rLen at h
  split at h
  · obtain ⟨v, rfl, a, vs, rfl, h1, h2⟩ := reps1 r
    exact ⟨_, vs.length, rfl, .inr ⟨vs, same_sqt ok.fro h1.sq, rfl⟩, k _ _ _ _ (.int _) (Same.refl F) ok rfl (by rw [← h2.length]; exact h)⟩
  · obtain ⟨v, rfl, a, vs, rfl, h1, h2⟩ := reps1 r
    exact ⟨_, vs.length, rfl, .inl ⟨vs, SqL.of (ok.fro _ _ h1), rfl⟩, k _ _ _ _ (.int _) (Same.refl F) ok rfl (by rw [← h2.length]; exact h)⟩
  · obtain ⟨v, rfl, a, vs, rfl, h1, h2⟩ := reps1 r
    exact ⟨_, vs.length, rfl, .inl ⟨vs, ok.fro.seq h1, rfl⟩, k _ _ _ _ (.int _) (Same.refl F) ok rfl (by rw [← h2.length]; exact h)⟩
  · obtain ⟨v, rfl, h1⟩ := reps1 r
    cases (show v = _ from h1)
    exact ⟨_, _, rfl, ⟨h.1, rfl⟩, k _ _ _ _ (.int _) (Same.refl F) ok rfl h.2⟩
  · split at h
    · rename_i q
      obtain ⟨v, rfl, h1⟩ := reps1 r
      cases (show v = _ from h1)
      obtain ⟨_, ho, h1, vs, rfl, h2⟩ := ok.own _ _ q
      exact ⟨_, vs.length, rfl, .inl ⟨vs, SqL.of h1, rfl⟩, k _ _ _ _ (.int _) (Same.refl F) ok rfl (by rw [← h2.length]; exact h)⟩
    · exact h.elim
  · exact h.elim
def rAbs : RCV := fun ds S Q => match ds with
  | [.int i] => Q (.int (if i < 0 then -i else i)) S
  | _ => False
@[simp ↓] theorem rAbs_eq (ds) (S) (Q) : rAbs ds S Q = (match ds with
  | [.int i] => Q (.int (if i < 0 then -i else i)) S
  | _ => False) := id rfl
theorem cv_abs : CallV C R (.builtin "abs") rAbs := by
  refine ⟨_, fun i => call_abs (X := C.at (R i)), fun F Z S H vs ds Q R ok r k h => ?_⟩
  unfold rAbs at h
  split at h
  · obtain ⟨v, rfl, h1⟩ := reps1 r
    exact ⟨_, by rw [show v = _ from h1], k _ _ _ _ (.int _) (Same.refl F) ok rfl h⟩
  · exact h.elim
def rInt : RCV := fun ds S Q => match ds with
  | [.int i] => Q (.int i) S
  | [.bl b] => Q (.int (if b then 1 else 0)) S
  | _ => False
@[simp ↓] theorem rInt_eq (ds) (S) (Q) : rInt ds S Q = (match ds with
  | [.int i] => Q (.int i) S
  | [.bl b] => Q (.int (if b then 1 else 0)) S
  | _ => False) := id rfl
theorem cv_int : CallV C R (.type "int") rInt := by
  refine ⟨_, fun i => call_int1 (X := C.at (R i)), fun F Z S H vs ds Q R ok r k h => ?_⟩
  unfold rInt at h
  split at h
  · obtain ⟨v, rfl, h1⟩ := reps1 r
    exact .inl ⟨_, by rw [show v = _ from h1], k _ _ _ _ (.int _) (Same.refl F) ok rfl h⟩
  · obtain ⟨v, rfl, h1⟩ := reps1 r
    exact .inr ⟨_, by rw [show v = _ from h1], k _ _ _ _ (.int _) (Same.refl F) ok rfl h⟩
  · exact h.elim
/-- list(x), frozen at once; for the store -/
def rListF : RCV := fun ds S Q => match ds with
  | [.tup xs] => Q (.lst xs) S
  | [.lst xs] => Q (.lst xs) S
  | [.fix xs] => Q (.lst xs) S
  | [.ref p] => match S p with
    | some (.lst xs) => Q (.lst xs) S
    | _ => False
  | _ => False
@[simp ↓] theorem rListF_eq (ds) (S) (Q) : rListF ds S Q = (match ds with
  | [.tup xs] => Q (.lst xs) S
  | [.lst xs] => Q (.lst xs) S
  | [.fix xs] => Q (.lst xs) S
  | [.ref p] => match S p with
    | some (.lst xs) => Q (.lst xs) S
    | _ => False
  | _ => False) := id rfl
def rListO : RCV := fun ds S Q => match ds with
  | [.tup xs] => ∀ p, S p = none → Q (.ref p) (sup S p (.lst xs))
  | [.lst xs] => ∀ p, S p = none → Q (.ref p) (sup S p (.lst xs))
  | [.fix xs] => ∀ p, S p = none → Q (.ref p) (sup S p (.lst xs))
  | [.ref q] => match S q with
    | some (.lst xs) => ∀ p, S p = none → Q (.ref p) (sup S p (.lst xs))
    | _ => False
  | _ => False
@[simp ↓] theorem rListO_eq (ds) (S) (Q) : rListO ds S Q = (match ds with
  | [.tup xs] => ∀ p, S p = none → Q (.ref p) (sup S p (.lst xs))
  | [.lst xs] => ∀ p, S p = none → Q (.ref p) (sup S p (.lst xs))
  | [.fix xs] => ∀ p, S p = none → Q (.ref p) (sup S p (.lst xs))
  | [.ref q] => match S q with
    | some (.lst xs) => ∀ p, S p = none → Q (.ref p) (sup S p (.lst xs))
    | _ => False
  | _ => False) := id rfl
theorem cv_listF : CallV C R (.type "list") rListF := by
  refine ⟨fun xs H Q => ∃ p ys, xs = [.ref p] ∧ (SqL C.K H p ys ∨ SqT C.K H p ys) ∧ ∀ l, H l = none → Q (.ref l) (upd H l (.lst ys)), fun i => call_list_of (X := C.at (R i)), fun F Z S H vs ds Q R ok r k h => ?_⟩
  unfold rListF at h
  split at h
  · obtain ⟨v, rfl, a, vs, rfl, h1, h2⟩ := reps1 r
    exact ⟨a, vs, rfl, .inr (same_sqt ok.fro h1.sq), fun l hl => k.lst ok hl h2 h⟩
  · obtain ⟨v, rfl, a, vs, rfl, h1, h2⟩ := reps1 r
    exact ⟨a, vs, rfl, .inl (SqL.of (ok.fro _ _ h1)), fun l hl => k.lst ok hl h2 h⟩
  · obtain ⟨v, rfl, a, vs, rfl, h1, h2⟩ := reps1 r
    exact ⟨a, vs, rfl, .inl (ok.fro.seq h1), fun l hl => k.lst ok hl h2 h⟩
  · split at h
    · rename_i q
      obtain ⟨v, rfl, h1⟩ := reps1 r
      cases (show v = _ from h1)
      obtain ⟨_, ho, h1, vs, rfl, h2⟩ := ok.own _ _ q
      exact ⟨_, vs, rfl, .inl (SqL.of h1), fun l hl => k.lst ok hl h2 h⟩
    · exact h.elim
  · exact h.elim
theorem cv_listO : CallV C R (.type "list") rListO := by
  refine ⟨fun xs H Q => ∃ p ys, xs = [.ref p] ∧ (SqL C.K H p ys ∨ SqT C.K H p ys) ∧ ∀ l, H l = none → Q (.ref l) (upd H l (.lst ys)), fun i => call_list_of (X := C.at (R i)), fun F Z S H vs ds Q R ok r k h => ?_⟩
  unfold rListO at h
  split at h
  · obtain ⟨v, rfl, a, vs, rfl, h1, h2⟩ := reps1 r
    exact ⟨a, vs, rfl, .inr (same_sqt ok.fro h1.sq), fun l hl => k.own ok hl h2 (h l (ok.newS hl))⟩
  · obtain ⟨v, rfl, a, vs, rfl, h1, h2⟩ := reps1 r
    exact ⟨a, vs, rfl, .inl (SqL.of (ok.fro _ _ h1)), fun l hl => k.own ok hl h2 (h l (ok.newS hl))⟩
  · obtain ⟨v, rfl, a, vs, rfl, h1, h2⟩ := reps1 r
    exact ⟨a, vs, rfl, .inl (ok.fro.seq h1), fun l hl => k.own ok hl h2 (h l (ok.newS hl))⟩
  · split at h
    · rename_i q
      obtain ⟨v, rfl, h1⟩ := reps1 r
      cases (show v = _ from h1)
      obtain ⟨_, ho, h1, vs, rfl, h2⟩ := ok.own _ _ q
      exact ⟨_, vs, rfl, .inl (SqL.of h1), fun l hl => k.own ok hl h2 (h l (ok.newS hl))⟩
    · exact h.elim
  · exact h.elim
/-- tuple(x) -/
def rTuple : RCV := fun ds S Q => match ds with
  | [.tup xs] => Q (.tup xs) S
  | [.lst xs] => Q (.tup xs) S
  | [.fix xs] => Q (.tup xs) S
  | [.ref p] => match S p with
    | some (.lst xs) => Q (.tup xs) S
    | _ => False
  | _ => False
@[simp ↓] theorem rTuple_eq (ds) (S) (Q) : rTuple ds S Q = (match ds with
  | [.tup xs] => Q (.tup xs) S
  | [.lst xs] => Q (.tup xs) S
  | [.fix xs] => Q (.tup xs) S
  | [.ref p] => match S p with
    | some (.lst xs) => Q (.tup xs) S
    | _ => False
  | _ => False) := id rfl
theorem cv_tuple : CallV C R (.type "tuple") rTuple := by
  refine ⟨fun xs H Q => ∃ p ys, xs = [.ref p] ∧ ((SqL C.K H p ys ∧ ∀ l, H l = none → Q (.ref l) (upd H l (.tup ys))) ∨ (SqT C.K H p ys ∧ Q (.ref p) H)), fun i => call_tuple_of (X := C.at (R i)), fun F Z S H vs ds Q R ok r k h => ?_⟩
  unfold rTuple at h
  split at h
  · obtain ⟨v, rfl, a, vs, rfl, h1, h2⟩ := reps1 r
    exact ⟨a, vs, rfl, .inr ⟨same_sqt ok.fro h1.sq, k _ _ _ _ (.tup _) (Same.refl F) ok ⟨a, vs, rfl, h1, h2⟩ h⟩⟩
  · obtain ⟨v, rfl, a, vs, rfl, h1, h2⟩ := reps1 r
    exact ⟨a, vs, rfl, .inl ⟨SqL.of (ok.fro _ _ h1), fun l hl => k.tup ok hl h2 h⟩⟩
  · obtain ⟨v, rfl, a, vs, rfl, h1, h2⟩ := reps1 r
    exact ⟨a, vs, rfl, .inl ⟨ok.fro.seq h1, fun l hl => k.tup ok hl h2 h⟩⟩
  · split at h
    · rename_i q
      obtain ⟨v, rfl, h1⟩ := reps1 r
      cases (show v = _ from h1)
      obtain ⟨_, ho, h1, vs, rfl, h2⟩ := ok.own _ _ q
      exact ⟨_, vs, rfl, .inl ⟨SqL.of h1, fun l hl => k.tup ok hl h2 h⟩⟩
    · exact h.elim
  · exact h.elim
/-- max(xs), ints -/
def RMax (ds : List D) (S : Sto) (Q : VQ) (_ : Hold Q) : Prop := ∃ ns : List Int, ds = [.lst (ns.map D.int)] ∧ 0 < ns.length ∧ ∀ m, m ∈ ns → (∀ y, y ∈ ns → y ≤ m) → Q (.int m) S
def rMax : RCV := fun ds S Q => RMax ds S Q .mk
@[simp ↓] theorem rMax_eq (ds) (S) (Q) : rMax ds S Q = (RMax ds S Q .mk) := id rfl
theorem cv_max (hc : ∀ i, (R i).calm = true := by exact fun _ => rfl) : CallV C R (.builtin "max") rMax := by
  refine ⟨L2.rMax C.K, fun i => cr_max (X := C.at (R i)) (hc i), fun F Z S H vs ds Q R ok r k h => ?_⟩
  obtain ⟨ns, rfl, hn, q⟩ := h
  obtain ⟨v, rfl, a, vs, rfl, h1, h2⟩ := reps1 r
  have e := h2.ints
  subst e
  exact ⟨a, ns, rfl, SqL.of (ok.fro _ _ h1), hn, fun m h3 h4 => k _ _ _ _ (.int _) (Same.refl F) ok rfl (q m h3 h4)⟩
/-- sum(xs), ints -/
def RSum (ds : List D) (S : Sto) (Q : VQ) (_ : Hold Q) : Prop := ∃ ns : List Int, ds = [.lst (ns.map D.int)] ∧ Q (.int ns.sum) S
def rSum : RCV := fun ds S Q => RSum ds S Q .mk
@[simp ↓] theorem rSum_eq (ds) (S) (Q) : rSum ds S Q = (RSum ds S Q .mk) := id rfl
theorem cv_sum (hc : ∀ i, (R i).calm = true := by exact fun _ => rfl) : CallV C R (.builtin "sum") rSum := by
  refine ⟨L2.rSum C.K, fun i => cr_sum (X := C.at (R i)) (hc i), fun F Z S H vs ds Q R ok r k h => ?_⟩
  obtain ⟨ns, rfl, q⟩ := h
  obtain ⟨v, rfl, a, vs, rfl, h1, h2⟩ := reps1 r
  have e := h2.ints
  subst e
  exact ⟨a, ns, rfl, SqL.of (ok.fro _ _ h1), k _ _ _ _ (.int _) (Same.refl F) ok rfl q⟩
end
end L3

set_option Elab.async false
set_option linter.all false
set_option maxRecDepth 100000
set_option maxHeartbeats 4000000
/-! The value layer: targets, statements, loops, comprehensions. -/
namespace L3
open PySem PySem.Spec PyProof.Rows L2

section
variable {C : Cmn} {ι : Type} {R : ι → Rst} {K : PySem.W.Frag} {W : WX}
/-! ### targets -/
abbrev WG := D → Env → Sto → (Env → Sto → Prop) → Prop
abbrev WGs := List D → Env → Sto → (Env → Sto → Prop) → Prop
def SndG (K : PySem.W.Frag) (g : WG) (u : TG) : Prop := ∀ σ H F Z env S v d Q R, Ok K F Z S H → Envs K F σ env → Rep K F d v → KN K F Z Q R → g d env S Q → u v σ H R
def SndGs (K : PySem.W.Frag) (g : WGs) (u : TGs) : Prop := ∀ σ H F Z env S vs ds Q R, Ok K F Z S H → Envs K F σ env → Reps K F ds vs → KN K F Z Q R → g ds env S Q → u vs σ H R
/-- a target that stores at the slots vs alone -/
def OnlyG (u : TG) (vs : List Nat) : Prop := ∀ v σ H Q Q', u v σ H Q → (∀ σ2 H2, wipe σ2 vs = wipe σ vs → Q σ2 H2 → Q' σ2 H2) → u v σ H Q'
def OnlyGs (u : TGs) (vs : List Nat) : Prop := ∀ v σ H Q Q', u v σ H Q → (∀ σ2 H2, wipe σ2 vs = wipe σ vs → Q σ2 H2 → Q' σ2 H2) → u v σ H Q'
def VG (C : Cmn) (R : ι → Rst) (tg : Expr) (g : WG) : Prop := ∃ u, (∀ i, PG (C.at (R i)) tg u) ∧ SndG C.K g u
def VGo (C : Cmn) (R : ι → Rst) (tg : Expr) (g : WG) (vs : List Nat) : Prop := ∃ u, (∀ i, PG (C.at (R i)) tg u) ∧ SndG C.K g u ∧ OnlyG u vs
def VGs (C : Cmn) (R : ι → Rst) (ts : List Expr) (g : WGs) : Prop := ∃ u, (∀ i, PGs (C.at (R i)) ts u) ∧ SndGs C.K g u
def VGos (C : Cmn) (R : ι → Rst) (ts : List Expr) (g : WGs) (vs : List Nat) : Prop := ∃ u, (∀ i, PGs (C.at (R i)) ts u) ∧ SndGs C.K g u ∧ OnlyGs u vs
theorem VGo.vg {tg : Expr} {g : WG} {vs : List Nat} (h : VGo C R tg g vs) : VG C R tg g := let ⟨u, h1, h2, _⟩ := h; ⟨u, h1, h2⟩
def gNm (i : Nat) : WG := fun d env S Q => Q (put env i d) S
@[simp ↓] theorem gNm_eq (i : Nat) (d) (env) (S) (Q) : gNm i d env S Q = (Q (put env i d) S) := id rfl
theorem wipe_set {σ : L2.St} {i : Nat} {x : Option V} : ∀ (vs : List Nat), wipe (σ.set i x) vs = if i ∈ vs then wipe σ vs else (wipe σ vs).set i x
  | [] => by simp [wipe]
  | v :: vs => by
    show (wipe (σ.set i x) vs).set v none = _
    rw [wipe_set vs]
    by_cases h : i ∈ vs
    · rw [if_pos h, if_pos (List.mem_cons_of_mem _ h)]; rfl
    · rw [if_neg h]
      by_cases hv : i = v
      · subst hv
        rw [if_pos List.mem_cons_self, List.set_set]; rfl
      · rw [if_neg (by simp [hv, h])]
        show _ = ((wipe σ vs).set v none).set i x
        rw [List.set_comm _ _ (Ne.symm hv)]
theorem vgo_name {i : Nat} {x : Str} {pos : Pos} {vs : List Nat} (hN : ∀ j, (R j).N.Nodup) (hm : i ∈ vs := by decide) (hi : ∀ j, (R j).N[i]? = some x := by exact fun _ => rfl) (hx : ∀ j, Loc (R j).env.scope x := by first | exact fun _ => .inl rfl | exact fun _ => .inr rfl)
    (hf : ∀ j, (R j).fn x = true ∨ (R j).env.scope.names.lookup x = some .local := by first | exact fun _ => .inl rfl | exact fun _ => .inr rfl) : VGo C R (.Name x pos) (gNm i) vs := by
  refine ⟨gName i, fun j => pg_name (X := C.at (R j)) (hN j) (hi j) (hx j) (hf j), fun σ H F Z env S v d Q R ok en r k h => k F _ H _ S (Same.refl F) ok (en.put r i) h, fun v σ H Q Q' h q => q _ _ ?_ h⟩
  rw [wipe_set, if_pos hm]
theorem vg_name {i : Nat} {x : Str} {pos : Pos} (hN : ∀ j, (R j).N.Nodup) (hi : ∀ j, (R j).N[i]? = some x := by exact fun _ => rfl) (hx : ∀ j, Loc (R j).env.scope x := by first | exact fun _ => .inl rfl | exact fun _ => .inr rfl)
    (hf : ∀ j, (R j).fn x = true ∨ (R j).env.scope.names.lookup x = some .local := by first | exact fun _ => .inl rfl | exact fun _ => .inr rfl) : VG C R (.Name x pos) (gNm i) := (vgo_name (vs := [i]) hN (by simp) hi hx hf).vg
def gEnd : WGs := fun ds env S Q => match ds with
  | [] => Q env S
  | _ :: _ => False
@[simp ↓] theorem gEnd_eq (ds) (env) (S) (Q) : gEnd ds env S Q = (match ds with
  | [] => Q env S
  | _ :: _ => False) := id rfl
def gThen (g : WG) (gs : WGs) : WGs := fun ds env S Q => match ds with
  | [] => False
  | d :: r => g d env S (fun e1 S1 => gs r e1 S1 Q)
@[simp ↓] theorem gThen_eq (g : WG) (gs : WGs) (ds) (env) (S) (Q) : gThen g gs ds env S Q = (match ds with
  | [] => False
  | d :: r => g d env S (fun e1 S1 => gs r e1 S1 Q)) := id rfl
def gTupD (n : Nat) (gs : WGs) : WG := fun d env S Q => match d with
  | .tup xs => xs.length = n ∧ gs xs env S Q
  | _ => False
@[simp ↓] theorem gTupD_eq (n : Nat) (gs : WGs) (d) (env) (S) (Q) : gTupD n gs d env S Q = (match d with
  | .tup xs => xs.length = n ∧ gs xs env S Q
  | _ => False) := id rfl
theorem snd_gend : SndGs K gEnd gNil := fun σ H F Z env S vs ds Q R ok en r k h => by
  unfold gEnd at h
  cases ds with
  | nil => exact ⟨r, k F σ H env S (Same.refl F) ok en h⟩
  | cons _ _ => exact h.elim
theorem snd_gthen {g : WG} {gs : WGs} {u : TG} {us : TGs} (s : SndG K g u) (ss : SndGs K gs us) : SndGs K (gThen g gs) (gCons u us) := fun σ H F Z env S vs ds Q R ok en r k h => by
  unfold gThen at h
  cases ds with
  | nil => exact h.elim
  | cons d ds =>
    obtain ⟨v, w, rfl, r1, r2⟩ := r
    exact ⟨v, w, rfl, s σ H F Z env S v d _ _ ok en r1 (fun F' σ' H' env' S' sm ok' en' q => ss σ' H' F' Z env' S' w ds _ _ ok' en' (Reps.mono sm _ _ r2) (k.mono sm) q) h⟩
theorem vgs_nil : VGs C R [] gEnd := ⟨gNil, fun i => pgs_nil, snd_gend⟩
theorem vgs_cons {e : Expr} {es : List Expr} {g : WG} {gs : WGs} (h : VG C R e g) (h' : VGs C R es gs)
    (ha : ∀ i, (assignEach (e :: es) (R i).env).map (·.2) = assign e (R i).env :: (assignEach es (R i).env).map (·.2) := by exact fun _ => rfl) : VGs C R (e :: es) (gThen g gs) := by
  obtain ⟨u, p, s⟩ := h
  obtain ⟨us, ps, ss⟩ := h'
  exact ⟨gCons u us, fun i => pgs_cons (p i) (ps i) (ha i), snd_gthen s ss⟩
theorem vgos_nil {vs : List Nat} : VGos C R [] gEnd vs := ⟨gNil, fun i => pgs_nil, snd_gend, fun v σ H Q Q' h q => ⟨h.1, q _ _ rfl h.2⟩⟩
theorem vgos_cons {e : Expr} {es : List Expr} {g : WG} {gs : WGs} {vs : List Nat} (h : VGo C R e g vs) (h' : VGos C R es gs vs)
    (ha : ∀ i, (assignEach (e :: es) (R i).env).map (·.2) = assign e (R i).env :: (assignEach es (R i).env).map (·.2) := by exact fun _ => rfl) : VGos C R (e :: es) (gThen g gs) vs := by
  obtain ⟨u, p, s, o⟩ := h
  obtain ⟨us, ps, ss, os⟩ := h'
  refine ⟨gCons u us, fun i => pgs_cons (p i) (ps i) (ha i), snd_gthen s ss, fun v σ H Q Q' h q => ?_⟩
  obtain ⟨x, r, e1, h⟩ := h
  exact ⟨x, r, e1, o x σ H _ _ h fun σ2 H2 w z => os r σ2 H2 _ _ z fun σ3 H3 w3 z3 => q σ3 H3 (w3.trans w) z3⟩
theorem snd_gtup {n : Nat} {gs : WGs} {us : TGs} (ss : SndGs K gs us) : SndG K (gTupD n gs) (gTup K n us) := fun σ H F Z env S v d Q R ok en r k h => by
  unfold gTupD at h
  split at h
  · obtain ⟨a, vs, rfl, h1, h2⟩ := r
    exact ⟨a, vs, rfl, same_sqt ok.fro h1.sq, by rw [← h2.length]; exact h.1, ss σ H F Z env S vs _ _ _ ok en h2 k h.2⟩
  · exact h.elim
theorem vg_tup {es : List Expr} {k n : Nat} {gs : WGs} {pos : Pos} (h : VGs C R es gs) (hc : ∀ i, (R i).calm = true := by exact fun _ => rfl)
    (hn : ∀ i, (assignEach es (R i).env).length = n := by exact fun _ => rfl) (hst : ∀ i, (assignEach es (R i).env).findIdx? (·.1) = none := by exact fun _ => rfl) : VG C R (.Tuple es k pos) (gTupD n gs) := by
  obtain ⟨us, ps, ss⟩ := h
  exact ⟨gTup C.K n us, fun i => pg_tup (X := C.at (R i)) (hc i) (ps i) (hn i) (hst i), snd_gtup ss⟩
theorem vgo_tup {es : List Expr} {k n : Nat} {gs : WGs} {pos : Pos} {vs : List Nat} (h : VGos C R es gs vs) (hc : ∀ i, (R i).calm = true := by exact fun _ => rfl)
    (hn : ∀ i, (assignEach es (R i).env).length = n := by exact fun _ => rfl) (hst : ∀ i, (assignEach es (R i).env).findIdx? (·.1) = none := by exact fun _ => rfl) : VGo C R (.Tuple es k pos) (gTupD n gs) vs := by
  obtain ⟨us, ps, ss, os⟩ := h
  refine ⟨gTup C.K n us, fun i => pg_tup (X := C.at (R i)) (hc i) (ps i) (hn i) (hst i), snd_gtup ss, fun v σ H Q Q' h q => ?_⟩
  obtain ⟨a, xs, e1, e2, e3, h⟩ := h
  exact ⟨a, xs, e1, e2, e3, os xs σ H _ _ h q⟩

/-! ### statements -/
def vSeq (t u : WS) : WS := fun E env S => t { E with nx := u E } env S
@[simp ↓] theorem vSeq_eq (t u : WS) (E) (env) (S) : vSeq t u E env S = (t { E with nx := u E } env S) := id rfl
def vNext : WS := fun E env S => E.nx env S
@[simp ↓] theorem vNext_eq (E) (env) (S) : vNext E env S = (E.nx env S) := id rfl
theorem vss_nil : VSs C R [] vNext := fun W => ⟨tNext, fun i tk => pss_nil, fun σ H F Z env S E Rd ok en lk h => lk.nx F σ H env S (Same.refl F) ok en h⟩
theorem vss_one {st : Stmt} {t : WS} (h : VS C R st t) : VSs C R [st] t := fun W => by
  obtain ⟨u, p, s⟩ := h W
  exact ⟨u, fun i tk => pss_one (p i tk), s⟩
theorem vss_cons {st : Stmt} {rest : List Stmt} {t u : WS} (h : VS C R st t) (h' : VSs C R rest u) : VSs C R (st :: rest) (vSeq t u) := fun W => by
  obtain ⟨a, p, s⟩ := h W
  obtain ⟨b, p', s'⟩ := h' W
  refine ⟨_, fun i tk => pss_cons (p i tk) (p' i tk), fun σ H F Z env S E Rd ok en lk h => s σ H F Z env S { E with nx := u E } { Rd with nx := b Rd } ok en ⟨fun F' σ' H' env' S' sm ok' en' q => ?_, lk.rt, lk.bk, lk.ct, lk.ex⟩ h⟩
  exact s' σ' H' F' Z env' S' E Rd ok' en' (lk.mono sm) q
theorem vs_pass {pos : Pos} : VS C R (.Pass pos) vNext := fun W => ⟨tNext, fun i tk => ps_pass, fun σ H F Z env S E Rd ok en lk h => lk.nx F σ H env S (Same.refl F) ok en h⟩
def vBreak : WS := fun E env S => E.bk env S
@[simp ↓] theorem vBreak_eq (E) (env) (S) : vBreak E env S = (E.bk env S) := id rfl
def vCont : WS := fun E env S => E.ct env S
@[simp ↓] theorem vCont_eq (E) (env) (S) : vCont E env S = (E.ct env S) := id rfl
theorem vs_break {pos : Pos} : VS C R (.Break pos) vBreak := fun W => ⟨tBreak, fun i tk => ps_break, fun σ H F Z env S E Rd ok en lk h => lk.bk F σ H env S (Same.refl F) ok en h⟩
theorem vs_continue {pos : Pos} : VS C R (.Continue pos) vCont := fun W => ⟨tCont, fun i tk => ps_continue, fun σ H F Z env S E Rd ok en lk h => lk.ct F σ H env S (Same.refl F) ok en h⟩
def vExpr (t : WE) : WS := fun E env S => t env S (fun _ S1 => E.nx env S1) (E.ex env)
@[simp ↓] theorem vExpr_eq (t : WE) (E) (env) (S) : vExpr t E env S = (t env S (fun _ S1 => E.nx env S1) (E.ex env)) := id rfl
theorem Lk.thr {F Z : Hp} {E : VEnds} {Rd : Ends} {σ : L2.St} {env : Env} (lk : Lk K F Z W E Rd) (en : Envs K F σ env) : Thr K F Z W σ (E.ex env) := lk.ex F σ env (Same.refl F) en
theorem vs_expr {e : Expr} {t : WE} {pos : Pos} (h : VE C R e t) (hs : ∀ i, swapsWith e none pos.line (R i).env = pure false := by exact fun _ => rfl) : VS C R (.Expr e pos) (vExpr t) := fun W => by
  obtain ⟨u, p, s⟩ := h W
  exact ⟨_, fun i tk => ps_expr (p i tk.tk) (hs i), fun σ H F Z env S E Rd ok en lk h => s σ H F Z env S _ _ _ ok en (lk.thr en) (fun v H' F' S' d sm ok' r q => lk.nx F' σ H' env S' sm ok' (en.mono sm) q) h⟩
def vRet (t : WE) : WS := fun E env S => t env S E.rt (E.ex env)
@[simp ↓] theorem vRet_eq (t : WE) (E) (env) (S) : vRet t E env S = (t env S E.rt (E.ex env)) := id rfl
theorem vs_ret {e : Expr} {t : WE} {pos : Pos} (h : VE C R e t) : VS C R (.Return (some e) pos) (vRet t) := fun W => by
  obtain ⟨u, p, s⟩ := h W
  exact ⟨_, fun i tk => ps_ret (p i tk.tk), fun σ H F Z env S E Rd ok en lk h => s σ H F Z env S _ _ _ ok en (lk.thr en) lk.rt h⟩
def vRetN : WS := fun E env S => E.rt .non S
@[simp ↓] theorem vRetN_eq (E) (env) (S) : vRetN E env S = (E.rt .non S) := id rfl
theorem vs_retN {pos : Pos} : VS C R (.Return none pos) vRetN := fun W => ⟨_, fun i tk => ps_retN, fun σ H F Z env S E Rd ok en lk h => lk.rt .non H F S .non (Same.refl F) ok rfl h⟩
def vIf (c : WT) (t u : WS) : WS := fun E env S => c env S (fun b S1 => if b = true then t E env S1 else u E env S1) (E.ex env)
@[simp ↓] theorem vIf_eq (c : WT) (t u : WS) (E) (env) (S) : vIf c t u E env S = (c env S (fun b S1 => if b = true then t E env S1 else u E env S1) (E.ex env)) := id rfl
theorem vs_if {c : Expr} {a b : List Stmt} {tc : WT} {t u : WS} {pos : Pos} (hc : VT C R c tc) (ha : VSs C R a t) (hb : VSs C R b u) : VS C R (.If c a b pos) (vIf tc t u) := fun W => by
  obtain ⟨uc, pc, sc⟩ := hc W
  obtain ⟨ua, pa, sa⟩ := ha W
  obtain ⟨ub, pb, sb⟩ := hb W
  refine ⟨_, fun i tk => ps_if (pc i tk.tk) (pa i tk) (pb i tk), fun σ H F Z env S E Rd ok en lk h => sc σ H F Z env S _ _ _ ok en (lk.thr en) (fun b H' F' S' sm ok' q => ?_) h⟩
  cases b with
  | true => exact sa σ H' F' Z env S' E Rd ok' (en.mono sm) (lk.mono sm) q
  | false => exact sb σ H' F' Z env S' E Rd ok' (en.mono sm) (lk.mono sm) q
def vAsg (t : WE) (g : WG) : WS := fun E env S => t env S (fun d S1 => g d env S1 E.nx) (E.ex env)
@[simp ↓] theorem vAsg_eq (t : WE) (g : WG) (E) (env) (S) : vAsg t g E env S = (t env S (fun d S1 => g d env S1 E.nx) (E.ex env)) := id rfl
theorem snd_asg {t : WE} {u : TE} {g : WG} {ug : TG} (s : SndE K W t u) (sg : SndG K g ug) : SndS K W (vAsg t g) (tAsg u ug) := fun σ H F Z env S E Rd ok en lk h =>
  s σ H F Z env S _ _ _ ok en (lk.thr en) (fun v H' F' S' d sm ok' r q => sg σ H' F' Z env S' v d _ _ ok' (en.mono sm) r (lk.mono sm).nx q) h
theorem vs_asg {tg e : Expr} {t : WE} {g : WG} {pos : Pos} (h : VE C R e t) (hg : VG C R tg g) (hs : ∀ i, swapsWithSole [tg] e pos.line (R i).env = pure false := by exact fun _ => rfl) (hw : ∀ i, swappedStores [tg] e (R i).env = pure none := by exact fun _ => rfl)
    (h1 : ∀ i, (assignEach [tg] (R i).env).map (·.2) = [assign tg (R i).env] := by exact fun _ => rfl) : VS C R (.Assign [tg] e pos) (vAsg t g) := fun W => by
  obtain ⟨u, p, s⟩ := h W
  obtain ⟨ug, pg, sg⟩ := hg
  exact ⟨_, fun i tk => ps_asg (p i tk.tk) (pg i) (hs i) (hw i) (h1 i), snd_asg s sg⟩
theorem vs_set {i : Nat} {x : Str} {e : Expr} {t : WE} {pos pos' : Pos} (hN : ∀ j, (R j).N.Nodup) (h : VE C R e t) (hi : ∀ j, (R j).N[i]? = some x := by exact fun _ => rfl) (hx : ∀ j, Loc (R j).env.scope x := by first | exact fun _ => .inl rfl | exact fun _ => .inr rfl)
    (hs : ∀ j, swapsWith e (some (.Name x pos')) pos.line (R j).env = pure false := by exact fun _ => rfl) (hf : ∀ j, (R j).fn x = true ∨ (R j).env.scope.names.lookup x = some .local := by first | exact fun _ => .inl rfl | exact fun _ => .inr rfl) :
    VS C R (.Assign [.Name x pos'] e pos) (vAsg t (gNm i)) := fun W => by
  obtain ⟨u, p, s⟩ := h W
  exact ⟨_, fun j tk => ps_set (X := C.at (R j)) (hN j) (hi j) (hx j) (p j tk.tk) (hs j) (hf j), snd_asg s fun σ H F Z env S v d Q R ok en r k h => k F _ H _ S (Same.refl F) ok (en.put r i) h⟩
/-! o[i] = e, o a list of the store -/
def vPutL (t to ti : WE) : WS := fun E env S => t env S (fun d S1 => to env S1 (fun o S2 => ti env S2 (fun i S3 => match o, i with
  | .ref p, .int i => match S3 p with
    | some (.lst xs) => match ixN xs.length i with
      | some j => E.nx env (sup S3 p (.lst (xs.set j d)))
      | none => False
    | _ => False
  | _, _ => False) (E.ex env)) (E.ex env)) (E.ex env)
@[simp ↓] theorem vPutL_eq (t to ti : WE) (E) (env) (S) : vPutL t to ti E env S = (t env S (fun d S1 => to env S1 (fun o S2 => ti env S2 (fun i S3 => match o, i with
  | .ref p, .int i => match S3 p with
    | some (.lst xs) => match ixN xs.length i with
      | some j => E.nx env (sup S3 p (.lst (xs.set j d)))
      | none => False
    | _ => False
  | _, _ => False) (E.ex env)) (E.ex env)) (E.ex env)) := id rfl
theorem vs_putL {o i e : Expr} {t to ti : WE} {pos pos' : Pos} (h : VE C R e t) (ho : VE C R o to) (hi : VE C R i ti)
    (ha : ∀ j v, assign (.Subscript o i pos') (R j).env v = (do
      let ov ← holding [v] (eval o (R j).env)
      let iv ← holding [v, ov] (eval i (R j).env)
      standAt pos'
      holding [v, ov, iv] (setItem ov iv v)
      release [v, ov, iv] []) := by exact fun _ _ => rfl)
    (hs : ∀ j, swapsWithSole [.Subscript o i pos'] e pos.line (R j).env = pure false := by exact fun _ => rfl) (hw : ∀ j, swappedStores [.Subscript o i pos'] e (R j).env = pure none := by exact fun _ => rfl)
    (h1 : ∀ j, (assignEach [.Subscript o i pos'] (R j).env).map (·.2) = [assign (.Subscript o i pos') (R j).env] := by exact fun _ => rfl) : VS C R (.Assign [.Subscript o i pos'] e pos) (vPutL t to ti) := fun W => by
  obtain ⟨u, p, s⟩ := h W
  obtain ⟨uo, po, so⟩ := ho W
  obtain ⟨ui, pi, si⟩ := hi W
  refine ⟨_, fun j tk => ps_asg (p j tk.tk) (pg_sub (X := C.at (R j)) (po j tk.tk) (pi j tk.tk) set_list (ha j)) (hs j) (hw j) (h1 j), fun σ H F Z env S E Rd ok en lk h => ?_⟩
  refine s σ H F Z env S _ _ _ ok en (lk.thr en) (fun v H1 F1 S1 d sm1 ok1 r1 q1 => ?_) h
  have lk1 := lk.mono sm1
  have en1 := en.mono sm1
  refine so σ H1 F1 Z env S1 _ _ _ ok1 en1 (lk1.thr en1) (fun ov H2 F2 S2 od sm2 ok2 r2 q2 => ?_) q1
  have lk2 := lk1.mono sm2
  have en2 := en1.mono sm2
  refine si σ H2 F2 Z env S2 _ _ _ ok2 en2 (lk2.thr en2) (fun iv H3 F3 S3 id sm3 ok3 r3 q3 => ?_) q2
  have r1' := Rep.mono (sm2.trans sm3) _ _ r1
  have r2' := Rep.mono sm3 _ _ r2
  split at q3
  · split at q3
    · rename_i hp
      split at q3
      · rename_i j hj
        cases (show ov = _ from r2'); cases (show iv = _ from r3)
        obtain ⟨_, ho, h2, vs, rfl, h3⟩ := ok3.own _ _ hp
        refine ⟨_, vs, _, j, rfl, rfl, h2, by rw [← h3.length]; exact hj, ?_⟩
        exact (lk2.mono sm3).nx F3 σ _ env _ (Same.refl F3) (ok3.put (so := .lst _) hp ⟨_, rfl, h3.set r1' j⟩) (en2.mono sm3) q3
      · exact q3.elim
    · exact q3.elim
  · exact q3.elim

/-! ### loops -/
abbrev WI := Env → Sto → (List D → (Sto → Prop) → Sto → Prop) → EX → Prop
structure ItOk (K : PySem.W.Frag) (F0 : Hp) (J : It) (ys : List D) (G : Sto → Prop) : Prop where
  stop : ∀ F Z S H, Same F0 F → Ok K F Z S H → G S → J.stop ys.length H
  go : ∀ i F Z S H, i < ys.length → Same F0 F → Ok K F Z S H → G S → J.go i H
  yld : ∀ i F Z S H x H' d, Same F0 F → Ok K F Z S H → G S → J.yld i H x H' → ys[i]? = some d → ∃ F', Same F F' ∧ Ok K F' Z S H' ∧ Rep K F' d x
def SndI (K : PySem.W.Frag) (W : WX) (t : WI) (wi : TI) : Prop := ∀ σ H F Z env S Q Ex (R : It → Hp → Prop), Ok K F Z S H → Envs K F σ env → Thr K F Z W σ Ex → (∀ J H' F' S' ys G, Same F F' → Ok K F' Z S' H' → ItOk K F' J ys G → Q ys G S' → R J H') → t env S Q Ex → wi σ H R
def VI (C : Cmn) (R : ι → Rst) (tg iter : Expr) (t : WI) : Prop := ∀ W, ∃ wi, (∀ i, Takes (C.at (R i)) W → PI (C.at (R i)) tg iter wi) ∧ SndI C.K W t wi
@[simp] def Always : Sto → Prop := fun _ => True
def iLst (t : WE) : WI := fun env S Q E => t env S (fun d S1 => match d with
  | .lst xs => Q xs Always S1
  | .fix xs => Q xs Always S1
  | .ref p => match S1 p with
    | some (.lst xs) => Q xs (fun S => S p = some (.lst xs)) S1
    | _ => False
  | _ => False) E
@[simp ↓] theorem iLst_eq (t : WE) (env) (S) (Q) (E) : iLst t env S Q E = (t env S (fun d S1 => match d with
  | .lst xs => Q xs Always S1
  | .fix xs => Q xs Always S1
  | .ref p => match S1 p with
    | some (.lst xs) => Q xs (fun S => S p = some (.lst xs)) S1
    | _ => False
  | _ => False) E) := id rfl
def iTpl (t : WE) : WI := fun env S Q E => t env S (fun d S1 => match d with
  | .tup xs => Q xs Always S1
  | _ => False) E
@[simp ↓] theorem iTpl_eq (t : WE) (env) (S) (Q) (E) : iTpl t env S Q E = (t env S (fun d S1 => match d with
  | .tup xs => Q xs Always S1
  | _ => False) E) := id rfl
theorem it_sql {F0 : Hp} {a : Addr} {ys : List D} {G : Sto → Prop} (h : ∀ F Z S H, Same F0 F → Ok K F Z S H → G S → ∃ vs, SqL K H a vs ∧ Reps K F ys vs) : ItOk K F0 (Itl K a) ys G where
  stop := fun F Z S H sm ok g => by
    obtain ⟨vs, h1, h2⟩ := h F Z S H sm ok g
    exact ⟨vs, h1, by rw [h2.length]; exact Nat.le_refl _⟩
  go := fun i F Z S H hi sm ok g => by
    obtain ⟨vs, h1, h2⟩ := h F Z S H sm ok g
    have hv : i < vs.length := by rw [← h2.length]; exact hi
    exact ⟨vs, vs[i], h1, List.getElem?_eq_getElem hv⟩
  yld := fun i F Z S H x H' d sm ok g y e => by
    obtain ⟨vs, h1, h2⟩ := h F Z S H sm ok g
    obtain ⟨rfl, hx⟩ := y
    obtain ⟨v, h3, h4⟩ := h2.get e
    have := hx vs h1
    rw [h3] at this; cases this
    exact ⟨F, Same.refl F, ok, h4⟩
theorem vi_lst {tg l : Expr} {t : WE} (h : VE C R l t) : VI C R tg l (iLst t) := fun W => by
  obtain ⟨u, p, s⟩ := h W
  refine ⟨iList C.K u, fun i tk => pi_list (X := C.at (R i)) (p i tk), fun σ H F Z env S Q Ex Rd ok en th k h => s σ H F Z env S _ _ _ ok en th (fun v H' F' S' d sm ok' r q => ?_) h⟩
  split at q
  · obtain ⟨a, vs, rfl, h1, h2⟩ := r
    exact ⟨a, rfl, ⟨vs, SqL.of (ok'.fro _ _ h1)⟩, k _ _ _ _ _ _ sm ok' (it_sql fun F2 Z2 S2 H2 sm2 ok2 _ => ⟨vs, SqL.of (ok2.fro _ _ (sm2 _ _ h1)), Reps.mono sm2 _ _ h2⟩) q⟩
  · obtain ⟨a, vs, rfl, h1, h2⟩ := r
    exact ⟨a, rfl, ⟨vs, ok'.fro.seq h1⟩, k _ _ _ _ _ _ sm ok' (it_sql fun F2 Z2 S2 H2 sm2 ok2 _ => ⟨vs, ok2.fro.seq (sm2.seq h1), Reps.mono sm2 _ _ h2⟩) q⟩
  · split at q
    · rename_i hp
      cases (show v = _ from r)
      obtain ⟨_, ho, h1, vs, rfl, h2⟩ := ok'.own _ _ hp
      refine ⟨_, rfl, ⟨vs, SqL.of h1⟩, k _ _ _ _ _ _ sm ok' (it_sql fun F2 Z2 S2 H2 sm2 ok2 g => ?_) q⟩
      obtain ⟨_, ho, h3, vs3, rfl, h4⟩ := ok2.own _ _ g
      exact ⟨vs3, SqL.of h3, h4⟩
    · exact q.elim
  · exact q.elim
theorem vi_tpl {tg l : Expr} {t : WE} (h : VE C R l t) : VI C R tg l (iTpl t) := fun W => by
  obtain ⟨u, p, s⟩ := h W
  refine ⟨iTup C.K u, fun i tk => pi_tup (X := C.at (R i)) (p i tk), fun σ H F Z env S Q Ex Rd ok en th k h => s σ H F Z env S _ _ _ ok en th (fun v H' F' S' d sm ok' r q => ?_) h⟩
  split at q
  · obtain ⟨a, vs, rfl, h1, h2⟩ := r
    have hq : ∀ F2 Z2 S2 H2, Same F' F2 → Ok C.K F2 Z2 S2 H2 → SqT C.K H2 a vs := fun F2 Z2 S2 H2 sm2 ok2 => same_sqt (sm2.trans ok2.fro) h1.sq
    refine ⟨a, rfl, ⟨vs, same_sqt ok'.fro h1.sq⟩, k _ _ _ _ _ _ sm ok' ⟨fun F2 Z2 S2 H2 sm2 ok2 _ => ⟨vs, hq _ _ _ _ sm2 ok2, by rw [h2.length]; exact Nat.le_refl _⟩, fun i F2 Z2 S2 H2 hi sm2 ok2 _ => ?_, fun i F2 Z2 S2 H2 x H3 d sm2 ok2 _ y e => ?_⟩ q⟩
    · have hv : i < vs.length := by rw [← h2.length]; exact hi
      exact ⟨vs, vs[i], hq _ _ _ _ sm2 ok2, List.getElem?_eq_getElem hv⟩
    · obtain ⟨rfl, hx⟩ := y
      obtain ⟨v, h3, h4⟩ := h2.get e
      have := hx vs (hq _ _ _ _ sm2 ok2)
      rw [h3] at this; cases this
      exact ⟨F2, Same.refl F2, ok2, Rep.mono sm2 _ _ h4⟩
  · exact q.elim
def rngD (lo : Int) (n : Nat) : List D := (List.range n).map fun (i : Nat) => D.int (lo + (i : Int))
theorem it_rng {F0 : Hp} {lo : Int} {n : Nat} {G : Sto → Prop} : ItOk K F0 (Itr lo n) (rngD lo n) G where
  stop := fun F Z S H sm ok g => by
    show n ≤ (rngD lo n).length
    unfold rngD; rw [List.length_map, List.length_range]; exact Nat.le_refl _
  go := fun i F Z S H hi sm ok g => by
    unfold rngD at hi; rw [List.length_map, List.length_range] at hi
    exact hi
  yld := fun i F Z S H x H' d sm ok g y e => by
    obtain ⟨rfl, hx⟩ := y
    refine ⟨F, Same.refl F, ok, ?_⟩
    unfold rngD at e
    rw [List.getElem?_map] at e
    cases q : (List.range n)[i]? with
    | none => rw [q] at e; cases e
    | some j =>
      rw [q] at e
      obtain ⟨_, hj⟩ := List.getElem?_eq_some_iff.mp q
      rw [List.getElem_range] at hj
      subst hj
      cases e
      exact hx
def iRg1 (t : WA) : WI := fun env S Q E => t env S (fun ds S1 => match ds with
  | [.int j] => (-(2 ^ 62) ≤ j ∧ j < 2 ^ 62) ∧ Q (rngD 0 j.toNat) Always S1
  | _ => False) E
@[simp ↓] theorem iRg1_eq (t : WA) (env) (S) (Q) (E) : iRg1 t env S Q E = (t env S (fun ds S1 => match ds with
  | [.int j] => (-(2 ^ 62) ≤ j ∧ j < 2 ^ 62) ∧ Q (rngD 0 j.toNat) Always S1
  | _ => False) E) := id rfl
def iRg2 (t : WA) : WI := fun env S Q E => t env S (fun ds S1 => match ds with
  | [.int i, .int j] => (-(2 ^ 62) ≤ i ∧ i < 2 ^ 62 ∧ -(2 ^ 62) ≤ j ∧ j < 2 ^ 62) ∧ Q (rngD i (j - i).toNat) Always S1
  | _ => False) E
@[simp ↓] theorem iRg2_eq (t : WA) (env) (S) (Q) (E) : iRg2 t env S Q E = (t env S (fun ds S1 => match ds with
  | [.int i, .int j] => (-(2 ^ 62) ≤ i ∧ i < 2 ^ 62 ∧ -(2 ^ 62) ≤ j ∧ j < 2 ^ 62) ∧ Q (rngD i (j - i).toNat) Always S1
  | _ => False) E) := id rfl
theorem vi_rg1 {tg a : Expr} {t : WA} {p pos : Pos} (hm : C.mg "range" = none) (ha : VA C R [a] t) (hg : ∀ i, Gl (C.at (R i)) "range" := by exact fun _ => rfl) (hs : ∀ i, starEach [a] (R i).env = [(false, eval a (R i).env)] := by exact fun _ => rfl) :
    VI C R tg (.Call (.Name "range" p) [a] [] pos) (iRg1 t) := fun W => by
  obtain ⟨u, pu, s⟩ := ha W
  refine ⟨iRng1 u, fun i tk => pi_range1 (X := C.at (R i)) (hg i) hm (pu i tk) (hs i), fun σ H F Z env S Q Ex Rd ok en th k h => s σ H F Z env S _ _ _ ok en th (fun v H' F' S' d sm ok' r q => ?_) h⟩
  split at q
  · obtain ⟨v, rfl, h1⟩ := reps1 r
    cases (show v = _ from h1)
    exact ⟨_, rfl, q.1.1, q.1.2, k _ _ _ _ _ _ sm ok' it_rng q.2⟩
  · exact q.elim
theorem vi_rg2 {tg a b : Expr} {t : WA} {p pos : Pos} (hm : C.mg "range" = none) (ha : VA C R [a, b] t) (hg : ∀ i, Gl (C.at (R i)) "range" := by exact fun _ => rfl) (hs : ∀ i, starEach [a, b] (R i).env = [(false, eval a (R i).env), (false, eval b (R i).env)] := by exact fun _ => rfl)
    (hs2 : ∀ i, starEach [b] (R i).env = [(false, eval b (R i).env)] := by exact fun _ => rfl) : VI C R tg (.Call (.Name "range" p) [a, b] [] pos) (iRg2 t) := fun W => by
  obtain ⟨u, pu, s⟩ := ha W
  refine ⟨iRng2 u, fun i tk => pi_range2 (X := C.at (R i)) (hg i) hm (pu i tk) (hs i) (hs2 i), fun σ H F Z env S Q Ex Rd ok en th k h => s σ H F Z env S _ _ _ ok en th (fun v H' F' S' d sm ok' r q => ?_) h⟩
  split at q
  · obtain ⟨v, w, rfl, h1, h2⟩ := reps2 r
    cases (show v = _ from h1); cases (show w = _ from h2)
    exact ⟨_, _, rfl, q.1, k _ _ _ _ _ _ sm ok' it_rng q.2⟩
  · exact q.elim
/-- the turns of a for over ys; G: what is walked stands still -/
def forW (g : WG) (b : WS) (E : VEnds) (G : Sto → Prop) : List D → Env → Sto → Prop
  | [], env, S => G S ∧ E.nx env S
  | y :: r, env, S => G S ∧ g y env S (fun e1 S1 => b { E with nx := forW g b E G r, ct := forW g b E G r, bk := E.nx } e1 S1)
/-- .. kept as a whole -/
def ForC (g : WG) (b : WS) (E : VEnds) (G : Sto → Prop) (ys : List D) (env : Env) (S : Sto) (_ : Hold (g, b, E, G)) : Prop := forW g b E G ys env S
def vFor (wi : WI) (g : WG) (b : WS) : WS := fun E env S => wi env S (fun ys G S1 => ForC g b E G ys env S1 .mk) (E.ex env)
@[simp ↓] theorem vFor_eq (wi : WI) (g : WG) (b : WS) (E) (env) (S) : vFor wi g b E env S = (wi env S (fun ys G S1 => ForC g b E G ys env S1 .mk) (E.ex env)) := id rfl
theorem vs_for {tg iter : Expr} {body : List Stmt} {wi : WI} {g : WG} {b : WS} {pos : Pos} (hi : VI C R tg iter wi) (hg : VG C R tg g) (hb : VSs C R body b) (hc : ∀ i, (R i).calm = true := by exact fun _ => rfl)
    (hs : ∀ i x, foldedSetIterable iter (R i).env x = pure x := by exact fun _ _ => rfl) : VS C R (.For tg iter body [] pos) (vFor wi g b) := fun W => by
  obtain ⟨ui, pi, si⟩ := hi W
  obtain ⟨ug, pg, sg⟩ := hg
  obtain ⟨ub, pb, sb⟩ := hb W
  refine ⟨tFor ui ug ub, fun i tk => ps_for (X := C.at (R i)) tk.ps (hc i) (pi i tk.tk) (pg i) (pb i tk) (hs i), fun σ H F Z env S E Rd ok en lk h => si σ H F Z env S _ _ _ ok en (lk.thr en) (fun J H1 F1 S1 ys G sm1 ok1 it q1 => ?_) h⟩
  refine ⟨fun i m σ' H' => m = ys.length - i ∧ i ≤ ys.length ∧ ∃ F2 env2 S2, Same F1 F2 ∧ Ok C.K F2 Z S2 H' ∧ Envs C.K F2 σ' env2 ∧ forW g b E G (ys.drop i) env2 S2, ⟨_, rfl, Nat.zero_le _, F1, env, S1, Same.refl F1, ok1, en.mono sm1, by rw [List.drop_zero]; exact q1⟩, ?_⟩
  rintro i m σ2 H2 ⟨rfl, hi, F2, env2, S2, sm2, ok2, en2, q2⟩
  by_cases hl : i < ys.length
  · rw [List.drop_eq_getElem_cons hl] at q2
    obtain ⟨hG, q2⟩ := q2
    refine .inr ⟨it.go i F2 Z S2 H2 hl sm2 ok2 hG, fun σ' H' => ∃ F3 env3 S3, Same F1 F3 ∧ Ok C.K F3 Z S3 H' ∧ Envs C.K F3 σ' env3 ∧ forW g b E G (ys.drop (i + 1)) env3 S3, fun σ' H' n => ⟨ys.length - (i + 1), by omega, rfl, hl, n⟩, fun x H3 y => ?_⟩
    obtain ⟨F3, sm3, ok3, r3⟩ := it.yld i F2 Z S2 H2 x H3 _ sm2 ok2 hG y (List.getElem?_eq_getElem hl)
    refine sg σ2 H3 F3 Z env2 S2 x _ _ _ ok3 (en2.mono sm3) r3 (fun F4 σ4 H4 env4 S4 sm4 ok4 en4 q4 => ?_) q2
    have sm14 : Same F1 F4 := sm2.trans (sm3.trans sm4)
    have lk4 := lk.mono (sm1.trans sm14)
    refine sb σ4 H4 F4 Z env4 S4 { E with nx := forW g b E G (ys.drop (i + 1)), ct := forW g b E G (ys.drop (i + 1)), bk := E.nx } _ ok4 en4 ⟨?_, lk4.rt, lk4.nx, ?_, lk4.ex⟩ q4
    · exact fun F5 σ5 H5 env5 S5 sm5 ok5 en5 q5 => ⟨F5, env5, S5, sm14.trans sm5, ok5, en5, q5⟩
    · exact fun F5 σ5 H5 env5 S5 sm5 ok5 en5 q5 => ⟨F5, env5, S5, sm14.trans sm5, ok5, en5, q5⟩
  · have e : i = ys.length := by omega
    subst e
    rw [List.drop_length] at q2
    exact .inl ⟨it.stop F2 Z S2 H2 sm2 ok2 q2.1, (lk.mono (sm1.trans sm2)).nx F2 σ2 H2 env2 S2 (Same.refl F2) ok2 en2 q2.2⟩
/-- the turns of a while, at most n -/
def whW (c : WT) (b : WS) (E : VEnds) : Nat → Env → Sto → Prop
  | 0, _, _ => False
  | n + 1, env, S => c env S (fun t S1 => if t = true then b { E with nx := whW c b E n, ct := whW c b E n, bk := E.nx } env S1 else E.nx env S1) (E.ex env)
def vWhile (c : WT) (b : WS) : WS := fun E env S => ∃ n, whW c b E n env S
@[simp ↓] theorem vWhile_eq (c : WT) (b : WS) (E) (env) (S) : vWhile c b E env S = (∃ n, whW c b E n env S) := id rfl
theorem vs_while {c : Expr} {body : List Stmt} {tc : WT} {b : WS} {pos : Pos} (hc : VT C R c tc) (hb : VSs C R body b) : VS C R (.While c body [] pos) (vWhile tc b) := fun W => by
  obtain ⟨uc, pc, sc⟩ := hc W
  obtain ⟨ub, pb, sb⟩ := hb W
  refine ⟨tWhile uc ub, fun i tk => ps_while (X := C.at (R i)) tk.ps (pc i tk.tk) (pb i tk), fun σ H F Z env S E Rd ok en lk h => ?_⟩
  obtain ⟨n, h⟩ := h
  refine ⟨fun m σ' H' => ∃ F2 env2 S2, Same F F2 ∧ Ok C.K F2 Z S2 H' ∧ Envs C.K F2 σ' env2 ∧ whW tc b E m env2 S2, ⟨n, F, env, S, Same.refl F, ok, en, h⟩, ?_⟩
  rintro m σ2 H2 ⟨F2, env2, S2, sm2, ok2, en2, q2⟩
  cases m with
  | zero => exact q2.elim
  | succ m =>
    have lk2 := lk.mono sm2
    refine sc σ2 H2 F2 Z env2 S2 _ _ _ ok2 en2 (lk2.thr en2) (fun t H3 F3 S3 sm3 ok3 q3 => ?_) q2
    have en3 := en2.mono sm3
    have lk3 := lk2.mono sm3
    cases t with
    | false => exact lk3.nx F3 σ2 H3 env2 S3 (Same.refl F3) ok3 en3 q3
    | true =>
      refine ⟨fun σ' H' => ∃ F4 env4 S4, Same F F4 ∧ Ok C.K F4 Z S4 H' ∧ Envs C.K F4 σ' env4 ∧ whW tc b E m env4 S4, fun σ' H' n => ⟨m, Nat.lt_succ_self m, n⟩, ?_⟩
      refine sb σ2 H3 F3 Z env2 S3 { E with nx := whW tc b E m, ct := whW tc b E m, bk := E.nx } _ ok3 en3 ⟨?_, lk3.rt, lk3.nx, ?_, lk3.ex⟩ q3
      · exact fun F5 σ5 H5 env5 S5 sm5 ok5 en5 q5 => ⟨F5, env5, S5, (sm2.trans sm3).trans sm5, ok5, en5, q5⟩
      · exact fun F5 σ5 H5 env5 S5 sm5 ok5 en5 q5 => ⟨F5, env5, S5, (sm2.trans sm3).trans sm5, ok5, en5, q5⟩
end
end L3

set_option Elab.async false
set_option linter.all false
set_option maxRecDepth 100000
set_option maxHeartbeats 4000000
/-! The value layer: comprehensions, methods of lists, calls of defs, defs. -/
namespace L3
open PySem PySem.Spec PyProof.Rows L2

section
variable {K : PySem.W.Frag} {F Z : Hp} {S : Sto} {H : Hp} {p : Addr}
/-- a new object, set aside -/
theorem Ok.newAside (ok : Ok K F Z S H) (hp : H p = none) (o : HO) (ht : ∀ xs, o ≠ .tup xs := by intro _ e; cases e) : Ok K F (upd Z p o) S (upd H p o) := by
  refine ⟨fun b u q => ?_, fun a s e => ?_, fun a u e => ?_, fun a xs e => ?_⟩
  · rw [upd_ne (ne_of_none (ok.fro _ _ q) hp)]; exact ok.fro _ _ q
  · obtain ⟨h1, h, h2, h3⟩ := ok.own a s e
    exact ⟨h1, h, by rw [upd_ne (ne_of_none h2 hp)]; exact h2, h3⟩
  · by_cases ha : a = p
    · subst ha; rw [upd_same] at e; cases e
      exact ⟨ok.newF hp, ok.newS hp, upd_same⟩
    · rw [upd_ne ha] at e ⊢; exact ok.zed a u e
  · by_cases ha : a = p
    · subst ha; rw [upd_same] at e; cases e; exact ht xs rfl
    · rw [upd_ne ha] at e; exact ok.zt a xs e
/-- what is aside is written -/
theorem Ok.putAside {o0 : HO} (ok : Ok K F (upd Z p o0) S H) (o : HO) (ht : ∀ xs, o ≠ .tup xs := by intro _ e; cases e) : Ok K F (upd Z p o) S (upd H p o) := by
  obtain ⟨z1, z2, z3⟩ := ok.zed p o0 upd_same
  refine ⟨fun b u q => ?_, fun a s e => ?_, fun a u e => ?_, fun a xs e => ?_⟩
  · have hb : b ≠ p := fun z => by rw [z, z1] at q; cases q
    rw [upd_ne hb]; exact ok.fro _ _ q
  · have ha : a ≠ p := fun z => by rw [z, z2] at e; cases e
    obtain ⟨h1, h, h2, h3⟩ := ok.own a s e
    exact ⟨h1, h, by rw [upd_ne ha]; exact h2, h3⟩
  · by_cases ha : a = p
    · subst ha; rw [upd_same] at e; cases e
      exact ⟨z1, z2, upd_same⟩
    · rw [upd_ne ha] at e
      obtain ⟨g1, g2, g3⟩ := ok.zed a u (by rw [upd_ne ha]; exact e)
      exact ⟨g1, g2, by rw [upd_ne ha]; exact g3⟩
  · by_cases ha : a = p
    · subst ha; rw [upd_same] at e; cases e; exact ht xs rfl
    · rw [upd_ne ha] at e; exact ok.zt a xs (by rw [upd_ne ha]; exact e)
/-- what was aside is frozen; is given to the store -/
theorem Ok.asideF {o : HO} (ok : Ok K F (upd Z p o) S H) (hz : Z p = none) : Same F (upd F p o) ∧ Ok K (upd F p o) Z S H := by
  obtain ⟨z1, z2, z3⟩ := ok.zed p o upd_same
  have sm := same_upd z1 o
  refine ⟨sm, fun b u q => ?_, fun a s e => ?_, fun a u e => ?_, fun a xs e => ok.zt a xs (by rw [upd_ne (fun z => by rw [z, hz] at e; cases e)]; exact e)⟩
  · by_cases hb : b = p
    · subst hb; rw [upd_same] at q; cases q; exact z3
    · rw [upd_ne hb] at q; exact ok.fro _ _ q
  · have ha : a ≠ p := fun z => by rw [z, z2] at e; cases e
    obtain ⟨h1, h, h2, h3⟩ := ok.own a s e
    exact ⟨by rw [upd_ne ha]; exact h1, h, h2, h3.mono sm⟩
  · have ha : a ≠ p := fun z => by rw [z, hz] at e; cases e
    obtain ⟨g1, g2, g3⟩ := ok.zed a u (by rw [upd_ne ha]; exact e)
    exact ⟨by rw [upd_ne ha]; exact g1, g2, g3⟩
theorem Ok.asideO {o : HO} {so : SO} (ok : Ok K F (upd Z p o) S H) (hz : Z p = none) (r : RepO K F so o) : Ok K F Z (sup S p so) H := by
  obtain ⟨z1, z2, z3⟩ := ok.zed p o upd_same
  refine ⟨ok.fro, fun a s e => ?_, fun a u e => ?_, fun a xs e => ok.zt a xs (by rw [upd_ne (fun z => by rw [z, hz] at e; cases e)]; exact e)⟩
  · by_cases ha : a = p
    · subst ha; rw [sup_same] at e; cases e
      exact ⟨z1, o, z3, r⟩
    · rw [sup_ne ha] at e; exact ok.own a s e
  · have ha : a ≠ p := fun z => by rw [z, hz] at e; cases e
    obtain ⟨g1, g2, g3⟩ := ok.zed a u (by rw [upd_ne ha]; exact e)
    exact ⟨g1, by rw [sup_ne ha]; exact g2, g3⟩
end

section
variable {C : Cmn} {ι : Type} {R : ι → Rst} {K : PySem.W.Frag} {W : WX}
/-! ### comprehensions -/
@[simp] def NoEx : EX := fun _ _ _ => False
def W0 : WX := fun _ _ _ _ => False
theorem thr0 {F Z : Hp} {σ : L2.St} : Thr K F Z W0 σ NoEx := fun _ _ _ _ _ _ _ _ _ _ _ h => h.elim
@[simp] def wipeE (env : Env) : List Nat → Env
  | [] => env
  | v :: vs => forget (wipeE env vs) v
theorem Envs.wipe {F : Hp} {σ : L2.St} {env : Env} (h : Envs K F σ env) : ∀ vs : List Nat, Envs K F (L2.wipe σ vs) (wipeE env vs)
  | [] => h
  | v :: vs => (Envs.wipe h vs).gone v
/-- the tests of a comprehension -/
def VTs (C : Cmn) (R : ι → Rst) (ifs : List Expr) (t : WT) : Prop := ∀ W, ∃ u, (∀ i, Takes (C.at (R i)) W → PTs (C.at (R i)) ifs u) ∧ SndT C.K W t u
def vYes : WT := fun _ S Q _ => Q true S
@[simp ↓] theorem vYes_eq (z0) (S) (Q) (z1) : vYes z0 S Q z1 = (Q true S) := id rfl
theorem vts_nil : VTs C R [] vYes := fun W => ⟨tYes, fun i tk => pts_nil, fun σ H F Z env S Q Ex Rd ok en th k h => k true H F S (Same.refl F) ok h⟩
theorem vts_one {c : Expr} {t : WT} (h : VT C R c t) : VTs C R [c] t := fun W => by
  obtain ⟨u, p, s⟩ := h W
  exact ⟨u, fun i tk => pts_one (p i tk), s⟩
/-- the turns of a comprehension over ys; acc: what is made so far -/
def lcW (g : WG) (tt : WT) (te : WE) (G : Sto → Prop) (env : Env) (Qd : List D → Sto → Prop) : List D → List D → Sto → Prop
  | [], acc, S => G S ∧ Qd acc S
  | y :: r, acc, S => G S ∧ g y env S (fun e1 S1 => tt e1 S1 (fun b S2 => if b = true then te e1 S2 (fun d S3 => acc.length < sizeLine ∧ lcW g tt te G env Qd r (acc ++ [d]) S3) NoEx else lcW g tt te G env Qd r acc S2) NoEx)
/-- .. kept as a whole -/
def LcC (g : WG) (tt : WT) (te : WE) (G : Sto → Prop) (env : Env) (Qd : List D → Sto → Prop) (ys acc : List D) (S : Sto) (_ : Hold (g, tt, te, G, env, Qd)) : Prop := lcW g tt te G env Qd ys acc S
/-- frozen at once; for the store -/
def vLcF (wi : WI) (g : WG) (tt : WT) (te : WE) (vs : List Nat) : WE := fun env S Q E => wi env S (fun ys G S1 => LcC g tt te G (wipeE env vs) (fun acc S2 => Q (.lst acc) S2) ys [] S1 .mk) E
@[simp ↓] theorem vLcF_eq (wi : WI) (g : WG) (tt : WT) (te : WE) (vs : List Nat) (env) (S) (Q) (E) : vLcF wi g tt te vs env S Q E = (wi env S (fun ys G S1 => LcC g tt te G (wipeE env vs) (fun acc S2 => Q (.lst acc) S2) ys [] S1 .mk) E) := id rfl
def vLcO (wi : WI) (g : WG) (tt : WT) (te : WE) (vs : List Nat) : WE := fun env S Q E => wi env S (fun ys G S1 => LcC g tt te G (wipeE env vs) (fun acc S2 => ∀ p, S2 p = none → Q (.ref p) (sup S2 p (.lst acc))) ys [] S1 .mk) E
@[simp ↓] theorem vLcO_eq (wi : WI) (g : WG) (tt : WT) (te : WE) (vs : List Nat) (env) (S) (Q) (E) : vLcO wi g tt te vs env S Q E = (wi env S (fun ys G S1 => LcC g tt te G (wipeE env vs) (fun acc S2 => ∀ p, S2 p = none → Q (.ref p) (sup S2 p (.lst acc))) ys [] S1 .mk) E) := id rfl
/-- the context of a comprehension's block -/
abbrev Rst.blk (r : Rst) (s : Shared) (H : Hp) (scope : Scope) (cenv : PySem.Env) (fp : List Addr) : Rst :=
  { r with s_0 := s, H_0 := H, env := cenv, outer := r.stack, ex := fp, fn := fun x => scope.names.lookup x == some .cell, pn := [], xe := fun _ _ => False }
structure BIx where
  s : Shared
  H : Hp
  c : Addr
  cl : List (Str × Addr)
  fp : List Addr
/-- the contexts of the block -/
abbrev Blk (R : ι → Rst) (scope : Scope) : ι × BIx → Rst := fun j => (R j.1).blk j.2.s j.2.H scope (compEnvC scope j.2.cl j.2.c (R j.1).env) j.2.fp
theorem snd_lc {Wa : WX} {wi : WI} {g : WG} {tt : WT} {te : WE} {vs : List Nat} {ui : TI} {ug : TG} {ut : TT} {ue : TE} (si : SndI K Wa wi ui) (sg : SndG K g ug) (og : OnlyG ug vs) (st : SndT K W0 tt ut) (se : SndE K W0 te ue)
    {σ : L2.St} {H : Hp} {F Z : Hp} {env : Env} {S : Sto} {Qd : List D → Sto → Prop} {Ex : EX} {Rd : VK} (ok : Ok K F Z S H) (en : Envs K F σ env) (th : Thr K F Z Wa σ Ex)
    (k : ∀ F' S' H' D0 acc vacc, Same F F' → Z D0 = none → Ok K F' (upd Z D0 (.lst vacc)) S' H' → Reps K F' acc vacc → Qd acc S' → Rd (.ref D0) H')
    (h : wi env S (fun ys G S1 => lcW g tt te G (wipeE env vs) Qd ys [] S1) Ex) : tLc ui ug ut ue vs σ H Rd := by
  refine si σ H F Z env S _ _ _ ok en th (fun J H1 F1 S1 ys G sm1 ok1 it q1 => ?_) h
  intro D0 hD
  have hZ := ok1.newZ hD
  refine ⟨fun i m H' => m = ys.length - i ∧ i ≤ ys.length ∧ ∃ F2 S2 acc vacc, Same F1 F2 ∧ Ok K F2 (upd Z D0 (.lst vacc)) S2 H' ∧ Reps K F2 acc vacc ∧ lcW g tt te G (wipeE env vs) Qd (ys.drop i) acc S2,
    ⟨_, rfl, Nat.zero_le _, F1, S1, [], [], Same.refl F1, ok1.newAside hD _, rfl, by rw [List.drop_zero]; exact q1⟩, ?_⟩
  rintro i m H2 ⟨rfl, hi, F2, S2, acc, vacc, sm2, ok2, ra, q2⟩
  by_cases hl : i < ys.length
  · rw [List.drop_eq_getElem_cons hl] at q2
    obtain ⟨hG, q2⟩ := q2
    refine .inr ⟨it.go i F2 _ S2 H2 hl sm2 ok2 hG, fun H' => ∃ F3 S3 acc3 vacc3, Same F1 F3 ∧ Ok K F3 (upd Z D0 (.lst vacc3)) S3 H' ∧ Reps K F3 acc3 vacc3 ∧ lcW g tt te G (wipeE env vs) Qd (ys.drop (i + 1)) acc3 S3, fun H' n => ⟨ys.length - (i + 1), by omega, rfl, hl, n⟩, fun x H3 y => ?_⟩
    obtain ⟨F3, sm3, ok3, r3⟩ := it.yld i F2 _ S2 H2 x H3 _ sm2 ok2 hG y (List.getElem?_eq_getElem hl)
    have enw : Envs K F3 (L2.wipe σ vs) (wipeE env vs) := (en.wipe vs).mono (sm1.trans (sm2.trans sm3))
    refine og _ _ _ (fun σ2 H2 => ∃ F4 env4 S4, Same F3 F4 ∧ Ok K F4 (upd Z D0 (.lst vacc)) S4 H2 ∧ Envs K F4 σ2 env4 ∧ tt env4 S4 (fun b S2 => if b = true then te env4 S2 (fun d S3 => acc.length < sizeLine ∧ lcW g tt te G (wipeE env vs) Qd (ys.drop (i + 1)) (acc ++ [d]) S3) NoEx else lcW g tt te G (wipeE env vs) Qd (ys.drop (i + 1)) acc S2) NoEx) _
      (sg _ H3 F3 _ _ S2 x _ _ _ ok3 enw r3 (fun F4 σ4 H4 env4 S4 sm4 ok4 en4 q4 => ⟨F4, env4, S4, sm4, ok4, en4, q4⟩) q2) ?_
    rintro σ4 H4 w4 ⟨F4, env4, S4, sm4, ok4, en4, q4⟩
    refine ⟨by rw [w4, wipe_wipe], ?_⟩
    refine st σ4 H4 F4 _ env4 S4 _ _ _ ok4 en4 thr0 (fun b H5 F5 S5 sm5 ok5 q5 => ?_) q4
    have sm15 : Same F1 F5 := sm2.trans (sm3.trans (sm4.trans sm5))
    have sm25 : Same F2 F5 := sm3.trans (sm4.trans sm5)
    cases b with
    | false => exact ⟨F5, S5, acc, vacc, sm15, ok5, Reps.mono sm25 _ _ ra, q5⟩
    | true =>
      refine se σ4 H5 F5 _ env4 S5 _ _ _ ok5 (en4.mono sm5) thr0 (fun v H6 F6 S6 d sm6 ok6 r6 q6 => ?_) q5
      have sm26 := sm25.trans sm6
      exact ⟨vacc, (ok6.zed D0 _ upd_same).2.2, by rw [← ra.length]; exact q6.1, F6, S6, acc ++ [d], vacc ++ [v], sm15.trans sm6, ok6.putAside _, (Reps.mono sm26 _ _ ra).append (Reps.one r6), q6.2⟩
  · have e : i = ys.length := by omega
    subst e
    rw [List.drop_length] at q2
    exact .inl ⟨it.stop F2 _ S2 H2 sm2 ok2 q2.1, k F2 S2 H2 D0 acc vacc (sm1.trans sm2) hZ ok2 ra q2.2⟩
where
  wipe_wipe {σ : L2.St} : ∀ {vs : List Nat}, L2.wipe (L2.wipe σ vs) vs = L2.wipe σ vs := fun {vs} => by
    apply List.ext_getElem?
    intro i
    by_cases hi : i ∈ vs
    · by_cases hl : i < σ.length
      · have key : ∀ (τ : L2.St), τ.length = σ.length → (L2.wipe τ vs)[i]? = some none := by
          intro τ ht
          cases q : (L2.wipe τ vs)[i]? with
          | none =>
            rw [List.getElem?_eq_none_iff, wipe_length] at q
            omega
          | some o =>
            cases o with
            | none => rfl
            | some x => exact absurd hi (wipe_some q).2
        rw [key σ rfl, key _ (wipe_length _ _)]
      · rw [List.getElem?_eq_none (by rw [wipe_length, wipe_length]; omega), List.getElem?_eq_none (by rw [wipe_length]; omega)]
    · rw [wipe_out hi]
theorem ve_lcF {elt tg iter : Expr} {ifs : List Expr} {scope : Scope} {own : List (Str × Nat)} {pos : Pos} {wi : WI} {g : WG} {tt : WT} {te : WE} (hN : ∀ i, (R i).N.Nodup) (hi : VI C R tg iter wi) (ok : ∀ i, BlkOk (R i).N (R i).env.scope scope own)
    (hg : VGo C (Blk R scope) tg g (own.map (·.2))) (ht : VTs C (Blk R scope) ifs tt) (he : VE C (Blk R scope) elt te) (hc : ∀ i, (R i).calm = true := by exact fun _ => rfl) (hs : ∀ i x, foldedSetIterable iter (R i).env x = pure x := by exact fun _ _ => rfl) :
    VE C R (.ListComp elt [⟨tg, iter, ifs, 0⟩] scope pos) (vLcF wi g tt te (own.map (·.2))) := fun W => by
  obtain ⟨ui, pi, si⟩ := hi W
  obtain ⟨ug, pg, sg, og⟩ := hg
  obtain ⟨ut, pt, st⟩ := ht W0
  obtain ⟨ue, pe, se⟩ := he W0
  refine ⟨_, fun i tk => pe_lc (X := C.at (R i)) (hc i) (hN i) (pi i tk) (ok i) (fun s H c cl fp => pg (i, ⟨s, H, c, cl, fp⟩)) (fun s H c cl fp => pt (i, ⟨s, H, c, cl, fp⟩) takes0) (fun s H c cl fp => pe (i, ⟨s, H, c, cl, fp⟩) takes0) (hs i),
    fun σ H F Z env S Q Ex Rd ok' en th k h => snd_lc si sg og st se ok' en th (fun F' S' H' D0 acc vacc sm hz ok2 ra q => ?_) h⟩
  obtain ⟨sm2, ok3⟩ := ok2.asideF hz
  exact k _ _ _ _ (.lst acc) (sm.trans sm2) ok3 ⟨D0, vacc, rfl, upd_same, Reps.mono sm2 _ _ ra⟩ q
theorem ve_lcO {elt tg iter : Expr} {ifs : List Expr} {scope : Scope} {own : List (Str × Nat)} {pos : Pos} {wi : WI} {g : WG} {tt : WT} {te : WE} (hN : ∀ i, (R i).N.Nodup) (hi : VI C R tg iter wi) (ok : ∀ i, BlkOk (R i).N (R i).env.scope scope own)
    (hg : VGo C (Blk R scope) tg g (own.map (·.2))) (ht : VTs C (Blk R scope) ifs tt) (he : VE C (Blk R scope) elt te) (hc : ∀ i, (R i).calm = true := by exact fun _ => rfl) (hs : ∀ i x, foldedSetIterable iter (R i).env x = pure x := by exact fun _ _ => rfl) :
    VE C R (.ListComp elt [⟨tg, iter, ifs, 0⟩] scope pos) (vLcO wi g tt te (own.map (·.2))) := fun W => by
  obtain ⟨ui, pi, si⟩ := hi W
  obtain ⟨ug, pg, sg, og⟩ := hg
  obtain ⟨ut, pt, st⟩ := ht W0
  obtain ⟨ue, pe, se⟩ := he W0
  refine ⟨_, fun i tk => pe_lc (X := C.at (R i)) (hc i) (hN i) (pi i tk) (ok i) (fun s H c cl fp => pg (i, ⟨s, H, c, cl, fp⟩)) (fun s H c cl fp => pt (i, ⟨s, H, c, cl, fp⟩) takes0) (fun s H c cl fp => pe (i, ⟨s, H, c, cl, fp⟩) takes0) (hs i),
    fun σ H F Z env S Q Ex Rd ok' en th k h => snd_lc si sg og st se ok' en th (fun F' S' H' D0 acc vacc sm hz ok2 ra q => ?_) h⟩
  exact k _ _ _ _ (.ref D0) sm (ok2.asideO (so := .lst acc) hz ⟨vacc, rfl, ra⟩) rfl (q D0 (ok2.zed D0 _ upd_same).2.1)
/-- y = [..], y a local that no block captures -/
theorem vs_lcF {i : Nat} {y : Str} {py : Pos} {elt tg iter : Expr} {ifs : List Expr} {scope : Scope} {own : List (Str × Nat)} {pos spos : Pos} {wi : WI} {g : WG} {tt : WT} {te : WE} (hN : ∀ i, (R i).N.Nodup) (hi : VI C R tg iter wi) (ok : ∀ i, BlkOk (R i).N (R i).env.scope scope own)
    (hg : VGo C (Blk R scope) tg g (own.map (·.2))) (ht : VTs C (Blk R scope) ifs tt) (he : VE C (Blk R scope) elt te) (ha : (scope.names.any fun (n, k) => n == y && (k == .local || k == .cell)) = false := by decide +kernel) (hl : (py.line == pos.line) = true := by rfl) (hpl : spos.line = spos.line := by rfl)
    (hc : ∀ i, (R i).calm = true := by exact fun _ => rfl) (hk : ∀ j, (R j).env.scope.kind = .function := by exact fun _ => rfl) (hy : ∀ j, (R j).N[i]? = some y := by exact fun _ => rfl) (hyl : ∀ j, (R j).env.scope.names.lookup y = some .local := by exact fun _ => rfl)
    (hs : ∀ i x, foldedSetIterable iter (R i).env x = pure x := by exact fun _ _ => rfl) : VS C R (.Assign [.Name y py] (.ListComp elt [⟨tg, iter, ifs, 0⟩] scope pos) spos) (vAsg (vLcF wi g tt te (own.map (·.2))) (gNm i)) := fun W => by
  obtain ⟨ui, pi, si⟩ := hi W
  obtain ⟨ug, pg, sg, og⟩ := hg
  obtain ⟨ut, pt, st⟩ := ht W0
  obtain ⟨ue, pe, se⟩ := he W0
  refine ⟨_, fun j tk => ps_setLc (X := C.at (R j)) (i := i) (hc j) (hN j) (hy j) (hyl j) (sw_true (hk j) (hyl j) hl ha) (pi j tk.tk) (ok j) (fun s H c cl fp => pg (j, ⟨s, H, c, cl, fp⟩)) (fun s H c cl fp => pt (j, ⟨s, H, c, cl, fp⟩) takes0) (fun s H c cl fp => pe (j, ⟨s, H, c, cl, fp⟩) takes0) (hs j),
    fun σ H F Z env S E Rd ok' en lk h => snd_lc si sg og st se ok' en (lk.thr en) (fun F' S' H' D0 acc vacc sm hz ok2 ra q => ?_) h⟩
  obtain ⟨sm2, ok3⟩ := ok2.asideF hz
  exact lk.nx _ _ _ _ _ (sm.trans sm2) ok3 ((en.mono (sm.trans sm2)).put (d := .lst acc) ⟨D0, vacc, rfl, upd_same, Reps.mono sm2 _ _ ra⟩ i) q
theorem vs_lcO {i : Nat} {y : Str} {py : Pos} {elt tg iter : Expr} {ifs : List Expr} {scope : Scope} {own : List (Str × Nat)} {pos spos : Pos} {wi : WI} {g : WG} {tt : WT} {te : WE} (hN : ∀ i, (R i).N.Nodup) (hi : VI C R tg iter wi) (ok : ∀ i, BlkOk (R i).N (R i).env.scope scope own)
    (hg : VGo C (Blk R scope) tg g (own.map (·.2))) (ht : VTs C (Blk R scope) ifs tt) (he : VE C (Blk R scope) elt te) (ha : (scope.names.any fun (n, k) => n == y && (k == .local || k == .cell)) = false := by decide +kernel) (hl : (py.line == pos.line) = true := by rfl) (hpl : spos.line = spos.line := by rfl)
    (hc : ∀ i, (R i).calm = true := by exact fun _ => rfl) (hk : ∀ j, (R j).env.scope.kind = .function := by exact fun _ => rfl) (hy : ∀ j, (R j).N[i]? = some y := by exact fun _ => rfl) (hyl : ∀ j, (R j).env.scope.names.lookup y = some .local := by exact fun _ => rfl)
    (hs : ∀ i x, foldedSetIterable iter (R i).env x = pure x := by exact fun _ _ => rfl) : VS C R (.Assign [.Name y py] (.ListComp elt [⟨tg, iter, ifs, 0⟩] scope pos) spos) (vAsg (vLcO wi g tt te (own.map (·.2))) (gNm i)) := fun W => by
  obtain ⟨ui, pi, si⟩ := hi W
  obtain ⟨ug, pg, sg, og⟩ := hg
  obtain ⟨ut, pt, st⟩ := ht W0
  obtain ⟨ue, pe, se⟩ := he W0
  refine ⟨_, fun j tk => ps_setLc (X := C.at (R j)) (i := i) (hc j) (hN j) (hy j) (hyl j) (sw_true (hk j) (hyl j) hl ha) (pi j tk.tk) (ok j) (fun s H c cl fp => pg (j, ⟨s, H, c, cl, fp⟩)) (fun s H c cl fp => pt (j, ⟨s, H, c, cl, fp⟩) takes0) (fun s H c cl fp => pe (j, ⟨s, H, c, cl, fp⟩) takes0) (hs j),
    fun σ H F Z env S E Rd ok' en lk h => snd_lc si sg og st se ok' en (lk.thr en) (fun F' S' H' D0 acc vacc sm hz ok2 ra q => ?_) h⟩
  exact lk.nx _ _ _ _ _ sm (ok2.asideO (so := .lst acc) hz ⟨vacc, rfl, ra⟩) ((en.mono sm).put (d := .ref D0) rfl i) (q D0 (ok2.zed D0 _ upd_same).2.1)

/-! ### methods of lists of the store -/
abbrev RMV := D → List D → Sto → VQ → Prop
def MtV (C : Cmn) (R : ι → Rst) (id : String) (r : RMV) : Prop := ∃ u, (∀ i, MtR (C.at (R i)) id u) ∧ ∀ F Z S H x xs d ds Q Rd, Ok C.K F Z S H → Rep C.K F d x → Reps C.K F ds xs → KQ C.K F Z Q Rd → r d ds S Q → u x xs H Rd
/-- the receiver: a list of the store (it is one when it is looked up, ahead of the arguments) -/
def vMt (r : RMV) (to : WE) (t : WA) : WE := fun env S Q E => to env S (fun o S1 => (∃ p xs, o = .ref p ∧ S1 p = some (.lst xs)) ∧ t env S1 (fun ds S2 => r o ds S2 Q) E) E
@[simp ↓] theorem vMt_eq (r : RMV) (to : WE) (t : WA) (env) (S) (Q) (E) : vMt r to t env S Q E = (to env S (fun o S1 => (∃ p xs, o = .ref p ∧ S1 p = some (.lst xs)) ∧ t env S1 (fun ds S2 => r o ds S2 Q) E) E) := id rfl
theorem ve_mt {o e : Expr} {es : List Expr} {to : WE} {t : WA} {name : Str} {apos cpos : Pos} {id : String} {r : RMV} (slot : Slot "list" name id) (hty : typeOf (.builtin id) = pure (.type "method_descriptor")) (hm : MtV C R id r) (ho : VE C R o to) (ha : VA C R (e :: es) t)
    (hbase : ∀ i, attributeBase o name (R i).env (eval o (R i).env) = eval o (R i).env := by exact fun _ => rfl)
    (hfew : ∀ i, ((backTo cpos (starEach (e :: es) (R i).env)).all (fun x => !x.1) && (backToKw cpos (keywordEach [] (R i).env)).all (fun x => x.1.isSome)
      && decide ((e :: es).length + ([] : List Keyword).length + (if ([] : List Keyword).isEmpty then 0 else 1) < 30)) = true := by exact fun _ => rfl)
    (hline : (apos.endLine == cpos.line) = true := by rfl) (hs : ∀ i, starEach (e :: es) (R i).env = (false, eval e (R i).env) :: starEach es (R i).env := by exact fun _ => rfl) (hplain : ∀ i, (backTo cpos (starEach es (R i).env)).any (·.1) = false := by exact fun _ => rfl) :
    VE C R (.Call (.Attribute o name apos) (e :: es) [] cpos) (vMt r to t) := fun W => by
  obtain ⟨uo, po, so⟩ := ho W
  obtain ⟨ua, pa, sa⟩ := ha W
  obtain ⟨u, hu, su⟩ := hm
  refine ⟨tBM C.K "list" u uo ua, fun i tk => pe_bm (X := C.at (R i)) PySem.F.plainAttrs_list slot hty (hu i) (po i tk) (pa i tk) (hbase i) (hfew i) hline (hs i) (hplain i), fun σ H F Z env S Q Ex Rd ok en th k h => ?_⟩
  refine so σ H F Z env S _ _ _ ok en th (fun v H1 F1 S1 d sm1 ok1 r1 q1 => ?_) h
  obtain ⟨⟨p, xs, rfl, hp⟩, q1⟩ := q1
  cases (show v = _ from r1)
  obtain ⟨_, ho, h2, vs, rfl, h3⟩ := ok1.own _ _ hp
  refine ⟨.inl ⟨rfl, vs, SqL.of h2⟩, sa σ H1 F1 Z env S1 _ _ _ ok1 (en.mono sm1) (th.mono sm1) (fun ws H2 F2 S2 ds sm2 ok2 r2 q2 => ?_) q1⟩
  exact su F2 Z S2 H2 _ ws (.ref p) ds _ _ ok2 rfl r2 (k.mono (sm1.trans sm2)) q2
theorem ve_mt0 {o : Expr} {to : WE} {name : Str} {apos cpos : Pos} {id : String} {r : RMV} (slot : Slot "list" name id) (hty : typeOf (.builtin id) = pure (.type "method_descriptor")) (hm : MtV C R id r) (ho : VE C R o to)
    (hbase : ∀ i, attributeBase o name (R i).env (eval o (R i).env) = eval o (R i).env := by exact fun _ => rfl) (hline : (apos.endLine == cpos.line) = true := by rfl) :
    VE C R (.Call (.Attribute o name apos) [] [] cpos) (vMt r to vNil) := fun W => by
  obtain ⟨uo, po, so⟩ := ho W
  obtain ⟨u, hu, su⟩ := hm
  refine ⟨tBM0 C.K "list" u uo, fun i tk => pe_bm0 (X := C.at (R i)) PySem.F.plainAttrs_list slot hty (hu i) (po i tk) (hbase i) hline, fun σ H F Z env S Q Ex Rd ok en th k h => ?_⟩
  refine so σ H F Z env S _ _ _ ok en th (fun v H1 F1 S1 d sm1 ok1 r1 q1 => ?_) h
  obtain ⟨⟨p, xs, rfl, hp⟩, q1⟩ := q1
  cases (show v = _ from r1)
  obtain ⟨_, ho, h2, vs, rfl, h3⟩ := ok1.own _ _ hp
  exact ⟨.inl ⟨rfl, vs, SqL.of h2⟩, su F1 Z S1 H1 _ [] (.ref p) [] _ _ ok1 rfl rfl (k.mono sm1) q1⟩
def rAppend : RMV := fun x ds S Q => match x, ds with
  | .ref p, [y] => match S p with
    | some (.lst xs) => xs.length < sizeLine ∧ Q .non (sup S p (.lst (xs ++ [y])))
    | _ => False
  | _, _ => False
@[simp ↓] theorem rAppend_eq (x) (ds) (S) (Q) : rAppend x ds S Q = (match x, ds with
  | .ref p, [y] => match S p with
    | some (.lst xs) => xs.length < sizeLine ∧ Q .non (sup S p (.lst (xs ++ [y])))
    | _ => False
  | _, _ => False) := id rfl
theorem mv_append : MtV C R "list.append" rAppend := by
  refine ⟨L2.rAppend, fun i => mt_append, fun F Z S H x xs d ds Q Rd ok rx rs k h => ?_⟩
  unfold rAppend at h
  split at h
  · split at h
    · rename_i hp
      cases (show x = _ from rx)
      obtain ⟨v, rfl, r1⟩ := reps1 rs
      obtain ⟨_, ho, h2, vs, rfl, h3⟩ := ok.own _ _ hp
      exact ⟨_, vs, v, rfl, rfl, h2, by rw [← h3.length]; exact h.1, k _ _ _ _ .non (Same.refl F) (ok.put (so := .lst _) hp ⟨_, rfl, h3.append (Reps.one r1)⟩) rfl h.2⟩
    · exact h.elim
  · exact h.elim
/-- xs.extend(ys), ys a frozen list (or another one of the store) -/
def rExtend : RMV := fun x ds S Q => match x, ds with
  | .ref p, [.lst ys] => match S p with
    | some (.lst xs) => xs.length + ys.length ≤ sizeLine ∧ Q .non (sup S p (.lst (xs ++ ys)))
    | _ => False
  | .ref p, [.ref q] => match S p, S q with
    | some (.lst xs), some (.lst ys) => xs.length + ys.length ≤ sizeLine ∧ Q .non (sup S p (.lst (xs ++ ys)))
    | _, _ => False
  | _, _ => False
@[simp ↓] theorem rExtend_eq (x) (ds) (S) (Q) : rExtend x ds S Q = (match x, ds with
  | .ref p, [.lst ys] => match S p with
    | some (.lst xs) => xs.length + ys.length ≤ sizeLine ∧ Q .non (sup S p (.lst (xs ++ ys)))
    | _ => False
  | .ref p, [.ref q] => match S p, S q with
    | some (.lst xs), some (.lst ys) => xs.length + ys.length ≤ sizeLine ∧ Q .non (sup S p (.lst (xs ++ ys)))
    | _, _ => False
  | _, _ => False) := id rfl
theorem mv_extend : MtV C R "list.extend" rExtend := by
  refine ⟨L2.rExtend, fun i => mt_extend, fun F Z S H x xs d ds Q Rd ok rx rs k h => ?_⟩
  unfold rExtend at h
  split at h
  · split at h
    · rename_i hp
      cases (show x = _ from rx)
      obtain ⟨v, rfl, a, ws, rfl, g1, g2⟩ := reps1 rs
      obtain ⟨_, ho, h2, vs, rfl, h3⟩ := ok.own _ _ hp
      exact ⟨_, a, vs, ws, rfl, rfl, h2, ok.fro _ _ g1, by rw [← h3.length, ← g2.length]; exact h.1, k _ _ _ _ .non (Same.refl F) (ok.put (so := .lst _) hp ⟨_, rfl, h3.append g2⟩) rfl h.2⟩
    · exact h.elim
  · split at h
    · rename_i hp hq
      cases (show x = _ from rx)
      obtain ⟨v, rfl, rv⟩ := reps1 rs
      cases (show v = _ from rv)
      obtain ⟨_, ho, h2, vs, rfl, h3⟩ := ok.own _ _ hp
      obtain ⟨_, ho, g1, ws, rfl, g2⟩ := ok.own _ _ hq
      exact ⟨_, _, vs, ws, rfl, rfl, h2, g1, by rw [← h3.length, ← g2.length]; exact h.1, k _ _ _ _ .non (Same.refl F) (ok.put (so := .lst _) hp ⟨_, rfl, h3.append g2⟩) rfl h.2⟩
    · exact h.elim
  · exact h.elim
def rInsert : RMV := fun x ds S Q => match x, ds with
  | .ref p, [.int i, y] => match S p with
    | some (.lst xs) => (xs.length < sizeLine ∧ 0 ≤ i ∧ i < 2 ^ 63) ∧ Q .non (sup S p (.lst (xs.take i.toNat ++ [y] ++ xs.drop i.toNat)))
    | _ => False
  | _, _ => False
@[simp ↓] theorem rInsert_eq (x) (ds) (S) (Q) : rInsert x ds S Q = (match x, ds with
  | .ref p, [.int i, y] => match S p with
    | some (.lst xs) => (xs.length < sizeLine ∧ 0 ≤ i ∧ i < 2 ^ 63) ∧ Q .non (sup S p (.lst (xs.take i.toNat ++ [y] ++ xs.drop i.toNat)))
    | _ => False
  | _, _ => False) := id rfl
theorem mv_insert : MtV C R "list.insert" rInsert := by
  refine ⟨_, fun i => mt_insert, fun F Z S H x xs d ds Q Rd ok rx rs k h => ?_⟩
  unfold rInsert at h
  split at h
  · split at h
    · rename_i hp
      cases (show x = _ from rx)
      obtain ⟨v, w, rfl, r1, r2⟩ := reps2 rs
      cases (show v = _ from r1)
      obtain ⟨_, ho, h2, vs, rfl, h3⟩ := ok.own _ _ hp
      exact ⟨_, vs, _, w, rfl, rfl, h2, by rw [← h3.length]; exact h.1.1, h.1.2.1, h.1.2.2, k _ _ _ _ .non (Same.refl F) (ok.put (so := .lst _) hp ⟨_, rfl, ((h3.take _).append (Reps.one r2)).append (h3.drop _)⟩) rfl h.2⟩
    · exact h.elim
  · exact h.elim

/-! ### defs -/
/-- a def's promise: from its arguments, the store, what follows, what is raised -/
abbrev WSp := List D → Sto → VQ → EX → Prop
def low (K : PySem.W.Frag) (p : WSp) : Sp := fun vs H Q E => ∃ F Z S ds Q0 E0, Ok K F Z S H ∧ Reps K F ds vs ∧ p ds S Q0 E0 ∧ KQ K F Z Q0 Q ∧
  ∀ Cl x S' H' F' dd v, Same F F' → Ok K F' Z S' H' → XdAt F' dd v → Rep K F' x v → E0 Cl x S' → E (.ref Cl) (some dd) H'
/-- a def is called (simp keeps off what comes after) -/
def Call (p : WSp) (ds : List D) (S : Sto) (Q : VQ) (E : EX) (_ : Hold (Q, E)) : Prop := p ds S Q E
def vCall (p : WSp) (t : WA) : WE := fun env S Q E => t env S (fun ds S1 => Call p ds S1 Q E .mk) E
@[simp ↓] theorem vCall_eq (p : WSp) (t : WA) (env) (S) (Q) (E) : vCall p t env S Q E = (t env S (fun ds S1 => Call p ds S1 Q E .mk) E) := id rfl
/-- a def stands at the name x and keeps the promise p; n calls, one in another -/
structure DefOk (C : Cmn) (n : Nat) (x : Str) (p : WSp) : Prop where
  ex : ∃ f fd ps, FnOk C.P C.w C.K C.mg C.base (L2.CX C.P C.w) n f fd ps (low C.K p) ∧ C.mg x = some (.ref f) ∧ PySem.W.keepIn C.K (.ref f) = true ∧ Binds C.K fd ps []
theorem ve_call {n : Nat} {x : Str} {sp : WSp} {e : Expr} {es : List Expr} {t : WA} {p pos : Pos} (D : DefOk C n x sp) (ha : VA C R (e :: es) t) (hr : ∀ i, Room n (R i).A) (hg : ∀ i, Gl (C.at (R i)) x := by exact fun _ => rfl) (hdb : (x == ("__debug__" : Str)) = false := by decide)
    (he : ∀ i, starEach (e :: es) (R i).env = (false, eval e (R i).env) :: starEach es (R i).env := by exact fun _ => rfl) (hpl : ∀ i, (backTo pos (starEach es (R i).env)).any (·.1) = false := by exact fun _ => rfl) :
    VE C R (.Call (.Name x p) (e :: es) [] pos) (vCall sp t) := fun W => by
  obtain ⟨f, fd, ps, F, hm, hk, hb⟩ := D.ex
  obtain ⟨u, pu, s⟩ := ha W
  refine ⟨_, fun i tk => pe_callS (X := C.at (R i)) (E := L2.WE W) F (hr i) (hg i) hm hk hb (fun σ => passAt tk σ) (pu i tk) hdb (he i) (hpl i), fun σ H F Z env S Q Ex Rd ok en th k h => ?_⟩
  exact s σ H F Z env S _ _ _ ok en th (fun vs H1 F1 S1 ds sm1 ok1 r1 q1 => ⟨F1, Z, S1, ds, Q, Ex, ok1, r1, q1, k.mono sm1, fun Cl x S' H' F' dd v sm2 ok2 r2 r3 h3 => th Cl x S' H' F' dd v (sm1.trans sm2) ok2 r2 r3 h3⟩) h
/-- the index of the contexts in which a def's body may run -/
structure DIx (k : Nat) (qual : Str) (scope : Scope) where
  f : Addr
  cd : Value
  A : Around
  outer : List PySem.Env
  s : Shared
  H : Hp
  E : XK
  room : Room k (A.deeper (envOfC qual scope s.heap.objs.size f cd))
abbrev DR (C : Cmn) (N : List Str) {k : Nat} {qual : Str} {scope : Scope} (i : DIx k qual scope) : Rst where
  A := i.A.deeper (envOfC qual scope i.s.heap.objs.size i.f i.cd)
  N := N
  s_0 := i.s
  H_0 := i.H
  env := envOfC qual scope i.s.heap.objs.size i.f i.cd
  outer := i.outer
  stack := envOfC qual scope i.s.heap.objs.size i.f i.cd :: i.outer
  ex := []
  calm := true
  fn := fun _ => true
  pn := []
  xe := fun e s' => wpAny (model C.P C.w) (i.A.deeper (envOfC qual scope i.s.heap.objs.size i.f i.cd)) (leaving (envOfC qual scope i.s.heap.objs.size i.f i.cd) e) (fun _ s'' => L2.CX C.P C.w i.outer i.H i.s i.E e s'') (fun e' s'' => L2.CX C.P C.w i.outer i.H i.s i.E e' s'') s'
/-- what a body wants at its ends -/
@[simp] def dEnds (Q : VQ) (E : EX) : VEnds := ⟨fun _ S => Q .non S, Q, fun _ _ => False, fun _ _ => False, fun _ => E⟩
theorem fn_ok {C : Cmn} {x qual : Str} {params : Arguments} {body : List Stmt} {scope : Scope} {dvs : List V} {kws : List (Str × V)} {f : Addr} {fd : FuncData} {N ps : List Str} {k : Nat} (Fd : FunD C.K x qual params body scope dvs kws f fd) (Sc : FnScope N ps scope) {sp : WSp} {t : WS}
    (len : ∀ ds S Q E, sp ds S Q E → ds.length = ps.length) (hb : VSs C (fun i : DIx k qual scope => DR C N i) body t) (h : ∀ ds S Q E, sp ds S Q E → t (dEnds Q E) (start N.length ds) S) :
    FnOk C.P C.w C.K C.mg C.base (L2.CX C.P C.w) (k + 1) f fd ps (low C.K sp) := by
  refine Fd.ok Sc (fun vs H Q E q => ?_) (fun cdv A outer s H vs Q E hr q => ?_)
  · obtain ⟨F, Z, S, ds, Q0, E0, ok, r, q, _⟩ := q
    rw [← r.length]; exact len _ _ _ _ q
  · obtain ⟨F, Z, S, ds, Q0, E0, ok, r, q, kq, kx⟩ := q
    obtain ⟨u, p, sn⟩ := hb (fun cls d _ H => E cls d H)
    refine ⟨u, p ⟨f, cdv, A, outer, s, H, E, hr⟩ ⟨takes_of rfl rfl rfl rfl, by exact PassesOwn.leaving⟩, ?_⟩
    refine sn _ H F Z _ S (dEnds Q0 E0) _ ok (Envs.start r) ⟨fun F' σ' H' env' S' sm ok' en' q' => kq .non H' F' S' .non sm ok' rfl q', kq, fun _ _ _ _ _ _ _ _ z => z.elim, fun _ _ _ _ _ _ _ _ z => z.elim, fun F' σ env sm en Cl x S' H' F2 dd v sm2 ok2 r2 r3 h3 => ?_⟩ (h ds S Q0 E0 q)
    exact kx Cl x S' H' F2 dd v (sm.trans sm2) ok2 r2 r3 h3
end
end L3

set_option Elab.async false
set_option linter.all false
set_option maxRecDepth 100000
set_option maxHeartbeats 4000000
/-! The value layer: enumerate of a tuple. -/
namespace PySem
open AutoSeq1 (wpAny_loadPart')
/-- enumerate.__new__ of one argument, a tuple: its iterator and the enumerate object are laid -/
theorem enumTup_new (a : Addr) (ys : Array Value) :
    Meets (Builtin.«enumerate.__new__» ⟨[.type "enumerate", .ref a], []⟩) (fun _ R s => s.heap.IsTuple a ys ∧
      R (.ok (.ret (.ref (s.heap.push ⟨.type "tuple_iterator", none, .fields #[.ref a, .int 0 0], #[]⟩).objs.size)))
        { s with heap := (s.heap.push ⟨.type "tuple_iterator", none, .fields #[.ref a, .int 0 0], #[]⟩).push ⟨.type "enumerate", none, .fields #[.none, .bool false, .ref s.heap.objs.size, rawInt 0, .none, .none], #[]⟩ }) :=
  Meets.of_wp fun pr wo _ _ st hst => by
    rcases st with ⟨hp, gs, dr, tk, os⟩
    rcases hst with ⟨tup, goal⟩
    have sub := sub_enumerate
    have iter : ∀ {B : Around} {Er : Value → Shared → Prop} {Qr : Value → Shared → Prop}, Qr (.ref hp.objs.size) ⟨hp.push ⟨.type "tuple_iterator", none, .fields #[.ref a, .int 0 0], #[]⟩, gs, dr, tk, os⟩ → wpAny (model pr wo) B (pyIter (.ref a)) Qr Er ⟨hp, gs, dr, tk, os⟩ := fun z => (begins_tuple a ys).iter _ _ _ _ ⟨hp, gs, dr, tk, os⟩ _ tup z
    wp_walk using iter
    apply wpAny_stack_any
    intro fr
    apply wpAny_pure
    split
    next c _ _ _ _ _ => cases (c == Value.type "enumerate") <;> (wp_walk using iter; exact ⟨_, rfl, goal⟩)
    next => wp_walk using iter; exact ⟨_, rfl, goal⟩
theorem enumTup_call {prog : Program} {w : World} {A : Around} {Er : Value → Shared → Prop} {st : Shared} {a : Addr} {ys : Array Value} {Qr : Value → Shared → Prop} (tup : st.heap.IsTuple a ys)
    (go : ∀ g : Heap, IsEnum g (st.heap.objs.size + 1) st.heap.objs.size 0 .none → g.IsTupleIter st.heap.objs.size a 0 → (∀ c u, st.heap.get? c = some u → g.get? c = some u) → Qr (.ref (st.heap.objs.size + 1)) { st with heap := g }) :
    wpAny (model prog w) A (call (.type "enumerate") [.ref a]) Qr Er st := by
  apply callType_new F.called_enumerate (by decide) (F.typeCall_enumerate_1 _) (F.newCall_enumerate_1 _) (fun o => F.args_object_init_2 o _) F.entry_enumerate_new (enumTup_new a ys)
  refine ⟨tup, ?_⟩
  have sz : (st.heap.push ⟨.type "tuple_iterator", none, .fields #[.ref a, .int 0 0], #[]⟩).objs.size = st.heap.objs.size + 1 := by rw [Heap.size_push]
  have at1 := Heap.get?_push_size (st.heap.push ⟨.type "tuple_iterator", none, .fields #[.ref a, .int 0 0], #[]⟩) (o := ⟨.type "enumerate", none, .fields #[.none, .bool false, .ref st.heap.objs.size, rawInt 0, .none, .none], #[]⟩) rfl
  have up : ∀ c u, st.heap.get? c = some u → ((st.heap.push ⟨.type "tuple_iterator", none, .fields #[.ref a, .int 0 0], #[]⟩).push ⟨.type "enumerate", none, .fields #[.none, .bool false, .ref st.heap.objs.size, rawInt 0, .none, .none], #[]⟩).get? c = some u :=
    fun c u z => Heap.get?_push_of_some _ (Heap.get?_push_of_some _ z)
  rw [sz] at at1
  show _ ∧ _
  rw [sz]
  exact ⟨⟨_, at1, rfl⟩, go _ at1 ⟨_, Heap.get?_push_of_some _ (Heap.get?_push_size _ rfl), rfl, rfl⟩ up⟩
end PySem
namespace L3
open PySem PySem.Spec PyProof.Rows L2
/-- the tuple at a, each item in a new pair with its place -/
def IteT (K : PySem.W.Frag) (a : Addr) : It where
  go := fun i G => ∃ zs z, SqT K G a zs ∧ zs[i]? = some z
  yld := fun i G v G' => ∃ T z, v = .ref T ∧ G T = none ∧ G' = upd G T (.tup [.int (i : Nat), z]) ∧ ∀ zs, SqT K G a zs → zs[i]? = some z
  stop := fun i G => ∃ zs, SqT K G a zs ∧ zs.length = i
theorem apart_cls {h : Heap} {a b : Addr} {o u : Obj} {m n : String} (ha : h.get? a = some o) (hb : h.get? b = some u) (co : o.cls = .type m) (cu : u.cls = .type n) (d : m ≠ n) : a ≠ b := by
  intro e
  rw [e, hb] at ha
  injection ha with e1
  rw [← e1, cu] at co
  injection co with e2
  exact d e2.symm
/-- where the iteration stands -/
structure EnAt (a e it : Addr) (i : Nat) (h : Heap) : Prop where
  en : ∃ old, IsEnum h e it (i : Int) old
  ti : h.IsTupleIter it a i
  ne : e ≠ it
section
variable {X : Cx} {pins : List (Addr × Obj)} {σ : L2.St} {G : Hp} {st : Shared} {a e it : Addr} {i : Nat} {zs : List V} {its : List Value}
theorem EnAt.walks (z : EnAt a e it i st.heap) (tup : st.heap.IsTuple a its.toArray) (hh : X.A.handled = none) :
    WalksT X.prog X.w X.A e (e :: [it, a]) [e, it] its.toArray.size (fun i vals => ∃ t x, its.toArray[i]? = some x ∧ vals = #[.int i t, x])
      (fun i h => (∃ old, IsEnum h e it i old) ∧ (h.IsTupleIter it a i ∧ h.IsTuple a its.toArray)) (fun i T h => (∃ x, IsEnumOut h e it ((i : Int) + 1) x T) ∧ (h.IsTupleIter it a (i + 1) ∧ h.IsTuple a its.toArray) ∧ T ≠ e ∧ T ≠ it) := by
  obtain ⟨old, h1⟩ := z.en
  obtain ⟨o2, h2, c2, _⟩ := z.ti
  obtain ⟨o3, h3, c3, _⟩ := id tup
  have h1' : st.heap.get? e = some _ := h1
  have n1 : a ≠ it := apart_cls h3 h2 c3 c2 (by decide)
  have n2 : e ≠ a := apart_cls h1' h3 rfl c3 (by decide)
  exact WalksT.enumerateD (Draws.tuple (A := X.A.in1) hh it a n1 its.toArray) e z.ne (by simp [z.ne, n2]) (by simp)
end
theorem turn_enumT {P : Program} {w : World} {K : PySem.W.Frag} {elts : List Expr} {kk : Nat} {tpos : Pos} (a e it : Addr) : Turn P w K (.Tuple elts kk tpos) (IteT K a) [e, it] e (EnAt a e it) where
  mem := List.mem_cons_self
  obj := fun i h z b hb => by
    rcases List.mem_cons.mp hb with rfl | hb
    · obtain ⟨old, h1⟩ := z.en
      exact ⟨_, h1, fun _ q => nomatch q⟩
    · obtain ⟨o, h2, _, d⟩ := z.ti
      rw [List.mem_singleton.mp hb]
      exact ⟨o, h2, fun v q => by rw [d] at q; exact nomatch q⟩
  keep := fun i h h' z k => by
    obtain ⟨old, h1⟩ := z.en
    exact ⟨⟨old, k e List.mem_cons_self _ h1⟩, z.ti.at fun o q => k it (by simp) o q, z.ne⟩
  item := by
    rintro X rfl rfl rfl calm i pins st σ G Er I fpok z ⟨zs, x, sq, hx⟩
    obtain ⟨its, vals, tup, _⟩ := I.tuple sq
    obtain ⟨u, hu, ru⟩ := vals.get hx
    have tup' : st.heap.IsTuple a its.toArray := tup
    have W := z.walks (X := X) tup' (I.ok.hd calm)
    have lt : i < its.toArray.size := by rw [List.size_toArray]; exact (List.getElem?_eq_some_iff.mp hu).1
    refine W.item i st _ _ lt ⟨z.en, z.ti, tup'⟩ fun T ws g tk hw hT gT mid keep => ⟨_, rfl, W.go elts kk tpos i T _ _ _ mid fun g' st' keep' => ?_⟩
    obtain ⟨t, y, hy, rfl⟩ := hw
    rw [List.getElem?_toArray, hu] at hy
    injection hy with hy
    subst hy
    have Tw := W.apart i T _ mid
    obtain ⟨oT, q1, q2, q3⟩ := gT
    have T' : g'.get? T = some oT := keep' T oT Tw q1
    have fresh : G T = none := I.hok.fresh hT
    have lts : ∀ b ∈ [e, it], b < st.heap.objs.size := fun b hb => by
      rcases List.mem_cons.mp hb with rfl | hb
      · obtain ⟨old, h1⟩ := z.en
        exact Heap.lt_size h1
      · obtain ⟨o, h2, _⟩ := z.ti
        rw [List.mem_singleton.mp hb]
        exact Heap.lt_size h2
    have J : Inv X pins σ (upd G T (.tup [.int (i : Nat), x])) { st with heap := g', toks := tk } :=
      I.turnedNew (fun b o hb q => keep' b o hb (keep b o hb q)) fpok hT ⟨by show 2 ≤ sizeLine; decide, [.int i t, u], .cons ⟨_, rfl⟩ (.cons ru .nil), oT, T', q2, q3⟩
    refine ⟨.ref T, _, J, rfl, ⟨T, x, rfl, fresh, rfl, fun ys hy => by rw [I.tuple_inj hy sq]; exact hx⟩, ⟨st'.1, st'.2.1, z.ne⟩, fun b hb => ?_⟩
    rw [upd_ne (Nat.ne_of_lt (Nat.lt_of_lt_of_le (lts b hb) hT))]
    exact (fpok b hb).1
  done := by
    rintro X rfl rfl rfl calm i pins st σ G Er I fpok z ⟨zs, sq, hl⟩
    obtain ⟨its, vals, tup, _⟩ := I.tuple sq
    have tup' : st.heap.IsTuple a its.toArray := tup
    have W := z.walks (X := X) tup' (I.ok.hd calm)
    have en : its.toArray.size = i := by rw [List.size_toArray, ← vals.length, hl]
    refine W.done st _ _ (by rw [en]; exact ⟨z.en, z.ti, tup'⟩) fun g tk keep => ⟨rfl, ?_⟩
    exact I.step (g' := st.gens) (d' := st.drawn) (ch := [e, it]) (fun b hb => by obtain ⟨_, f1, _, f3, f4, f5⟩ := fpok b hb; exact ⟨f3, f1, f4, f5⟩)
      (fun b o _ _ hb q _ => keep b o hb q) (fun b o _ _ hb q _ => ⟨o.slots, keep b o hb q⟩) (fun _ _ _ _ n => n) (fun b o hb q => ⟨o, keep b o hb q⟩) (fun _ _ q => q) (fun _ _ _ q => q) (fun b ps q => ⟨#[], by rw [q]; simp⟩)
      (fun m hm => by obtain ⟨o, es, ep, ho, r⟩ := hm; exact ⟨o, es, ep, keep _ o (fun hb => (fpok _ hb).2.1 rfl) ho, r⟩)
      (fun b u q => (I.hok b u q).stay (fun c v hc y => keep c v (fun hb => by
        have n := (fpok c hb).1
        rcases hc with rfl | hc
        · rw [n] at q; cases q
        · rw [n] at hc; cases hc) y) (fun _ y => y) fun _ _ y => y) I.bare
  self := fun B i st Qr Er z q => by
    obtain ⟨old, h1⟩ := z.en
    exact wpAny_pyIter_enum h1 q
/-- enumerate(t), t a tuple -/
def iEnumT (K : PySem.W.Frag) (ta : TA) : TI := fun σ G Rd => ta σ G fun vs G1 => ∃ a zs, vs = [.ref a] ∧ SqT K G1 a zs ∧ Rd (IteT K a) G1
theorem pi_enumT {X : Cx} {x : Expr} {ta : TA} {p pos tpos : Pos} {elts : List Expr} {kk : Nat} (hg : Gl X "enumerate") (hm : X.mg "enumerate" = none) (ha : PA X [x] ta) (hs : starEach [x] X.env = [(false, eval x X.env)]) :
    PI X (.Tuple elts kk tpos) (.Call (.Name "enumerate" p) [x] [] pos) (iEnumT X.K ta) := by
  constructor
  intro pins st σ G Rd I h
  refine Call_ (ld_blt I hg hm boot_enumerate (PyProof.Rows.callWith_type1 (thn (ha.run pos pins st σ G _ I h) ?_) hs rfl))
  rintro us s1 ⟨vs, G1, I1, rv, a, zs, rfl, sq, q⟩
  obtain ⟨u, rfl, ra⟩ := vals1 rv
  cases (show u = Value.ref a from ra)
  obtain ⟨its, vals, tup, _⟩ := I1.tuple sq
  refine enumTup_call (ys := its.toArray) tup fun g en ti up => wpAny_pyIter_enum en ?_
  have I2 : Inv X pins σ G1 { s1 with heap := g } := I1.kept (t' := s1.toks) up
  refine ⟨_, [s1.heap.objs.size + 1, s1.heap.objs.size], _, _, G1, rfl, I2, turn_enumT a (s1.heap.objs.size + 1) s1.heap.objs.size, ⟨⟨.none, en⟩, ti, Nat.succ_ne_self _⟩, fun b hb => ?_, q⟩
  have big : s1.heap.objs.size ≤ b := by
    rcases List.mem_cons.mp hb with rfl | hb
    · exact Nat.le_succ _
    · exact Nat.le_of_eq (List.mem_singleton.mp hb).symm
  exact I1.fpOk big (I1.hok.fresh big)
/-- the pairs of enumerate -/
def enumD (xs : List D) : List D := xs.zipIdx.map fun p => .tup [.int (p.2 : Int), p.1]
theorem enumD_get {xs : List D} {i : Nat} {d : D} (h : (enumD xs)[i]? = some d) : ∃ x, xs[i]? = some x ∧ d = .tup [.int (i : Int), x] := by
  unfold enumD at h
  rw [List.getElem?_map, List.getElem?_zipIdx] at h
  cases q : xs[i]? with
  | none => rw [q] at h; cases h
  | some x =>
    rw [q] at h
    simp at h
    exact ⟨x, rfl, h.symm⟩
theorem enumD_length {xs : List D} : (enumD xs).length = xs.length := by simp [enumD]
def iEnT (t : WA) : WI := fun env S Q E => t env S (fun ds S1 => match ds with
  | [.tup xs] => Q (enumD xs) Always S1
  | _ => False) E
@[simp ↓] theorem iEnT_eq (t : WA) (env) (S) (Q) (E) : iEnT t env S Q E = (t env S (fun ds S1 => match ds with
  | [.tup xs] => Q (enumD xs) Always S1
  | _ => False) E) := id rfl
section
variable {C : Cmn} {ι : Type} {R : ι → Rst}
theorem vi_enT {e : Expr} {t : WA} {p pos tpos : Pos} {elts : List Expr} {kk : Nat} (hm : C.mg "enumerate" = none) (ha : VA C R [e] t) (hg : ∀ i, Gl (C.at (R i)) "enumerate" := by exact fun _ => rfl) (hs : ∀ i, starEach [e] (R i).env = [(false, eval e (R i).env)] := by exact fun _ => rfl) :
    VI C R (.Tuple elts kk tpos) (.Call (.Name "enumerate" p) [e] [] pos) (iEnT t) := fun W => by
  obtain ⟨u, pu, s⟩ := ha W
  refine ⟨iEnumT C.K u, fun i tk => pi_enumT (X := C.at (R i)) (hg i) hm (pu i tk) (hs i), fun σ H F Z env S Q Ex Rd ok en th k h => s σ H F Z env S _ _ _ ok en th (fun v H' F' S' d sm ok' r q => ?_) h⟩
  split at q
  · rename_i ys
    obtain ⟨v, rfl, a, vs, rfl, h1, h2⟩ := reps1 r
    have hq : ∀ F2 Z2 S2 H2, Same F' F2 → Ok C.K F2 Z2 S2 H2 → SqT C.K H2 a vs := fun F2 Z2 S2 H2 sm2 ok2 => same_sqt (sm2.trans ok2.fro) h1.sq
    refine ⟨a, vs, rfl, hq _ _ _ _ (Same.refl F') ok', k _ _ _ _ _ _ sm ok' ⟨fun F2 Z2 S2 H2 sm2 ok2 _ => ⟨vs, hq _ _ _ _ sm2 ok2, by rw [enumD_length, h2.length]⟩, fun i F2 Z2 S2 H2 hi sm2 ok2 _ => ?_, fun i F2 Z2 S2 H2 x H3 d sm2 ok2 _ y e => ?_⟩ q⟩
    · have hv : i < vs.length := by rw [← h2.length, ← enumD_length]; exact hi
      exact ⟨vs, vs[i], hq _ _ _ _ sm2 ok2, List.getElem?_eq_getElem hv⟩
    · obtain ⟨T, x0, rfl, hT, rfl, hx⟩ := y
      obtain ⟨z, hz, rfl⟩ := enumD_get e
      obtain ⟨v, h3, h4⟩ := h2.get hz
      have he : v = x0 := by
        have := hx vs (hq _ _ _ _ sm2 ok2)
        rw [h3] at this
        exact Option.some.inj this
      subst he
      have sm3 := same_upd (ok2.newF hT) (.tup [.int (i : Nat), v])
      exact ⟨_, sm3, ok2.frz hT _, T, _, rfl, .inl upd_same, .int (i : Nat), [v], rfl, rfl, Reps.one (Rep.mono (sm2.trans sm3) _ _ h4)⟩
  · exact q.elim
end
end L3

set_option Elab.async false
set_option linter.all false
set_option maxRecDepth 100000
set_option maxHeartbeats 4000000
/-! The value layer: in, is, isinstance, lists frozen, calls that only read. -/
namespace L3
open PySem PySem.Spec PyProof.Rows L2

section
variable {C : Cmn} {ι : Type} {R : ι → Rst} {K : PySem.W.Frag} {W : WX}
/-! ### in, not in -/
@[simp] def flatD : D → Bool
  | .non => true
  | .bl _ => true
  | .int _ => true
  | .str _ => true
  | _ => false
def toV : D → V
  | .bl b => .bl b
  | .int i => .int i
  | .str x => .str x
  | _ => .non
theorem flat_rep {F : Hp} {d : D} {v : V} (h : Rep K F d v) (f : flatD d = true) : v = toV d ∧ flatV v = true := by
  cases d <;> first | (cases f; done) | (cases (show v = _ from h); exact ⟨rfl, rfl⟩)
theorem flat_reps {F : Hp} : ∀ {ds : List D} {vs : List V}, Reps K F ds vs → ds.all flatD = true → vs = ds.map toV ∧ vs.all flatV = true
  | [], vs, h, _ => by cases (show vs = [] from h); exact ⟨rfl, rfl⟩
  | d :: ds, vs, h, f => by
    obtain ⟨v, r, rfl, h1, h2⟩ := h
    rw [List.all_cons, Bool.and_eq_true] at f
    obtain ⟨e1, e2⟩ := flat_rep h1 f.1
    obtain ⟨e3, e4⟩ := flat_reps h2 f.2
    exact ⟨by rw [e1, e3]; rfl, by rw [List.all_cons, e2, e4]; rfl⟩
/-- x is in ys (flat things; or data at any depth) -/
def InD (x : D) (ys : List D) (b : Bool) : Prop := (flatD x = true ∧ ys.all flatD = true ∧ inV (toV x) (ys.map toV) = b) ∨
  ∃ d ds, toPy x = some d ∧ toPys ys = some ds ∧ SeqAt.shaped d = true ∧ SeqAt.shaped (.list ds) = true ∧ (ds.any fun z => PyData.eqv z d) = b
def rIn (neg : Bool) : R2V := fun x y S Q => match y with
  | .lst ys => ExC (InD x ys) (fun b => Q (.bl (if neg = true then !b else b)) S) .mk
  | .tup ys => flatD x = true ∧ ys.all flatD = true ∧ Q (.bl (if neg = true then !inV (toV x) (ys.map toV) else inV (toV x) (ys.map toV))) S
  | _ => False
@[simp ↓] theorem rIn_eq (neg : Bool) (x) (y) (S) (Q) : rIn neg x y S Q = (match y with
  | .lst ys => ExC (InD x ys) (fun b => Q (.bl (if neg = true then !b else b)) S) .mk
  | .tup ys => flatD x = true ∧ ys.all flatD = true ∧ Q (.bl (if neg = true then !inV (toV x) (ys.map toV) else inV (toV x) (ys.map toV))) S
  | _ => False) := id rfl
def uIn (K : PySem.W.Frag) (neg : Bool) : R2 := fun x y H Q => L2.rIn K neg x y H Q ∨ (if neg = true then rNotInD K x y H Q else rInD K x y H Q)
theorem in_sound (neg : Bool) : SndR K (rIn neg) (uIn K neg) := fun F Z S H x y d e Q Rd ok rx ry k h => by
  unfold rIn at h
  split at h
  · obtain ⟨b, hb, q⟩ := h
    have ry' := ry
    obtain ⟨a, vs, rfl, h1, h2⟩ := ry'
    rcases hb with ⟨f1, f2, rfl⟩ | ⟨dx, ds, h3, h4, h5, h6, rfl⟩
    · obtain ⟨e1, e2⟩ := flat_rep rx f1
      obtain ⟨e3, e4⟩ := flat_reps h2 f2
      exact .inl ⟨a, vs, rfl, .inl (SqL.of (ok.fro _ _ h1)), e2, e4, by rw [e1, e3]; exact k _ _ _ _ (.bl _) (Same.refl F) ok rfl q⟩
    · right
      have D1 := rep_dp ok.fro _ _ _ rx h3
      have D2 : Dp K H (.ref a) (.list ds) := rep_dp ok.fro _ _ _ ry (by rw [toPy, h4]; rfl)
      cases neg with
      | true => exact ⟨dx, ds, D1, D2, h5, h6, k _ _ _ _ (.bl _) (Same.refl F) ok rfl q⟩
      | false => exact ⟨dx, ds, D1, D2, h5, h6, k _ _ _ _ (.bl _) (Same.refl F) ok rfl q⟩
  · obtain ⟨f1, f2, q⟩ := h
    obtain ⟨a, vs, rfl, h1, h2⟩ := ry
    obtain ⟨e1, e2⟩ := flat_rep rx f1
    obtain ⟨e3, e4⟩ := flat_reps h2 f2
    exact .inl ⟨a, vs, rfl, .inr (same_sqt ok.fro h1.sq), e2, e4, by rw [e1, e3]; exact k _ _ _ _ (.bl _) (Same.refl F) ok rfl q⟩
  · exact h.elim
theorem ov_in (hu : ∀ i, (R i).A.units + 200 < cLine) : OpV C R (compareOp .In) (rIn false) :=
  .of (uIn C.K false) (fun i => OpR.or (X := C.at (R i)) op_in_seq (op_inD (X := C.at (R i)) (by have := hu i; show (R i).A.units + 65 < cLine; omega))) (in_sound false)
theorem ov_notin (hu : ∀ i, (R i).A.units + 200 < cLine) : OpV C R (compareOp .NotIn) (rIn true) :=
  .of (uIn C.K true) (fun i => OpR.or (X := C.at (R i)) op_notIn_seq (op_notInD (X := C.at (R i)) (by have := hu i; show (R i).A.units + 65 < cLine; omega))) (in_sound true)

/-! ### is None, is True, is False -/
def isB : V → V → Bool
  | .non, .non => true
  | .bl a, .bl b => decide (a = b)
  | _, _ => false
def u_is (neg : Bool) : R2 := fun x y H Q => (y = .non ∨ ∃ c, y = .bl c) ∧ Q (.bl (if neg = true then !isB x y else isB x y)) H
theorem op_isC {X : Cx} : OpR X (compareOp .Is) (u_is false) := by
  intro pins s σ H x y v u Q I rx ry h
  obtain ⟨hy, q⟩ := h
  have fin : ∀ b : Bool, b = isB x y → EP X pins σ Q (.bool b) s := fun b e => ⟨.bl b, H, I, rfl, by rw [e]; exact q⟩
  rcases hy with rfl | ⟨c, rfl⟩
  · cases (show u = Value.none from ry)
    refine is_none_gen (fin _ ?_)
    cases x <;> first
      | (cases rx; rfl)
      | (obtain ⟨t, rfl⟩ := rx; rfl)
  · cases (show u = Value.bool c from ry)
    cases x with
    | bl b =>
      cases (show v = Value.bool b from rx)
      exact PyProof.Rows.is_bool (fin _ (by cases b <;> cases c <;> rfl))
    | non => cases (show v = _ from rx); exact wpAny_is_other rfl (fun z => nomatch z) (fin _ rfl)
    | int i => obtain ⟨t, rfl⟩ := rx; exact wpAny_is_other rfl (fun z => nomatch z) (fin _ rfl)
    | str i => obtain ⟨t, rfl⟩ := rx; exact wpAny_is_other rfl (fun z => nomatch z) (fin _ rfl)
    | byt i => obtain ⟨t, rfl⟩ := rx; exact wpAny_is_other rfl (fun z => nomatch z) (fin _ rfl)
    | flt i => obtain ⟨t, rfl⟩ := rx; exact wpAny_is_other rfl (fun z => nomatch z) (fin _ rfl)
    | ref i => cases (show v = _ from rx); exact wpAny_is_other rfl (fun z => nomatch z) (fin _ rfl)
    | ty i => cases (show v = _ from rx); exact wpAny_is_other rfl (fun z => nomatch z) (fin _ rfl)
theorem op_isnotC {X : Cx} : OpR X (compareOp .IsNot) (u_is true) := by
  intro pins s σ H x y v u Q I rx ry h
  obtain ⟨hy, q⟩ := h
  have fin : ∀ b : Bool, b = (!isB x y) → EP X pins σ Q (.bool b) s := fun b e => ⟨.bl b, H, I, rfl, by rw [e]; exact q⟩
  rcases hy with rfl | ⟨c, rfl⟩
  · cases (show u = Value.none from ry)
    refine isnot_none_gen (fin _ ?_)
    cases x <;> first
      | (cases rx; rfl)
      | (obtain ⟨t, rfl⟩ := rx; rfl)
  · cases (show u = Value.bool c from ry)
    cases x with
    | bl b =>
      cases (show v = Value.bool b from rx)
      exact PyProof.Rows.isnot_bool (fin _ (by cases b <;> cases c <;> rfl))
    | non => cases (show v = _ from rx); exact wpAny_isNot_other rfl (fun z => nomatch z) (fin _ rfl)
    | int i => obtain ⟨t, rfl⟩ := rx; exact wpAny_isNot_other rfl (fun z => nomatch z) (fin _ rfl)
    | str i => obtain ⟨t, rfl⟩ := rx; exact wpAny_isNot_other rfl (fun z => nomatch z) (fin _ rfl)
    | byt i => obtain ⟨t, rfl⟩ := rx; exact wpAny_isNot_other rfl (fun z => nomatch z) (fin _ rfl)
    | flt i => obtain ⟨t, rfl⟩ := rx; exact wpAny_isNot_other rfl (fun z => nomatch z) (fin _ rfl)
    | ref i => cases (show v = _ from rx); exact wpAny_isNot_other rfl (fun z => nomatch z) (fin _ rfl)
    | ty i => cases (show v = _ from rx); exact wpAny_isNot_other rfl (fun z => nomatch z) (fin _ rfl)
def rIs (neg : Bool) : R2V := fun x y S Q => match x, y with
  | .non, .non => Q (.bl (if neg = true then false else true)) S
  | _, .non => Q (.bl (if neg = true then true else false)) S
  | .bl a, .bl b => Q (.bl (if neg = true then !decide (a = b) else decide (a = b))) S
  | _, .bl _ => Q (.bl (if neg = true then true else false)) S
  | _, _ => False
@[simp ↓] theorem rIs_eq (neg : Bool) (x) (y) (S) (Q) : rIs neg x y S Q = (match x, y with
  | .non, .non => Q (.bl (if neg = true then false else true)) S
  | _, .non => Q (.bl (if neg = true then true else false)) S
  | .bl a, .bl b => Q (.bl (if neg = true then !decide (a = b) else decide (a = b))) S
  | _, .bl _ => Q (.bl (if neg = true then true else false)) S
  | _, _ => False) := id rfl
theorem is_sound (neg : Bool) : SndR K (rIs neg) (u_is neg) := fun F Z S H x y d e Q Rd ok rx ry k h => by
  have fin : ∀ b, Q (.bl b) S → Rd (.bl b) H := fun b q => k _ _ _ _ (.bl b) (Same.refl F) ok rfl q
  have nb : ∀ {d : D} {v : V} {c : Bool}, Rep K F d v → (∀ a, d ≠ .bl a) → isB v (.bl c) = false := fun {d v c} r n => by
    cases d <;> first
      | exact absurd rfl (n _)
      | (cases (show v = _ from r); rfl)
      | (obtain ⟨a, _, rfl, _⟩ := r; rfl)
      | (obtain ⟨a, _, _, rfl, _⟩ := r; rfl)
      | (obtain ⟨rfl, _⟩ := r; rfl)
  have nn : ∀ {d : D} {v : V}, Rep K F d v → d ≠ .non → isB v .non = false := fun {d v} r n => by
    cases d <;> first
      | exact absurd rfl n
      | (cases (show v = _ from r); rfl)
      | (obtain ⟨a, _, rfl, _⟩ := r; rfl)
      | (obtain ⟨a, _, _, rfl, _⟩ := r; rfl)
      | (obtain ⟨rfl, _⟩ := r; rfl)
  unfold rIs at h
  split at h
  · cases (show x = _ from rx); cases (show y = _ from ry)
    exact ⟨.inl rfl, fin _ (by cases neg <;> exact h)⟩
  · rename_i n
    cases (show y = _ from ry)
    exact ⟨.inl rfl, by rw [nn rx (fun z => n z)]; exact fin _ (by cases neg <;> exact h)⟩
  · cases (show x = _ from rx); cases (show y = _ from ry)
    exact ⟨.inr ⟨_, rfl⟩, fin _ (by cases neg <;> exact h)⟩
  · rename_i n
    cases (show y = _ from ry)
    exact ⟨.inr ⟨_, rfl⟩, by rw [nb rx (fun a z => n a z)]; exact fin _ (by cases neg <;> exact h)⟩
  · exact h.elim
theorem ov_is : OpV C R (compareOp .Is) (rIs false) := .of (u_is false) (fun i => op_isC) (is_sound false)
theorem ov_isnot : OpV C R (compareOp .IsNot) (rIs true) := .of (u_is true) (fun i => op_isnotC) (is_sound true)

/-! ### isinstance(x, T), isinstance(x, (S, T)): built-in types -/
@[simp] def tyn : D → String
  | .non => "NoneType"
  | .bl _ => "bool"
  | .int _ => "int"
  | .str _ => "str"
  | .tup _ => "tuple"
  | .lst _ => "list"
  | .fix _ => "list"
  | _ => "?"
@[simp] def isTy (d : D) (n : String) : Bool := tyn d == n || (tyn d == "bool" && n == "int")
def tys : List String := ["tuple", "list", "int", "bool", "str"]
/-- a built-in type's name as a value -/
theorem ve_ty {x : Str} {n : String} {pos : Pos} (hm : C.mg x = none) (hv : bootBuiltins x = some (.type n) := by decide +kernel) (hg : ∀ i, Gl (C.at (R i)) x := by exact fun _ => rfl) (hn : x ≠ "__name__" := by decide) (hd : (x == ("__debug__" : Str)) = false := by decide) : VE C R (.Name x pos) (vC (.ty n)) :=
  .of (fun i => pe_bltn (X := C.at (R i)) (v := .ty n) (hg i) hm hv rfl hn hd) fun W => snd_c fun _ => rfl
def rIsi : RCV := fun ds S Q => match ds with
  | [d, .ty n] => tyn d ≠ "?" ∧ n ∈ tys ∧ Q (.bl (isTy d n)) S
  | [d, .tup [.ty m, .ty n]] => tyn d ≠ "?" ∧ m ∈ tys ∧ n ∈ tys ∧ Q (.bl (isTy d m || isTy d n)) S
  | _ => False
@[simp ↓] theorem rIsi_eq (ds) (S) (Q) : rIsi ds S Q = (match ds with
  | [d, .ty n] => tyn d ≠ "?" ∧ n ∈ tys ∧ Q (.bl (isTy d n)) S
  | [d, .tup [.ty m, .ty n]] => tyn d ≠ "?" ∧ m ∈ tys ∧ n ∈ tys ∧ Q (.bl (isTy d m || isTy d n)) S
  | _ => False) := id rfl
theorem tyx {F H : Hp} {Z : Hp} {S : Sto} {d : D} {v : V} (ok : Ok K F Z S H) (r : Rep K F d v) (h : tyn d ≠ "?") : TyX K H v (.type (tyn d)) := by
  cases d with
  | non => cases (show v = _ from r); exact .base .non
  | bl b => cases (show v = _ from r); exact .base (.bl b)
  | int b => cases (show v = _ from r); exact .base (.int b)
  | str b => cases (show v = _ from r); exact .base (.str b)
  | ref a => exact absurd rfl h
  | ty a => exact absurd rfl h
  | ins a b c => exact absurd rfl h
  | exc a b c d => exact absurd rfl h
  | tup xs =>
    obtain ⟨a, vs, rfl, h1, h2⟩ := r
    rcases h1.sq with (h3 | ⟨o, h3⟩) | ⟨o, its, n, h3, h4, _⟩
    · exact .base (.tup (ok.fro _ _ h3))
    · exact .fTuple (ok.fro _ _ h3)
    · exact .kTuple h3 h4
  | lst xs =>
    obtain ⟨a, vs, rfl, h1, h2⟩ := r
    exact .base (.lst (ok.fro _ _ h1))
  | fix xs =>
    obtain ⟨a, vs, rfl, h1, h2⟩ := r
    rcases h1 with (h3 | ⟨o, h3⟩) | ⟨o, its, n, h3, h4, _⟩
    · exact .base (.lst (ok.fro _ _ h3))
    · exact .base (.frz (ok.fro _ _ h3))
    · exact .kList h3 h4
theorem kit_all {d : D} {n : String} (h : tyn d ≠ "?") (hn : n ∈ tys) : PySem.W.kitOne K (.type (tyn d)) (.type n) = some (isTy d n) := by
  have key : ∀ m ∈ ["NoneType", "bool", "int", "str", "tuple", "list"], ∀ n ∈ tys, kitB m n = some (m == n || (m == "bool" && n == "int")) := by decide +kernel
  refine kit_ty (key (tyn d) ?_ n hn)
  cases d <;> first | (exact absurd rfl h) | (simp [tyn])
theorem cv_isi : CallV C R (.builtin "isinstance") rIsi := by
  refine ⟨fun xs H Q => L2.rIsi C.K xs H Q ∨ rIsiT C.K xs H Q, fun i => CallR.or (X := C.at (R i)) call_isi call_isiT, fun F Z S H vs ds Q Rd ok r k h => ?_⟩
  unfold rIsi at h
  split at h
  · obtain ⟨v, w, rfl, r1, r2⟩ := reps2 r
    cases (show w = _ from r2)
    exact .inl ⟨v, .ty _, _, _, _, rfl, .ty _, tyx ok r1 h.1, kit_all h.1 h.2.1, k _ _ _ _ (.bl _) (Same.refl F) ok rfl h.2.2⟩
  · rename_i d m n
    obtain ⟨v, w, rfl, r1, a, vs, rfl, h1, h2⟩ := reps2 r
    obtain ⟨c1, c2, rfl, h3, h4⟩ := reps2 h2
    cases (show c1 = _ from h3); cases (show c2 = _ from h4)
    rcases h1 with h1 | ⟨_, h1⟩
    · refine .inr ⟨v, a, _, _, [.type m, .type n], _, rfl, ok.fro _ _ h1, .cons (.ty m) (.cons (.ty n) .nil), tyx ok r1 h.1, ?_, k _ _ _ _ (.bl _) (Same.refl F) ok rfl h.2.2.2⟩
      refine kitAny_cons (kit_all h.1 h.2.1) (fun e => ?_) (fun e => by rw [e]; rfl)
      rw [e, Bool.false_or]
      exact kitAny_cons (kit_all h.1 h.2.2.1) (fun e => by rw [e]; rfl) (fun e => e)
    · cases h1
  · exact h.elim

/-! ### a list of the store is frozen -/
def vFrz (t : WE) : WE := fun env S Q E => t env S (fun d S1 => match d with
  | .ref p => match S1 p with
    | some (.lst xs) => Q (.lst xs) (sdel S1 p)
    | _ => False
  | _ => False) E
@[simp ↓] theorem vFrz_eq (t : WE) (env) (S) (Q) (E) : vFrz t env S Q E = (t env S (fun d S1 => match d with
  | .ref p => match S1 p with
    | some (.lst xs) => Q (.lst xs) (sdel S1 p)
    | _ => False
  | _ => False) E) := id rfl
theorem ve_frz {e : Expr} {t : WE} (h : VE C R e t) : VE C R e (vFrz t) := fun W => by
  obtain ⟨u, p, s⟩ := h W
  refine ⟨u, p, fun σ H F Z env S Q Ex Rd ok en th k q => s σ H F Z env S _ _ _ ok en th (fun v H' F' S' d sm ok' r q' => ?_) q⟩
  split at q'
  · split at q'
    · rename_i hp
      cases (show v = _ from r)
      obtain ⟨ho, h1, ⟨vs, rfl, h2⟩, sm2, ok2⟩ := ok'.freeze hp
      exact k _ _ _ _ (.lst _) (sm.trans sm2) ok2 ⟨_, vs, rfl, upd_same, Reps.mono sm2 _ _ h2⟩ q'
    · exact q'.elim
  · exact q'.elim
theorem sdel_sup {S : Sto} {p : Addr} {o : SO} (h : S p = none) : sdel (sup S p o) p = S := by
  funext b
  unfold sdel sup
  split
  · rename_i e; rw [e, h]
  · rfl
theorem sup_comm {S : Sto} {p q : Addr} {o u : SO} (h : p ≠ q) : sup (sup S p o) q u = sup (sup S q u) p o := by
  funext b
  unfold sup
  split
  · rename_i e; subst e; rw [if_neg (Ne.symm h)]
  · rfl
theorem sup_self {S : Sto} {p : Addr} {o : SO} (h : S p = some o) : sup S p o = S := by
  funext b
  unfold sup
  split
  · rename_i e; rw [e, h]
  · rfl
/-! ### a call that only reads: lists of the store are handed in as frozen ones, nothing else of the store is seen, a plain value comes back -/
@[simp] def seen (S : Sto) : D → D
  | .ref p => match S p with
    | some (.lst xs) => .lst xs
    | _ => .ref p
  | d => d
def vCallR (sp : WSp) (t : WA) : WE := fun env S Q E => t env S (fun ds S1 => Call sp (ds.map (seen S1)) (fun _ => none) (fun d _ => flatD d = true ∧ Q d S1) NoEx .mk) E
@[simp ↓] theorem vCallR_eq (sp : WSp) (t : WA) (env) (S) (Q) (E) : vCallR sp t env S Q E = (t env S (fun ds S1 => Call sp (ds.map (seen S1)) (fun _ => none) (fun d _ => flatD d = true ∧ Q d S1) NoEx .mk) E) := id rfl
/-- all lists of the store as frozen -/
def allF (F : Hp) (S : Sto) (H : Hp) : Hp := fun a => match S a with
  | some (.lst _) => H a
  | _ => F a
theorem allF_ok {F Z : Hp} {S : Sto} {H : Hp} (ok : Ok K F Z S H) : Same F (allF F S H) ∧ Ok K (allF F S H) (fun a => match S a with
    | some (.lst _) => none
    | _ => around Z S H a) (fun _ => none) H := by
  have sm : Same F (allF F S H) := fun b o e => by
    unfold allF
    split
    · rename_i xs q
      rw [(ok.own _ _ q).1] at e; cases e
    · exact e
  refine ⟨sm, fun b o e => ?_, (fun a o e => nomatch e), fun a u e => ?_, fun a xs e => ?_⟩
  · unfold allF at e
    split at e
    · exact e
    · exact ok.fro _ _ e
  · split at e
    · cases e
    · rename_i n
      have z := ok.aside.zed a u e
      refine ⟨?_, rfl, z.2.2⟩
      unfold allF
      split
      · rename_i xs q
        exact absurd q (n xs)
      · exact z.1
  · split at e
    · cases e
    · exact ok.aside.zt a xs e
theorem seen_rep {F Z : Hp} {S : Sto} {H : Hp} (ok : Ok K F Z S H) {d : D} {v : V} (r : Rep K F d v) : Rep K (allF F S H) (seen S d) v := by
  have sm := (allF_ok ok).1
  unfold seen
  split
  · rename_i p
    split
    · rename_i xs q
      cases (show v = _ from r)
      obtain ⟨_, h, h1, vs, rfl, h2⟩ := ok.own _ _ q
      exact ⟨p, vs, rfl, by unfold allF; rw [q]; exact h1, Reps.mono sm _ _ h2⟩
    · exact r
  · exact Rep.mono sm _ _ r
theorem seen_reps {F Z : Hp} {S : Sto} {H : Hp} (ok : Ok K F Z S H) : ∀ {ds : List D} {vs : List V}, Reps K F ds vs → Reps K (allF F S H) (ds.map (seen S)) vs
  | [], vs, h => h
  | d :: ds, vs, h => by
    obtain ⟨v, r, rfl, h1, h2⟩ := h
    exact ⟨v, r, rfl, seen_rep ok h1, seen_reps ok h2⟩
theorem Ok.backR {F Z F' H H' : Hp} {S : Sto} (ok : Ok K F Z S H) (sm : Same (allF F S H) F') {S' : Sto} (ok' : Ok K F' (fun a => match S a with
    | some (.lst _) => none
    | _ => around Z S H a) S' H') : Ok K F Z S H' := by
  have keepS : ∀ a o, S a = some o → H' a = H a := fun a o e => by
    obtain ⟨_, h, h2, _⟩ := ok.own a o e
    rw [h2]
    cases o with
    | lst xs => exact ok'.fro _ _ (sm _ _ (by unfold allF; rw [e]; exact h2))
    | ins c n x => exact (ok'.zed a h (by show (match S a with | some (.lst _) => none | _ => around Z S H a) = _; rw [e]; unfold around; rw [e]; exact h2)).2.2
    | dK c n => exact (ok'.zed a h (by show (match S a with | some (.lst _) => none | _ => around Z S H a) = _; rw [e]; unfold around; rw [e]; exact h2)).2.2
    | dT c n => exact (ok'.zed a h (by show (match S a with | some (.lst _) => none | _ => around Z S H a) = _; rw [e]; unfold around; rw [e]; exact h2)).2.2
    | fT c n x => exact (ok'.zed a h (by show (match S a with | some (.lst _) => none | _ => around Z S H a) = _; rw [e]; unfold around; rw [e]; exact h2)).2.2
  refine ⟨((allF_ok ok).1.trans sm).trans ok'.fro, fun a o e => ?_, fun a u e => ?_, ok.zt⟩
  · obtain ⟨h1, h, h2, h3⟩ := ok.own a o e
    exact ⟨h1, h, by rw [keepS a o e]; exact h2, h3⟩
  · obtain ⟨h1, h2, h3⟩ := ok.zed a u e
    refine ⟨h1, h2, (ok'.zed a u ?_).2.2⟩
    show (match S a with | some (.lst _) => none | _ => around Z S H a) = _
    rw [h2]; unfold around; rw [h2]; exact e
theorem ve_callR {n : Nat} {x : Str} {sp : WSp} {e : Expr} {es : List Expr} {t : WA} {p pos : Pos} (D0 : DefOk C n x sp) (ha : VA C R (e :: es) t) (hr : ∀ i, Room n (R i).A) (hg : ∀ i, Gl (C.at (R i)) x := by exact fun _ => rfl) (hdb : (x == ("__debug__" : Str)) = false := by decide)
    (he : ∀ i, starEach (e :: es) (R i).env = (false, eval e (R i).env) :: starEach es (R i).env := by exact fun _ => rfl) (hpl : ∀ i, (backTo pos (starEach es (R i).env)).any (·.1) = false := by exact fun _ => rfl) :
    VE C R (.Call (.Name x p) (e :: es) [] pos) (vCallR sp t) := fun W => by
  obtain ⟨f, fd, ps, Fo, hm, hk, hb⟩ := D0.ex
  obtain ⟨u, pu, s⟩ := ha W
  refine ⟨_, fun i tk => pe_callS (X := C.at (R i)) (E := L2.WE W) Fo (hr i) (hg i) hm hk hb (fun σ => passAt tk σ) (pu i tk) hdb (he i) (hpl i), fun σ H F Z env S Q Ex Rd ok en th k h => ?_⟩
  refine s σ H F Z env S _ _ _ ok en th (fun vs H1 F1 S1 ds sm1 ok1 r1 q1 => ?_) h
  obtain ⟨smF, okF⟩ := allF_ok ok1
  refine ⟨allF F1 S1 H1, _, fun _ => none, ds.map (seen S1), _, NoEx, okF, seen_reps ok1 r1, q1, fun v H' F' S' d sm ok' r q => ?_, fun _ _ _ _ _ _ _ _ _ _ _ z => z.elim⟩
  refine k v H' F1 S1 d sm1 (ok1.backR sm ok') ?_ q.2
  have f := q.1
  cases d <;> first | (cases f; done) | exact r
end
end L3

set_option Elab.async false
set_option linter.all false
set_option maxRecDepth 100000
set_option maxHeartbeats 4000000
/-! The value layer: products, defs by names, own exceptions. -/
namespace L3
open PySem PySem.Spec PyProof.Rows L2

theorem ru {k : Nat} {A : Around} (r : Room k A) : A.units + 200 < cLine := by have := r.un; omega
section
variable {C : Cmn} {ι : Type} {R : ι → Rst} {K : PySem.W.Frag} {W : WX}
/-! ### products -/
def rMul : R2V := fun x y S Q => match x, y with
  | .int i, .int j => (CMul i j ∨ CMulW i j) ∧ Q (.int (i * j)) S
  | _, _ => False
@[simp ↓] theorem rMul_eq (x) (y) (S) (Q) : rMul x y S Q = (match x, y with
  | .int i, .int j => (CMul i j ∨ CMulW i j) ∧ Q (.int (i * j)) S
  | _, _ => False) := id rfl
theorem ov_mul : OpV C R (binaryOp .Mult) rMul := by
  refine .of _ (fun i => op_mul.or op_mulW) fun F Z S H x y d e Q Rd ok rx ry k h => ?_
  unfold rMul at h
  split at h
  · rcases h.1 with c | c
    · exact .inl ⟨_, _, rx, ry, c, k _ _ _ _ (.int _) (Same.refl F) ok rfl h.2⟩
    · exact .inr ⟨_, _, rx, ry, c, k _ _ _ _ (.int _) (Same.refl F) ok rfl h.2⟩
  · exact h.elim
/-! ### defs by names -/
theorem DefOk.mono {n m : Nat} {x : Str} {p : WSp} (h : DefOk C n x p) (le : n ≤ m) : DefOk C m x p := by
  obtain ⟨f, fd, ps, F, a, b, c⟩ := h.ex
  exact ⟨f, fd, ps, F.mono le, a, b, c⟩
/-- a weaker promise -/
theorem DefOk.imp {n : Nat} {x : Str} {p q : WSp} (h : DefOk C n x p) (i : ∀ ds S Q E, q ds S Q E → p ds S Q E) : DefOk C n x q := by
  obtain ⟨f, fd, ps, F, a, b, c⟩ := h.ex
  refine ⟨f, fd, ps, F.imp fun vs H Q E z => ?_, a, b, c⟩
  obtain ⟨G, Z, S, ds, Q0, E0, ok, r, hq, kq, kx⟩ := z
  exact ⟨G, Z, S, ds, Q0, E0, ok, r, i _ _ _ _ hq, kq, kx⟩
/-- how a def of the text stands behind the top -/
structure Stands (C : Cmn) (x : Str) (st : Stmt) (ps : List Str) : Prop where
  ex : ∃ f fd dvs kws, FunD C.K x x (defArgs st) (defBody st) (defScope st) dvs kws f fd ∧ C.mg x = some (.ref f) ∧ Binds C.K fd ps []
theorem Stands.ok {x : Str} {st : Stmt} {N ps : List Str} {k : Nat} {sp : WSp} {t : WS} (T : Stands C x st ps) (Sc : FnScope N ps (defScope st)) (len : ∀ ds S Q E, sp ds S Q E → ds.length = ps.length)
    (hb : VSs C (fun i : DIx k x (defScope st) => DR C N i) (defBody st) t) (h : ∀ ds S Q E, sp ds S Q E → t (dEnds Q E) (start N.length ds) S) : DefOk C (k + 1) x sp := by
  obtain ⟨f, fd, dvs, kws, F, m, b⟩ := T.ex
  exact ⟨f, fd, ps, fn_ok F Sc len hb h, m, F.kp, b⟩
/-- nothing is asked of no call -/
theorem Stands.none {x : Str} {st : Stmt} {ps : List Str} {sp : WSp} (T : Stands C x st ps) (no : ∀ ds S Q E, ¬ sp ds S Q E) : DefOk C 0 x sp := by
  obtain ⟨f, fd, dvs, kws, F, m, b⟩ := T.ex
  have nl : ∀ vs H Q E, ¬ low C.K sp vs H Q E := fun vs H Q E z => by
    obtain ⟨_, _, _, _, _, _, _, _, hq, _⟩ := z
    exact no _ _ _ _ hq
  exact ⟨f, fd, ps, ⟨fun vs H Q E z => absurd z (nl vs H Q E), fun A outer s H args us vs Q E _ _ _ _ z => absurd z (nl vs H Q E)⟩, m, F.kp, b⟩
/-- a name of the module that stands for something written -/
structure GlobV (C : Cmn) (x : Str) (d : D) : Prop where
  ex : ∃ v u, C.mg x = some u ∧ RelV v u ∧ ∀ F, Rep C.K F d v
theorem ve_gl {x : Str} {d : D} {pos : Pos} (g : GlobV C x d) (hg : ∀ i, Gl (C.at (R i)) x := by exact fun _ => rfl) (hd : (x == ("__debug__" : Str)) = false := by decide) : VE C R (.Name x pos) (vC d) := by
  obtain ⟨v, u, hm, r, rd⟩ := g.ex
  exact ve_glob hm r rd hg hd

/-! ### own exceptions: class X(Y) over ValueError whose __init__(self, what) stores what -/
/-- the promise of that __init__ -/
def spInit (K : PySem.W.Frag) : Sp := fun vs H Q _ => ∃ (a Cl : Addr) (v : V), vs = [.ref a, v] ∧ OexC K Cl ∧ PySem.W.findIn K (.ref Cl) "what" = some none ∧ H a = some (exo a Cl none) ∧
  ∀ dx, H dx = none → dx ≠ a → Q .non (upd (upd H dx (exd dx [(("what" : Str), v)])) a (exo a Cl (some dx)))
structure ExcT (C : Cmn) (x : Str) (cl : Addr) : Prop where
  mgC : C.mg x = some (.ref cl)
  ox : OexC C.K cl
  xf : XfC C.K cl
  noW : PySem.W.findIn C.K (.ref cl) "what" = some none
  init : ∃ fI fd ps, PySem.W.findIn C.K (.ref cl) "__init__" = some (some (.ref fI)) ∧ PySem.W.typeIn C.K (.ref fI) = some (.type "function") ∧ FnOk C.P C.w C.K C.mg C.base CX0 1 fI fd ps (spInit C.K) ∧ Binds C.K fd ps []
  cla : PySem.W.findIn C.K (.ref cl) "__class__" = some (some (.builtin "object.__class__"))
  cln : PySem.W.specialIn C.K (.builtin "object.__class__") "__get__" = some (some (.builtin "getset_descriptor.__get__"))
  clt : PySem.W.takesIn C.K (.builtin "object.__class__") = some true
  clm : PySem.W.mroIn C.K cl (.type "object") = some true
  cli : (PySem.W.clsIn C.K cl).isSome = true
def vRaise (cl : Addr) (ta : WA) : WS := fun E env S => ta env S (fun ds S1 => match ds with
  | [x] => E.ex env cl x S1
  | _ => False) (E.ex env)
@[simp ↓] theorem vRaise_eq (cl : Addr) (ta : WA) (E) (env) (S) : vRaise cl ta E env S = (ta env S (fun ds S1 => match ds with
  | [x] => E.ex env cl x S1
  | _ => False) (E.ex env)) := id rfl
theorem vs_raise {x : Str} {cl : Addr} {n : Nat} {e : Expr} {ta : WA} {p pos pos2 : Pos} (T : ExcT C x cl) (ha : VA C R [e] ta) (hr : ∀ i, Room (n + 2) (R i).A) (hg : ∀ i, Gl (C.at (R i)) x := by exact fun _ => rfl) (hc : ∀ i, (R i).calm = true := by exact fun _ => rfl)
    (hdb : (x == ("__debug__" : Str)) = false := by decide) (he : ∀ i, starEach (e :: []) (R i).env = (false, eval e (R i).env) :: starEach [] (R i).env := by exact fun _ => rfl) (hpl : ∀ i, (backTo pos (starEach [] (R i).env)).any (·.1) = false := by exact fun _ => rfl) :
    VS C R (.Raise (some (.Call (.Name x p) [e] [] pos)) none pos2) (vRaise cl ta) := fun W => by
  obtain ⟨ua, pa, sa⟩ := ha W
  obtain ⟨fI, fd, ps, i1, i2, i3, i4⟩ := T.init
  refine ⟨_, fun i tk => ps_raise (X := C.at (R i)) (hc i) tk.tk (pmk_oex (X := C.at (R i)) (CX := CX0) (k := 1) (dvs := []) (ds := []) T.ox i1 i2 i3 ((hr i).mono (by omega)) i4 .nil pass0 (hg i) T.mgC (pa i tk.tk) hdb (he i) (hpl i)), fun σ H F Z env S E Rd ok en lk h => ?_⟩
  refine sa σ H F Z env S _ _ _ ok en (lk.thr en) (fun vs H1 F1 S1 ds sm1 ok1 r1 q1 => ?_) h
  match ds, r1, q1 with
  | [d], r1, q1 =>
    obtain ⟨v, rfl, r⟩ := reps1 r1
    refine ⟨by show 1 ≤ 1000; decide, fun a na => ⟨a, cl, v, rfl, T.ox, T.noW, upd_same, fun dx ndx hne => ⟨rfl, dx, [(("what" : Str), v)], upd_same, ?_, ?_, ?_⟩⟩⟩
    · rw [upd_ne hne, upd_same]
    · rw [upd_ne hne] at ndx; exact ndx
    · have nd : H1 dx = none := by rw [upd_ne hne] at ndx; exact ndx
      have eq : upd (del (upd (upd (upd H1 a (exo a cl none)) dx (exd dx [(("what" : Str), v)])) a (exo a cl (some dx))) a) dx (.xd [(("what" : Str), v)]) = upd H1 dx (.xd [(("what" : Str), v)]) := by
        funext b
        by_cases hb : b = dx
        · subst hb; rw [upd_same, upd_same]
        · rw [upd_ne hb, upd_ne hb]
          by_cases ha : b = a
          · subst ha; rw [del_same, na]
          · rw [del_ne ha, upd_ne ha, upd_ne hb, upd_ne ha]
      rw [eq]
      have sm2 := same_upd (ok1.newF nd) (.xd [(("what" : Str), v)])
      exact lk.ex F1 σ env sm1 (en.mono sm1) cl d S1 _ _ dx v sm2 (ok1.frz nd _) upd_same (Rep.mono sm2 _ _ r) q1
/-! try: body, except X as n: suite -/
abbrev TryR (R : ι → Rst) : ι × (List (Addr × Obj) × (Value → Shared → Prop)) → Rst := fun j => { R j.1 with pn := j.2.1, xe := j.2.2 }
structure SIx (a : Addr) (cls : Value) (d : Option Addr) where
  oe : Obj
  pn : List (Addr × Obj)
  hz : Zc cls d oe
  hf : ∃ vs, oe.data = .fields vs
abbrev SuR (R : ι → Rst) (a : Addr) (cls : Value) (d : Option Addr) : ι × SIx a cls d → Rst := fun j => { R j.1 with A := (R j.1).A.mark (some (.ref a)), calm := false, pn := (a, j.2.oe) :: j.2.pn, xe := fun _ _ => False }
/-- the names of the classes that a clause takes -/
def vTry (K : PySem.W.Frag) (cl : Addr) (i : Nat) (b : WS) (su : Addr → Addr → Addr → WS) : WS := fun E env S =>
  b { E with ex := fun e1 Cl x S1 => ∃ t, PySem.W.exmOne K (.ref Cl) (.ref cl) = some t ∧ if t = true then ∀ a dd, su a Cl dd ⟨fun e2 => E.nx (forget e2 i), E.rt, fun e2 => E.bk (forget e2 i), fun e2 => E.ct (forget e2 i), fun _ => NoEx⟩ (put e1 i (.exc a Cl dd x)) S1 else E.ex e1 Cl x S1 } env S
@[simp ↓] theorem vTry_eq (K : PySem.W.Frag) (cl : Addr) (i : Nat) (b : WS) (su : Addr → Addr → Addr → WS) (E) (env) (S) : vTry K cl i b su E env S = (
  b { E with ex := fun e1 Cl x S1 => ∃ t, PySem.W.exmOne K (.ref Cl) (.ref cl) = some t ∧ if t = true then ∀ a dd, su a Cl dd ⟨fun e2 => E.nx (forget e2 i), E.rt, fun e2 => E.bk (forget e2 i), fun e2 => E.ct (forget e2 i), fun _ => NoEx⟩ (put e1 i (.exc a Cl dd x)) S1 else E.ex e1 Cl x S1 } env S) := id rfl
theorem vs_try {x n : Str} {cl : Addr} {i : Nat} {body suite : List Stmt} {b0 : Stmt} {np pos pos' : Pos} {b : WS} {su : Addr → Addr → Addr → WS} (T : ExcT C x cl) (hN : ∀ j, (R j).N.Nodup) (hb : VSs C (TryR R) body b)
    (hsu : ∀ a Cl dd, VSs C (SuR R a (.ref Cl) (some dd)) (b0 :: suite) (su a Cl dd)) (hi : ∀ j, (R j).N[i]? = some n := by exact fun _ => rfl) (hln : ∀ j, (R j).env.kindOf n = some .local := by exact fun _ => rfl)
    (hs : ∀ j, (R j).stack = (R j).env :: (R j).outer := by exact fun _ => rfl) (hf : ∀ j, (R j).env.frame = some (R j).env.locals := by exact fun _ => rfl) (hg : ∀ j, Gl (C.at (R j)) x := by exact fun _ => rfl) (hdb : (x == ("__debug__" : Str)) = false := by decide) :
    VS C R (.Try body [.ExceptHandler (some (.Name x np)) (some n) (b0 :: suite) pos'] [] [] pos) (vTry C.K cl i b su) := fun W => by
  have cb := fun W' => hb W'
  have cs := fun (z : Addr × Addr × Addr) => hsu z.1 z.2.1 z.2.2 W0
  let ub : WX → TS := fun W' => Classical.choose (cb W')
  let us : Addr → Value → Option Addr → TS := fun a cls d => match cls, d with
    | .ref Cl, some dd => Classical.choose (cs (a, Cl, dd))
    | _, _ => tNever
  refine ⟨fun D σ H => ub (wAs C.K (.ref cl) i us W D) D σ H, fun j tk => ps_try_as (X := C.at (R j)) (tb := ub) (ts := us) (Wout := W) (hs j) (hf j) (hN j) (hi j) (hln j) ⟨hg j, hdb, .inl T.mgC⟩ tk.tk
    (fun W' pn xe tk' pv => (Classical.choose_spec (cb W')).1 (j, (pn, xe)) ⟨tk', pv⟩) (fun a oe cls d pn hz hf' => ?_), fun σ H F Z env S E Rd ok en lk h => ?_⟩
  · match cls, d, hz with
    | .ref Cl, some dd, hz => exact (Classical.choose_spec (cs (a, Cl, dd))).1 (j, ⟨oe, pn, hz, hf'⟩) ⟨takes0, PassesOwn.never⟩
    | .ref Cl, none, hz => exact pss_never
    | .none, _, hz => exact pss_never
    | .bool _, _, hz => exact pss_never
    | .int _ _, _, hz => exact pss_never
    | .float _ _, _, hz => exact pss_never
    | .str _ _, _, hz => exact pss_never
    | .bytes _ _, _, hz => exact pss_never
    | .type _, _, hz => exact pss_never
    | .builtin _, _, hz => exact pss_never
    | .ellipsis, _, hz => exact pss_never
    | .notImplemented, _, hz => exact pss_never
  · have sb := (Classical.choose_spec (cb (wAs C.K (.ref cl) i us W Rd))).2
    refine sb σ H F Z env S { E with ex := fun e1 Cl x S1 => ∃ t, PySem.W.exmOne C.K (.ref Cl) (.ref cl) = some t ∧ if t = true then ∀ a dd, su a Cl dd ⟨fun e2 => E.nx (forget e2 i), E.rt, fun e2 => E.bk (forget e2 i), fun e2 => E.ct (forget e2 i), fun _ => NoEx⟩ (put e1 i (.exc a Cl dd x)) S1 else E.ex e1 Cl x S1 } Rd ok en ⟨lk.nx, lk.rt, lk.bk, lk.ct, fun F1 σ1 env1 sm1 en1 Cl y S' H' F' dd v sm2 ok2 hx hy q => ?_⟩ h
    obtain ⟨t, ht, q⟩ := q
    refine ⟨t, ht, fun e => ?_, fun e => ?_⟩
    · subst e
      rw [if_pos rfl] at q
      intro a na
      have ss := (Classical.choose_spec (cs (a, Cl, dd))).2
      have lk2 := lk.mono (sm1.trans sm2)
      refine ss _ H' F' Z _ S' ⟨fun e2 => E.nx (forget e2 i), E.rt, fun e2 => E.bk (forget e2 i), fun e2 => E.ct (forget e2 i), fun _ => NoEx⟩ _ ok2 ((en1.mono sm2).put (d := .exc a Cl dd y) (v := .ref a) ⟨rfl, v, hx, hy⟩ i) ⟨?_, lk2.rt, ?_, ?_, fun F5 σ5 env5 sm5 en5 => thr0⟩ (q a dd)
      · exact fun F5 σ5 H5 env5 S5 sm5 ok5 en5 q5 => lk2.nx F5 _ H5 _ S5 sm5 ok5 (en5.gone i) q5
      · exact fun F5 σ5 H5 env5 S5 sm5 ok5 en5 q5 => lk2.bk F5 _ H5 _ S5 sm5 ok5 (en5.gone i) q5
      · exact fun F5 σ5 H5 env5 S5 sm5 ok5 en5 q5 => lk2.ct F5 _ H5 _ S5 sm5 ok5 (en5.gone i) q5
    · subst e
      rw [if_neg Bool.false_ne_true] at q
      exact lk.ex F1 σ1 env1 sm1 en1 Cl y S' H' F' dd v sm2 ok2 hx hy q
/-- e.what, e what the suite holds -/
def vWhat (a Cl dd cl : Addr) (te : WE) : WE := fun env S Q E => te env S (fun d S1 => match d with
  | .exc a' _ dd' x => a' = a ∧ dd' = dd ∧ Cl = cl ∧ Q x S1
  | _ => False) E
@[simp ↓] theorem vWhat_eq (a Cl dd cl : Addr) (te : WE) (env) (S) (Q) (E) : vWhat a Cl dd cl te env S Q E = (te env S (fun d S1 => match d with
  | .exc a' _ dd' x => a' = a ∧ dd' = dd ∧ Cl = cl ∧ Q x S1
  | _ => False) E) := id rfl
theorem ve_what {x : Str} {cl a Cl dd : Addr} {e : Expr} {te : WE} {pos : Pos} (T : ExcT C x cl) (h : VE C (SuR R a (.ref Cl) (some dd)) e te) (hb : ∀ i, attributeBase e "what" (R i).env (eval e (R i).env) = eval e (R i).env := by exact fun _ => rfl) :
    VE C (SuR R a (.ref Cl) (some dd)) (.Attribute e "what" pos) (vWhat a Cl dd cl te) := fun W => by
  obtain ⟨u, p, s⟩ := h W
  refine ⟨_, fun j tk => pe_xf (X := C.at (R j.1)) T.xf T.noW j.2.hz j.2.hf (p j tk) (hb j.1), fun σ H F Z env S Q Ex Rd ok en th k q => s σ H F Z env S _ _ _ ok en th (fun v H' F' S' d sm ok' r q' => ?_) q⟩
  split at q'
  · obtain ⟨e1, e2, e3, q'⟩ := q'
    subst e1 e2 e3
    obtain ⟨r1, w, r2, r3⟩ := r
    exact ⟨r1, rfl, _, _, w, rfl, ok'.fro _ _ r2, by simp [List.lookup], k _ _ _ _ _ sm ok' r3 q'⟩
  · exact q'.elim
/-- isinstance(e, X), e what the suite holds -/
def vIsExc (K : PySem.W.Frag) (a Cl dd cl cx : Addr) (te : WE) : WE := fun env S Q E => te env S (fun d S1 => match d with
  | .exc a' _ dd' _ => a' = a ∧ dd' = dd ∧ Cl = cl ∧ ∃ b, PySem.W.kitOne K (.ref cl) (.ref cx) = some b ∧ Q (.bl b) S1
  | _ => False) E
@[simp ↓] theorem vIsExc_eq (K : PySem.W.Frag) (a Cl dd cl cx : Addr) (te : WE) (env) (S) (Q) (E) : vIsExc K a Cl dd cl cx te env S Q E = (te env S (fun d S1 => match d with
  | .exc a' _ dd' _ => a' = a ∧ dd' = dd ∧ Cl = cl ∧ ∃ b, PySem.W.kitOne K (.ref cl) (.ref cx) = some b ∧ Q (.bl b) S1
  | _ => False) E) := id rfl
theorem call_isX {X : Cx} {a Cl cl dd : Addr} {oe : Obj} {pn : List (Addr × Obj)} {x : Str} (T : ExcT C x cl) (hK : X.K = C.K) (hz : Zc (.ref Cl) (some dd) oe) (hf : ∃ vs, oe.data = .fields vs) : CallR (X.suite a ((a, oe) :: pn)) (.builtin "isinstance")
    (fun xs H Q => Cl = cl ∧ ∃ c b v, xs = [.ref a, .ref c] ∧ H dd = some (.xd v) ∧ PySem.W.kitOne C.K (.ref cl) (.ref c) = some b ∧ Q (.bl b) H) := by
  intro pins s σ H xs us Q I r h
  obtain ⟨rfl, c, b, v, rfl, hd, hk, q⟩ := h
  obtain ⟨u1, u2, rfl, r1, r2⟩ := vals2 r
  cases (show u1 = _ from r1); cases (show u2 = _ from r2)
  obtain ⟨hget, _⟩ := I.pin (a, oe) (List.mem_append.mpr (.inl List.mem_cons_self))
  obtain ⟨vs, hv⟩ := hf
  obtain ⟨mA, hns, _⟩ := (show ObjOk X.prog X.w H s.heap dd (.xd v) from I.hok dd _ hd)
  obtain ⟨od, ho, _⟩ := lookIn_ns hns
  have J : PySem.W.InstAt s.heap a oe Cl (some od) := ⟨hget, hz.1, by unfold PySem.W.notCls; rw [hv] <;> rfl, by rw [hz.2]; exact ho⟩
  have KX : C.K.In s.heap := hK ▸ I.kIn
  have Z := PySem.W.kitx_exc (x := a) (ox := oe) (od := some od) T.cli T.xf.ga T.xf.gg T.xf.exC T.cla T.cln T.clt T.clm
  exact PySem.W.kia_one Z KX J hk (fun z => nomatch z) fun tk => ⟨.bl b, H, I.tok tk, rfl, q⟩
theorem ve_isExc {x y : Str} {cl cx a Cl dd : Addr} {e : Expr} {te : WE} {p p2 pos : Pos} (hm : C.mg "isinstance" = none) (T : ExcT C x cl) (Ty : ExcT C y cx) (h : VE C (SuR R a (.ref Cl) (some dd)) e te)
    (hg : ∀ i, Gl (C.at (SuR R a (.ref Cl) (some dd) i)) "isinstance" := by exact fun _ => rfl) (hg2 : ∀ i, Gl (C.at (SuR R a (.ref Cl) (some dd) i)) y := by exact fun _ => rfl) (hdb : (y == ("__debug__" : Str)) = false := by decide)
    (he : ∀ i, starEach (e :: [.Name y p2]) (R i).env = (false, eval e (R i).env) :: starEach [.Name y p2] (R i).env := by exact fun _ => rfl) (he2 : ∀ i, starEach [.Name y p2] (R i).env = (false, eval (.Name y p2) (R i).env) :: starEach [] (R i).env := by exact fun _ => rfl)
    (hpl : ∀ i, (backTo pos (starEach [.Name y p2] (R i).env)).any (·.1) = false := by exact fun _ => rfl) :
    VE C (SuR R a (.ref Cl) (some dd)) (.Call (.Name "isinstance" p) [e, .Name y p2] [] pos) (vIsExc C.K a Cl dd cl cx te) := fun W => by
  obtain ⟨u, pu, s⟩ := h W
  refine ⟨_, fun j tk => pe_callB (call_isX (X := C.at (R j.1)) T rfl j.2.hz j.2.hf) (hg j) hm (by decide +kernel) (pa_cons (pu j tk) (pa_cons (pe_glob (X := C.at (SuR R a (.ref Cl) (some dd) j)) (hg2 j) Ty.mgC (v := .ref cx) rfl hdb) pa_nil (he2 j.1)) (he j.1)) (by decide) (by decide) (he j.1) (hpl j.1), fun σ H F Z env S Q Ex Rd ok en th k q => s σ H F Z env S _ _ _ ok en th (fun v H' F' S' d sm ok' r q' => ?_) q⟩
  split at q'
  · obtain ⟨rfl, rfl, rfl, b, hb, q'⟩ := q'
    obtain ⟨rfl, w, r2, r3⟩ := r
    exact ⟨rfl, cx, b, _, rfl, ok'.fro _ _ r2, hb, k _ _ _ _ (.bl b) sm ok' rfl q'⟩
  · exact q'.elim
end
end L3

set_option Elab.async false
set_option linter.all false
set_option maxRecDepth 100000
set_option maxHeartbeats 4000000
/-! The value layer: sorted of rows with distinct keys. -/
namespace L3
open PySem PySem.Spec PyProof.Rows L2

/-- what a row (key, value) is in a heap -/
def EntAt (h : Heap) (v : Value) (k : List Int) : Prop := ∃ t o b y n, v = .ref t ∧ h.get? t = some o ∧ o.cls = .type "tuple" ∧ o.data = .seq #[.ref b, y] n ∧ (∃ as, Reads h (.ref b) (.tuple (k.map .int)) as) ∧ ∃ ob, h.get? b = some ob ∧ ob.cls = .type "tuple"
theorem EntAt.keeps {h h' : Heap} (hk : ∀ b o, h.get? b = some o → h'.get? b = some o) {v : Value} {k : List Int} (e : EntAt h v k) : EntAt h' v k := by
  obtain ⟨t, o, b, y, n, e, h1, h2, h3, ⟨as, h4⟩, ob, h5, h6⟩ := e
  exact ⟨t, o, b, y, n, e, hk _ _ h1, h2, h3, ⟨as, Reads.keeps hk h4⟩, ob, hk _ _ h5, h6⟩
theorem plain_ints : ∀ k : List Int, PyData.depthAll (k.map .int) = 0 := PySem.W.depth_ints
theorem eqvAll_ints : ∀ k l : List Int, PyData.eqvAll (k.map .int) (l.map .int) = decide (k = l)
  | [], [] => by simp [PyData.eqvAll]
  | [], _ :: _ => by simp [PyData.eqvAll]
  | _ :: _, [] => by simp [PyData.eqvAll]
  | a :: k, b :: l => by
    have ih := eqvAll_ints k l
    simp only [List.map_cons, PyData.eqvAll, PyData.eqv, ih]
    by_cases e : a = b <;> by_cases f : k = l <;> simp [e, f]
section
variable {prog : Program} {w : World} {A : Around} {s : Shared}
theorem listLt_ints : ∀ k l : List Int, PySem.W.listLt k l = HT.lexLt k l
  | [], [] => rfl
  | [], _ :: _ => rfl
  | _ :: _, [] => rfl
  | x :: k, y :: l => by
    show (if x = y then PySem.W.listLt k l else decide (x < y)) = if x = y then HT.lexLt k l else decide (x < y)
    rw [listLt_ints k l]
theorem dataLt_ints (k l : List Int) : PySem.W.dataLt (.tuple (k.map .int)) (.tuple (l.map .int)) = HT.lexLt k l := (PySem.W.lexAll_map k l).trans (listLt_ints k l)
theorem lex_irr : ∀ k : List Int, HT.lexLt k k = false
  | [] => rfl
  | x :: k => by rw [HT.lexLt_cons, if_pos rfl]; exact lex_irr k
theorem lex_tot : ∀ k l : List Int, HT.lexLt k l = false → HT.lexLt l k = false → k = l
  | [], [], _, _ => rfl
  | [], _ :: _, h, _ => by rw [HT.lexLt_nil_cons] at h; cases h
  | _ :: _, [], _, h => by rw [HT.lexLt_nil_cons] at h; cases h
  | x :: k, y :: l, h1, h2 => by
    rw [HT.lexLt_cons] at h1 h2
    by_cases e : x = y
    · rw [if_pos e] at h1
      rw [if_pos e.symm] at h2
      rw [e, lex_tot k l h1 h2]
    · rw [if_neg e] at h1
      rw [if_neg (fun z => e z.symm)] at h2
      have a := of_decide_eq_false h1
      have b := of_decide_eq_false h2
      exact absurd (by omega : x = y) e
theorem ent_cmp {vs : List Value} {kf : Value → List Int} (hu : A.units + 1 < cLine) (hp : ∀ v ∈ vs, EntAt s.heap v (kf v)) (hd : ∀ v ∈ vs, ∀ v' ∈ vs, kf v = kf v' → v = v') : SrtO.Cmp prog w A s (tuples' false) (fun p => p.1 ∈ vs) (SrtO.lt2 fun v u => HT.lexLt (kf v) (kf u)) := by
  intro p q hm hm'
  have x := hp _ hm
  have x' := hp _ hm'
  show wpAny (model prog w) A (keyLt' (tuples' false) p.1 q.1) (fun r s' => s' = s ∧ r = HT.lexLt (kf p.1) (kf q.1)) (fun _ _ => False) s
  by_cases e0 : p.1 = q.1
  · rw [← e0, lex_irr]
    obtain ⟨t, o, b, y, n, e, h1, h2, h3, ⟨as, h4⟩, ob, h5, h6⟩ := x
    rw [e]
    refine PySem.W.kat_lt h1 h3 h1 h3 ?_
    show PySem.W.KatLex prog w A false (decide (2 < 2)) _ [(.ref b, .ref b), (y, y)] 0 s
    refine PySem.W.kat_cons (SeqAt.EqAt.same _ prog w _ _ ?_)
    refine PySem.W.kat_yes (PySem.W.kat_cons (SeqAt.EqAt.same _ prog w _ _ ?_))
    exact PySem.W.kat_yes (PySem.W.kat_nil ⟨rfl, rfl⟩)
  · have hk : kf p.1 ≠ kf q.1 := fun z => e0 (hd _ hm _ hm' z)
    generalize kf p.1 = k at hk x ⊢
    generalize kf q.1 = k' at hk x' ⊢
    obtain ⟨t, o, b, y, n, e, h1, h2, h3, ⟨as, h4⟩, ob, h5, h6⟩ := x
    obtain ⟨t', o', b', y', n', e', h1', h2', h3', ⟨as', h4'⟩, ob', h5', h6'⟩ := x'
    rw [e, e']
    have al : PySem.W.alike (.tuple (k.map .int)) (.tuple (k'.map .int)) = true := by simp only [PySem.W.alike]; exact PySem.W.alike_ints k k'
    have dp : A.units + min (PyData.tuple (k.map .int)).depth (PyData.tuple (k'.map .int)).depth < cLine := by
      simp only [PyData.depth, plain_ints]; omega
    refine PySem.W.kat_lt h1 h3 h1' h3' ?_
    show PySem.W.KatLex prog w A false (decide (2 < 2)) _ [(.ref b, .ref b'), (y, y')] 0 s
    refine PySem.W.kat_cons (PySem.W.eqAt_alike _ _ A s _ _ _ _ h4 h4' al dp prog w _ _ ?_)
    have ev : PyData.eqv (.tuple (k.map .int)) (.tuple (k'.map .int)) = false := by simp only [PyData.eqv, eqvAll_ints]; exact decide_eq_false hk
    rw [ev]
    refine PySem.W.kat_no (PySem.W.kat_one _ _ ?_)
    refine PySem.W.rcLt_alike _ _ A s _ _ _ _ h4 h4' al (fun z => by cases z) dp prog w _ _ ?_
    rw [dataLt_ints]
    exact ⟨rfl, rfl⟩
theorem ent_firsts {h : Heap} : ∀ {vs : List Value}, (∀ v ∈ vs, ∃ k, EntAt h v k) → ∃ fs : List Value, PySem.W.KatTups h vs fs ∧ fs.length = vs.length ∧ ∀ f ∈ fs, ∃ b ob, f = Value.ref b ∧ h.get? b = some ob ∧ ob.cls = .type "tuple"
  | [], _ => ⟨[], PySem.W.KatTups.nil, rfl, fun _ hm => by simp at hm⟩
  | v :: vs, hp => by
    obtain ⟨fs, h1, h2, h3⟩ := ent_firsts (vs := vs) fun v' hm => hp v' (List.mem_cons_of_mem _ hm)
    obtain ⟨k, t, o, b, y, n, e, ho, hc, hd, _, ob, h5, h6⟩ := hp v (List.mem_cons_self ..)
    subst e
    refine ⟨.ref b :: fs, PySem.W.KatTups.cons ho hc hd rfl h1, by rw [List.length_cons, List.length_cons, h2], fun f hm => ?_⟩
    rcases List.mem_cons.mp hm with rfl | hm
    · exact ⟨b, ob, rfl, h5, h6⟩
    · exact h3 f hm
theorem ent_inj {h : Heap} {v : Value} {k k' : List Int} (x : EntAt h v k) (x' : EntAt h v k') : k = k' := by
  obtain ⟨t, o, b, y, n, e, h1, h2, h3, ⟨as, h4⟩, _⟩ := x
  obtain ⟨t', o', b', y', n', e', h1', h2', h3', ⟨as', h4'⟩, _⟩ := x'
  rw [e] at e'; cases e'
  rw [h1] at h1'; cases h1'
  rw [h3] at h3'; cases h3'
  cases h4 with
  | tuple a1 a2 a3 a4 =>
    cases h4' with
    | tuple b1 b2 b3 b4 =>
      rw [a1] at b1; cases b1
      rw [a3] at b3; cases b3
      clear h1 h2 h3 a1 a2 a3
      have key : ∀ {ws : List Value} {k k' : List Int} {as bs}, ReadsAll h ws (k.map .int) as → ReadsAll h ws (k'.map .int) bs → k = k' := by
        intro ws
        induction ws with
        | nil => 
          intro k k' as bs r r'
          cases k with
          | nil =>
            cases k' with
            | nil => rfl
            | cons _ _ => cases r'
          | cons _ _ => cases r
        | cons w ws ih =>
          intro k k' as bs r r'
          cases k with
          | nil => cases r
          | cons a k =>
            cases k' with
            | nil => cases r'
            | cons a' k' =>
              cases r with
              | cons r1 r2 =>
                cases r' with
                | cons q1 q2 =>
                  cases r1
                  cases q1
                  rw [ih r2 q2]
      exact key a4 b4
open Classical in
/-- the key of a row -/
noncomputable def kOf (h : Heap) (v : Value) : List Int := if x : ∃ k, EntAt h v k then Classical.choose x else []
theorem kOf_at {h : Heap} {v : Value} {k : List Int} (x : EntAt h v k) : kOf h v = k := by
  unfold kOf
  rw [dif_pos ⟨k, x⟩]
  exact ent_inj (Classical.choose_spec (⟨k, x⟩ : ∃ k, EntAt h v k)) x
theorem sorted_ent {l : Addr} {vs : List Value} {E : Value → Shared → Prop} {Q : Value → Shared → Prop} (hu : A.units + 200 < cLine) (hl : s.heap.IsList l vs.toArray) (hz : vs.length ≤ sizeLine) (hp : ∀ v ∈ vs, ∃ k, EntAt s.heap v k) (hd : ∀ v ∈ vs, ∀ v' ∈ vs, ∀ k, EntAt s.heap v k → EntAt s.heap v' k → v = v')
    (h : ∀ (h' : Heap) (d : Addr) (out : List Value), out.Perm vs → out.Pairwise (fun v u => HT.lexLt (kOf s.heap u) (kOf s.heap v) = false) → (∀ b o, s.heap.get? b = some o → h'.get? b = some o) → s.heap.objs.size ≤ d → (∃ n, h'.get? d = some (seqObj "list" out.toArray n)) → Q (.ref d) { s with heap := h' }) :
    wpAny (model prog w) A (call (.builtin "sorted") [.ref l]) Q E s := by
  have hp1 : ∀ v ∈ vs, EntAt s.heap v (kOf s.heap v) := fun v hv => by
    obtain ⟨k, x⟩ := hp v hv
    rw [kOf_at x]; exact x
  refine SrtO.sorted_ord (NtL.swo_lexL (kOf s.heap)) hl hz (fun h2 h₁ a ha kk => ?_) fun out ho hb => ?_
  · intro h' keep
    have kp : ∀ b o, s.heap.get? b = some o → h'.get? b = some o := fun b o e => keep b o (kk b o e).1 (kk b o e).2
    have hp' : ∀ v ∈ vs, EntAt h' v (kOf s.heap v) := fun v hm => (hp1 v hm).keeps kp
    obtain ⟨fs, h1, h2', h3⟩ := ent_firsts fun v hm => ⟨_, hp' v hm⟩
    refine ⟨tuples' false, fun Q E hq => ?_, ent_cmp (s := { s with heap := h' }) (by show A.units + 1 + 1 + 1 < cLine; omega) hp' fun v hm v' hm' e => hd v hm v' hm' _ (hp1 v hm) (e ▸ hp1 v' hm')⟩
    refine PySem.W.kat_kind (T := .type "tuple") h1 (by omega) (fun f hm => ?_) (by rfl) ?_
    · obtain ⟨b, ob, rfl, h5, h6⟩ := h3 f hm
      rw [← h6]
      exact show PySem.W.Looks (model prog w) h' (typeOf (.ref b)) ob.cls from (PySem.W.Looks.ld h5).andThen .now
    · have e : (Value.type "tuple" != Value.type "tuple") = false := by first | decide +kernel | rfl | decide
      rw [e]
      exact hq
  · exact h _ _ out hb.perm ho (fun b o e => sortedAll_old e) (Nat.le_succ _) (sortedAll_at s.heap vs out.toArray)
end

/-- sorted(xs), xs a list of pairs whose first is a tuple of ints, no two alike: a new list of the same pairs, by their keys -/
def uSortE (K : PySem.W.Frag) : List V → Hp → VK → Prop := fun vs H Q => ∃ (a : Addr) (L : List (Addr × Addr × V × List Int)), vs = [V.ref a] ∧ SqL K H a (L.map fun e => .ref e.1) ∧
  (∀ e ∈ L, SqT K H e.1 [.ref e.2.1, e.2.2.1] ∧ SqT K H e.2.1 (e.2.2.2.map V.int)) ∧ (L.map fun e => e.2.2.2).Nodup ∧
  ∀ L' p, List.Perm L' L → L'.Pairwise (fun e f => HT.lexLt f.2.2.2 e.2.2.2 = false) → H p = none → Q (.ref p) (upd H p (.lst (L'.map fun e => .ref e.1)))
theorem dp_ints {K : PySem.W.Frag} {H : Hp} : ∀ k : List Int, DpAll K H (k.map V.int) (k.map .int)
  | [] => .nil
  | i :: k => .cons (.int i) (dp_ints k)
theorem perm_map {α β : Type} (f : α → β) : ∀ {out : List β} {L : List α}, out.Perm (L.map f) → ∃ L', List.Perm L' L ∧ out = L'.map f := by
  intro out L h
  generalize hm : L.map f = M at h
  induction h generalizing L with
  | nil =>
    cases L with
    | nil => exact ⟨[], .refl _, rfl⟩
    | cons a l => cases hm
  | @cons x l1 l2 p ih =>
    cases L with
    | nil => cases hm
    | cons a l =>
      simp only [List.map_cons, List.cons.injEq] at hm
      obtain ⟨L', q, e⟩ := ih hm.2
      exact ⟨a :: L', q.cons a, by rw [List.map_cons, hm.1, e]⟩
  | swap x y l =>
    cases L with
    | nil => cases hm
    | cons a l1 =>
      cases l1 with
      | nil => simp at hm
      | cons b l2 =>
        simp only [List.map_cons, List.cons.injEq] at hm
        exact ⟨b :: a :: l2, .swap _ _ _, by simp [hm.1, hm.2.1, hm.2.2]⟩
  | trans p1 p2 ih1 ih2 =>
    obtain ⟨L', q, e⟩ := ih2 hm
    obtain ⟨L'', q', e'⟩ := ih1 e.symm
    exact ⟨L'', q'.trans q, e'⟩
theorem nodup_inj {α β : Type} {f : α → β} : ∀ {L : List α}, (L.map f).Nodup → ∀ a ∈ L, ∀ b ∈ L, f a = f b → a = b
  | [], _, a, h, _, _, _ => by cases h
  | x :: L, hn, a, ha, b, hb, e => by
    rw [List.map_cons, List.nodup_cons] at hn
    rcases List.mem_cons.mp ha with ea | ha
    · rcases List.mem_cons.mp hb with eb | hb
      · rw [ea, eb]
      · exact absurd (List.mem_map.mpr ⟨b, hb, by rw [← e, ea]⟩) hn.1
    · rcases List.mem_cons.mp hb with eb | hb
      · exact absurd (List.mem_map.mpr ⟨a, ha, by rw [e, eb]⟩) hn.1
      · exact nodup_inj hn.2 a ha b hb e
theorem refs_vals {α : Type} {f : α → Addr} : ∀ {L : List α} {us : List Value}, Vals (L.map fun e => V.ref (f e)) us → us = L.map fun e => Value.ref (f e)
  | [], _, .nil => rfl
  | e :: L, _, .cons r t => by
    obtain rfl := r
    rw [refs_vals t] <;> rfl
theorem vals_refs {α : Type} {f : α → Addr} : ∀ (L : List α), Vals (L.map fun e => V.ref (f e)) (L.map fun e => Value.ref (f e))
  | [] => .nil
  | e :: L => .cons rfl (vals_refs L)
theorem cr_sortE {X : Cx} (hu : X.A.units + 200 < cLine) : CallR X (.builtin "sorted") (uSortE X.K) := by
  intro pins s σ H vs us Q I r h
  obtain ⟨a, L, rfl, hs, hx, hn, q⟩ := h
  obtain ⟨its, rv, hl, hz⟩ := I.list hs
  obtain ⟨u, rfl, ru⟩ := vals1 r
  obtain rfl : u = Value.ref a := ru
  have e1 := refs_vals rv
  subst e1
  have ent : ∀ e ∈ L, EntAt s.heap (.ref e.1) e.2.2.2 := fun e he => by
    obtain ⟨h1, h2⟩ := hx e he
    obtain ⟨its1, r1, ⟨o, ho, hc, n, hd⟩, _⟩ := I.tuple h1
    obtain ⟨u1, u2, rfl, ri, rj⟩ := vals2 r1
    obtain rfl : u1 = Value.ref e.2.1 := ri
    obtain ⟨its2, r2, ⟨ob, ho2, hc2, n2, hd2⟩, _⟩ := I.tuple h2
    exact ⟨e.1, o, e.2.1, u2, n, rfl, ho, hc, hd, Dp.reads I _ _ _ (.tup h2 (dp_ints _)) rfl, ob, ho2, hc2⟩
  refine sorted_ent hu hl.isList (by rw [List.length_map] at hz ⊢; exact hz) (fun v hv => ?_) (fun v hv v' hv' k x x' => ?_) fun h' d out hp hs k hd hn' => ?_
  · obtain ⟨e, he, rfl⟩ := List.mem_map.mp hv
    exact ⟨_, ent e he⟩
  · obtain ⟨e, he, rfl⟩ := List.mem_map.mp hv
    obtain ⟨e', he', rfl⟩ := List.mem_map.mp hv'
    have z1 := ent_inj x (ent e he)
    have z2 := ent_inj x' (ent e' he')
    rw [nodup_inj hn e he e' he' (z1.symm.trans z2)]
  · obtain ⟨L', pm, rfl⟩ := perm_map _ hp
    obtain ⟨n, hn'⟩ := hn'
    have hs' : L'.Pairwise (fun e f => HT.lexLt f.2.2.2 e.2.2.2 = false) := by
      rw [List.pairwise_map] at hs
      refine List.Pairwise.imp_of_mem (fun {e f} he hf z => ?_) hs
      rw [kOf_at (ent e (pm.mem_iff.mp he)), kOf_at (ent f (pm.mem_iff.mp hf))] at z
      exact z
    refine ⟨.ref d, upd H d (.lst (L'.map fun e => .ref e.1)), I.laid (t' := s.toks) k hd ⟨?_, _, n, vals_refs (f := fun e : Addr × Addr × V × List Int => e.1) L', hn'⟩, rfl, q _ d pm hs' (I.hok.fresh hd)⟩
    rw [List.length_map] at hz ⊢
    rw [pm.length_eq]; exact hz
/-- a row: a key, a value -/
@[simp] def ent (e : List Int × D) : D := .tup [.tup (e.1.map D.int), e.2]
section
variable {C : Cmn} {ι : Type} {R : ι → Rst}
def RSortE (ds : List D) (S : Sto) (Q : VQ) (_ : Hold Q) : Prop := ∃ (es : List (List Int × D)), ds = [.lst (es.map ent)] ∧ (es.map (·.1)).Nodup ∧ ∀ fs, List.Perm fs es → fs.Pairwise (fun e f => HT.lexLt e.1 f.1 = true) → Q (.lst (fs.map ent)) S
def rSortE : RCV := fun ds S Q => RSortE ds S Q .mk
@[simp ↓] theorem rSortE_eq (ds) (S) (Q) : rSortE ds S Q = (RSortE ds S Q .mk) := id rfl
theorem ents_at {K : PySem.W.Frag} {F : Hp} : ∀ {es : List (List Int × D)} {vs : List V}, Reps K F (es.map ent) vs → ∃ L : List (Addr × Addr × V × List Int), vs = L.map (fun e => .ref e.1) ∧ (∀ e ∈ L, SqT K F e.1 [.ref e.2.1, e.2.2.1] ∧ SqT K F e.2.1 (e.2.2.2.map V.int)) ∧ L.map (fun e => e.2.2.2) = es.map (·.1)
  | [], _, h => by cases h; exact ⟨[], rfl, fun _ h => (by cases h), rfl⟩
  | (k, d) :: es, _, h => by
    obtain ⟨v, r, rfl, h2, h3⟩ := h
    obtain ⟨L, rfl, h4, h5⟩ := ents_at h3
    obtain ⟨a, vs, rfl, t1, b, y, rfl, ⟨b', ks, rfl, t2, hk⟩, c, z, rfl, hv, e⟩ := h2
    cases e
    have e2 := hk.ints
    subst e2
    refine ⟨(a, b', c, k) :: L, rfl, fun e he => ?_, by simp [h5]⟩
    rcases List.mem_cons.mp he with rfl | he
    · exact ⟨t1.sq, t2.sq⟩
    · exact h4 e he
theorem reps_perm {K : PySem.W.Frag} {F : Hp} {α κ : Type} {f : α → V} {ka : α → κ} {L L' : List α} (p : List.Perm L' L) : ∀ {β : Type} {g : β → D} {kb : β → κ} {es : List β}, Reps K F (es.map g) (L.map f) → L.map ka = es.map kb → ∃ fs, List.Perm fs es ∧ Reps K F (fs.map g) (L'.map f) ∧ L'.map ka = fs.map kb := by
  intro β g kb
  induction p with
  | nil =>
    intro es h hk
    cases es with
    | nil => exact ⟨[], .refl _, h, rfl⟩
    | cons _ _ => cases hk
  | cons x p ih =>
    intro es h hk
    cases es with
    | nil => cases h
    | cons e es =>
      obtain ⟨v, r, e1, h2, h3⟩ := h
      cases e1
      simp only [List.map_cons, List.cons.injEq] at hk
      obtain ⟨fs, q, h4, h5⟩ := ih h3 hk.2
      exact ⟨e :: fs, q.cons e, ⟨_, _, rfl, h2, h4⟩, by simp [hk.1, h5]⟩
  | swap x y l =>
    intro es h hk
    cases es with
    | nil => cases h
    | cons e es =>
      obtain ⟨v, r, e1, h2, h3⟩ := h
      cases e1
      cases es with
      | nil => cases h3
      | cons e' es =>
        obtain ⟨v', r', e2, h4, h5⟩ := h3
        cases e2
        simp only [List.map_cons, List.cons.injEq] at hk
        exact ⟨e' :: e :: es, .swap _ _ _, ⟨_, _, rfl, h4, _, _, rfl, h2, h5⟩, by simp [hk.1, hk.2.1, hk.2.2]⟩
  | trans p1 p2 ih1 ih2 =>
    intro es h hk
    obtain ⟨fs, q, h4, k4⟩ := ih2 h hk
    obtain ⟨gs, q', h5, k5⟩ := ih1 h4 k4
    exact ⟨gs, q'.trans q, h5, k5⟩
theorem cv_sortE (hu : ∀ i, (R i).A.units + 200 < cLine) : CallV C R (.builtin "sorted") rSortE := by
  refine ⟨uSortE C.K, fun i => cr_sortE (X := C.at (R i)) (hu i), fun F Z S H vs ds Q Rd ok r k h => ?_⟩
  obtain ⟨es, rfl, hn, q⟩ := h
  obtain ⟨v, rfl, p, ws, rfl, h2, h3⟩ := reps1 r
  obtain ⟨L, rfl, h4, h5⟩ := ents_at h3
  refine ⟨p, L, rfl, SqL.of (ok.fro _ _ h2), fun e he => ⟨same_sqt ok.fro (h4 e he).1, same_sqt ok.fro (h4 e he).2⟩, by rw [h5]; exact hn, fun L' l pm hs hl => ?_⟩
  obtain ⟨fs, pf, r', hk⟩ := reps_perm (f := fun e : Addr × Addr × V × List Int => V.ref e.1) (ka := fun e => e.2.2.2) (kb := fun e : List Int × D => e.1) pm h3 h5
  have hs1 : (L'.map fun e : Addr × Addr × V × List Int => e.2.2.2).Pairwise (fun a b => HT.lexLt b a = false) := by rw [List.pairwise_map]; exact hs
  rw [hk, List.pairwise_map] at hs1
  have hn' : (fs.map (·.1)).Nodup := (pf.map _).nodup_iff.mpr hn
  have hn2 : fs.Pairwise (fun e f => e.1 ≠ f.1) := by
    have z := hn'
    unfold List.Nodup at z
    rw [List.pairwise_map] at z
    exact z
  refine k.lst ok hl r' (q fs pf ?_)
  refine (hs1.and hn2).imp fun {e f} z => ?_
  cases c : HT.lexLt e.1 f.1 with
  | true => rfl
  | false => exact absurd (lex_tot _ _ c z.1) z.2
end
/-- what is walked: a list or a tuple -/
def iSeq (t : WE) : WI := fun env S Q E => iLst t env S Q E ∨ iTpl t env S Q E
@[simp ↓] theorem iSeq_eq (t : WE) (env) (S) (Q) (E) : iSeq t env S Q E = (iLst t env S Q E ∨ iTpl t env S Q E) := id rfl
theorem pi_or {X : Cx} {tg l : Expr} {a b : TI} (p : PI X tg l a) (q : PI X tg l b) : PI X tg l (fun σ H R => a σ H R ∨ b σ H R) :=
  ⟨fun pins s σ H R I h => h.elim (p.run pins s σ H R I) (q.run pins s σ H R I)⟩
theorem vi_seq {C : Cmn} {ι : Type} {R : ι → Rst} {tg l : Expr} {t : WE} (h : VE C R l t) : VI C R tg l (iSeq t) := fun W => by
  obtain ⟨u1, p1, s1⟩ := vi_lst (tg := tg) h W
  obtain ⟨u2, p2, s2⟩ := vi_tpl (tg := tg) h W
  exact ⟨_, fun i tk => pi_or (p1 i tk) (p2 i tk), fun σ H F Z env S Q Ex Rd ok en th k q => q.elim (fun z => .inl (s1 σ H F Z env S Q Ex Rd ok en th k z)) (fun z => .inr (s2 σ H F Z env S Q Ex Rd ok en th k z))⟩
end L3

set_option Elab.async false
set_option linter.all false
set_option maxRecDepth 100000
set_option maxHeartbeats 4000000
/-! The value layer: small facts for the readings' proofs. -/
namespace L3
open PySem PySem.Spec PyProof.Rows L2
section
variable {α : Type} {a b c d e : α} {r : List α}
@[simp] theorem at0 : atI (a :: r) 0 = some a := atI_nat (j := 0) rfl
@[simp] theorem at1 : atI (a :: b :: r) 1 = some b := atI_nat (j := 1) rfl
@[simp] theorem at2 : atI (a :: b :: c :: r) 2 = some c := atI_nat (j := 2) rfl
@[simp] theorem at3 : atI (a :: b :: c :: d :: r) 3 = some d := atI_nat (j := 3) rfl
@[simp] theorem at4 : atI (a :: b :: c :: d :: e :: r) 4 = some e := atI_nat (j := 4) rfl
theorem at_lt {xs : List α} {i : Int} (h0 : 0 ≤ i) (h : i < xs.length) : ∃ v, xs[i.toNat]? = some v ∧ atI xs i = some v := by
  have hl : i.toNat < xs.length := by omega
  refine ⟨xs[i.toNat], List.getElem?_eq_getElem hl, ?_⟩
  unfold atI ixN
  rw [if_pos h0, if_pos h]
  simp
theorem ix_lt {n : Nat} {i : Int} (h0 : 0 ≤ i) (h : i < n) : ixN n i = some i.toNat := by
  unfold ixN
  rw [if_pos h0, if_pos h]
end
theorem line2 : sizeLine = 16777216 := by rw [sizeLine_eq]
@[simp] theorem cdiv_small {i j : Int} : CDiv i j ↔ 0 < j ∧ j < 1073741824 := Iff.rfl
theorem cmul_l {i j : Int} (h0 : -(2 ^ 64) < i) (h1 : i < 2 ^ 64) : CMul i j := .inl ⟨h0, h1⟩
theorem cmul_r {i j : Int} (h0 : -(2 ^ 64) < j) (h1 : j < 2 ^ 64) : CMul i j := .inr ⟨h0, h1⟩
@[simp] theorem sup_at {S : Sto} {p : Addr} {o : SO} : sup S p o p = some o := sup_same
@[simp] theorem sup_twice {S : Sto} {p : Addr} {o u : SO} : sup (sup S p o) p u = sup S p u := sup_sup
end L3

set_option Elab.async false
set_option linter.all false
set_option maxRecDepth 100000
set_option maxHeartbeats 4000000
/-! The value layer: order of tuples of ints, list.index, match on texts, dicts whose keys are tuples of ints. -/
namespace L3
open PySem PySem.Spec PyProof.Rows L2

section
variable {C : Cmn} {ι : Type} {R : ι → Rst} {K : PySem.W.Frag} {W : WX}
/-! ### t < u, t > u -/
/-- both are tuples of ints -/
def LexC (x y : D) (Q : List Int → List Int → Prop) (_ : Hold Q) : Prop := ∃ k l : List Int, x = .tup (k.map D.int) ∧ y = .tup (l.map D.int) ∧ Q k l
def rLtT : R2V := fun x y S Q => match x, y with
  | .int i, .int j => Q (.bl (decide (i < j))) S
  | x, y => LexC x y (fun k l => Q (.bl (HT.lexLt k l)) S) .mk
@[simp ↓] theorem rLtT_eq (x) (y) (S) (Q) : rLtT x y S Q = (match x, y with
  | .int i, .int j => Q (.bl (decide (i < j))) S
  | x, y => LexC x y (fun k l => Q (.bl (HT.lexLt k l)) S) .mk) := id rfl
def rGtT : R2V := fun x y S Q => match x, y with
  | .int i, .int j => Q (.bl (decide (j < i))) S
  | x, y => LexC x y (fun k l => Q (.bl (HT.lexLt l k)) S) .mk
@[simp ↓] theorem rGtT_eq (x) (y) (S) (Q) : rGtT x y S Q = (match x, y with
  | .int i, .int j => Q (.bl (decide (j < i))) S
  | x, y => LexC x y (fun k l => Q (.bl (HT.lexLt l k)) S) .mk) := id rfl
theorem ov_ltT (hu : ∀ i, (R i).A.units + 200 < cLine) : OpV C R (compareOp .Lt) rLtT := by
  refine .of (fun x y H Q => (rI0 fun i j => .bl (decide (i < j))) x y H Q ∨ L2.rLtT C.K x y H Q) (fun i => op_lt.or (op_ltT (X := C.at (R i)) (by have := hu i; show (R i).A.units < cLine; omega))) fun F Z S H x y d e Q R ok rx ry k h => ?_
  unfold rLtT at h
  split at h
  · exact .inl ⟨_, _, rx, ry, k _ _ _ _ _ (Same.refl F) ok (by simp [Rep]) h⟩
  · obtain ⟨ns, ms, rfl, rfl, q⟩ := h
    obtain ⟨a, vs, rfl, h1, h2⟩ := rx
    obtain ⟨b, ws, rfl, h3, h4⟩ := ry
    have e1 := h2.ints; subst e1
    have e2 := h4.ints; subst e2
    exact .inr ⟨a, b, ns, ms, rfl, rfl, same_sqt ok.fro h1.sq, same_sqt ok.fro h3.sq, k _ _ _ _ (.bl _) (Same.refl F) ok rfl q⟩
def uGtT (K : PySem.W.Frag) : R2 := fun x y H Q => ∃ a b ns ms, x = .ref a ∧ y = .ref b ∧ SqT K H a (ns.map V.int) ∧ SqT K H b (ms.map V.int) ∧ Q (.bl (HT.lexLt ms ns)) H
theorem op_gtT {X : Cx} (hu : X.A.units + 1 < cLine) : OpR X (compareOp .Gt) (uGtT X.K) := by
  intro pins s σ H x y v u Q I rx ry h
  obtain ⟨a, b, ns, ms, rfl, rfl, ha, hb, q⟩ := h
  obtain ⟨as, r1⟩ := Dp.reads I _ _ v (.tup ha (dp_ints ns)) rx
  obtain ⟨bs, r2⟩ := Dp.reads I _ _ u (.tup hb (dp_ints ms)) ry
  have al : PySem.W.alike (.tuple (ns.map .int)) (.tuple (ms.map .int)) = true := by simp only [PySem.W.alike]; exact PySem.W.alike_ints ns ms
  refine PySem.W.gt_data r1 r2 al (fun z => by cases z) (by simp only [PyData.depth, plain_ints]; omega) ?_
  rw [dataLt_ints]
  exact ⟨.bl _, H, I, rfl, q⟩
theorem ov_gtT (hu : ∀ i, (R i).A.units + 200 < cLine) : OpV C R (compareOp .Gt) rGtT := by
  refine .of (fun x y H Q => (rI0 fun i j => .bl (decide (j < i))) x y H Q ∨ uGtT C.K x y H Q) (fun i => op_gt.or (op_gtT (X := C.at (R i)) (by have := hu i; show (R i).A.units + 1 < cLine; omega))) fun F Z S H x y d e Q R ok rx ry k h => ?_
  unfold rGtT at h
  split at h
  · exact .inl ⟨_, _, rx, ry, k _ _ _ _ _ (Same.refl F) ok (by simp [Rep]) h⟩
  · obtain ⟨ns, ms, rfl, rfl, q⟩ := h
    obtain ⟨a, vs, rfl, h1, h2⟩ := rx
    obtain ⟨b, ws, rfl, h3, h4⟩ := ry
    have e1 := h2.ints; subst e1
    have e2 := h4.ints; subst e2
    exact .inr ⟨a, b, ns, ms, rfl, rfl, same_sqt ok.fro h1.sq, same_sqt ok.fro h3.sq, k _ _ _ _ (.bl _) (Same.refl F) ok rfl q⟩

/-! ### methods that only look: of a frozen list -/
def vMtF (r : RMV) (to : WE) (t : WA) : WE := fun env S Q E => to env S (fun o S1 => (∃ xs, o = .lst xs) ∧ t env S1 (fun ds S2 => r o ds S2 Q) E) E
@[simp ↓] theorem vMtF_eq (r : RMV) (to : WE) (t : WA) (env) (S) (Q) (E) : vMtF r to t env S Q E = (to env S (fun o S1 => (∃ xs, o = .lst xs) ∧ t env S1 (fun ds S2 => r o ds S2 Q) E) E) := id rfl
theorem ve_mtF {o e : Expr} {es : List Expr} {to : WE} {t : WA} {name : Str} {apos cpos : Pos} {id : String} {r : RMV} (slot : Slot "list" name id) (hty : typeOf (.builtin id) = pure (.type "method_descriptor")) (hm : MtV C R id r) (ho : VE C R o to) (ha : VA C R (e :: es) t)
    (hbase : ∀ i, attributeBase o name (R i).env (eval o (R i).env) = eval o (R i).env := by exact fun _ => rfl)
    (hfew : ∀ i, ((backTo cpos (starEach (e :: es) (R i).env)).all (fun x => !x.1) && (backToKw cpos (keywordEach [] (R i).env)).all (fun x => x.1.isSome)
      && decide ((e :: es).length + ([] : List Keyword).length + (if ([] : List Keyword).isEmpty then 0 else 1) < 30)) = true := by exact fun _ => rfl)
    (hline : (apos.endLine == cpos.line) = true := by rfl) (hs : ∀ i, starEach (e :: es) (R i).env = (false, eval e (R i).env) :: starEach es (R i).env := by exact fun _ => rfl) (hplain : ∀ i, (backTo cpos (starEach es (R i).env)).any (·.1) = false := by exact fun _ => rfl) :
    VE C R (.Call (.Attribute o name apos) (e :: es) [] cpos) (vMtF r to t) := fun W => by
  obtain ⟨uo, po, so⟩ := ho W
  obtain ⟨ua, pa, sa⟩ := ha W
  obtain ⟨u, hu, su⟩ := hm
  refine ⟨tBM C.K "list" u uo ua, fun i tk => pe_bm (X := C.at (R i)) PySem.F.plainAttrs_list slot hty (hu i) (po i tk) (pa i tk) (hbase i) (hfew i) hline (hs i) (hplain i), fun σ H F Z env S Q Ex Rd ok en th k h => ?_⟩
  refine so σ H F Z env S _ _ _ ok en th (fun v H1 F1 S1 d sm1 ok1 r1 q1 => ?_) h
  obtain ⟨⟨xs, rfl⟩, q1⟩ := q1
  obtain ⟨a, vs, rfl, h1, h2⟩ := r1
  refine ⟨.inl ⟨rfl, vs, SqL.of (ok1.fro _ _ h1)⟩, sa σ H1 F1 Z env S1 _ _ _ ok1 (en.mono sm1) (th.mono sm1) (fun ws H2 F2 S2 ds sm2 ok2 r2 q2 => ?_) q1⟩
  exact su F2 Z S2 H2 _ ws (.lst xs) ds _ _ ok2 ⟨a, vs, rfl, sm2 _ _ h1, Reps.mono sm2 _ _ h2⟩ r2 (k.mono (sm1.trans sm2)) q2
/-- the place of y in ys: the first that is equal to it -/
def IdxC (ys : List D) (y : D) (Q : Nat → Prop) (_ : Hold Q) : Prop := flatD y = true ∧ ys.all flatD = true ∧ (∃ (j : Nat) (z : D), ys[j]? = some z ∧ eqV (toV z) (toV y) = true) ∧
  ∀ j : Nat, (∃ z : D, ys[j]? = some z ∧ eqV (toV z) (toV y) = true) → (∀ (m : Nat) (z : D), m < j → ys[m]? = some z → eqV (toV z) (toV y) = false) → Q j
def rIndex : RMV := fun x ds S Q => match x, ds with
  | .lst ys, [y] => IdxC ys y (fun j => Q (.int (j : Nat)) S) .mk
  | _, _ => False
@[simp ↓] theorem rIndex_eq (x) (ds) (S) (Q) : rIndex x ds S Q = (match x, ds with
  | .lst ys, [y] => IdxC ys y (fun j => Q (.int (j : Nat)) S) .mk
  | _, _ => False) := id rfl
theorem least_of {p : Nat → Prop} : ∀ n, p n → ∃ j, p j ∧ ∀ m, m < j → ¬ p m := fun n => by
  induction n using Nat.strongRecOn with
  | _ n ih =>
    intro h
    by_cases e : ∃ m, m < n ∧ p m
    · obtain ⟨m, hm, pm⟩ := e
      exact ih m hm pm
    · exact ⟨n, h, fun m hm pm => e ⟨m, hm, pm⟩⟩
theorem mv_index : MtV C R "list.index" rIndex := by
  refine ⟨L2.rIndex C.K, fun i => mt_index, fun F Z S H x xs d ds Q Rd ok rx rs k h => ?_⟩
  unfold rIndex at h
  split at h
  · rename_i ys y
    obtain ⟨a, vs, rfl, h1, h2⟩ := rx
    obtain ⟨v, rfl, r1⟩ := reps1 rs
    obtain ⟨f1, f2, ⟨j0, hj0⟩, q⟩ := h
    obtain ⟨e1, e2⟩ := flat_rep r1 f1
    obtain ⟨e3, e4⟩ := flat_reps h2 f2
    obtain ⟨j, ⟨z, hz, he⟩, hmin⟩ := least_of (p := fun j => ∃ z : D, ys[j]? = some z ∧ eqV (toV z) (toV y) = true) j0 hj0
    have q' := q j ⟨z, hz, he⟩ fun m z' hm hz' => by
      cases c : eqV (toV z') (toV y) with
      | false => rfl
      | true => exact absurd ⟨z', hz', c⟩ (hmin m hm)
    subst e1
    subst e3
    refine ⟨a, _, _, j, toV z, rfl, rfl, SqL.of (ok.fro _ _ h1), e2, e4, by rw [List.getElem?_map, hz]; rfl, he, fun m z' hm hz' => ?_, k _ _ _ _ (.int _) (Same.refl F) ok rfl q'⟩
    rw [List.getElem?_map] at hz'
    cases c : ys[m]? with
    | none => rw [c] at hz'; cases hz'
    | some z2 =>
      rw [c] at hz'
      cases hz'
      cases c2 : eqV (toV z2) (toV y) with
      | false => rfl
      | true => exact absurd ⟨z2, c, c2⟩ (hmin m hm)
  · exact h.elim
end
/-! ### match on texts -/
/-- the cases, from the first -/
def mtW (d : D) (E : VEnds) (env : Env) (S : Sto) : List (Str × WS) → Prop
  | [] => E.nx env S
  | (x, b) :: r => match d with
    | .str y => if y = x then b E env S else mtW d E env S r
    | _ => False
def MtC (d : D) (E : VEnds) (env : Env) (S : Sto) (cs : List (Str × WS)) (_ : Hold (E, cs)) : Prop := mtW d E env S cs
def vMatch (t : WE) (cs : List (Str × WS)) : WS := fun E env S => t env S (fun d S1 => MtC d E env S1 cs .mk) (E.ex env)
@[simp ↓] theorem vMatch_eq (t : WE) (cs : List (Str × WS)) (E) (env) (S) : vMatch t cs E env S = (t env S (fun d S1 => MtC d E env S1 cs .mk) (E.ex env)) := id rfl
structure PMs (X : Cx) (cs : List MatchCase) (u : V → TS) : Prop where
  run : ∀ (first : Bool) (pins : List (Addr × Obj)) (s : Shared) (σ : L2.St) (H : Hp) (E : Ends) (x : V) (v : Value), Inv X pins σ H s → RelV x v → u x E σ H → wpAny (model X.prog X.w) X.A (matchCases cs X.env v first) (SP X pins E) X.xe s
theorem pms_nil {X : Cx} : PMs X [] (fun _ E σ H => E.nx σ H) := ⟨fun first pins s σ H E x v I r h => wpAny_matchCases_nil ⟨σ, H, I, h⟩⟩
theorem pms_cons {X : Cx} {lit : Str} {j : Nat} {p1 p2 : Pos} {body : List Stmt} {rest : List MatchCase} {t : TS} {u : V → TS} (hb : PSs X body t) (hr : PMs X rest u) :
    PMs X (⟨.MatchValue (.Constant (.str lit) j p1) p2, none, body⟩ :: rest) (fun x E σ H => ∃ y, x = .str y ∧ if y = lit then t E σ H else u x E σ H) := by
  refine ⟨fun first pins s σ H E x v I r h => ?_⟩
  obtain ⟨y, rfl, h⟩ := h
  refine wpAny_matchCases_cons (wpAny_matchPattern_Value (thn ((pe_str (X := X) (x := lit) (j := j) (pos := p1)).run pins s σ H (fun w H1 => w = .str lit ∧ H1 = H) I ⟨rfl, rfl⟩) fun w s1 hw => ?_))
  obtain ⟨w', H1, I1, rw', e1, e2⟩ := hw
  subst e1 e2
  refine thn (op_eq (X := X) pins s1 σ H1 (.str y) (.str lit) v w (fun c H2 => c = .bl (decide (V.str y = V.str lit)) ∧ H2 = H1) I1 r rw' ⟨rfl, rfl, rfl⟩) fun c s2 hc => ?_
  obtain ⟨c', H2, I2, rc, e3, e4⟩ := hc
  subst e3 e4
  cases rc
  refine wpAny_truthy_bool ?_
  by_cases e : y = lit
  · rw [if_pos e] at h
    have e' : decide (V.str y = V.str lit) = true := by rw [e]; exact decide_eq_true rfl
    rw [if_pos e']
    exact wpAny_assignInOrder_none (hb.run pins s2 σ H2 E I2 h)
  · rw [if_neg e] at h
    have e' : ¬ decide (V.str y = V.str lit) = true := fun z => e (V.str.inj (of_decide_eq_true z))
    rw [if_neg e']
    exact hr.run false pins s2 σ H2 E (.str y) v I2 r h
theorem ps_match {X : Cx} {e : Expr} {cs : List MatchCase} {pos : Pos} {t : TE} {u : V → TS} (he : PE X e t) (hc : PMs X cs u) : PS X (.Match e cs pos) (fun E σ H => t σ H fun v H1 => u v E σ H1) :=
  ⟨fun pins s σ H E I h => wpAny_Match (thn (he.run pins s σ H _ I h) fun v s1 ⟨x, H1, I1, r1, q1⟩ => hc.run true pins s1 σ H1 E x v I1 r1 q1)⟩
section
variable {C : Cmn} {ι : Type} {R : ι → Rst}
def VMs (C : Cmn) (R : ι → Rst) (cs : List MatchCase) (ts : List (Str × WS)) : Prop := ∀ W, ∃ u, (∀ i, Tk C (R i) W → PMs (C.at (R i)) cs u) ∧ ∀ σ H F Z env S E Rd x d, Ok C.K F Z S H → Envs C.K F σ env → Lk C.K F Z W E Rd → Rep C.K F d x → mtW d E env S ts → u x Rd σ H
theorem vms_nil : VMs C R [] [] := fun W => ⟨_, fun i tk => pms_nil, fun σ H F Z env S E Rd x d ok en lk r h => lk.nx F σ H env S (Same.refl F) ok en h⟩
theorem vms_cons {lit : Str} {j : Nat} {p1 p2 : Pos} {body : List Stmt} {rest : List MatchCase} {t : WS} {ts : List (Str × WS)} (hb : VSs C R body t) (hr : VMs C R rest ts) :
    VMs C R (⟨.MatchValue (.Constant (.str lit) j p1) p2, none, body⟩ :: rest) ((lit, t) :: ts) := fun W => by
  obtain ⟨u, p, s⟩ := hb W
  obtain ⟨u2, p2, s2⟩ := hr W
  refine ⟨_, fun i tk => pms_cons (p i tk) (p2 i tk), fun σ H F Z env S E Rd x d ok en lk r h => ?_⟩
  cases d with
  | str y =>
    cases (show x = _ from r)
    refine ⟨y, rfl, ?_⟩
    have h' : if y = lit then t E env S else mtW (.str y) E env S ts := h
    by_cases e : y = lit
    · rw [if_pos e] at h' ⊢
      exact s σ H F Z env S E Rd ok en lk h'
    · rw [if_neg e] at h' ⊢
      exact s2 σ H F Z env S E Rd _ (.str y) ok en lk rfl h'
  | _ => exact h.elim
theorem vs_match {e : Expr} {cs : List MatchCase} {pos : Pos} {t : WE} {ts : List (Str × WS)} (he : VE C R e t) (hc : VMs C R cs ts) : VS C R (.Match e cs pos) (vMatch t ts) := fun W => by
  obtain ⟨u, p, s⟩ := he W
  obtain ⟨u2, p2, s2⟩ := hc W
  refine ⟨_, fun i tk => ps_match (p i tk.tk) (p2 i tk), fun σ H F Z env S E Rd ok en lk h => ?_⟩
  exact s σ H F Z env S _ _ _ ok en (lk.thr en) (fun v H1 F1 S1 d sm1 ok1 r1 q1 => s2 σ H1 F1 Z env S1 E Rd v d ok1 (en.mono sm1) (lk.mono sm1) r1 q1) h
end
end L3

set_option Elab.async false
set_option linter.all false
set_option maxRecDepth 100000
set_option maxHeartbeats 4000000
/-! The value layer: sorted of tuples of ints. -/
namespace L3
open PySem PySem.Spec PyProof.Rows L2

/-- a tuple of ints in a heap -/
def KeyAt (h : Heap) (v : Value) (k : List Int) : Prop := ∃ b its n dd sl, v = .ref b ∧ h.get? b = some { cls := .type "tuple", dict := dd, data := .seq its n, slots := sl } ∧ IntsAre its.toList k
theorem KeyAt.keeps {h h' : Heap} (hk : ∀ b o, h.get? b = some o → h'.get? b = some o) {v : Value} {k : List Int} (x : KeyAt h v k) : KeyAt h' v k := by
  obtain ⟨b, its, n, dd, sl, e, h1, h2⟩ := x
  exact ⟨b, its, n, dd, sl, e, hk _ _ h1, h2⟩
theorem intsAre_inj : ∀ {vs : List Value} {k k' : List Int}, IntsAre vs k → IntsAre vs k' → k = k'
  | [], _, _, .nil, .nil => rfl
  | _ :: _, _, _, .cons n t r, .cons _ _ r' => by rw [intsAre_inj r r']
theorem key_one {h : Heap} {v : Value} {k k' : List Int} (x : KeyAt h v k) (x' : KeyAt h v k') : k = k' := by
  obtain ⟨b, its, n, dd, sl, e, h1, h2⟩ := x
  obtain ⟨b', its', n', dd', sl', e', h1', h2'⟩ := x'
  rw [e] at e'; cases e'
  rw [h1] at h1'; cases h1'
  exact intsAre_inj h2 h2'
section
variable {prog : Program} {w : World} {A : Around} {s : Shared}
theorem keys_lex {fin : Bool} {Q : Bool → Shared → Prop} : ∀ {vs ws : List Value} {k l : List Int} (i : Nat), IntsAre vs k → IntsAre ws l → fin = decide (k.length < l.length) → Q (HT.lexLt k l) s → PySem.W.KatLex prog w A true fin Q (vs.zip ws) i s
  | [], [], _, _, i, .nil, .nil, hf, h => by
    rw [hf]; exact PySem.W.kat_nil h
  | [], _ :: _, _, _, i, .nil, .cons n t r, hf, h => by
    rw [hf]
    rw [HT.lexLt_nil_cons] at h
    exact PySem.W.kat_nil (by simpa using h)
  | _ :: _, [], _, _, i, .cons n t r, .nil, hf, h => by
    rw [hf]
    rw [HT.lexLt_cons_nil] at h
    exact PySem.W.kat_nil (by simpa using h)
  | _ :: _, _ :: _, _, _, i, .cons n t r, .cons m u r', hf, h => by
    rw [HT.lexLt_cons] at h
    refine PySem.W.kat_cons (SeqAt.EqAt.int_int n t m u prog w _ _ ?_)
    refine PySem.W.kat_go (fun e1 => ?_) (fun e1 => ?_)
    · have ex : n = m := by simpa using e1
      rw [if_pos ex] at h
      exact PySem.W.kat_yes (keys_lex (i + 1) r r' (by rw [hf]; simp) h)
    · have ex : ¬ n = m := by simpa using e1
      rw [if_neg ex] at h
      refine PySem.W.kat_no ?_
      cases i with
      | zero => exact oneLt_int h
      | succ i =>
        refine PySem.W.kat_one _ _ (PyProof.Rows.lt_int ?_)
        exact h
theorem one_false {x y : Value} {k l : List Int} {E : Value → Shared → Prop} {Q : Bool → Shared → Prop} (hu : A.units + 1 < cLine) (hx : KeyAt s.heap x k) (hy : KeyAt s.heap y l) (h : Q (HT.lexLt k l) s) : wpAny (model prog w) A (oneLt' false x y) Q E s := by
  obtain ⟨b, its, n, dd, sl, rfl, h1, h2⟩ := hx
  obtain ⟨b', its', n', dd', sl', rfl, h1', h2'⟩ := hy
  refine PySem.W.kat_one _ _ ?_
  exact HT.lt_tupInts ⟨_, h1, rfl, n, rfl⟩ ⟨_, h1', rfl, n', rfl⟩ h2 h2' (by omega) h
theorem one_true {x y : Value} {k l : List Int} {E : Value → Shared → Prop} {Q : Bool → Shared → Prop} (hu : A.units + 1 < cLine) (hx : KeyAt s.heap x k) (hy : KeyAt s.heap y l) (h : Q (HT.lexLt k l) s) : wpAny (model prog w) A (oneLt' true x y) Q E s := by
  obtain ⟨b, its, n, dd, sl, rfl, h1, h2⟩ := hx
  obtain ⟨b', its', n', dd', sl', rfl, h1', h2'⟩ := hy
  rw [oneLt'_eq]
  simp only [if_true]
  refine wpAny_bind (wpAny_cRoomFor (by omega) ?_)
  refine wpAny_bind (wpAny_callSpecialIfBound?_slot (T := "tuple") ⟨_, h1, rfl⟩ PySem.F.slot_tuple_lt (call_meets PySem.F.slot_tuple_lt ⟨_, h1, rfl⟩ PySem.F.entry_tuple_lt (PySem.F.args_tuple_lt_2 _ _) (HT.tuple_lt_ints b b' its its' n n' dd dd' sl sl' k l h2 h2') ⟨h1, h1', ?_⟩))
  exact wpAny_truthy_bool h
/-- the first item of each -/
theorem firsts_any {M : Model} {kf : Value → List Int} : ∀ {vs : List Value}, (∀ v ∈ vs, KeyAt s.heap v (kf v)) → ∃ fo : List (Option Value), fo.map Option.isSome = vs.map (fun v => decide (kf v ≠ [])) ∧ ∀ {E : Value → Shared → Prop} {Q : List (Option Value) → Shared → Prop}, Q fo s → wpAny M A (vs.mapM firstOfTuple') Q E s
  | [], _ => ⟨[], rfl, fun h => by rw [List.mapM_nil]; exact wpAny_pure h⟩
  | v :: vs, hv => by
    obtain ⟨fo, e, go⟩ := firsts_any (M := M) (vs := vs) fun v h => hv v (List.mem_cons_of_mem _ h)
    obtain ⟨b, its, n, dd, sl, ev, h1, h2⟩ := hv v List.mem_cons_self
    refine ⟨its[0]? :: fo, ?_, fun {E Q} h => ?_⟩
    · rw [List.map_cons, List.map_cons, e]
      congr 1
      rw [← Array.getElem?_toList]
      cases q : kf v with
      | nil =>
        rw [q] at h2
        rw [PyProof.Rows.IntsAre.nil_inv h2]
        rfl
      | cons m k =>
        rw [q] at h2
        obtain ⟨t, r, e', _⟩ := PyProof.Rows.IntsAre.cons_inv h2
        rw [e']
        rfl
    · subst ev
      rw [List.mapM_cons]
      refine wpAny_bind ?_
      rw [PySem.W.kas_first_eq]
      refine wpAny_bind (PySem.W.Looks.here (show PySem.W.Looks M s.heap (typeOf (.ref b)) _ from (PySem.W.Looks.ld h1).andThen .now) ?_)
      rw [if_neg (by first | decide | simp)]
      refine wpAny_bind (listItems_at h1 rfl (wpAny_pure ?_))
      exact wpAny_bind (go (Q := fun bs s' => wpAny M A (pure (its[0]? :: bs)) Q E s') (wpAny_pure h))
/-- all of them have a first item, an int -/
theorem heads_of {h : Heap} : ∀ {vs : List Value}, (∀ v ∈ vs, ∃ k, KeyAt h v k ∧ k ≠ []) → ∃ fs : List Value, PySem.W.KatTups h vs fs ∧ fs.length = vs.length ∧ ∀ f ∈ fs, ∃ x t, f = Value.int x t
  | [], _ => ⟨[], PySem.W.KatTups.nil, rfl, fun _ hm => by simp at hm⟩
  | v :: vs, hp => by
    obtain ⟨fs, h1, h2, h3⟩ := heads_of (vs := vs) fun v' hm => hp v' (List.mem_cons_of_mem _ hm)
    obtain ⟨k, ⟨b, its, n, dd, sl, e, ho, hi⟩, hne⟩ := hp v (List.mem_cons_self ..)
    subst e
    cases k with
    | nil => exact absurd rfl hne
    | cons m k =>
      obtain ⟨t, r, e, _⟩ := PyProof.Rows.IntsAre.cons_inv hi
      refine ⟨.int m t :: fs, PySem.W.KatTups.cons ho rfl rfl (by rw [← Array.getElem?_toList, e]; rfl) h1, by rw [List.length_cons, List.length_cons, h2], fun f hm => ?_⟩
      rcases List.mem_cons.mp hm with rfl | hm
      · exact ⟨m, t, rfl⟩
      · exact h3 f hm
theorem keys_kind {vs : List Value} {kf : Value → List Int} (hu : A.units + 1 < cLine) (h2 : 2 ≤ vs.length) (hp : ∀ v ∈ vs, KeyAt s.heap v (kf v)) : ∃ κ,
    (∀ (Q : SortKind → Shared → Prop) (E : Value → Shared → Prop), Q κ s → wpAny (model prog w) A (keyKind' vs.toArray) Q E s) ∧
    SrtO.Cmp prog w A s κ (fun p => p.1 ∈ vs) (SrtO.lt2 fun v u => HT.lexLt (kf v) (kf u)) := by
  by_cases hall : ∀ v ∈ vs, kf v ≠ []
  · obtain ⟨fs, h1, h2', h3⟩ := heads_of fun v hv => ⟨_, hp v hv, hall v hv⟩
    refine ⟨tuples' true, fun Q E hq => ?_, fun p q hm hm' => ?_⟩
    · refine PySem.W.kat_kind (T := .type "int") h1 (by omega) (fun f hm => ?_) (by rfl) ?_
      · obtain ⟨x, t, rfl⟩ := h3 f hm
        exact PySem.W.Looks.now
      · have e : (Value.type "int" != Value.type "tuple") = true := by first | decide +kernel | rfl | decide
        rw [e]
        exact hq
    · obtain ⟨b, its, n, dd, sl, e, g1, g2⟩ := hp _ hm
      obtain ⟨b', its', n', dd', sl', e', g1', g2'⟩ := hp _ hm'
      show wpAny (model prog w) A (keyLt' (tuples' true) p.1 q.1) (fun r s' => s' = s ∧ r = HT.lexLt (kf p.1) (kf q.1)) (fun _ _ => False) s
      generalize kf p.1 = k at g2 ⊢
      generalize kf q.1 = l at g2' ⊢
      rw [e, e']
      refine PySem.W.kat_lt g1 rfl g1' rfl (keys_lex 0 g2 g2' ?_ ⟨rfl, rfl⟩)
      have l1 := g2.length
      have l2 := g2'.length
      simp at l1 l2
      rw [l1, l2]
  · have go : ∀ (b : Bool), SrtO.Cmp prog w A s (if b = true then oneType' else general') (fun p => p.1 ∈ vs) (SrtO.lt2 fun v u => HT.lexLt (kf v) (kf u)) := fun b p q hm hm' => by
      cases b with
      | true => exact one_true hu (hp _ hm) (hp _ hm') ⟨rfl, rfl⟩
      | false => exact one_false hu (hp _ hm) (hp _ hm') ⟨rfl, rfl⟩
    obtain ⟨fo, efo, run⟩ := firsts_any (M := model prog w) (A := A) hp
    have hlen : fo.length = vs.length := by simpa using congrArg List.length efo
    have hno : (fo.toArray.all fun x => x.isSome) = false := by
      rw [Bool.eq_false_iff]
      intro z
      refine hall fun v hv => ?_
      have z' : ∀ x ∈ fo.map Option.isSome, x = true := by
        intro x hx
        obtain ⟨y, hy, rfl⟩ := List.mem_map.mp hx
        simp only [List.all_toArray, List.all_eq_true] at z
        exact z y hy
      rw [efo] at z'
      exact of_decide_eq_true (z' _ (List.mem_map.mpr ⟨v, hv, rfl⟩))
    have tyT : ∀ v ∈ vs, ∀ (Q' : Value → Shared → Prop) {E : Value → Shared → Prop}, Q' (.type "tuple") s → wpAny (model prog w) A (typeOf v) Q' E s := fun v hv Q' E hq => by
      obtain ⟨b, its, n, dd, sl, e, g1, g2⟩ := hp v hv
      subst e
      exact PySem.W.Looks.here (show PySem.W.Looks (model prog w) s.heap (typeOf (.ref b)) _ from (PySem.W.Looks.ld g1).andThen .now) hq
    by_cases hb : ((fo.toArray[0]?.bind id).isSome) = true
    · refine ⟨general', fun Q E hq => ?_, go false⟩
      rw [PyProof.Rows.kat_kind_eq, List.mapM_toArray, map_eq_pure_bind]
      refine wpAny_bind (wpAny_bind (run (wpAny_pure ?_)))
      rw [if_neg (by rw [hno]; exact Bool.false_ne_true), if_pos hb]
      exact wpAny_pure hq
    · refine ⟨oneType', fun Q E hq => ?_, go true⟩
      rw [PyProof.Rows.kat_kind_eq, List.mapM_toArray, map_eq_pure_bind]
      refine wpAny_bind (wpAny_bind (run (wpAny_pure ?_)))
      rw [if_neg (by rw [hno]; exact Bool.false_ne_true), if_neg hb]
      rw [oneTypeOnly'_eq, List.mapM_toArray, map_eq_pure_bind]
      refine wpAny_bind (wpAny_bind (wpAny_bind (PySem.W.kas_mapM (r := .type "tuple") _ (fun v hv Q' hq' => tyT v hv Q' hq') (wpAny_pure ?_))))
      obtain ⟨v0, vr, rfl⟩ : ∃ v0 vr, vs = v0 :: vr := by
        match vs, h2 with
        | v0 :: vr, _ => exact ⟨v0, vr, rfl⟩
      have hall2 : ((List.map (fun _ => Value.type "tuple") (v0 :: vr)).toArray.all fun x => x == Value.type "tuple") = true := by
        simp only [List.all_toArray, List.all_map, List.all_eq_true]
        intro _ _
        rfl
      have h0 : (List.map (fun _ => Value.type "tuple") (v0 :: vr)).toArray[0]? = some (Value.type "tuple") := by simp
      rw [h0]
      simp only [hall2, if_true]
      exact wpAny_pure (wpAny_pure hq)
open Classical in
/-- the ints of a tuple -/
noncomputable def iOf (h : Heap) (v : Value) : List Int := if x : ∃ k, KeyAt h v k then Classical.choose x else []
theorem iOf_at {h : Heap} {v : Value} {k : List Int} (x : KeyAt h v k) : iOf h v = k := by
  unfold iOf
  rw [dif_pos ⟨k, x⟩]
  exact key_one (Classical.choose_spec (⟨k, x⟩ : ∃ k, KeyAt h v k)) x
theorem sorted_keys {l : Addr} {vs : List Value} {E : Value → Shared → Prop} {Q : Value → Shared → Prop} (hu : A.units + 200 < cLine) (hl : s.heap.IsList l vs.toArray) (hz : vs.length ≤ sizeLine) (hp : ∀ v ∈ vs, ∃ k, KeyAt s.heap v k)
    (h : ∀ (h' : Heap) (d : Addr) (out : List Value), out.Perm vs → out.Pairwise (fun v u => HT.lexLt (iOf s.heap u) (iOf s.heap v) = false) → (∀ b o, s.heap.get? b = some o → h'.get? b = some o) → s.heap.objs.size ≤ d → (∃ n, h'.get? d = some (seqObj "list" out.toArray n)) → Q (.ref d) { s with heap := h' }) :
    wpAny (model prog w) A (call (.builtin "sorted") [.ref l]) Q E s := by
  have hp1 : ∀ v ∈ vs, KeyAt s.heap v (iOf s.heap v) := fun v hv => by
    obtain ⟨k, x⟩ := hp v hv
    rw [iOf_at x]; exact x
  refine SrtO.sorted_ord (NtL.swo_lexL (iOf s.heap)) hl hz (fun h2 h₁ a ha kk => ?_) fun out ho hb => ?_
  · intro h' keep
    have kp : ∀ b o, s.heap.get? b = some o → h'.get? b = some o := fun b o e => keep b o (kk b o e).1 (kk b o e).2
    exact keys_kind (s := { s with heap := h' }) (by show A.units + 1 + 1 + 1 < cLine; omega) h2 fun v hm => (hp1 v hm).keeps kp
  · exact h _ _ out hb.perm ho (fun b o e => sortedAll_old e) (Nat.le_succ _) (sortedAll_at s.heap vs out.toArray)
end
/-- sorted(xs), xs a list of tuples of ints, no two alike -/
def uSortK (K : PySem.W.Frag) : List V → Hp → VK → Prop := fun vs H Q => ∃ (a : Addr) (L : List (Addr × List Int)), vs = [V.ref a] ∧ SqL K H a (L.map fun e => .ref e.1) ∧ (∀ e ∈ L, SqT K H e.1 (e.2.map V.int)) ∧
  ∀ L' p, List.Perm L' L → L'.Pairwise (fun e f => HT.lexLt f.2 e.2 = false) → H p = none → Q (.ref p) (upd H p (.lst (L'.map fun e => .ref e.1)))
theorem cr_sortK {X : Cx} (hu : X.A.units + 200 < cLine) : CallR X (.builtin "sorted") (uSortK X.K) := by
  intro pins s σ H vs us Q I r h
  obtain ⟨a, L, rfl, hs, hx, q⟩ := h
  obtain ⟨its, rv, hl, hz⟩ := I.list hs
  obtain ⟨u, rfl, ru⟩ := vals1 r
  obtain rfl : u = Value.ref a := ru
  have e1 := refs_vals rv
  subst e1
  have key : ∀ e ∈ L, KeyAt s.heap (.ref e.1) e.2 := fun e he => by
    obtain ⟨its1, r1, ⟨⟨cls, dd, data, sl⟩, ho, hc, n, hd⟩, _⟩ := I.tuple (hx e he)
    simp only at hc hd
    subst hc hd
    exact ⟨e.1, _, n, dd, sl, rfl, ho, intsAre_of r1⟩
  refine sorted_keys hu hl.isList (by rw [List.length_map] at hz ⊢; exact hz) (fun v hv => ?_) fun h' d out hp hs k hd hn' => ?_
  · obtain ⟨e, he, rfl⟩ := List.mem_map.mp hv
    exact ⟨_, key e he⟩
  · obtain ⟨L', pm, rfl⟩ := perm_map _ hp
    obtain ⟨n, hn'⟩ := hn'
    have hs' : L'.Pairwise (fun e f => HT.lexLt f.2 e.2 = false) := by
      rw [List.pairwise_map] at hs
      refine List.Pairwise.imp_of_mem (fun {e f} he hf z => ?_) hs
      rw [iOf_at (key e (pm.mem_iff.mp he)), iOf_at (key f (pm.mem_iff.mp hf))] at z
      exact z
    refine ⟨.ref d, upd H d (.lst (L'.map fun e => .ref e.1)), I.laid (t' := s.toks) k hd ⟨?_, _, n, vals_refs (f := fun e : Addr × List Int => e.1) L', hn'⟩, rfl, q _ d pm hs' (I.hok.fresh hd)⟩
    rw [List.length_map] at hz ⊢
    rw [pm.length_eq]; exact hz
section
variable {C : Cmn} {ι : Type} {R : ι → Rst}
/-- a key -/
@[simp] def kyD (k : List Int) : D := .tup (k.map D.int)
def RSortK (ds : List D) (S : Sto) (Q : VQ) (_ : Hold Q) : Prop := ∃ ks : List (List Int), ds = [.lst (ks.map kyD)] ∧ ks.Nodup ∧ ∀ fs, List.Perm fs ks → fs.Pairwise (fun k l => HT.lexLt k l = true) → Q (.lst (fs.map kyD)) S
def rSortK : RCV := fun ds S Q => RSortK ds S Q .mk
@[simp ↓] theorem rSortK_eq (ds) (S) (Q) : rSortK ds S Q = (RSortK ds S Q .mk) := id rfl
theorem keys_at {K : PySem.W.Frag} {F : Hp} : ∀ {ks : List (List Int)} {vs : List V}, Reps K F (ks.map kyD) vs → ∃ L : List (Addr × List Int), vs = L.map (fun e => .ref e.1) ∧ (∀ e ∈ L, SqT K F e.1 (e.2.map V.int)) ∧ L.map (fun e => e.2) = ks
  | [], _, h => by cases h; exact ⟨[], rfl, fun _ h => (by cases h), rfl⟩
  | k :: ks, _, h => by
    obtain ⟨v, r, rfl, h2, h3⟩ := h
    obtain ⟨L, rfl, h4, h5⟩ := keys_at h3
    obtain ⟨a, vs, rfl, t1, hk⟩ := h2
    have e2 := hk.ints
    subst e2
    refine ⟨(a, k) :: L, rfl, fun e he => ?_, by simp [h5]⟩
    rcases List.mem_cons.mp he with rfl | he
    · exact t1.sq
    · exact h4 e he
theorem cv_sortK (hu : ∀ i, (R i).A.units + 200 < cLine) : CallV C R (.builtin "sorted") rSortK := by
  refine ⟨uSortK C.K, fun i => cr_sortK (X := C.at (R i)) (hu i), fun F Z S H vs ds Q Rd ok r k h => ?_⟩
  obtain ⟨ks, rfl, hn, q⟩ := h
  obtain ⟨v, rfl, p, ws, rfl, h2, h3⟩ := reps1 r
  obtain ⟨L, rfl, h4, h5⟩ := keys_at h3
  refine ⟨p, L, rfl, SqL.of (ok.fro _ _ h2), fun e he => same_sqt ok.fro (h4 e he), fun L' l pm hs hl => ?_⟩
  obtain ⟨fs, pf, r', hk⟩ := reps_perm (f := fun e : Addr × List Int => V.ref e.1) (ka := fun e => e.2) (kb := fun k : List Int => k) pm h3 (by rw [h5, List.map_id'])
  rw [List.map_id'] at hk
  have hs1 : (L'.map fun e : Addr × List Int => e.2).Pairwise (fun a b => HT.lexLt b a = false) := by rw [List.pairwise_map]; exact hs
  rw [hk] at hs1
  have hn' : fs.Pairwise (fun e f => e ≠ f) := pf.nodup_iff.mpr hn
  refine k.lst ok hl r' (q fs pf ?_)
  refine (hs1.and hn').imp fun {e f} z => ?_
  cases c : HT.lexLt e f with
  | true => rfl
  | false => exact absurd (lex_tot _ _ c z.1) z.2
end
end L3

set_option Elab.async false
set_option linter.all false
set_option maxRecDepth 100000
set_option maxHeartbeats 4000000
/-! The value layer: dicts whose keys are tuples of ints. -/
namespace L3
open PySem PySem.Spec PyProof.Rows L2
/-- the keys, as the store has them -/
def dk (kk : List (List Int)) : List (List Key) := kk.map (·.map Sum.inl)
theorem inl_inj {k l : List Int} (h : (k.map Sum.inl : List Key) = l.map Sum.inl) : k = l := by
  induction k generalizing l with
  | nil => cases l with
    | nil => rfl
    | cons _ _ => cases h
  | cons a k ih => cases l with
    | nil => cases h
    | cons b l =>
      simp only [List.map_cons, List.cons.injEq, Sum.inl.injEq] at h
      rw [h.1, ih h.2]
theorem mem_dk {k : List Int} {kk : List (List Int)} : (k.map Sum.inl : List Key) ∈ dk kk ↔ k ∈ kk := by
  unfold dk
  rw [List.mem_map]
  exact ⟨fun ⟨l, hl, e⟩ => inl_inj e ▸ hl, fun h => ⟨k, h, rfl⟩⟩
theorem kv_inl (k : List Int) : (k.map Sum.inl : List Key).map kV = k.map V.int := by
  rw [List.map_map]; rfl
theorem wr_ints (k : List Int) : wr (k.map V.int) = false := by cases k <;> rfl
/-- a key's tuple is no written one -/
theorem key_at {K : PySem.W.Frag} {F : Hp} {k : List Int} {v : V} (h : Rep K F (.tup (k.map D.int)) v) : ∃ b, v = .ref b ∧ F b = some (.tup ((k.map Sum.inl : List Key).map kV)) := by
  obtain ⟨a, vs, rfl, h1, h2⟩ := h
  have e := h2.ints
  subst e
  rcases h1 with h1 | ⟨_, h1⟩
  · exact ⟨a, rfl, by rw [kv_inl]; exact h1⟩
  · rw [wr_ints] at h1; cases h1
/-- the tuple is a key -/
def KeyC (xs : List D) (Q : List Int → Prop) (_ : Hold Q) : Prop := ∃ k : List Int, xs = k.map D.int ∧ Q k
theorem valV_rep {K : PySem.W.Frag} {F : Hp} {k : List Key} : ∀ {kvs : List (List Key × V)} {xs : List D}, Reps K F xs (kvs.map (·.2)) → ∀ {d : D}, (((kvs.map (·.1)).zip xs).find? fun z => decide (z.1 = k)).map (·.2) = some d → ∃ v, valV kvs k = some v ∧ Rep K F d v
  | [], _, _, _, h => by cases h
  | p :: kvs, xs, r, d, h => by
    cases xs with
    | nil => simp at h
    | cons x xs =>
      obtain ⟨v, r', e, h1, h2⟩ := r
      simp only [List.map_cons, List.cons.injEq] at e
      obtain ⟨rfl, rfl⟩ := e
      rw [List.map_cons, List.zip_cons_cons, List.find?_cons] at h
      by_cases c : p.1 = k
      · rw [decide_eq_true c] at h
        cases h
        exact ⟨_, valV_pos c, h1⟩
      · rw [decide_eq_false c] at h
        obtain ⟨v, e1, e2⟩ := valV_rep h2 h
        exact ⟨v, by rw [valV_neg c]; exact e1, e2⟩
/-- k is among the keys -/
def hasK (ks : List (List Key)) (k : List Key) : Bool := ks.any fun z => decide (z = k)
theorem hasK_iff {ks : List (List Key)} {k : List Key} : hasK ks k = true ↔ k ∈ ks := by
  unfold hasK
  rw [List.any_eq_true]
  exact ⟨fun ⟨z, h, e⟩ => of_decide_eq_true e ▸ h, fun h => ⟨k, h, decide_eq_true rfl⟩⟩
theorem hasK_dk {k : List Int} {kk : List (List Int)} : hasK (dk kk) (k.map Sum.inl) = decide (k ∈ kk) := by
  rw [Bool.eq_iff_iff, hasK_iff, mem_dk, decide_eq_true_iff]
theorem valV_mem {k : List Key} {kvs : List (List Key × V)} : (valV kvs k).isSome = hasK (kvs.map (·.1)) k := by
  rw [← valV_any]
  unfold hasK
  rw [List.any_map]; rfl
section
variable {C : Cmn} {ι : Type} {R : ι → Rst} {K : PySem.W.Frag} {W : WX}
/-- {} -/
def vDNew : WE := fun env S Q E => ∀ p, S p = none → Q (.ref p) (sup S p (.dT [] []))
@[simp ↓] theorem vDNew_eq (env) (S) (Q) (E) : vDNew env S Q E = (∀ p, S p = none → Q (.ref p) (sup S p (.dT [] []))) := id rfl
theorem ve_dnew {pos : Pos} : VE C R (.Dict [] [] pos) vDNew := .of (fun i => pe_dnewT) fun W σ H F Z env S Q Ex Rd ok en th k h p hp =>
  k _ _ _ _ (.ref p) (Same.refl F) (ok.new (so := .dT [] []) hp ⟨[], rfl, rfl, rfl⟩) rfl (h p (ok.newS hp))
/-- k in d -/
def rInT (neg : Bool) : R2V := fun x y S Q => match x, y with
  | .tup xs, .ref p => match S p with
    | some (.dT ks _) => KeyC xs (fun k => Q (.bl (if neg = true then !hasK ks (k.map Sum.inl) else hasK ks (k.map Sum.inl))) S) .mk
    | _ => False
  | _, _ => False
@[simp ↓] theorem rInT_eq (neg : Bool) (x) (y) (S) (Q) : rInT neg x y S Q = (match x, y with
  | .tup xs, .ref p => match S p with
    | some (.dT ks _) => KeyC xs (fun k => Q (.bl (if neg = true then !hasK ks (k.map Sum.inl) else hasK ks (k.map Sum.inl))) S) .mk
    | _ => False
  | _, _ => False) := id rfl
def uInT (neg : Bool) : R2 := fun x y H Q => ∃ a o, y = .ref a ∧ DGet H a x o ∧ Q (.bl (if neg = true then !o.isSome else o.isSome)) H
theorem op_inT {X : Cx} (hu : X.A.units + 1 < cLine) : OpR X (compareOp .In) (uInT false) := by
  intro pins s σ H x y v u Q I rx ry h
  obtain ⟨a, o, rfl, g, q⟩ := h
  cases ry
  exact d_in hu I g rx fun s3 I3 => ⟨.bl _, H, I3, rfl, q⟩
theorem op_notInT {X : Cx} (hu : X.A.units + 1 < cLine) : OpR X (compareOp .NotIn) (uInT true) := by
  intro pins s σ H x y v u Q I rx ry h
  obtain ⟨a, o, rfl, g, q⟩ := h
  cases ry
  exact d_notIn hu I g rx fun s3 I3 => ⟨.bl _, H, I3, rfl, q⟩
theorem inT_sound (neg : Bool) : SndR C.K (rInT neg) (uInT neg) := fun F Z S H x y d e Q R ok rx ry k h => by
  unfold rInT at h
  split at h
  · split at h
    · rename_i hp
      obtain ⟨kk, rfl, q⟩ := h
      cases (show y = _ from ry)
      obtain ⟨b, rfl, hb⟩ := key_at rx
      obtain ⟨_, ho, h1, kvs, rfl, e1, h2⟩ := ok.own _ _ hp
      refine ⟨_, _, rfl, DGet.t h1 (ok.fro _ _ hb), k _ _ _ _ (.bl _) (Same.refl F) ok rfl ?_⟩
      rw [valV_mem, e1]
      exact q
    · exact h.elim
  · exact h.elim
theorem ov_inT (hu : ∀ i, (R i).A.units + 200 < cLine) : OpV C R (compareOp .In) (rInT false) := .of _ (fun i => op_inT (X := C.at (R i)) (by have := hu i; show (R i).A.units + 1 < cLine; omega)) (inT_sound false)
theorem ov_notinT (hu : ∀ i, (R i).A.units + 200 < cLine) : OpV C R (compareOp .NotIn) (rInT true) := .of _ (fun i => op_notInT (X := C.at (R i)) (by have := hu i; show (R i).A.units + 1 < cLine; omega)) (inT_sound true)
/-- d[k] = v, k new -/
def vPutD (t to ti : WE) : WS := fun E env S => t env S (fun d S1 => to env S1 (fun o S2 => ti env S2 (fun i S3 => match o, i with
  | .ref p, .tup ks => match S3 p with
    | some (.dT kk xs) => KeyC ks (fun k => hasK kk (k.map Sum.inl) = false ∧ kk.length < sizeLine ∧ E.nx env (sup S3 p (.dT (kk ++ [k.map Sum.inl]) (xs ++ [d])))) .mk
    | _ => False
  | _, _ => False) (E.ex env)) (E.ex env)) (E.ex env)
@[simp ↓] theorem vPutD_eq (t to ti : WE) (E) (env) (S) : vPutD t to ti E env S = (t env S (fun d S1 => to env S1 (fun o S2 => ti env S2 (fun i S3 => match o, i with
  | .ref p, .tup ks => match S3 p with
    | some (.dT kk xs) => KeyC ks (fun k => hasK kk (k.map Sum.inl) = false ∧ kk.length < sizeLine ∧ E.nx env (sup S3 p (.dT (kk ++ [k.map Sum.inl]) (xs ++ [d])))) .mk
    | _ => False
  | _, _ => False) (E.ex env)) (E.ex env)) (E.ex env)) := id rfl
theorem vs_putD {o i e : Expr} {t to ti : WE} {pos pos' : Pos} (hu : ∀ j, (R j).A.units + 200 < cLine) (h : VE C R e t) (ho : VE C R o to) (hi : VE C R i ti)
    (hs : ∀ j, swapsWith e (some (.Subscript o i pos')) pos.line (R j).env = pure false := by exact fun _ => rfl) : VS C R (.Assign [.Subscript o i pos'] e pos) (vPutD t to ti) := fun W => by
  obtain ⟨u, p, s⟩ := h W
  obtain ⟨uo, po, so⟩ := ho W
  obtain ⟨ui, pi, si⟩ := hi W
  refine ⟨_, fun j tk => ps_dput (X := C.at (R j)) (by have := hu j; show (R j).A.units + 1 < cLine; omega) (po j tk.tk) (pi j tk.tk) (p j tk.tk) (hs j), fun σ H F Z env S E Rd ok en lk h => ?_⟩
  refine s σ H F Z env S _ _ _ ok en (lk.thr en) (fun v H1 F1 S1 d sm1 ok1 r1 q1 => ?_) h
  have lk1 := lk.mono sm1
  have en1 := en.mono sm1
  refine so σ H1 F1 Z env S1 _ _ _ ok1 en1 (lk1.thr en1) (fun x H2 F2 S2 o' sm2 ok2 r2 q2 => ?_) q1
  have lk2 := lk1.mono sm2
  have en2 := en1.mono sm2
  refine si σ H2 F2 Z env S2 _ _ _ ok2 en2 (lk2.thr en2) (fun y H3 F3 S3 i' sm3 ok3 r3 q3 => ?_) q2
  split at q3
  · split at q3
    · rename_i hp
      obtain ⟨k, rfl, hn, hl, q⟩ := q3
      have r2' := Rep.mono sm3 _ _ r2
      cases (show x = _ from r2')
      obtain ⟨b, rfl, hb⟩ := key_at r3
      obtain ⟨_, ho', h1, kvs, rfl, e1, h2⟩ := ok3.own _ _ hp
      subst e1
      rw [List.length_map] at hl
      have hany : ¬ (kvs.any fun kv => decide (kv.1 = (k.map Sum.inl : List Key))) = true := by
        rw [valV_any, valV_mem, hn]
        exact Bool.false_ne_true
      refine ⟨_, _, rfl, DPut.t h1 (ok3.fro _ _ hb) hl, ?_⟩
      refine lk2.nx F3 σ _ env _ sm3 (ok3.put (so := .dT _ _) hp ?_) (en2.mono sm3) q
      unfold putK
      rw [if_neg hany]
      refine ⟨_, rfl, by simp, ?_⟩
      rw [List.map_append]
      exact h2.append (Reps.one (Rep.mono (sm2.trans sm3) _ _ r1))
    · exact q3.elim
  · exact q3.elim
/-- d[k] -/
def vDGet (to ti : WE) : WE := fun env S Q E => to env S (fun o S1 => ti env S1 (fun i S2 => match o, i with
  | .ref p, .tup ks => match S2 p with
    | some (.dT kk xs) => KeyC ks (fun k => ∃ d, ((kk.zip xs).find? fun z => decide (z.1 = (k.map Sum.inl : List Key))).map (·.2) = some d ∧ Q d S2) .mk
    | _ => False
  | _, _ => False) E) E
@[simp ↓] theorem vDGet_eq (to ti : WE) (env) (S) (Q) (E) : vDGet to ti env S Q E = (to env S (fun o S1 => ti env S1 (fun i S2 => match o, i with
  | .ref p, .tup ks => match S2 p with
    | some (.dT kk xs) => KeyC ks (fun k => ∃ d, ((kk.zip xs).find? fun z => decide (z.1 = (k.map Sum.inl : List Key))).map (·.2) = some d ∧ Q d S2) .mk
    | _ => False
  | _, _ => False) E) E) := id rfl
theorem ve_dget {o i : Expr} {to ti : WE} {pos : Pos} (hu : ∀ j, (R j).A.units + 200 < cLine) (ho : VE C R o to) (hi : VE C R i ti) (hs : NoSl i := by exact fun _ _ => rfl) : VE C R (.Subscript o i pos) (vDGet to ti) := fun W => by
  obtain ⟨uo, po, so⟩ := ho W
  obtain ⟨ui, pi, si⟩ := hi W
  refine ⟨_, fun j tk => pe_dget (X := C.at (R j)) (by have := hu j; show (R j).A.units + 1 < cLine; omega) (po j tk) (pi j tk) hs, fun σ H F Z env S Q Ex Rd ok en th k h => ?_⟩
  refine so σ H F Z env S _ _ _ ok en th (fun x H2 F2 S2 o' sm2 ok2 r2 q2 => ?_) h
  refine si σ H2 F2 Z env S2 _ _ _ ok2 (en.mono sm2) (th.mono sm2) (fun y H3 F3 S3 i' sm3 ok3 r3 q3 => ?_) q2
  split at q3
  · split at q3
    · rename_i hp
      obtain ⟨kk, rfl, d, hd, q⟩ := q3
      have r2' := Rep.mono sm3 _ _ r2
      cases (show x = _ from r2')
      obtain ⟨b, rfl, hb⟩ := key_at r3
      obtain ⟨_, ho', h1, kvs, rfl, e1, h2⟩ := ok3.own _ _ hp
      subst e1
      obtain ⟨v, hv, rv⟩ := valV_rep h2 hd
      have g := DGet.t (k := (kk.map Sum.inl : List Key)) h1 (ok3.fro _ _ hb)
      rw [hv] at g
      exact ⟨_, v, rfl, g, k _ _ _ _ d (sm2.trans sm3) ok3 rv q⟩
    · exact q3.elim
  · exact q3.elim
/-- list(d): its keys -/
def LstC (ks : List (List Key)) (Q : List (List Int) → Prop) (_ : Hold Q) : Prop := ∃ kk, ks = dk kk ∧ Q kk
def rListT : RCV := fun ds S Q => match ds with
  | [.ref p] => match S p with
    | some (.dT ks _) => LstC ks (fun kk => Q (.lst (kk.map kyD)) S) .mk
    | _ => False
  | _ => False
@[simp ↓] theorem rListT_eq (ds) (S) (Q) : rListT ds S Q = (match ds with
  | [.ref p] => match S p with
    | some (.dT ks _) => LstC ks (fun kk => Q (.lst (kk.map kyD)) S) .mk
    | _ => False
  | _ => False) := id rfl
theorem isKeys_dk {H : Hp} : ∀ {kk : List (List Int)} {kvs : List (List Key × V)} {bs : List Addr}, kvs.map (·.1) = dk kk → IsKeys H kvs bs → Paired (fun (k : List Int) b => H b = some (.tup (k.map V.int))) kk bs
  | [], [], _, _, h => by cases h; exact .nil
  | [], _ :: _, _, e, _ => by cases e
  | _ :: _, [], _, e, _ => by cases e
  | k :: kk, p :: kvs, _, e, h => by
    cases h with
    | cons h1 h2 =>
      simp only [dk, List.map_cons, List.cons.injEq] at e
      refine .cons ?_ (isKeys_dk e.2 h2)
      rw [e.1, kv_inl] at h1
      exact h1
open Classical in
/-- what is frozen, and some tuples more -/
noncomputable def moreF (F H : Hp) (bs : List Addr) : Hp := fun a => if a ∈ bs then H a else F a
theorem Ok.more {F Z : Hp} {S : Sto} {H : Hp} {bs : List Addr} (ok : Ok K F Z S H) (hb : ∀ b ∈ bs, ∃ vs, H b = some (.tup vs)) : Same F (moreF F H bs) ∧ Ok K (moreF F H bs) Z S H := by
  have sm : Same F (moreF F H bs) := fun a o e => by
    unfold moreF
    split
    · exact ok.fro _ _ e
    · exact e
  refine ⟨sm, fun a o e => ?_, fun a o e => ?_, fun a o e => ?_, ok.zt⟩
  · unfold moreF at e
    split at e
    · exact e
    · exact ok.fro _ _ e
  · obtain ⟨h1, h, h2, h3⟩ := ok.own a o e
    refine ⟨?_, h, h2, h3.mono sm⟩
    unfold moreF
    split
    · rename_i hm
      obtain ⟨vs, hv⟩ := hb a hm
      rw [hv] at h2
      cases h2
      exact absurd rfl (h3.notTup _)
    · exact h1
  · obtain ⟨h1, h2, h3⟩ := ok.zed a o e
    refine ⟨?_, h2, h3⟩
    unfold moreF
    split
    · rename_i hm
      obtain ⟨vs, hv⟩ := hb a hm
      rw [hv] at h3
      cases h3
      exact absurd e (ok.zt a vs)
    · exact h1
theorem keys_reps {F : Hp} : ∀ {kk : List (List Int)} {bs : List Addr}, Paired (fun (k : List Int) b => F b = some (.tup (k.map V.int))) kk bs → Reps K F (kk.map kyD) (bs.map V.ref)
  | [], _, .nil => rfl
  | k :: kk, _, .cons h1 h2 => ⟨_, _, rfl, ⟨_, _, rfl, .inl h1, Reps.ofInts k⟩, keys_reps h2⟩
theorem keys_more {F H : Hp} {bs' : List Addr} : ∀ {kk : List (List Int)} {bs : List Addr}, Paired (fun (k : List Int) b => H b = some (.tup (k.map V.int))) kk bs → (∀ b ∈ bs, b ∈ bs') → Paired (fun (k : List Int) b => moreF F H bs' b = some (.tup (k.map V.int))) kk bs
  | [], _, .nil, _ => .nil
  | k :: kk, _, .cons h1 h2, hm => .cons (by unfold moreF; rw [if_pos (hm _ List.mem_cons_self)]; exact h1) (keys_more h2 fun b hb => hm b (List.mem_cons_of_mem _ hb))
theorem keys_tup {H : Hp} : ∀ {kk : List (List Int)} {bs : List Addr}, Paired (fun (k : List Int) b => H b = some (.tup (k.map V.int))) kk bs → ∀ b ∈ bs, ∃ vs, H b = some (.tup vs)
  | [], _, .nil, _, h => by cases h
  | k :: kk, _, .cons h1 h2, b, h => by
    rcases List.mem_cons.mp h with rfl | h
    · exact ⟨_, h1⟩
    · exact keys_tup h2 b h
theorem cv_listT (hc : ∀ i, (R i).calm = true := by exact fun _ => rfl) : CallV C R (.type "list") rListT := by
  refine ⟨_, fun i => call_list_dT (X := C.at (R i)) (hc i), fun F Z S H vs ds Q Rd ok r k h => ?_⟩
  unfold rListT at h
  split at h
  · split at h
    · rename_i hp
      obtain ⟨kk, rfl, q⟩ := h
      obtain ⟨v, rfl, h1⟩ := reps1 r
      cases (show v = _ from h1)
      obtain ⟨_, ho, h2, kvs, rfl, e1, h3⟩ := ok.own _ _ hp
      refine ⟨_, kvs, rfl, .inl h2, fun p bs hp' hk => ?_⟩
      have pk := isKeys_dk e1 hk
      obtain ⟨sm, ok'⟩ := ok.more (keys_tup pk)
      have r' := keys_reps (K := C.K) (keys_more (F := F) pk fun b hb => hb)
      exact (k.mono sm).lst ok' hp' r' q
    · exact h.elim
  · exact h.elim
end
end L3

set_option Elab.async false
set_option linter.all false
set_option maxRecDepth 100000
set_option maxHeartbeats 4000000
/-! The value layer: try with several clauses 'except x as n'. -/
namespace L3
open PySem PySem.Spec PyProof.Rows L2
/-- the clauses' wish, the first that fits -/
def wAll (K : PySem.W.Frag) (Wout : WX) (D : Ends) : List (Value × Nat × (Addr → Value → Option Addr → TS)) → WX
  | [] => Wout
  | (c, i, ts) :: l => wAs K c i ts (wAll K Wout D l) D
/-- the clauses, read -/
inductive Clauses (X : Cx) : List ExceptHandler → List (Value × Nat × (Addr → Value → Option Addr → TS)) → Prop
  | nil : Clauses X [] []
  | cons {x n : Str} {c : Value} {i : Nat} {ts : Addr → Value → Option Addr → TS} {b0 : Stmt} {suite : List Stmt} {np pos' : Pos} {hds : List ExceptHandler} {l : List (Value × Nat × (Addr → Value → Option Addr → TS))}
      (hi : X.N[i]? = some n) (hln : X.env.kindOf n = some .local) (hc : Names X x c)
      (hsu : ∀ (a : Addr) (oe : Obj) (cls : Value) (d : Option Addr) (pn : List (Addr × Obj)), Zc cls d oe → (∃ vs, oe.data = .fields vs) → PSs (X.suite a ((a, oe) :: pn)) (b0 :: suite) (ts a cls d)) (r : Clauses X hds l) :
      Clauses X (.ExceptHandler (some (.Name x np)) (some n) (b0 :: suite) pos' :: hds) ((c, i, ts) :: l)
section
variable {X : Cx} {body : List Stmt} {h0 : ExceptHandler} {hds : List ExceptHandler} {l : List (Value × Nat × (Addr → Value → Option Addr → TS))} {pos : Pos} {tb : WX → TS} {Wout : WX}
theorem ps_try_all (hs : X.stack = X.env :: X.outer) (hf : X.env.frame = some X.env.locals) (hN : X.N.Nodup) (tk : Takes X Wout)
    (hb : ∀ (W : WX) (pn : List (Addr × Obj)) (xe : Value → Shared → Prop), Takes (X.tr pn xe) W → PassesOwn (model X.prog X.w) X.A X.env xe → PSs (X.tr pn xe) body (tb W))
    (hh : Clauses X (h0 :: hds) l) : PS X (.Try body (h0 :: hds) [] [] pos) (fun D σ H => tb (wAll X.K Wout D l) D σ H) := by
  refine ⟨fun pins s σ H D I h => ?_⟩
  have ok := I.ok
  have hfr : X.A.frames = some (X.env :: X.outer) := by rw [ok.frames, hs]
  let E1 : Value → Shared → Prop := fun e s1 => wpAny (model X.prog X.w) X.A (noteFrame e X.env) (fun _ s2 => wpAny (model X.prog X.w) X.A (setFlight e none) (fun _ s3 => wpAny (model X.prog X.w) X.A (handleBy e X.env (h0 :: hds)) (SP X pins D) X.xe s3) X.xe s2) X.xe s1
  refine wpAny_Try_except (wpAny_mono ((hb (wAll X.K Wout D l) (X.pn ++ pins) E1 (fun u s' xx => ?caught) PassesOwn.looking).run [] s σ H D (I.toTry _) h) (fun f s1 hsp => ?after) (fun e s1 he => he))
  case caught =>
    obtain ⟨a, B, sI, pins', σ', H', cls, d, rfl, J', nb, up, sky, na, os, ag, w⟩ := xx
    have J : Inv X pins σ' H' sI := J'.ofTry ok
    have skyX : Sky B (X.env :: X.outer) a (Zc cls d) X.env.locals s'.heap := hs ▸ sky
    show wpAny (model X.prog X.w) X.A (noteFrame (.ref a) X.env) _ _ _
    refine Sky.land Zc.steady hfr hf skyX fun h3 fl3 up3 => ?_
    have J3 : Inv X pins σ' H' { s' with heap := h3 } := J.landed nb fl3.1 (up.trans up3) os ag
    obtain ⟨oe3, vs3, he3, hz3, hd3⟩ := fl3.there
    have apart : a ∉ frs (X.env :: X.outer) := fun hm => by
      obtain ⟨_, o2, e2, hnf⟩ := fl3.2.2.1.mem hm
      rw [he3] at e2; cases e2
      exact hnf _ hd3
    have nL : a ≠ X.env.locals := fun z => apart (List.mem_filterMap.mpr ⟨X.env, List.mem_cons_self, by rw [hf, z]⟩)
    have nF : a ∉ X.fs := fun hm => by
      obtain ⟨e, he, q⟩ := List.mem_filterMap.mp hm
      exact apart (List.mem_filterMap.mpr ⟨e, List.mem_cons_of_mem _ he, q⟩)
    have S3 := J3.suite he3 hd3 na nL nF
    have clause : ∀ {hs2 : List ExceptHandler} {l2 : List (Value × Nat × (Addr → Value → Option Addr → TS))}, Clauses X hs2 l2 → wAll X.K Wout D l2 cls d σ' H' →
        wpAny (model X.prog X.w) X.A (handleBy (.ref a) X.env hs2) (SP X pins D) X.xe { s' with heap := h3 } := by
      intro hs2 l2 hk
      induction hk with
      | nil =>
        intro w
        refine wpAny_handleBy_nil ?_
        obtain ⟨k1, k2, k3, oe, vs, T, oT, ts', he, hz, hd, h1, hr⟩ := id fl3
        unfold PySem.passOn
        refine wpAny_bind (wpAny_field he hd h1 ?_)
        rw [if_neg (show ¬ ((Value.ref T == Value.none) = true) from by simp)]
        have off : wpAny (model X.prog X.w) X.A (setFlight (.ref a) X.env.frame) (fun _ s4 => wpAny (model X.prog X.w) X.A (throw (.ref a) : Sem Flow) (SP X pins D) X.xe s4) X.xe { s' with heap := h3 } := by
          rw [hf]
          refine HandSPX.setFlight_upZ fl3 fun h4 hh4 up4 => wpAny_throw (tk _ _ ?_)
          exact ⟨a, B, sI, pins, σ', H', cls, d, rfl, J, nb, (up.trans up3).trans up4, .inr (.inr (by rw [hs]; exact hh4)), na, os, ag, w⟩
        first
          | exact wpAny_bind (wpAny_pure (wpAny_bind off))
          | exact wpAny_bind off
      | @cons x n c i ts b0 suite np pos' hs3 l3 hi hln hc hsu r ih =>
        intro w
        obtain ⟨b, hb1, yes, no⟩ := w
        refine wpAny_handleBy_cons (codeAny_handlers_test ?_) (by intro q; cases q)
        have lt : PySem.W.Looks (model X.prog X.w) h3 (typeOf (.ref a)) cls := fun A Q E s k q => wpAny_typeOf_ref (k _ _ he3) (by rw [hz3.1]; exact q)
        have lm := PySem.W.exm_one (M := model X.prog X.w) J3.kIn lt hb1
        have named : ∀ {Q E : Value → Shared → Prop}, Q c { s' with heap := h3 } → wpAny (model X.prog X.w) (X.A.mark (some (.ref a))) (eval (.Name x np) X.env) Q E { s' with heap := h3 } := fun {Q E} q => by
          obtain ⟨g1, g2, g3 | ⟨g3, g4, g5⟩⟩ := hc
          · exact ld_glob (X := X.suite a ((a, oe3) :: (X.pn ++ pins))) S3 g1 g3 q g2
          · exact ld_blt (X := X.suite a ((a, oe3) :: (X.pn ++ pins))) S3 g1 g3 g4 q g5 g2
        refine named (lm.here ?_)
        cases b with
        | false => exact ih (no rfl)
        | true =>
          refine codeAny_handlers_suite_as ?_
          refine HandSPX.lands_againZ fl3 fun h4 fl4 up4 => ?_
          have J4 : Inv X pins σ' H' { s' with heap := h4 } := J.landed nb fl4.1 ((up.trans up3).trans up4) os ag
          obtain ⟨oe4, vs4, he4, hz4, hd4⟩ := fl4.there
          have S4 := J4.suite he4 hd4 na nL nF
          refine store_ok (X := X.suite a ((a, oe4) :: (X.pn ++ pins))) (v := .ref a) S4 hN hi (.inl hln) rfl (fun s5 S5 => ?_) (.inr hln)
          refine wpAny_mono ((hsu a oe4 cls d (X.pn ++ pins) hz4 ⟨_, hd4⟩).run [] s5 _ H' _ S5 (yes rfl a na)) (fun f s6 hsp => ?_) (fun _ _ z => z.elim)
          have clear : ∀ {σ6 : L2.St} {H6 : Hp} {Q : Shared → Prop}, Inv (X.suite a ((a, oe4) :: (X.pn ++ pins))) [] σ6 H6 s6 → (∀ s7, Inv X pins (σ6.set i none) H6 s7 → Q s7) →
              wpAny (model X.prog X.w) X.A (do bindName X.env n .none; unbindBehindTheSuite X.env n pos') (fun _ s7 => Q s7) X.xe s6 := fun {σ6 H6 Q} S6 hq => gone_ok (S6.unsuite ok) hN hi hln hq
          cases f with
          | next =>
            obtain ⟨_, _, S6, q6⟩ := hsp
            exact clear S6 fun s7 J7 => ⟨_, _, J7, q6⟩
          | brk =>
            obtain ⟨_, _, S6, q6⟩ := hsp
            exact clear S6 fun s7 J7 => ⟨_, _, J7, q6⟩
          | cont =>
            obtain ⟨_, _, S6, q6⟩ := hsp
            exact clear S6 fun s7 J7 => ⟨_, _, J7, q6⟩
          | ret u =>
            obtain ⟨_, _, _, S6, r6, q6⟩ := hsp
            exact clear S6 fun s7 J7 => ⟨_, _, _, J7, r6, q6⟩
    exact clause hh w
  case after =>
    cases f with
    | next =>
      obtain ⟨_, _, J', q⟩ := hsp
      exact wpAny_execs_nil ⟨_, _, J'.ofTry ok, q⟩
    | brk =>
      obtain ⟨_, _, J', q⟩ := hsp
      exact ⟨_, _, J'.ofTry ok, q⟩
    | cont =>
      obtain ⟨_, _, J', q⟩ := hsp
      exact ⟨_, _, J'.ofTry ok, q⟩
    | ret u =>
      obtain ⟨_, _, _, J', r, q⟩ := hsp
      exact ⟨_, _, _, J'.ofTry ok, r, q⟩
end
section
variable {C : Cmn} {ι : Type} {R : ι → Rst}
/-- what the clauses want of an own exception -/
def exW (K : PySem.W.Frag) (E : VEnds) : List (Addr × Nat × (Addr → Addr → Addr → WS)) → Env → EX
  | [], env => E.ex env
  | (cl, i, su) :: l, env => fun Cl x S1 => ∃ t, PySem.W.exmOne K (.ref Cl) (.ref cl) = some t ∧ if t = true then ∀ a dd, su a Cl dd ⟨fun e2 => E.nx (forget e2 i), E.rt, fun e2 => E.bk (forget e2 i), fun e2 => E.ct (forget e2 i), fun _ => NoEx⟩ (put env i (.exc a Cl dd x)) S1 else exW K E l env Cl x S1
def vTryA (K : PySem.W.Frag) (b : WS) (l : List (Addr × Nat × (Addr → Addr → Addr → WS))) : WS := fun E env S => b { E with ex := fun e1 => exW K E l e1 } env S
@[simp ↓] theorem vTryA_eq (K : PySem.W.Frag) (b : WS) (l : List (Addr × Nat × (Addr → Addr → Addr → WS))) (E) (env) (S) : vTryA K b l E env S = (b { E with ex := fun e1 => exW K E l e1 } env S) := id rfl
/-- the clauses, read by the value layer -/
def VCl (C : Cmn) (R : ι → Rst) (hds : List ExceptHandler) (l : List (Addr × Nat × (Addr → Addr → Addr → WS))) : Prop := ∃ ul : List (Value × Nat × (Addr → Value → Option Addr → TS)), (∀ j W, Tk C (R j) W → Clauses (C.at (R j)) hds ul) ∧
  ∀ (W : WX) (F Z : Hp) (E : VEnds) (Rd : Ends), Lk C.K F Z W E Rd → ∀ F1 σ1 env1, Same F F1 → Envs C.K F1 σ1 env1 → Thr C.K F1 Z (wAll C.K W Rd ul) σ1 (exW C.K E l env1)
theorem vcl_nil : VCl C R [] [] := ⟨[], fun j W tk => .nil, fun W F Z E Rd lk F1 σ1 env1 sm en => lk.ex F1 σ1 env1 sm en⟩
theorem vcl_cons {x n : Str} {cl : Addr} {i : Nat} {suite : List Stmt} {b0 : Stmt} {np pos' : Pos} {hds : List ExceptHandler} {l : List (Addr × Nat × (Addr → Addr → Addr → WS))} {su : Addr → Addr → Addr → WS} (T : ExcT C x cl)
    (hsu : ∀ a Cl dd, VSs C (SuR R a (.ref Cl) (some dd)) (b0 :: suite) (su a Cl dd)) (r : VCl C R hds l) (hi : ∀ j, (R j).N[i]? = some n := by exact fun _ => rfl) (hln : ∀ j, (R j).env.kindOf n = some .local := by exact fun _ => rfl)
    (hg : ∀ j, Gl (C.at (R j)) x := by exact fun _ => rfl) (hdb : (x == ("__debug__" : Str)) = false := by decide) : VCl C R (.ExceptHandler (some (.Name x np)) (some n) (b0 :: suite) pos' :: hds) ((cl, i, su) :: l) := by
  obtain ⟨ul, h1, h2⟩ := r
  have cs := fun (z : Addr × Addr × Addr) => hsu z.1 z.2.1 z.2.2 W0
  let us : Addr → Value → Option Addr → TS := fun a cls d => match cls, d with
    | .ref Cl, some dd => Classical.choose (cs (a, Cl, dd))
    | _, _ => tNever
  refine ⟨(.ref cl, i, us) :: ul, fun j W tk => .cons (hi j) (hln j) ⟨hg j, hdb, .inl T.mgC⟩ (fun a oe cls d pn hz hf' => ?_) (h1 j W tk), fun W F Z E Rd lk F1 σ1 env1 sm1 en1 => ?_⟩
  · match cls, d, hz with
    | .ref Cl, some dd, hz => exact (Classical.choose_spec (cs (a, Cl, dd))).1 (j, ⟨oe, pn, hz, hf'⟩) ⟨takes0, PassesOwn.never⟩
    | .ref Cl, none, hz => exact pss_never
    | .none, _, hz => exact pss_never
    | .bool _, _, hz => exact pss_never
    | .int _ _, _, hz => exact pss_never
    | .float _ _, _, hz => exact pss_never
    | .str _ _, _, hz => exact pss_never
    | .bytes _ _, _, hz => exact pss_never
    | .type _, _, hz => exact pss_never
    | .builtin _, _, hz => exact pss_never
    | .ellipsis, _, hz => exact pss_never
    | .notImplemented, _, hz => exact pss_never
  · intro Cl y S' H' F' dd v sm2 ok2 hx hy q
    obtain ⟨t, ht, q⟩ := q
    refine ⟨t, ht, fun e => ?_, fun e => ?_⟩
    · subst e
      rw [if_pos rfl] at q
      intro a na
      have ss := (Classical.choose_spec (cs (a, Cl, dd))).2
      have lk2 := lk.mono (sm1.trans sm2)
      refine ss _ H' F' Z _ S' ⟨fun e2 => E.nx (forget e2 i), E.rt, fun e2 => E.bk (forget e2 i), fun e2 => E.ct (forget e2 i), fun _ => NoEx⟩ _ ok2 ((en1.mono sm2).put (d := .exc a Cl dd y) (v := .ref a) ⟨rfl, v, hx, hy⟩ i) ⟨?_, lk2.rt, ?_, ?_, fun F5 σ5 env5 sm5 en5 => thr0⟩ (q a dd)
      · exact fun F5 σ5 H5 env5 S5 sm5 ok5 en5 q5 => lk2.nx F5 _ H5 _ S5 sm5 ok5 (en5.gone i) q5
      · exact fun F5 σ5 H5 env5 S5 sm5 ok5 en5 q5 => lk2.bk F5 _ H5 _ S5 sm5 ok5 (en5.gone i) q5
      · exact fun F5 σ5 H5 env5 S5 sm5 ok5 en5 q5 => lk2.ct F5 _ H5 _ S5 sm5 ok5 (en5.gone i) q5
    · subst e
      rw [if_neg Bool.false_ne_true] at q
      exact h2 W F Z E Rd lk F1 σ1 env1 sm1 en1 Cl y S' H' F' dd v sm2 ok2 hx hy q
theorem vs_tryA {body : List Stmt} {h0 : ExceptHandler} {hds : List ExceptHandler} {pos : Pos} {b : WS} {l : List (Addr × Nat × (Addr → Addr → Addr → WS))} (hN : ∀ j, (R j).N.Nodup) (hb : VSs C (TryR R) body b) (hc : VCl C R (h0 :: hds) l)
    (hs : ∀ j, (R j).stack = (R j).env :: (R j).outer := by exact fun _ => rfl) (hf : ∀ j, (R j).env.frame = some (R j).env.locals := by exact fun _ => rfl) :
    VS C R (.Try body (h0 :: hds) [] [] pos) (vTryA C.K b l) := fun W => by
  have cb := fun W' => hb W'
  let ub : WX → TS := fun W' => Classical.choose (cb W')
  obtain ⟨ul, h1, h2⟩ := hc
  refine ⟨fun D σ H => ub (wAll C.K W D ul) D σ H, fun j tk => ps_try_all (X := C.at (R j)) (tb := ub) (Wout := W) (hs j) (hf j) (hN j) tk.tk
    (fun W' pn xe tk' pv => (Classical.choose_spec (cb W')).1 (j, (pn, xe)) ⟨tk', pv⟩) (h1 j W tk), fun σ H F Z env S E Rd ok en lk h => ?_⟩
  have sb := (Classical.choose_spec (cb (wAll C.K W Rd ul))).2
  refine sb σ H F Z env S { E with ex := fun e1 => exW C.K E l e1 } Rd ok en ⟨lk.nx, lk.rt, lk.bk, lk.ct, fun F1 σ1 env1 sm1 en1 => h2 W F Z E Rd lk F1 σ1 env1 sm1 en1⟩ h
end
section
variable {C : Cmn} {ι : Type} {R : ι → Rst}
/-- .. and the store forgets the object in slot i -/
def vDrop (i : Nat) (t : WE) : WE := fun env S Q E => t env S (fun d S1 => match nth env i with
  | some (.ref p) => Q d (sdel S1 p)
  | _ => False) E
@[simp ↓] theorem vDrop_eq (i : Nat) (t : WE) (env) (S) (Q) (E) : vDrop i t env S Q E = (t env S (fun d S1 => match nth env i with
  | some (.ref p) => Q d (sdel S1 p)
  | _ => False) E) := id rfl
theorem ve_drop {e : Expr} {t : WE} (i : Nat) (h : VE C R e t) : VE C R e (vDrop i t) := fun W => by
  obtain ⟨u, p, s⟩ := h W
  refine ⟨u, p, fun σ H F Z env S Q Ex Rd ok en th k q => s σ H F Z env S _ Ex _ ok en th (fun v H' F' S' d sm ok' r q' => ?_) q⟩
  split at q'
  · rename_i a e
    refine k v H' F' (sdel S' a) d sm (ok'.less fun b o eb => ?_) r q'
    unfold sdel at eb
    split at eb
    · cases eb
    · exact eb
  · exact q'.elim
end
end L3

set_option Elab.async false
set_option linter.all false
set_option maxRecDepth 100000
set_option maxHeartbeats 4000000
/-! The value layer: what is turned round, the least of ints. -/
namespace L3
open PySem PySem.Spec PyProof.Rows L2
section
variable {prog : Program} {w : World} {A : Around} {E : Value → Shared → Prop} {s : Shared}
theorem adj_back (n : Nat) : Builtin.Slice.sliceAdjust none none (-1) (n : Int) = ((n : Int) - 1, -1) := by
  unfold Builtin.Slice.sliceAdjust
  simp
theorem places_back (n : Nat) : Builtin.Slice.slicePlaces ((n : Int) - 1) (-1) (-1) = n := by
  unfold Builtin.Slice.slicePlaces
  have h1 : ¬ ((-1 : Int) > 0) := by omega
  simp only [h1, if_false]
  split
  · have e : ((n : Int) - 1 - -1 - 1) / - -1 = (n : Int) - 1 := by
      rw [show (- -1 : Int) = 1 from rfl, Int.ediv_one]; omega
    rw [e]; omega
  · omega
theorem fm_congr {α β : Type} {f g : α → Option β} : ∀ {l : List α}, (∀ x ∈ l, f x = g x) → l.filterMap f = l.filterMap g
  | [], _ => rfl
  | x :: l, h => by
    rw [List.filterMap_cons, List.filterMap_cons, h x List.mem_cons_self, fm_congr fun y hy => h y (List.mem_cons_of_mem _ hy)]
theorem pick_back (xs : Array Value) : ((List.range xs.size).filterMap fun (m : Nat) => xs[(((xs.size : Int) - 1) + (m : Int) * (-1)).toNat]?).toArray = xs.toList.reverse.toArray := by
  congr 1
  have e : (List.range xs.size).filterMap (fun (m : Nat) => xs[(((xs.size : Int) - 1) + (m : Int) * (-1)).toNat]?) = (List.range xs.toList.reverse.toArray.size).filterMap (xs.toList.reverse.toArray[·]?) := by
    rw [show xs.toList.reverse.toArray.size = xs.size by simp]
    refine fm_congr fun m hm => ?_
    have hlt := List.mem_range.mp hm
    have e1 : (((xs.size : Int) - 1) + (m : Int) * (-1)).toNat = xs.size - 1 - m := by omega
    have hl : m < xs.toList.length := by rw [Array.length_toList]; exact hlt
    show xs[_]? = xs.toList.reverse.toArray[m]?
    have a : xs.toList.reverse[m]? = xs.toList[xs.toList.length - 1 - m]? := List.getElem?_reverse hl
    rw [e1, show xs.toList.reverse.toArray[m]? = xs.toList.reverse[m]? from List.getElem?_toArray .., a, Array.length_toList, Array.getElem?_toList]
  rw [e, PySem.W.krv_all]
theorem applied_back {sl : Addr} {t : Tok} {n : Nat} {Q : Int × Int × Nat → Shared → Prop} (hs : s.heap.IsSliceOf sl .none .none (.int (-1) t)) (h : Q ((n : Int) - 1, -1, n) s) : wpAny (model prog w) A (Builtin.Slice.sliceApplied (.ref sl) (pure (n : Int))) Q E s := by
  obtain ⟨os, g1, g2, g3⟩ := id hs
  unfold Builtin.Slice.sliceApplied Builtin.Slice.sliceFields
  refine wpAny_bind (wpAny_bind (wpAny_field g1 g3 (x := Value.none) rfl (wpAny_bind (wpAny_field g1 g3 (x := Value.none) rfl (wpAny_bind (wpAny_field g1 g3 (x := Value.int (-1) t) rfl (wpAny_pure ?_)))))))
  refine wpAny_bind (HT.slicePart_ (IsPart.int (-1) t) ?_)
  show wpAny _ _ (if ((-1 : Int) == 0) = true then _ else _) _ _ s
  rw [if_neg (by decide)]
  refine wpAny_bind (HT.slicePart_ IsPart.none (wpAny_bind (HT.slicePart_ IsPart.none (wpAny_bind (wpAny_pure ?_)))))
  show wpAny _ _ (match Builtin.Slice.sliceAdjust none none (-1) (n : Int) with | (a, b) => pure (a, (-1 : Int), Builtin.Slice.slicePlaces a b (-1))) _ _ s
  rw [adj_back n]
  show wpAny _ _ (pure ((n : Int) - 1, (-1 : Int), Builtin.Slice.slicePlaces ((n : Int) - 1) (-1) (-1))) _ _ s
  rw [places_back]
  exact wpAny_pure h
theorem item_back {t sl : Addr} {tk : Tok} {items : Array Value} {Q : Value → Shared → Prop} (ht : IsTup s.heap t items) (hs : s.heap.IsSliceOf sl .none .none (.int (-1) tk))
    (h : Q (.ref s.heap.objs.size) { s with heap := s.heap.push { cls := .type "tuple", data := .seq items.toList.reverse.toArray } }) (hsz : items.size ≤ sizeLine) : wpAny (model prog w) A (getItem (.ref t) (.ref sl)) Q E s := by
  have hok : sizeOk (.seq items.toList.reverse.toArray) := by
    show items.toList.reverse.toArray.size ≤ sizeLine
    simpa using hsz
  obtain ⟨os, g1, g2, g3⟩ := id hs
  have tS : s.TypeIs (.ref sl) "slice" := ⟨os, g1, g2⟩
  unfold getItem
  try (with_reducible refine wpAny_holding ?_)
  first | (refine wpAny_bind (wpAny_pure ?_)) | skip
  refine wpAny_bind (wpAny_sequenceKey ht.typeIs (by decide) <| wpAny_bind <| wpAny_callSpecial?_slot (name := Str.ofString "__getitem__") ht.typeIs PyProof.Rows.slot_tuple_getitem (wpAny_call_entry PyProof.Rows.slot_tuple_getitem ht.typeIs entry_tuple_getitem ?_ (args_tuple_getitem _ _)))
  refine wpAny_bind (m := Builtin.Tuple.tupleItemsOf (.ref t)) (tupleItemsOf_ ht (wpAny_bind (wpAny_typeOf tS ?_)))
  rw [if_pos (by decide)]
  refine wpAny_bind (applied_back hs ?_)
  have hno : ¬ ((((items.size : Int) - 1) == 0 && (-1 : Int) == 1 && items.size == items.size) = true) := by simp
  show wpAny _ _ (if (((items.size : Int) - 1) == 0 && (-1 : Int) == 1 && items.size == items.size) = true then _ else _) _ _ s
  rw [if_neg hno, pick_back]
  first
    | exact wpAny_bind (m := Builtin.Tuple.tupleExact _) (wpAny_newObj_type (wpAny_pure ⟨_, rfl, wpAny_pure h⟩) hok)
    | exact wpAny_bind (m := Builtin.Tuple.tupleExact _) (wpAny_newObj_type (wpAny_bind (wpAny_pure (wpAny_pure ⟨_, rfl, wpAny_pure h⟩))) hok)
    | exact wpAny_bind (wpAny_bind (m := Builtin.Tuple.tupleExact _) (wpAny_newObj_type (wpAny_pure (wpAny_pure ⟨_, rfl, wpAny_pure h⟩)) hok))
    | exact wpAny_bind (wpAny_bind (m := Builtin.Tuple.tupleExact _) (wpAny_newObj_type (wpAny_pure ⟨_, rfl, wpAny_pure h⟩) hok))
end
def tBack (K : PySem.W.Frag) (te : TE) : TE := fun σ H Q => te σ H fun x H1 => (∃ a xs, x = .ref a ∧ SqT K H1 a xs ∧ ∀ p, H1 p = none → Q (.ref p) (upd H1 p (.tup xs.reverse))) ∨ ∃ a xs, x = .ref a ∧ SqL K H1 a xs ∧ ∀ p, H1 p = none → Q (.ref p) (upd H1 p (.lst xs.reverse))
theorem pe_back {X : Cx} {e : Expr} {te : TE} {k : Nat} {p1 p2 p3 pos : Pos} (he : PE X e te) : PE X (.Subscript e (.Slice none none (some (.UnaryOp .USub (.Constant (.int 1) k p1) p2)) p3) pos) (tBack X.K te) := by
  refine ⟨fun pins s σ H Q I h => Subscript_ (thn (he.run pins s σ H _ I h) fun v s1 z => ?_)⟩
  obtain ⟨x, H1, I1, r1, q1⟩ := z
  have step : PO X (some (.UnaryOp .USub (.Constant (.int 1) k p1) p2)) (tPart (tUn (rU fun i => .int (-i)) (tC (.int 1)))) := po_some (pe_un un_neg pe_int)
  refine wpAny_Slice (thn (po_none.run pins s1 σ H1 (fun o G => o = none ∧ G = H1) I1 ⟨rfl, rfl⟩) fun vl s2 z => ?_)
  obtain ⟨l, G2, I2, pl, el, e2⟩ := z
  subst el e2
  refine thn (po_none.run pins s2 σ G2 (fun o G => o = none ∧ G = G2) I2 ⟨rfl, rfl⟩) fun vu s3 z => ?_
  obtain ⟨u, G3, I3, pu, eu, e3⟩ := z
  subst eu e3
  refine thn (step.run pins s3 σ G3 (fun o G => o = some (-1) ∧ G = G3) I3 ⟨1, rfl, -1, rfl, rfl, rfl⟩) fun vs s4 z => ?_
  obtain ⟨o, G4, I4, ps, eo, e4⟩ := z
  subst eo e4
  cases pl
  cases pu
  cases ps with
  | int _ tk =>
  have I5 : Inv X pins σ G4 { s4 with heap := s4.heap.push { cls := .type "slice", data := .fields #[.none, .none, .int (-1) tk] } } := I4.kept (t' := s4.toks) fun b ob q => Heap.get?_push_of_some _ q
  rcases q1 with ⟨a, xs, rfl, hx, q⟩ | ⟨a, xs, rfl, hx, q⟩
  · cases r1
    obtain ⟨its, r, ht, hz⟩ := I5.tuple hx
    have hl := r.length
    show wpAny (model X.prog X.w) X.A (subscriptTail e (.Slice none none (some (.UnaryOp .USub (.Constant (.int 1) k p1) p2)) p3) (.ref a) (.ref s4.heap.objs.size)) (EP X pins σ Q) X.xe { s4 with heap := s4.heap.push { cls := .type "slice", data := .fields #[.none, .none, .int (-1) tk] } }
    refine tail_any (ops := [.ref a, .ref s4.heap.objs.size]) ht.typeIs PyProof.Rows.slot_tuple_getitem.lookup ?_ (by with_unfolding_all rfl)
    refine item_back ht (Heap.IsSliceOf.new _ .none .none (.int (-1) tk)) ?_ (by rw [List.size_toArray]; omega)
    refine ⟨.ref _, _, I5.laid (t' := s4.toks) (o := .tup xs.reverse) (fun b ob q => Heap.get?_push_of_some _ q) (Nat.le_refl _) ?_, rfl, q _ (I5.hok.fresh (Nat.le_refl _))⟩
    exact ⟨by rw [List.length_reverse]; exact hz, _, by simpa using r.reverse, IsTup.new _ _⟩
  · cases r1
    obtain ⟨its, r, ht, hz⟩ := I5.list hx
    have hl := r.length
    show wpAny (model X.prog X.w) X.A (subscriptTail e (.Slice none none (some (.UnaryOp .USub (.Constant (.int 1) k p1) p2)) p3) (.ref a) (.ref s4.heap.objs.size)) (EP X pins σ Q) X.xe { s4 with heap := s4.heap.push { cls := .type "slice", data := .fields #[.none, .none, .int (-1) tk] } }
    refine tail_any (ops := [.ref a, .ref s4.heap.objs.size]) ht.isList.typeIs (PySem.slot_list_getitem.lookup) ?_ (by with_unfolding_all rfl)
    refine wpAny_getItem_list_slice ht.isList (Heap.IsSliceOf.new _ .none .none (.int (-1) tk)) .none .none (.int (-1) tk) (by decide) ?_ (by rw [List.size_toArray]; omega)
    rw [PySem.W.krv_pick]
    refine ⟨.ref _, _, I5.laid (t' := s4.toks) (o := .lst xs.reverse) (fun b ob q => Heap.get?_push_of_some _ q) (Nat.le_refl _) ?_, rfl, q _ (I5.hok.fresh (Nat.le_refl _))⟩
    exact ⟨Nat.le_trans (Nat.le_of_eq List.length_reverse) hz, _, 0, r.reverse, Heap.get?_push_size _ rfl⟩
section
variable {C : Cmn} {ι : Type} {R : ι → Rst} {K : PySem.W.Frag} {W : WX}
/-- t[::-1], t a tuple or a list (the new list frozen at once) -/
def vBack (te : WE) : WE := fun env S Q E => te env S (fun d S1 => match d with
  | .tup xs => Q (.tup xs.reverse) S1
  | .lst xs => Q (.lst xs.reverse) S1
  | .fix xs => Q (.lst xs.reverse) S1
  | .ref p => match S1 p with
    | some (.lst xs) => Q (.lst xs.reverse) S1
    | _ => False
  | _ => False) E
@[simp ↓] theorem vBack_eq (te : WE) (env) (S) (Q) (E) : vBack te env S Q E = (te env S (fun d S1 => match d with
  | .tup xs => Q (.tup xs.reverse) S1
  | .lst xs => Q (.lst xs.reverse) S1
  | .fix xs => Q (.lst xs.reverse) S1
  | .ref p => match S1 p with
    | some (.lst xs) => Q (.lst xs.reverse) S1
    | _ => False
  | _ => False) E) := id rfl
theorem ve_back {e : Expr} {te : WE} {k : Nat} {p1 p2 p3 pos : Pos} (h : VE C R e te) : VE C R (.Subscript e (.Slice none none (some (.UnaryOp .USub (.Constant (.int 1) k p1) p2)) p3) pos) (vBack te) := fun W => by
  obtain ⟨u, p, s⟩ := h W
  refine ⟨tBack C.K u, fun i tk => pe_back (X := C.at (R i)) (p i tk), fun σ H F Z env S Q Ex Rd ok en th k h => s σ H F Z env S _ Ex _ ok en th (fun v H1 F1 S1 d sm1 ok1 r1 q1 => ?_) h⟩
  split at q1
  · obtain ⟨a, vs, rfl, h1, h2⟩ := r1
    exact .inl ⟨a, vs, rfl, same_sqt ok1.fro h1.sq, fun p hp => (k.mono sm1).tup ok1 hp h2.reverse q1⟩
  · obtain ⟨a, vs, rfl, h1, h2⟩ := r1
    exact .inr ⟨a, vs, rfl, SqL.of (ok1.fro _ _ h1), fun p hp => (k.mono sm1).lst ok1 hp h2.reverse q1⟩
  · obtain ⟨a, vs, rfl, h1, h2⟩ := r1
    exact .inr ⟨a, vs, rfl, ok1.fro.seq h1, fun p hp => (k.mono sm1).lst ok1 hp h2.reverse q1⟩
  · split at q1
    · rename_i hp0
      cases (show v = _ from r1)
      obtain ⟨_, ho, h1, vs, rfl, h2⟩ := ok1.own _ _ hp0
      exact .inr ⟨_, vs, rfl, SqL.of h1, fun p hp => (k.mono sm1).lst ok1 hp h2.reverse q1⟩
    · exact q1.elim
  · exact q1.elim
/-- min(i, j); min of a list of ints -/
def RMin (ds : List D) (S : Sto) (Q : VQ) (_ : Hold Q) : Prop := ∃ ns : List Int, ds = [.lst (ns.map D.int)] ∧ 0 < ns.length ∧ ∀ m, m ∈ ns → (∀ y, y ∈ ns → m ≤ y) → Q (.int m) S
def rMin : RCV := fun ds S Q => match ds with
  | [.int i, .int j] => Q (.int (if j < i then j else i)) S
  | ds => RMin ds S Q .mk
@[simp ↓] theorem rMin_eq (ds) (S) (Q) : rMin ds S Q = (match ds with
  | [.int i, .int j] => Q (.int (if j < i then j else i)) S
  | ds => RMin ds S Q .mk) := id rfl
theorem cv_min (hc : ∀ i, (R i).calm = true := by exact fun _ => rfl) : CallV C R (.builtin "min") rMin := by
  refine ⟨fun xs H Q => (∃ i j, xs = [.int i, .int j] ∧ Q (.int (if j < i then j else i)) H) ∨ L2.rMin C.K xs H Q, fun i => CallR.or (X := C.at (R i)) (call_min2 (hc i)) (cr_min (hc i)), fun F Z S H vs ds Q Rd ok r k h => ?_⟩
  unfold rMin at h
  split at h
  · obtain ⟨v, w, rfl, r1, r2⟩ := reps2 r
    cases (show v = _ from r1); cases (show w = _ from r2)
    exact .inl ⟨_, _, rfl, k _ _ _ _ (.int _) (Same.refl F) ok rfl h⟩
  · obtain ⟨ns, rfl, hn, q⟩ := h
    obtain ⟨v, rfl, a, vs, rfl, h1, h2⟩ := reps1 r
    have e := h2.ints
    subst e
    exact .inr ⟨a, ns, rfl, SqL.of (ok.fro _ _ h1), hn, fun m h3 h4 => k _ _ _ _ (.int _) (Same.refl F) ok rfl (q m h3 h4)⟩
end
end L3

set_option Elab.async false
set_option linter.all false
set_option maxRecDepth 100000
set_option maxHeartbeats 4000000
/-! The value layer: {k: v for ..} whose keys are tuples. -/
namespace L3
open PySem PySem.Spec PyProof.Rows L2
section
variable {X : Cx}
/-- a comprehension's d[k] = v, k a tuple -/
theorem dt_set {pins : List (Addr × Obj)} {σ : L2.St} {H : Hp} {s : Shared} {E : Value → Shared → Prop} {dd b : Addr} {kvs : List (List Key × V)} {k : List Key} {v : V} {r : Value} {Q : Unit → Shared → Prop} (hu : X.A.units + 1 < cLine) (I : Inv X pins σ H s)
    (e : H dd = some (.dT kvs)) (eb : H b = some (.tup (k.map kV))) (l : kvs.length < sizeLine) (rv : RelV v r) (h : ∀ t, Inv X pins σ (upd H dd (.dT (putK kvs k v))) t → Q () t) : wpAny (model X.prog X.w) X.A (dictSet dd (.ref b) r) Q E s := by
  obtain ⟨z, y, xs, rel, old⟩ := dt_of I.hok e
  have z1 : xs.length ≤ sizeLine := (Paired.length rel).symm ▸ z
  have z2 : (putK kvs k v).length ≤ sizeLine := by have := length_putK kvs k v; omega
  refine wpAny_dictSet_heap (hsz := z1) (show X.A.units < cLine by omega) (key_of I.hok eb) old fun g new same => h _ ?_
  obtain ⟨q, es, ep, a1, a2, a3, a4, _, a5⟩ := new
  refine d_write I (by rw [e]; exact True.intro) same ⟨q, a1⟩ ⟨z2, y, _, (rel.put k eb rv).keeps fun c ys ec => ?_, q, es, ep, a1, a2, a3, a4, a5⟩
  exact (upd_ne (ne_of ec e (fun z => nomatch z))).trans ec
/-- {k: v for target in iter}: D the new dict -/
def tDt (wi : TI) (g : TG) (tk tv : TE) (vs : List Nat) : TE := fun σ H Q => wi σ H fun J H1 => ∀ D, H1 D = none → ∃ W : Nat → Nat → Hp → Prop, (∃ m, W 0 m (upd H1 D (.dT []))) ∧ ∀ i m H, W i m H →
  (J.stop i H ∧ Q (.ref D) H) ∨ (J.go i H ∧ ∃ Nx : Hp → Prop, (∀ H', Nx H' → ∃ m', m' < m ∧ W (i + 1) m' H') ∧ ∀ x H', J.yld i H x H' → g x (wipe σ vs) H' fun σ2 H2 => wipe σ2 vs = wipe σ vs ∧
    tk σ2 H2 fun y H4 => tv σ2 H4 fun z H5 => ∃ kvs k b, y = .ref b ∧ H5 b = some (.tup (k.map kV)) ∧ H5 D = some (.dT kvs) ∧ kvs.length < sizeLine ∧ Nx (upd H5 D (.dT (putK kvs k z))))
abbrev dComp (kx vx tg iter : Expr) (scope : Scope) (pos : Pos) : Expr := .DictComp kx vx [⟨tg, iter, [], 0⟩] scope pos
/-- what the parts of such a comprehension are read as -/
structure DParts (X : Cx) (kx vx tg iter : Expr) (scope : Scope) (own : List (Str × Nat)) (wi : TI) (g : TG) (tk tv : TE) : Prop where
  calm : X.calm = true
  room : X.A.units + 1 < cLine
  nd : X.N.Nodup
  it : PI X tg iter wi
  ok : BlkOk X.N X.env.scope scope own
  tg : ∀ (s : Shared) (H : Hp) (C : Addr) (cl : List (Str × Addr)) (fp : List Addr), PG (X.blk s H scope (compEnvC scope cl C X.env) fp) tg g
  k : ∀ (s : Shared) (H : Hp) (C : Addr) (cl : List (Str × Addr)) (fp : List Addr), PE (X.blk s H scope (compEnvC scope cl C X.env) fp) kx tk
  v : ∀ (s : Shared) (H : Hp) (C : Addr) (cl : List (Str × Addr)) (fp : List Addr), PE (X.blk s H scope (compEnvC scope cl C X.env) fp) vx tv
  fold : ∀ x, foldedSetIterable iter X.env x = pure x
theorem dt_comp {pins : List (Addr × Obj)} {s : Shared} {σ : L2.St} {H : Hp} {Q : VK} {kx vx tg iter : Expr} {scope : Scope} {own : List (Str × Nat)} {pos pos' : Pos} {wi : TI} {g : TG} {tk tv : TE} {use : Option (Value → Sem Unit)} {Qf : Value → Shared → Prop}
    (P : DParts X kx vx tg iter scope own wi g tk tv) (I : Inv X pins σ H s) (h : tDt wi g tk tv (own.map (·.2)) σ H Q)
    (fin : ∀ D C s' m H', Inv X pins σ H' s' → Q (.ref D) H' → s'.heap.Ns C m → FpOk X pins H' C → compPost (model X.prog X.w) X.A X.xe use Qf (.ref D) C (.ok .next) s') :
    wpAny (model X.prog X.w) X.A (comprehension (dComp kx vx tg iter scope pos) scope X.env pos' newDict false (eval iter X.env) use) Qf X.xe s := by
  have outs : ∀ y ∈ scope.names, y.2 = .free → ∃ c, X.env.cells.lookup y.1 = some c := fun y hy e => (P.ok.free y hy e).elim (fun z => I.ok.has _ (.inl z)) fun z => I.ok.has _ (.inr z)
  refine wpAny_comprehension_free (use := use) rfl P.fold (closure_ok outs) P.ok.kind (fun y hy e => by rw [P.ok.uniq y hy, e]) (thn (P.it.run pins s σ H _ I h) fun xv s1 z1 => thn z1 fun itv s2 z2 => ?_)
  obtain ⟨it, ch, at_, J, G2, rfl, I2, Tn, here, own2, q⟩ := z2
  refine wpAny_newObj_type (newEnv_comp ?_)
  obtain ⟨W, ⟨m0, start0⟩, turn⟩ := q s2.heap.objs.size (I2.hok.fresh (Nat.le_refl _))
  generalize dd : s2.heap.objs.size = D at start0 turn
  -- the dict is laid
  have lay : Inv X pins σ (upd G2 D (.dT [])) { s2 with heap := s2.heap.push { cls := .type "dict", data := .dict #[] } } :=
    I2.laid (t' := s2.toks) (fun b o e => Heap.get?_push_of_some _ e) (Nat.le_of_eq dd) (dd ▸ dt_empty s2.heap I2.big)
  have small : ∀ b ∈ ch, b < s2.heap.objs.size := fun b hb => by
    obtain ⟨o, e, _⟩ := Tn.obj _ _ here b hb
    exact Heap.lt_size e
  have own3 : ∀ b ∈ ch, FpOk X pins (upd G2 D (.dT [])) b ∧ b < (s2.heap.push { cls := .type "dict", data := .dict #[] }).objs.size := fun b hb => by
    have lt := small b hb
    obtain ⟨f0, f1⟩ := own2 b hb
    exact ⟨⟨by rw [upd_ne (Nat.ne_of_lt (dd ▸ lt))]; exact f0, f1⟩, by rw [Heap.size_push]; exact Nat.lt_succ_of_lt lt⟩
  have here3 : at_ 0 (s2.heap.push { cls := .type "dict", data := .dict #[] }) := Tn.keep _ _ _ here fun b _ o e => Heap.get?_push_of_some _ e
  generalize e3 : ({ s2 with heap := s2.heap.push { cls := .type "dict", data := .dict #[] } } : Shared) = s3 at lay
  have h3 : s3.heap = s2.heap.push { cls := .type "dict", data := .dict #[] } := by rw [← e3]
  rw [← h3] at own3 here3
  have I4 := block_start lay P.ok P.nd own3
  have pg := P.tg s3 (upd G2 D (.dT [])) s3.heap.objs.size (cellsFrom (s3.heap.objs.size + 1) scope.names (cloFrom X.env.cells scope.names [])) ch
  have pk := P.k s3 (upd G2 D (.dT [])) s3.heap.objs.size (cellsFrom (s3.heap.objs.size + 1) scope.names (cloFrom X.env.cells scope.names [])) ch
  have pv := P.v s3 (upd G2 D (.dT [])) s3.heap.objs.size (cellsFrom (s3.heap.objs.size + 1) scope.names (cloFrom X.env.cells scope.names [])) ch
  show codeAny _ _ (.compStart (dComp kx vx tg iter scope pos) 0 (.ref it) (.ref D) (compEnvC scope (cellsFrom (s3.heap.objs.size + 1) scope.names (cloFrom X.env.cells scope.names [])) s3.heap.objs.size X.env)) (compPost (model X.prog X.w) X.A X.xe use Qf (.ref D) s3.heap.objs.size) { s3 with heap := pushCells (s3.heap.push { cls := .type "dict", data := .dict #[] }) scope.names }
  have off : ∀ b ∈ ch, (upd G2 D (.dT [])) b = none := fun b hb => (own3 b hb).1.1
  generalize hce : compEnvC scope (cellsFrom (s3.heap.objs.size + 1) scope.names (cloFrom X.env.cells scope.names [])) s3.heap.objs.size X.env = ce at I4 pg pk pv ⊢
  have ceL : ce.locals = s3.heap.objs.size := hce ▸ rfl
  generalize hG : upd G2 D (.dT []) = G3 at lay I4 pg pk pv start0 off own3
  generalize e4 : ({ s3 with heap := pushCells (s3.heap.push { cls := .type "dict", data := .dict #[] }) scope.names } : Shared) = s4 at I4 ⊢
  have here4 : at_ 0 s4.heap := Tn.keep _ _ _ here3 fun b _ o e => by rw [← e4]; exact pushCells_keeps _ _ _ _ (Heap.get?_push_of_some _ e)
  have fits : ∀ {τ : L2.St} {G : Hp} {t : Shared}, Inv (X.blk s3 G3 scope ce ch) [] τ G t → (∀ b ∈ ch, G b = none) → ∀ b ∈ ch, FpOk (X.blk s3 G3 scope ce ch) [] G b := fun {τ G t} J hn b hb =>
    ⟨hn b hb, (J.ok.exf b hb).1, J.ok.exfs b hb, .inl hb, fun x c e => (J.ok.exf b hb).2 x c e, fun p hp => absurd (show p ∈ ([] : List (Addr × Obj)) ++ [] from hp) (by simp)⟩
  have loop : codeAny (model X.prog X.w) X.A (.compLoop (dComp kx vx tg iter scope pos) 0 (.ref it) (.ref D) ce) (compPost (model X.prog X.w) X.A X.xe use Qf (.ref D) s3.heap.objs.size) s4 := by
    refine compLoop_anyD (fun n t => ∃ i G, Inv (X.blk s3 G3 scope ce ch) [] (wipe σ (own.map (·.2))) G t ∧ at_ i t.heap ∧ (∀ b ∈ ch, G b = none) ∧ W i n G) ?_ m0 ⟨0, G3, I4, here4, off, start0⟩
    rintro n t5 ⟨i, G5, I5, at5, off5, w5⟩
    rcases turn i n G5 w5 with ⟨stop, qq⟩ | ⟨go, Nx, toW, step⟩
    · refine thnF (Tn.done (X.blk s3 G3 scope ce ch) rfl rfl rfl P.calm i [] t5 _ G5 (fun _ _ => False) I5 (fits I5 off5) at5 stop) fun r t6 z => ?_
      obtain ⟨rfl, I6⟩ := z
      have I7 : Inv X pins σ G5 t6 := lay.call' (ch := ch) I6.os I6.base I6.hok I6.bare fun b hb => ⟨(own3 b hb).1.2.2.2.1, (own3 b hb).1.2.1, (own3 b hb).1.2.2.2.2.1, (own3 b hb).1.2.2.2.2.2⟩
      have nC : G5 s3.heap.objs.size = none := ceL ▸ I6.free
      obtain ⟨m, hn, _⟩ := I6.loc
      exact fin D s3.heap.objs.size t6 m G5 I7 qq (ceL ▸ hn) (lay.fpOk (Nat.le_refl _) nC)
    · refine thnF (Tn.item (X.blk s3 G3 scope ce ch) rfl rfl rfl P.calm i [] t5 _ G5 (fun _ _ => False) I5 (fits I5 off5) at5 go) fun r t6 z => ?_
      obtain ⟨u, rfl, h6⟩ := z
      refine thnF h6 fun _ t7 z => ?_
      obtain ⟨x, G7, I7, r7, y7, at7, off7⟩ := z
      refine thnF (pg.run _ t7 _ G7 x u _ (I7.pinned (fits I7 off7) (Tn.obj _ _ at7)) r7 (step x G7 y7)) fun _ t8 z => ?_
      obtain ⟨τ, G8, I8, wp, q8⟩ := z
      refine thnF ((pts_nil (X := X.blk s3 G3 scope ce ch)).run _ t8 τ G8 (fun b G => b = true ∧ G = G8) I8 ⟨rfl, rfl⟩) fun b t9 z => ?_
      obtain ⟨G9, I9, rfl, rfl⟩ := z
      simp only [if_true]
      refine thnF (pk.run _ t9 τ G9 _ I9 q8) fun y t10 z => ?_
      obtain ⟨yk, G10, I10, r10, q10⟩ := z
      refine thnF (pv.run _ t10 τ G10 _ I10 q10) fun y2 t11 z => ?_
      obtain ⟨yv, G11, I11, r11, kvs, k, b, rfl, hb, hD, hl, nx⟩ := z
      cases (show y = Value.ref b from r10)
      refine dt_set (X := X.blk s3 G3 scope ce ch) P.room I11 hD hb hl r11 fun t12 I12 => ?_
      obtain ⟨m', less, w'⟩ := toW _ nx
      have pin : ∀ b ∈ ch, ∀ o, t7.heap.get? b = some o → t12.heap.get? b = some o ∧ (upd G11 D (.dT (putK kvs k yv))) b = none := fun b hb o e =>
        let z := I12.pin (b, o) (List.mem_append_right _ (List.mem_append_right _ (mem_pinsAt hb e)))
        ⟨z.1, z.2.1⟩
      refine ⟨m', less, i + 1, _, (I12.unpinned (pins := [])).weak (by rw [← wp, wipe_length]) (fun j v e => (wipe_some (wp ▸ e)).1), Tn.keep _ _ _ at7 fun b hb o e => (pin b hb o e).1, fun b hb => ?_, w'⟩
      obtain ⟨o, e, _⟩ := Tn.obj _ _ at7 b hb
      exact (pin b hb o e).2
  exact codeAny_compStart_dict loop (Tn.self X.A 0 _ _ _ here4 loop)
theorem pe_dt {kx vx tg iter : Expr} {scope : Scope} {own : List (Str × Nat)} {pos : Pos} {wi : TI} {g : TG} {tk tv : TE} (P : DParts X kx vx tg iter scope own wi g tk tv) : PE X (dComp kx vx tg iter scope pos) (tDt wi g tk tv (own.map (·.2))) := by
  refine ⟨fun pins s σ H Q I h => ?_⟩
  rw [arm_eval_DictComp]
  refine dt_comp P I h fun D C t m G J q hn f => ⟨m, hn, fun h2 sb => ?_⟩
  obtain ⟨f0, f1, f2, f3, f4, f5⟩ := f
  exact ⟨.ref D, G, J.turned (t' := t.toks) (fun b o hb e => (sb.2 b hb).trans e) f0 f1 f3 f4 f5, rfl, q⟩
theorem ps_dt {i : Nat} {y : Str} {py : Pos} {kx vx tg iter : Expr} {scope : Scope} {own : List (Str × Nat)} {pos spos : Pos} {wi : TI} {g : TG} {tk tv : TE} (P : DParts X kx vx tg iter scope own wi g tk tv) (hy : X.N[i]? = some y) (hyl : X.env.scope.names.lookup y = some .local)
    (hsw : swapsWith (dComp kx vx tg iter scope pos) (some (.Name y py)) spos.line X.env = pure true) : PS X (.Assign [.Name y py] (dComp kx vx tg iter scope pos) spos) (tAsg (tDt wi g tk tv (own.map (·.2))) (gName i)) := by
  refine ⟨fun pins s σ H E I h => ?_⟩
  rw [exec_Assign_Name_used _ _ _ _ hsw]
  refine wpAny_bind (wpAny_standAt (wpAny_bind ?_))
  show wpAny _ X.A (do let _ ← comprehension (dComp kx vx tg iter scope pos) scope X.env (firstIterPos [⟨tg, iter, [], 0⟩] pos) newDict false (eval iter X.env) (some (assign (.Name y py) X.env))) _ _ s
  have h' : tDt wi g tk tv (own.map (·.2)) σ H (fun x G => gName i x σ G E.nx) := h
  refine wpAny_bind (thn (dt_comp (Qf := fun _ t => SP X pins E .next t) P I h' fun D C t m G J q hn f => ?_) fun _ t hq => wpAny_pure (wpAny_pure hq))
  show wpAny _ _ (assign (.Name y py) X.env (.ref D)) _ _ _
  refine wpAny_assign_Name (store_ok2 (v := V.ref D) J P.nd hy (.inl hyl) rfl (fun t2 I2 z => ?_) (.inr hyl))
  obtain ⟨a, sb, ha⟩ := z
  obtain ⟨f0, f1, f2, f3, f4, f5⟩ := f
  have ne : C ≠ a := ha.elim (fun z => z ▸ f1) fun z e => f4 y a z e.symm
  exact ⟨m, hn.sameBut sb ne, fun h3 sb3 => ⟨_, G, I2.turned (t' := t2.toks) (fun b o hb e => (sb3.2 b hb).trans e) f0 f1 f3 f4 f5, q⟩⟩
end
end L3

set_option Elab.async false
set_option linter.all false
set_option maxRecDepth 100000
set_option maxHeartbeats 4000000
/-! The value layer: dict comprehensions, walks over dicts. -/
namespace L3
open PySem PySem.Spec PyProof.Rows L2
section
variable {C : Cmn} {ι : Type} {R : ι → Rst} {K : PySem.W.Frag} {W : WX}
theorem putK_new {κ : Type} [DecidableEq κ] {kvs : List (κ × V)} {k : κ} {v : V} (h : k ∉ kvs.map (·.1)) : putK kvs k v = kvs ++ [(k, v)] := by
  unfold putK
  rw [if_neg]
  rw [List.any_eq_true]
  rintro ⟨x, hx, e⟩
  exact h (List.mem_map.mpr ⟨x, hx, of_decide_eq_true e⟩)
/-- the turns of a dict comprehension over ys -/
def dtW (g : WG) (tk tv : WE) (G : Sto → Prop) (env : Env) (Qd : List (List Int) → List D → Sto → Prop) : List D → List (List Int) → List D → Sto → Prop
  | [], kk, xs, S => G S ∧ Qd kk xs S
  | y :: r, kk, xs, S => G S ∧ g y env S (fun e1 S1 => tk e1 S1 (fun kd S2 => tv e1 S2 (fun d S3 => ∃ k : List Int, kd = .tup (k.map D.int) ∧ k ∉ kk ∧ kk.length < sizeLine ∧ dtW g tk tv G env Qd r (kk ++ [k]) (xs ++ [d]) S3) NoEx) NoEx)
/-- .. kept as a whole -/
def DtC (g : WG) (tk tv : WE) (G : Sto → Prop) (env : Env) (Qd : List (List Int) → List D → Sto → Prop) (ys : List D) (S : Sto) (_ : Hold (g, tk, tv, G, env, Qd)) : Prop := dtW g tk tv G env Qd ys [] [] S
def vDt (wi : WI) (g : WG) (tk tv : WE) (vs : List Nat) : WE := fun env S Q E => wi env S (fun ys G S1 => DtC g tk tv G (wipeE env vs) (fun kk xs S2 => ∀ p, S2 p = none → Q (.ref p) (sup S2 p (.dT (dk kk) xs))) ys S1 .mk) E
@[simp ↓] theorem vDt_eq (wi : WI) (g : WG) (tk tv : WE) (vs : List Nat) (env) (S) (Q) (E) : vDt wi g tk tv vs env S Q E = (wi env S (fun ys G S1 => DtC g tk tv G (wipeE env vs) (fun kk xs S2 => ∀ p, S2 p = none → Q (.ref p) (sup S2 p (.dT (dk kk) xs))) ys S1 .mk) E) := id rfl
theorem snd_dt {Wa : WX} {wi : WI} {g : WG} {tk tv : WE} {vs : List Nat} {ui : TI} {ug : TG} {uk uv : TE} (si : SndI K Wa wi ui) (sg : SndG K g ug) (og : OnlyG ug vs) (sk : SndE K W0 tk uk) (sv : SndE K W0 tv uv)
    {σ : L2.St} {H : Hp} {F Z : Hp} {env : Env} {S : Sto} {Qd : List (List Int) → List D → Sto → Prop} {Ex : EX} {Rd : VK} (ok : Ok K F Z S H) (en : Envs K F σ env) (th : Thr K F Z Wa σ Ex)
    (k : ∀ F' S' H' D0 kk xs kvs, Same F F' → Z D0 = none → Ok K F' (upd Z D0 (.dT kvs)) S' H' → kvs.map (·.1) = dk kk → Reps K F' xs (kvs.map (·.2)) → Qd kk xs S' → Rd (.ref D0) H')
    (h : wi env S (fun ys G S1 => dtW g tk tv G (wipeE env vs) Qd ys [] [] S1) Ex) : tDt ui ug uk uv vs σ H Rd := by
  refine si σ H F Z env S _ _ _ ok en th (fun J H1 F1 S1 ys G sm1 ok1 it q1 => ?_) h
  intro D0 hD
  have hZ := ok1.newZ hD
  refine ⟨fun i m H' => m = ys.length - i ∧ i ≤ ys.length ∧ ∃ F2 S2 kk xs kvs, Same F1 F2 ∧ Ok K F2 (upd Z D0 (.dT kvs)) S2 H' ∧ kvs.map (·.1) = dk kk ∧ Reps K F2 xs (kvs.map (·.2)) ∧ dtW g tk tv G (wipeE env vs) Qd (ys.drop i) kk xs S2,
    ⟨_, rfl, Nat.zero_le _, F1, S1, [], [], [], Same.refl F1, ok1.newAside hD _, rfl, rfl, by rw [List.drop_zero]; exact q1⟩, ?_⟩
  rintro i m H2 ⟨rfl, hi, F2, S2, kk, xs, kvs, sm2, ok2, ek, ra, q2⟩
  by_cases hl : i < ys.length
  · rw [List.drop_eq_getElem_cons hl] at q2
    obtain ⟨hG, q2⟩ := q2
    refine .inr ⟨it.go i F2 _ S2 H2 hl sm2 ok2 hG, fun H' => ∃ F3 S3 kk3 xs3 kvs3, Same F1 F3 ∧ Ok K F3 (upd Z D0 (.dT kvs3)) S3 H' ∧ kvs3.map (·.1) = dk kk3 ∧ Reps K F3 xs3 (kvs3.map (·.2)) ∧ dtW g tk tv G (wipeE env vs) Qd (ys.drop (i + 1)) kk3 xs3 S3,
      fun H' n => ⟨ys.length - (i + 1), by omega, rfl, hl, n⟩, fun x H3 y => ?_⟩
    obtain ⟨F3, sm3, ok3, r3⟩ := it.yld i F2 _ S2 H2 x H3 _ sm2 ok2 hG y (List.getElem?_eq_getElem hl)
    have enw : Envs K F3 (L2.wipe σ vs) (wipeE env vs) := (en.wipe vs).mono (sm1.trans (sm2.trans sm3))
    refine og _ _ _ (fun σ2 H2 => ∃ F4 env4 S4, Same F3 F4 ∧ Ok K F4 (upd Z D0 (.dT kvs)) S4 H2 ∧ Envs K F4 σ2 env4 ∧ tk env4 S4 (fun kd S2 => tv env4 S2 (fun d S3 => ∃ k : List Int, kd = .tup (k.map D.int) ∧ k ∉ kk ∧ kk.length < sizeLine ∧ dtW g tk tv G (wipeE env vs) Qd (ys.drop (i + 1)) (kk ++ [k]) (xs ++ [d]) S3) NoEx) NoEx) _
      (sg _ H3 F3 _ _ S2 x _ _ _ ok3 enw r3 (fun F4 σ4 H4 env4 S4 sm4 ok4 en4 q4 => ⟨F4, env4, S4, sm4, ok4, en4, q4⟩) q2) ?_
    rintro σ4 H4 w4 ⟨F4, env4, S4, sm4, ok4, en4, q4⟩
    refine ⟨by rw [w4, snd_lc.wipe_wipe], ?_⟩
    refine sk σ4 H4 F4 _ env4 S4 _ _ _ ok4 en4 thr0 (fun y5 H5 F5 S5 kd sm5 ok5 r5 q5 => ?_) q4
    refine sv σ4 H5 F5 _ env4 S5 _ _ _ ok5 (en4.mono sm5) thr0 (fun v H6 F6 S6 d sm6 ok6 r6 q6 => ?_) q5
    obtain ⟨key, rfl, hn, hlen, q6⟩ := q6
    obtain ⟨b, rfl, hb⟩ := key_at (Rep.mono sm6 _ _ r5)
    have sm26 : Same F2 F6 := sm3.trans (sm4.trans (sm5.trans sm6))
    have hlk : kvs.length = kk.length := by
      have := congrArg List.length ek
      simpa [dk] using this
    refine ⟨kvs, _, b, rfl, ok6.fro _ _ hb, (ok6.zed D0 _ upd_same).2.2, by omega, F6, S6, kk ++ [key], xs ++ [d], kvs ++ [(key.map Sum.inl, v)], sm2.trans sm26, ?_, ?_, ?_, q6⟩
    · rw [putK_new (by rw [ek, mem_dk]; exact hn)]
      exact ok6.putAside _
    · rw [List.map_append, ek]
      simp [dk]
    · rw [List.map_append]
      exact (Reps.mono sm26 _ _ ra).append (Reps.one r6)
  · have e : i = ys.length := by omega
    subst e
    rw [List.drop_length] at q2
    exact .inl ⟨it.stop F2 _ S2 H2 sm2 ok2 q2.1, k F2 S2 H2 D0 kk xs kvs (sm1.trans sm2) hZ ok2 ek ra q2.2⟩
theorem ve_dt {kx vx tg iter : Expr} {scope : Scope} {own : List (Str × Nat)} {pos : Pos} {wi : WI} {g : WG} {tk tv : WE} (hN : ∀ i, (R i).N.Nodup) (hu : ∀ j, (R j).A.units + 200 < cLine) (hi : VI C R tg iter wi) (ok : ∀ i, BlkOk (R i).N (R i).env.scope scope own)
    (hg : VGo C (Blk R scope) tg g (own.map (·.2))) (hk : VE C (Blk R scope) kx tk) (hv : VE C (Blk R scope) vx tv) (hc : ∀ i, (R i).calm = true := by exact fun _ => rfl) (hs : ∀ i x, foldedSetIterable iter (R i).env x = pure x := by exact fun _ _ => rfl) :
    VE C R (.DictComp kx vx [⟨tg, iter, [], 0⟩] scope pos) (vDt wi g tk tv (own.map (·.2))) := fun W => by
  obtain ⟨ui, pi, si⟩ := hi W
  obtain ⟨ug, pg, sg, og⟩ := hg
  obtain ⟨uk, pk, sk⟩ := hk W0
  obtain ⟨uv, pv, sv⟩ := hv W0
  refine ⟨_, fun i tk' => pe_dt (X := C.at (R i)) ⟨hc i, by have := hu i; show (R i).A.units + 1 < cLine; omega, hN i, pi i tk', ok i, fun s H c cl fp => pg (i, ⟨s, H, c, cl, fp⟩), fun s H c cl fp => pk (i, ⟨s, H, c, cl, fp⟩) takes0, fun s H c cl fp => pv (i, ⟨s, H, c, cl, fp⟩) takes0, hs i⟩,
    fun σ H F Z env S Q Ex Rd ok' en th k h => snd_dt si sg og sk sv ok' en th (fun F' S' H' D0 kk xs kvs sm hz ok2 ek ra q => ?_) h⟩
  exact k _ _ _ _ (.ref D0) sm (ok2.asideO (so := .dT (dk kk) xs) hz ⟨kvs, rfl, ek, ra⟩) rfl (q D0 (ok2.zed D0 _ upd_same).2.1)
theorem sw_dt {kx vx : Expr} {gs : List Comprehension} {scope : Scope} {pos py : Pos} {y : Str} {l : Nat} {env : PySem.Env} (hk : env.scope.kind = .function) (hy : env.scope.names.lookup y = some .local) (hl : (py.line == pos.line) = true)
    (ha : (scope.names.any fun (n, k) => n == y && (k == .local || k == .cell)) = false) : swapsWith (.DictComp kx vx gs scope pos) (some (.Name y py)) l env = pure true := by
  have e1 : env.kindOf y = some .local := hy
  have e2 : env.blockKind = .function := by simp only [Env.blockKind, hk]; rfl
  simp only [swapsWith, e2, e1, ha, Expr.pos, hl]
  rfl
/-- y = {..}, y a local that no block captures -/
theorem vs_dt {i : Nat} {y : Str} {py : Pos} {kx vx tg iter : Expr} {scope : Scope} {own : List (Str × Nat)} {pos spos : Pos} {wi : WI} {g : WG} {tk tv : WE} (hN : ∀ i, (R i).N.Nodup) (hu : ∀ j, (R j).A.units + 200 < cLine) (hi : VI C R tg iter wi) (ok : ∀ i, BlkOk (R i).N (R i).env.scope scope own)
    (hg : VGo C (Blk R scope) tg g (own.map (·.2))) (hk : VE C (Blk R scope) kx tk) (hv : VE C (Blk R scope) vx tv) (ha : (scope.names.any fun (n, k) => n == y && (k == .local || k == .cell)) = false := by decide +kernel) (hl : (py.line == pos.line) = true := by rfl) (hpl : spos.line = spos.line := by rfl)
    (hc : ∀ i, (R i).calm = true := by exact fun _ => rfl) (hkd : ∀ j, (R j).env.scope.kind = .function := by exact fun _ => rfl) (hy : ∀ j, (R j).N[i]? = some y := by exact fun _ => rfl) (hyl : ∀ j, (R j).env.scope.names.lookup y = some .local := by exact fun _ => rfl)
    (hs : ∀ i x, foldedSetIterable iter (R i).env x = pure x := by exact fun _ _ => rfl) : VS C R (.Assign [.Name y py] (.DictComp kx vx [⟨tg, iter, [], 0⟩] scope pos) spos) (vAsg (vDt wi g tk tv (own.map (·.2))) (gNm i)) := fun W => by
  obtain ⟨ui, pi, si⟩ := hi W
  obtain ⟨ug, pg, sg, og⟩ := hg
  obtain ⟨uk, pk, sk⟩ := hk W0
  obtain ⟨uv, pv, sv⟩ := hv W0
  refine ⟨_, fun j tk' => ps_dt (X := C.at (R j)) (i := i) ⟨hc j, by have := hu j; show (R j).A.units + 1 < cLine; omega, hN j, pi j tk'.tk, ok j, fun s H c cl fp => pg (j, ⟨s, H, c, cl, fp⟩), fun s H c cl fp => pk (j, ⟨s, H, c, cl, fp⟩) takes0, fun s H c cl fp => pv (j, ⟨s, H, c, cl, fp⟩) takes0, hs j⟩ (hy j) (hyl j) (sw_dt (hkd j) (hyl j) hl ha),
    fun σ H F Z env S E Rd ok' en lk h => snd_dt si sg og sk sv ok' en (lk.thr en) (fun F' S' H' D0 kk xs kvs sm hz ok2 ek ra q => ?_) h⟩
  exact lk.nx _ _ _ _ _ sm (ok2.asideO (so := .dT (dk kk) xs) hz ⟨kvs, rfl, ek, ra⟩) ((en.mono sm).put (d := .ref D0) rfl i) (q D0 (ok2.zed D0 _ upd_same).2.1)
/-! ### a dict is walked: it is locked meanwhile -/
def lockE (p : Addr) (od : Obj) (kvs : List (List Key × V)) (ks : List (List Key)) (xs : List D) (E : VEnds) : VEnds :=
  ⟨fun env S => S p = some (.fT od kvs xs) ∧ E.nx env (sup S p (.dT ks xs)), fun d S => S p = some (.fT od kvs xs) ∧ E.rt d (sup S p (.dT ks xs)), fun _ _ => False, fun _ _ => False, fun _ => NoEx⟩
@[simp] theorem lockE_nx {p od kvs ks xs E} : (lockE p od kvs ks xs E).nx = fun env S => S p = some (.fT od kvs xs) ∧ E.nx env (sup S p (.dT ks xs)) := rfl
@[simp] theorem lockE_rt {p od kvs ks xs E} : (lockE p od kvs ks xs E).rt = fun d S => S p = some (.fT od kvs xs) ∧ E.rt d (sup S p (.dT ks xs)) := rfl
@[simp] theorem lockE_ex {p od kvs ks xs E} : (lockE p od kvs ks xs E).ex = fun _ => NoEx := rfl
/-- the dict in slot i is locked for the statement t -/
def vLock (i : Nat) (t : WS) : WS := fun E env S => match nth env i with
  | some (.ref p) => match S p with
    | some (.dT ks xs) => ∀ od kvs, kvs.map (·.1) = ks → t (lockE p od kvs ks xs E) env (sup S p (.fT od kvs xs))
    | _ => False
  | _ => False
@[simp ↓] theorem vLock_eq (i : Nat) (t : WS) (E) (env) (S) : vLock i t E env S = (match nth env i with
  | some (.ref p) => match S p with
    | some (.dT ks xs) => ∀ od kvs, kvs.map (·.1) = ks → t (lockE p od kvs ks xs E) env (sup S p (.fT od kvs xs))
    | _ => False
  | _ => False) := id rfl
theorem vs_lock {st : Stmt} {t : WS} (i : Nat) (h : VS C R st t) : VS C R st (vLock i t) := fun W => by
  obtain ⟨u, p, s⟩ := h W
  refine ⟨_, fun j tk => ps_lock (X := C.at (R j)) (p j tk), fun σ H F Z env S E Rd ok en lk h => ?_⟩
  unfold vLock at h
  split at h
  · split at h
    · rename_i a _ _ ks xs hp
      obtain ⟨_, ho, h1, kvs, rfl, e1, h2⟩ := ok.own _ _ hp
      refine ⟨a, _, h1, True.intro, fun od => ?_⟩
      have un : ∀ {F' S' H'}, Ok C.K F' Z S' H' → S' a = some (.fT od kvs xs) → H' a = some (.frz od (.dT kvs)) ∧ Ok C.K F' Z (sup S' a (.dT ks xs)) (upd H' a (.dT kvs)) := fun {F' S' H'} ok' e => by
        obtain ⟨_, ho', g1, g2, g3⟩ := ok'.own _ _ e
        subst g2
        exact ⟨g1, ok'.put (so := .dT ks xs) e ⟨kvs, rfl, e1, g3⟩⟩
      refine s σ _ F Z env _ _ _ (ok.put (so := .fT od kvs xs) hp ⟨rfl, h2⟩) en ⟨?_, ?_, ?_, ?_, ?_⟩ (h od kvs e1)
      · exact fun F' σ' H' env' S' sm ok' en' q => ⟨(un ok' q.1).1, lk.nx F' σ' _ env' _ sm (un ok' q.1).2 en' q.2⟩
      · exact fun v H' F' S' d sm ok' r q => ⟨(un ok' q.1).1, lk.rt v _ F' _ d sm (un ok' q.1).2 r q.2⟩
      · exact fun _ _ _ _ _ _ _ _ q => q.elim
      · exact fun _ _ _ _ _ _ _ _ q => q.elim
      · exact fun _ _ _ _ _ => fun _ _ _ _ _ _ _ _ _ _ _ z => z.elim
    · exact h.elim
  · exact h.elim
/-- the keys of the locked dict -/
def iKeysF (t : WE) : WI := fun env S Q E => t env S (fun d S1 => match d with
  | .ref p => match S1 p with
    | some (.fT od kvs xs) => LstC (kvs.map (·.1)) (fun kk => Q (kk.map kyD) (fun S => S p = some (.fT od kvs xs)) S1) .mk
    | _ => False
  | _ => False) E
@[simp ↓] theorem iKeysF_eq (t : WE) (env) (S) (Q) (E) : iKeysF t env S Q E = (t env S (fun d S1 => match d with
  | .ref p => match S1 p with
    | some (.fT od kvs xs) => LstC (kvs.map (·.1)) (fun kk => Q (kk.map kyD) (fun S => S p = some (.fT od kvs xs)) S1) .mk
    | _ => False
  | _ => False) E) := id rfl
theorem vi_keysF {tg l : Expr} {t : WE} (h : VE C R l t) : VI C R tg l (iKeysF t) := fun W => by
  obtain ⟨u, p, s⟩ := h W
  refine ⟨_, fun i tk => pi_keys (X := C.at (R i)) (p i tk), fun σ H F Z env S Q Ex Rd ok en th k h => s σ H F Z env S _ _ _ ok en th (fun v H' F' S' d sm ok' r q => ?_) h⟩
  split at q
  · split at q
    · rename_i a _ od kvs xs hp
      obtain ⟨kk, ek, q⟩ := q
      cases (show v = _ from r)
      have at2 : ∀ {F2 Z2 S2 H2}, Ok C.K F2 Z2 S2 H2 → S2 a = some (.fT od kvs xs) → H2 a = some (.frz od (.dT kvs)) := fun {F2 Z2 S2 H2} ok2 e => by
        obtain ⟨_, ho', g1, g2, _⟩ := ok2.own _ _ e
        subst g2
        exact g1
      have hl : (kk.map kyD).length = kvs.length := by
        have := congrArg List.length ek
        simp [dk] at this ⊢
        exact this.symm
      refine ⟨a, od, rfl, .inr ⟨kvs, at2 ok' hp, k _ _ _ _ _ _ sm ok' ⟨fun F2 Z2 S2 H2 sm2 ok2 g => ⟨at2 ok2 g, by rw [hl]; exact Nat.le_refl _⟩, fun j F2 Z2 S2 H2 hj sm2 ok2 g => ⟨at2 ok2 g, by rw [← hl]; exact hj⟩, fun j F2 Z2 S2 H2 x H3 d sm2 ok2 g y e => ?_⟩ q⟩⟩
      obtain ⟨rfl, key, w, b, hk, rfl, hb⟩ := y
      obtain ⟨sm4, ok4⟩ := ok2.more (bs := [b]) (fun c hc => ⟨_, (congrArg H3 (List.mem_singleton.mp hc)).trans hb⟩)
      refine ⟨_, sm4, ok4, ?_⟩
      rw [List.getElem?_map] at e
      cases c : kk[j]? with
      | none => rw [c] at e; cases e
      | some key2 =>
        rw [c] at e
        cases e
        have e2 : (dk kk)[j]? = some (key2.map Sum.inl) := by unfold dk; rw [List.getElem?_map, c]; rfl
        rw [← ek, List.getElem?_map, hk] at e2
        cases e2
        exact ⟨b, _, rfl, .inl (by unfold moreF; rw [if_pos List.mem_cons_self, hb, kv_inl]), Reps.ofInts key2⟩
    · exact q.elim
  · exact q.elim
/-- d[k], d locked -/
def vDGetF (to ti : WE) : WE := fun env S Q E => to env S (fun o S1 => ti env S1 (fun i S2 => match o, i with
  | .ref p, .tup ks => match S2 p with
    | some (.fT _ kvs xs) => KeyC ks (fun k => ∃ d, (((kvs.map (·.1)).zip xs).find? fun z => decide (z.1 = (k.map Sum.inl : List Key))).map (·.2) = some d ∧ Q d S2) .mk
    | _ => False
  | _, _ => False) E) E
@[simp ↓] theorem vDGetF_eq (to ti : WE) (env) (S) (Q) (E) : vDGetF to ti env S Q E = (to env S (fun o S1 => ti env S1 (fun i S2 => match o, i with
  | .ref p, .tup ks => match S2 p with
    | some (.fT _ kvs xs) => KeyC ks (fun k => ∃ d, (((kvs.map (·.1)).zip xs).find? fun z => decide (z.1 = (k.map Sum.inl : List Key))).map (·.2) = some d ∧ Q d S2) .mk
    | _ => False
  | _, _ => False) E) E) := id rfl
theorem ve_dgetF {o i : Expr} {to ti : WE} {pos : Pos} (hu : ∀ j, (R j).A.units + 200 < cLine) (ho : VE C R o to) (hi : VE C R i ti) (hs : NoSl i := by exact fun _ _ => rfl) : VE C R (.Subscript o i pos) (vDGetF to ti) := fun W => by
  obtain ⟨uo, po, so⟩ := ho W
  obtain ⟨ui, pi, si⟩ := hi W
  refine ⟨_, fun j tk => pe_dget (X := C.at (R j)) (by have := hu j; show (R j).A.units + 1 < cLine; omega) (po j tk) (pi j tk) hs, fun σ H F Z env S Q Ex Rd ok en th k h => ?_⟩
  refine so σ H F Z env S _ _ _ ok en th (fun x H2 F2 S2 o' sm2 ok2 r2 q2 => ?_) h
  refine si σ H2 F2 Z env S2 _ _ _ ok2 (en.mono sm2) (th.mono sm2) (fun y H3 F3 S3 i' sm3 ok3 r3 q3 => ?_) q2
  split at q3
  · split at q3
    · rename_i hp
      obtain ⟨kk, rfl, d, hd, q⟩ := q3
      have r2' := Rep.mono sm3 _ _ r2
      cases (show x = _ from r2')
      obtain ⟨b, rfl, hb⟩ := key_at r3
      obtain ⟨_, ho', h1, g2, h2⟩ := ok3.own _ _ hp
      subst g2
      obtain ⟨v, hv, rv⟩ := valV_rep h2 hd
      have g : DGet H3 _ (.ref b) _ := .inr ⟨_, (kk.map Sum.inl : List Key), b, .inr ⟨_, h1⟩, rfl, ok3.fro _ _ hb, rfl⟩
      rw [hv] at g
      exact ⟨_, v, rfl, g, k _ _ _ _ d (sm2.trans sm3) ok3 rv q⟩
    · exact q3.elim
  · exact q3.elim
end
end L3

set_option Elab.async false
set_option linter.all false
set_option maxRecDepth 100000
set_option maxHeartbeats 4000000
/-! The value layer: what the head tells of the text's defs and classes. -/
namespace L3
open PySem PySem.Spec PyProof.Rows L2
/-! ### the Hook: facts, defs, and one Bool more -/
abbrev AlV : Type := He.AlD × Bool
def obsV (n : Nat) (fa : List He.Fa) (fn : List He.DefD) (ex : PySem.W.Frag → Bool) (g : Addr → Option Obj) : AlV := (He.obsD fa fn (He.frG g (He.asD g n)), ex (He.frG g (He.asD g n)))
structure SaysV (fa : List He.Fa) (fn : List He.DefD) (ex : PySem.W.Frag → Bool) (K : PySem.W.Frag) : Prop where
  d : He.SaysD fa fn K
  more : ex K = true
def hookV (n : Nat) (fa : List He.Fa) (fn : List He.DefD) (ex : PySem.W.Frag → Bool) : PySem.W.Hook where
  α := AlV
  obs := fun s => obsV n fa fn ex s.heap.get?
  val := fun _ => (He.valD fn, true)
  says := fun _ h => ∃ K : PySem.W.Frag, K.In h ∧ SaysV fa fn ex K
  of := fun _ _ e => ⟨_, He.frG_in, congrArg Prod.fst e, congrArg Prod.snd e⟩
  keeps := fun _ _ _ ⟨K, hK, c⟩ k => ⟨K, PySem.W.Frag.In.keeps hK k, c⟩
theorem obsV_eq {n : Nat} {fa : List He.Fa} {fn : List He.DefD} {ex : PySem.W.Frag → Bool} {g : Addr → Option Obj} {s : Shared} (h : ∀ a, g a = s.heap.get? a) : obsV n fa fn ex g = (hookV n fa fn ex).obs s := by
  rw [show g = s.heap.get? from funext h]; rfl
/-! ### own exception classes over ValueError -/
def oexB (K : PySem.W.Frag) (C : Addr) : Bool := match K.lookup C with
  | some ⟨.type t, dd, .cls cd, sl⟩ => (match cd.mro, sl.toList with
    | .ref C' :: bm, [_, _, _, _, some (.builtin n), _] => decide (t = "type") && (decide (C' = C) && (decide (n = "ValueError.__new__") && (!cd.hasDel && (cd.hasDict && PySem.HandSPX.refsVE bm))))
    | _, _ => false)
  | _ => false
theorem oexB_ok {K : PySem.W.Frag} {C : Addr} (h : oexB K C = true) : ∃ nm q N bs bm sn sub ab col dd k0 k1 k2 k3 k5, K.lookup C = some (excClassObj nm q C N bs bm true sn sub ab col dd k0 k1 k2 k3 k5 "ValueError.__new__") ∧ PySem.HandSPX.refsVE bm = true := by
  unfold oexB at h
  split at h
  · rename_i t dd cd sl lk
    split at h
    · rename_i C' bm k0 k1 k2 k3 n k5 hm hs
      obtain ⟨nm, bs, mro, ns, qn, hd, sn, sub, ab, col, del⟩ := cd
      obtain ⟨h1, h⟩ := He.ba h
      obtain ⟨h2, h⟩ := He.ba h
      obtain ⟨h3, h⟩ := He.ba h
      obtain ⟨h4, h⟩ := He.ba h
      obtain ⟨h5, h6⟩ := He.ba h
      have e1 := of_decide_eq_true h1
      have e2 := of_decide_eq_true h2
      have e3 := of_decide_eq_true h3
      simp only [Bool.not_eq_true'] at h4
      simp only at hm h5
      subst e1 e2 e3 h4 h5 hm
      have e7 : sl = #[k0, k1, k2, k3, some (.builtin "ValueError.__new__"), k5] := by
        rw [← hs, Array.toArray_toList]
      subst e7
      exact ⟨nm, qn, ns, bs, bm, sn, sub, ab, col, dd, k0, k1, k2, k3, k5, lk, h6⟩
    · cases h
  · cases h
/-- the facts of an exception class by its name; its __init__ by the def d -/
def excB (x : Str) (K : PySem.W.Frag) : Bool :=
  oexB K (He.ga K x) && (decide (PySem.W.findIn K (.ref (He.ga K x)) "__setattr__" = some (some (.builtin "object.__setattr__"))) && (decide (PySem.W.subIn K (.ref (He.ga K x)) (.type "BaseException") = some true) &&
  (decide (PySem.W.typeIn K (.ref (He.ga K x)) = some (.type "type")) && (PySem.W.keepIn K (.ref (He.ga K x)) && (xfB K (He.ga K x) && (decide (PySem.W.findIn K (.ref (He.ga K x)) "what" = some none) &&
  (decide (PySem.W.findIn K (.ref (He.ga K x)) "__init__" = some (some (.ref (He.fAd K (x, some "__init__"))))) && (decide (PySem.W.typeIn K (.ref (He.fAd K (x, some "__init__"))) = some (.type "function")) &&
  (decide (PySem.W.findIn K (.ref (He.ga K x)) "__class__" = some (some (.builtin "object.__class__"))) && (decide (PySem.W.specialIn K (.builtin "object.__class__") "__get__" = some (some (.builtin "getset_descriptor.__get__"))) &&
  (decide (PySem.W.takesIn K (.builtin "object.__class__") = some true) && (decide (PySem.W.mroIn K (He.ga K x) (.type "object") = some true) && ((PySem.W.clsIn K (He.ga K x)).isSome && decide (PySem.W.nsIn K mainGlobals x = some (some (.ref (He.ga K x)))))))))))))))))
theorem excT_mk {C : Cmn} {h : Heap} {x : Str} {fI : Addr} {fdI : FuncData} {ps : List Str} (X : C.K.In h) (G : h.Ns mainGlobals C.mg) (e : excB x C.K = true) (hf : fI = He.fAd C.K (x, some "__init__"))
    (F : FnOk C.P C.w C.K C.mg C.base CX0 1 fI fdI ps (spInit C.K)) (b : Binds C.K fdI ps []) : ExcT C x (He.ga C.K x) := by
  subst hf
  unfold excB at e
  simp only [Bool.and_eq_true, decide_eq_true_eq] at e
  obtain ⟨h1, h2, h3, h4, h5, h6, h7, h8, h9, h10, h11, h12, h13, h14, h15⟩ := e
  exact ⟨PySem.W.mg_of X G h15, ⟨oexB_ok h1, h2, h3, h4, h5⟩, xfB_ok h6, h7, ⟨_, fdI, ps, h8, h9, F, b⟩, h10, h11, h12, h13, h14⟩
/-- def __init__(self, what=None): self.what = what -/
theorem init_ok {C : Cmn} {qual : Str} {params : Arguments} {scope : Scope} {dvs : List V} {kws : List (Str × V)} {f : Addr} {fd : FuncData} {p1 p2 p3 p4 : Pos} (F : FunD C.K "__init__" qual params [.Assign [.Attribute (.Name "self" p1) "what" p2] (.Name "what" p3) p4] scope dvs kws f fd)
    (Sc : FnScope ["self", "what"] ["self", "what"] scope) (v0 : scope.names.lookup ("self" : Str) = some .local) (v1 : scope.names.lookup ("what" : Str) = some .local) : FnOk C.P C.w C.K C.mg C.base CX0 1 f fd ["self", "what"] (spInit C.K) := by
  refine F.ok (k := 0) Sc (fun vs H Q E q => ?_) (fun cdv A outer s H vs Q E hr q => ?_)
  · obtain ⟨a, Cl, v, rfl, _⟩ := q
    rfl
  · obtain ⟨a, Cl, v, rfl, ox, no, ha, k⟩ := q
    refine ⟨_, pss_one (ps_ost (pe_var (i := 0) rfl (.inl v0)) (pe_var (i := 1) rfl (.inl v1))), ?_⟩
    exact ⟨v, rfl, .ref a, rfl, a, Cl, rfl, ox, no, .inl ⟨ha, fun dx nd ne => k dx nd ne⟩⟩
/-! ### defs -/
theorem stands_mk {C : Cmn} {h : Heap} {x : Str} {st : Stmt} {ps : List Str} {fa : List He.Fa} {fn : List He.DefD} (X : C.K.In h) (G : h.Ns mainGlobals C.mg) (c : He.SaysD fa fn C.K) (i : Nat) (h1 : fn[i]? = some ⟨(x, none), x, x, defArgs st, defBody st, defScope st, [], []⟩) (h2 : (He.Fa.glo x) ∈ fa)
    (hb : ∀ (kV doc pm : Value) (an : Option Addr) (cdv ct : Value) (us : List Value), us.length = ps.length → bindArgs (PySem.W.fnOf x x (defArgs st) (defBody st) (defScope st) .none kV doc pm an cdv ct) ⟨us, []⟩ = pure (ps.zip us)) : Stands C x st ps := by
  obtain ⟨fd, F⟩ := c.def_ i h1
  obtain ⟨j, hj, e⟩ := List.mem_iff_getElem.mp h2
  have g := He.glo_ok X G (c.fact j (f := .glo x) (by rw [List.getElem?_eq_getElem hj, e]))
  exact ⟨_, fd, _, _, F, g, F.bindsN hb⟩
theorem free_mk {C : Cmn} {h : Heap} {x : Str} {fa : List He.Fa} {fn : List He.DefD} (X : C.K.In h) (G : h.Ns mainGlobals C.mg) (c : He.SaysD fa fn C.K) (h2 : (He.Fa.free x) ∈ fa) : C.mg x = none := by
  obtain ⟨j, hj, e⟩ := List.mem_iff_getElem.mp h2
  exact He.free_ok X G (c.fact j (f := .free x) (by rw [List.getElem?_eq_getElem hj, e]))
/-! ### the law -/
/-- law's promise: a list of at most 63 ints is handed in, True comes out -/
def spTrue : WSp := fun ds S Q _ => ∃ ns : List Int, ds = [.fix (ns.map .int)] ∧ ns.length ≤ 63 ∧ S = (fun _ => none) ∧ ∀ S', Q (.bl true) S'
def spLaw (K : PySem.W.Frag) : Sp := fun vs H Q _ => ∃ (a : Addr) (ns : List Int), vs = [.ref a] ∧ SqL K H a (ns.map V.int) ∧ ns.length ≤ 63 ∧ ∀ H', Q (.bl true) H'
theorem law_fn {C : Cmn} {n : Nat} {f : Addr} {fd : FuncData} {ps : List Str} (F : FnOk C.P C.w C.K C.mg C.base (L2.CX C.P C.w) n f fd ps (low C.K spTrue)) : FnOk C.P C.w C.K C.mg C.base CX0 n f fd ps (spLaw C.K) := by
  have imp : ∀ vs H Q E, spLaw C.K vs H Q E → low C.K spTrue vs H Q E0 := fun vs H Q E z => by
    obtain ⟨a, ns, rfl, hS, hl, k⟩ := z
    refine ⟨H, fun _ => none, fun _ => none, [.fix (ns.map .int)], fun d _ => d = .bl true, NoEx, ⟨Same.refl H, (fun _ _ e => nomatch e), (fun _ _ e => nomatch e), (fun _ _ e => nomatch e)⟩, Reps.one ⟨a, _, rfl, hS, Reps.ofInts ns⟩, ⟨ns, rfl, hl, rfl, fun _ => rfl⟩, fun v H' F' S' d sm ok r q => ?_, fun _ _ _ _ _ _ _ _ _ _ _ z => z.elim⟩
    subst q
    cases (show v = _ from r)
    exact k H'
  refine ⟨fun vs H Q E z => F.len vs H Q E0 (imp _ _ _ _ z), fun A outer s H args us vs Q E hr he hb hv z => ?_⟩
  refine codeAny_mono (F.run A outer s H args us vs Q E0 hr he hb hv (imp _ _ _ _ z)) fun r s' hq => ?_
  cases r with
  | error e =>
    obtain ⟨_, _, _, _, _, _, _, _, _, _, _, _, z⟩ := hq
    exact z.elim
  | ok fl => cases fl <;> exact hq
end L3

set_option Elab.async false
set_option linter.all false
set_option maxRecDepth 100000
set_option maxHeartbeats 4000000
/-! Printed by gen.py: the bodies of the text's defs, read by the value layer. -/
namespace K77
open PySem PySem.Spec L2 L3
def top (i : Nat) : Stmt := PySem.Challenge.pw_formsbrief_k77_differences.main.body.getD i (.Pass ⟨0, 0, 0, 0⟩)
abbrev s_list_of : Stmt := top 8
abbrev N_list_of : List Str := ["items"]
theorem sc_list_of : FnScope N_list_of ["items"] (defScope s_list_of) := ⟨rfl, rfl, rfl, by decide +kernel, rfl, by decide +kernel, by decide +kernel⟩
def t_list_of : WS :=
  (vRet (vTup (vCons (vC (.str "list")) (vCons (vCB rTuple (vCons (vVar 0) vNil)) vNil))))
theorem dv_list_of {C : Cmn} {k : Nat} {qual : Str} (g_tuple : C.mg "tuple" = none) : VSs C (fun i : DIx k qual (defScope s_list_of) => DR C N_list_of i) (defBody s_list_of) (t_list_of) :=
  (vss_one (vs_ret (ve_tup (va_cons ve_str (va_cons (ve_callTy cv_tuple g_tuple (va_cons (ve_var (i := 0) (hv := fun _ => .inl rfl)) va_nil)) va_nil)))))
abbrev s_map_of : Stmt := top 9
abbrev N_map_of : List Str := ["entries", "table", "key", "value"]
theorem sc_map_of : FnScope N_map_of ["entries"] (defScope s_map_of) := ⟨rfl, rfl, rfl, by decide +kernel, rfl, by decide +kernel, by decide +kernel⟩
def t_map_of_e1 (x_Doubled : Addr) : WE :=
  (vTup (vCons (vVar 2) (vCons (vDGet (vVar 1) (vVar 2)) vNil)))
def t_map_of_b1 (x_Doubled : Addr) : WS :=
  (vSeq (vIf (vTst (vOp (rInT false) (vCB rTuple (vCons (vVar 2) vNil)) (vVar 1))) (vRaise x_Doubled (vCons (vCB rTuple (vCons (vVar 2) vNil)) vNil)) vNext)
  (vPutD (vVar 3) (vVar 1) (vCB rTuple (vCons (vVar 2) vNil))))
def t_map_of (x_Doubled : Addr) : WS :=
  (vSeq (vAsg vDNew (gNm 1))
  (vSeq (vFor (iLst (vVar 0)) (gTupD 2 (gThen (gNm 2) (gThen (gNm 3) gEnd)))
  (t_map_of_b1 x_Doubled))
  (vRet (vDrop 1 (vTup (vCons (vC (.str "map")) (vCons (vCB rTuple (vCons (vLcF (iLst (vCB rSortK (vCons (vCB rListT (vCons (vVar 1) vNil)) vNil))) (gNm 2) vYes (t_map_of_e1 x_Doubled) [2]) vNil)) vNil)))))))
theorem dv_map_of {C : Cmn} {k : Nat} {qual : Str} (g_list : C.mg "list" = none) (g_sorted : C.mg "sorted" = none) (g_tuple : C.mg "tuple" = none) {x_Doubled : Addr} (T_Doubled : ExcT C "Doubled" x_Doubled) : VSs C (fun i : DIx (k + 2) qual (defScope s_map_of) => DR C N_map_of i) (defBody s_map_of) (t_map_of x_Doubled) :=
  (vss_cons (vs_set (i := 1) (fun _ => sc_map_of.nd) ve_dnew (hx := fun _ => .inr rfl) (hf := fun _ => .inl rfl))
  (vss_cons (vs_for (vi_lst (ve_var (i := 0) (hv := fun _ => .inl rfl))) (vg_tup (vgs_cons (vg_name (i := 2) (fun _ => sc_map_of.nd) (hx := fun _ => .inl rfl) (hf := fun _ => .inl rfl)) (vgs_cons (vg_name (i := 3) (fun _ => sc_map_of.nd) (hx := fun _ => .inl rfl) (hf := fun _ => .inl rfl)) vgs_nil)))
  (vss_cons (vs_if (vt_cmp (ov_inT (fun i => ru i.room)) (ve_callTy cv_tuple g_tuple (va_cons (ve_var (i := 2) (hv := fun _ => .inl rfl)) va_nil)) (ve_var (i := 1) (hv := fun _ => .inr (.inl rfl)))) (vss_one (vs_raise T_Doubled (va_cons (ve_callTy cv_tuple g_tuple (va_cons (ve_var (i := 2) (hv := fun _ => .inl rfl)) va_nil)) va_nil) (fun i => i.room))) vss_nil)
  (vss_one (vs_putD (fun i => ru i.room) (ve_var (i := 3) (hv := fun _ => .inl rfl)) (ve_var (i := 1) (hv := fun _ => .inr (.inl rfl))) (ve_callTy cv_tuple g_tuple (va_cons (ve_var (i := 2) (hv := fun _ => .inl rfl)) va_nil))))))
  (vss_one (vs_ret (ve_drop 1 (ve_tup (va_cons ve_str (va_cons (ve_callTy cv_tuple g_tuple (va_cons (ve_lcF (hN := (fun _ => sc_map_of.nd)) (own := [("key", 2)]) (vi_lst (ve_callB (cv_sortK (fun i => ru i.room)) g_sorted (va_cons (ve_callTy cv_listT g_list (va_cons (ve_var (i := 1) (hv := fun _ => .inr (.inl rfl))) va_nil)) va_nil))) (fun _ => blkOk_by (own := [("key", 2)]) (N := N_map_of) (sc := defScope s_map_of) (by decide +kernel)) (vgo_name (i := 2) (fun _ => sc_map_of.nd) (hx := fun _ => .inl rfl) (hf := fun _ => .inr rfl)) vts_nil (ve_tup (va_cons (ve_var (i := 2) (hv := fun _ => .inl rfl)) (va_cons (ve_dget (fun i => ru i.1.room) (ve_var (i := 1) (hv := fun _ => .inr (.inl rfl))) (ve_var (i := 2) (hv := fun _ => .inl rfl))) va_nil)))) va_nil)) va_nil))))))))
abbrev s_parts : Stmt := top 10
abbrev N_parts : List Str := ["value", "entry"]
theorem sc_parts : FnScope N_parts ["value"] (defScope s_parts) := ⟨rfl, rfl, rfl, by decide +kernel, rfl, by decide +kernel, by decide +kernel⟩
def t_parts_e1 : WE :=
  (vOp rIx (vVar 1) (vC (.int 1)))
def t_parts : WS :=
  (vSeq (vIf (vTst (vOp rEq (vOp rIx (vVar 0) (vC (.int 0))) (vC (.str "list")))) (vRet (vOp rIx (vVar 0) (vC (.int 1)))) vNext)
  (vSeq (vIf (vTst (vOp rEq (vOp rIx (vVar 0) (vC (.int 0))) (vC (.str "map")))) (vRet (vCB rTuple (vCons (vLcF (iTpl (vOp rIx (vVar 0) (vC (.int 1)))) (gNm 1) vYes (t_parts_e1) [1]) vNil))) vNext)
  (vRet (vTup vNil))))
theorem dv_parts {C : Cmn} {k : Nat} {qual : Str} (g_tuple : C.mg "tuple" = none) : VSs C (fun i : DIx k qual (defScope s_parts) => DR C N_parts i) (defBody s_parts) (t_parts) :=
  (vss_cons (vs_if (vt_cmp (ov_eq (fun i => ru i.room)) (ve_ix (ve_var (i := 0) (hv := fun _ => .inl rfl)) ve_int) ve_str) (vss_one (vs_ret (ve_ix (ve_var (i := 0) (hv := fun _ => .inl rfl)) ve_int))) vss_nil)
  (vss_cons (vs_if (vt_cmp (ov_eq (fun i => ru i.room)) (ve_ix (ve_var (i := 0) (hv := fun _ => .inl rfl)) ve_int) ve_str) (vss_one (vs_ret (ve_callTy cv_tuple g_tuple (va_cons (ve_lcF (hN := (fun _ => sc_parts.nd)) (own := [("entry", 1)]) (vi_tpl (ve_ix (ve_var (i := 0) (hv := fun _ => .inl rfl)) ve_int)) (fun _ => blkOk_by (own := [("entry", 1)]) (N := N_parts) (sc := defScope s_parts) (by decide +kernel)) (vgo_name (i := 1) (fun _ => sc_parts.nd) (hx := fun _ => .inl rfl) (hf := fun _ => .inr rfl)) vts_nil (ve_ix (ve_var (i := 1) (hv := fun _ => .inl rfl)) ve_int)) va_nil)))) vss_nil)
  (vss_one (vs_ret (ve_tup va_nil)))))
abbrev s_depth : Stmt := top 11
abbrev N_depth : List Str := ["value", "part"]
theorem sc_depth : FnScope N_depth ["value"] (defScope s_depth) := ⟨rfl, rfl, rfl, by decide +kernel, rfl, by decide +kernel, by decide +kernel⟩
def t_depth_e1 (q_depth : WSp) (q_parts : WSp) : WE :=
  (vCall q_depth (vCons (vVar 1) vNil))
def t_depth (q_depth : WSp) (q_parts : WSp) : WS :=
  (vSeq (vIf (vAnd (vTst (vOp rNe (vOp rIx (vVar 0) (vC (.int 0))) (vC (.str "list")))) (vTst (vOp rNe (vOp rIx (vVar 0) (vC (.int 0))) (vC (.str "map"))))) (vRet (vC (.int 0))) vNext)
  (vRet (vOp rAdd (vC (.int 1)) (vCB rMax (vCons (vOp rAdd (vLstF (vCons (vC (.int 0)) vNil)) (vLcF (iTpl (vCall q_parts (vCons (vVar 0) vNil))) (gNm 1) vYes (t_depth_e1 q_depth q_parts) [1])) vNil)))))
theorem dv_depth {C : Cmn} {k : Nat} {qual : Str} (g_max : C.mg "max" = none) {q_depth : WSp} (D_depth : DefOk C k "depth" q_depth) {q_parts : WSp} (D_parts : DefOk C k "parts" q_parts) : VSs C (fun i : DIx k qual (defScope s_depth) => DR C N_depth i) (defBody s_depth) (t_depth q_depth q_parts) :=
  (vss_cons (vs_if (vw_pt (vw_and (vt_cmp (ov_ne (fun i => ru i.room)) (ve_ix (ve_var (i := 0) (hv := fun _ => .inl rfl)) ve_int) ve_str) (vw_and1 (vt_cmp (ov_ne (fun i => ru i.room)) (ve_ix (ve_var (i := 0) (hv := fun _ => .inl rfl)) ve_int) ve_str)))) (vss_one (vs_ret ve_int)) vss_nil)
  (vss_one (vs_ret (ve_op ov_add ve_int (ve_callB cv_max g_max (va_cons (ve_op ov_add (ve_lstF (va_cons ve_int va_nil)) (ve_lcF (hN := (fun _ => sc_depth.nd)) (own := [("part", 1)]) (vi_tpl (ve_call D_parts (va_cons (ve_var (i := 0) (hv := fun _ => .inl rfl)) va_nil) (fun i => i.room))) (fun _ => blkOk_by (own := [("part", 1)]) (N := N_depth) (sc := defScope s_depth) (by decide +kernel)) (vgo_name (i := 1) (fun _ => sc_depth.nd) (hx := fun _ => .inl rfl) (hf := fun _ => .inr rfl)) vts_nil (ve_call D_depth (va_cons (ve_var (i := 1) (hv := fun _ => .inl rfl)) va_nil) (fun i => i.1.room)))) va_nil))))))
abbrev s_steps_of : Stmt := top 13
abbrev N_steps_of : List Str := ["value", "index", "item"]
theorem sc_steps_of : FnScope N_steps_of ["value"] (defScope s_steps_of) := ⟨rfl, rfl, rfl, by decide +kernel, rfl, by decide +kernel, by decide +kernel⟩
def t_steps_of_e1 : WE :=
  (vTup (vCons (vVar 1) (vCons (vVar 2) vNil)))
def t_steps_of : WS :=
  (vSeq (vIf (vTst (vOp rEq (vOp rIx (vVar 0) (vC (.int 0))) (vC (.str "list")))) (vRet (vLcO (iEnT (vCons (vOp rIx (vVar 0) (vC (.int 1))) vNil)) (gTupD 2 (gThen (gNm 1) (gThen (gNm 2) gEnd))) vYes (t_steps_of_e1) [1, 2])) vNext)
  (vSeq (vIf (vTst (vOp rEq (vOp rIx (vVar 0) (vC (.int 0))) (vC (.str "map")))) (vRet (vCB rListO (vCons (vOp rIx (vVar 0) (vC (.int 1))) vNil))) vNext)
  (vRet (vLst vNil))))
theorem dv_steps_of {C : Cmn} {k : Nat} {qual : Str} (g_enumerate : C.mg "enumerate" = none) (g_list : C.mg "list" = none) : VSs C (fun i : DIx k qual (defScope s_steps_of) => DR C N_steps_of i) (defBody s_steps_of) (t_steps_of) :=
  (vss_cons (vs_if (vt_cmp (ov_eq (fun i => ru i.room)) (ve_ix (ve_var (i := 0) (hv := fun _ => .inl rfl)) ve_int) ve_str) (vss_one (vs_ret (ve_lcO (hN := (fun _ => sc_steps_of.nd)) (own := [("index", 1), ("item", 2)]) (vi_enT g_enumerate (va_cons (ve_ix (ve_var (i := 0) (hv := fun _ => .inl rfl)) ve_int) va_nil)) (fun _ => blkOk_by (own := [("index", 1), ("item", 2)]) (N := N_steps_of) (sc := defScope s_steps_of) (by decide +kernel)) (vgo_tup (vgos_cons (vgo_name (i := 1) (fun _ => sc_steps_of.nd) (hx := fun _ => .inl rfl) (hf := fun _ => .inr rfl)) (vgos_cons (vgo_name (i := 2) (fun _ => sc_steps_of.nd) (hx := fun _ => .inl rfl) (hf := fun _ => .inr rfl)) vgos_nil))) vts_nil (ve_tup (va_cons (ve_var (i := 1) (hv := fun _ => .inl rfl)) (va_cons (ve_var (i := 2) (hv := fun _ => .inl rfl)) va_nil)))))) vss_nil)
  (vss_cons (vs_if (vt_cmp (ov_eq (fun i => ru i.room)) (ve_ix (ve_var (i := 0) (hv := fun _ => .inl rfl)) ve_int) ve_str) (vss_one (vs_ret (ve_callTy cv_listO g_list (va_cons (ve_ix (ve_var (i := 0) (hv := fun _ => .inl rfl)) ve_int) va_nil)))) vss_nil)
  (vss_one (vs_ret (ve_lst va_nil)))))
abbrev s_part_at : Stmt := top 14
abbrev N_part_at : List Str := ["value", "path", "part", "step", "found", "row"]
theorem sc_part_at : FnScope N_part_at ["value", "path"] (defScope s_part_at) := ⟨rfl, rfl, rfl, by decide +kernel, rfl, by decide +kernel, by decide +kernel⟩
def t_part_at_c1 (x_Astray : Addr) (q_steps_of : WSp) : WT :=
  (vTst (vOp rEq (vOp rIx (vVar 5) (vC (.int 0))) (vVar 3)))
def t_part_at_e1 (x_Astray : Addr) (q_steps_of : WSp) : WE :=
  (vOp rIx (vVar 5) (vC (.int 1)))
def t_part_at_b1 (x_Astray : Addr) (q_steps_of : WSp) : WS :=
  (vSeq (vAsg (vLcF (iLst (vFrz (vCall q_steps_of (vCons (vVar 2) vNil)))) (gNm 5) (t_part_at_c1 x_Astray q_steps_of) (t_part_at_e1 x_Astray q_steps_of) [5]) (gNm 4))
  (vSeq (vIf (vTst (vOp rEq (vVar 4) (vLstF vNil))) (vRaise x_Astray (vCons (vCB rTuple (vCons (vVar 1) vNil)) vNil)) vNext)
  (vAsg (vOp rIx (vVar 4) (vC (.int 0))) (gNm 2))))
def t_part_at (x_Astray : Addr) (q_steps_of : WSp) : WS :=
  (vSeq (vAsg (vVar 0) (gNm 2))
  (vSeq (vFor (iTpl (vVar 1)) (gNm 3)
  (t_part_at_b1 x_Astray q_steps_of))
  (vRet (vVar 2))))
theorem dv_part_at {C : Cmn} {k : Nat} {qual : Str} (g_tuple : C.mg "tuple" = none) {x_Astray : Addr} (T_Astray : ExcT C "Astray" x_Astray) {q_steps_of : WSp} (D_steps_of : DefOk C (k + 2) "steps_of" q_steps_of) : VSs C (fun i : DIx (k + 2) qual (defScope s_part_at) => DR C N_part_at i) (defBody s_part_at) (t_part_at x_Astray q_steps_of) :=
  (vss_cons (vs_set (i := 2) (fun _ => sc_part_at.nd) (ve_var (i := 0) (hv := fun _ => .inl rfl)) (hx := fun _ => .inl rfl) (hf := fun _ => .inl rfl))
  (vss_cons (vs_for (vi_tpl (ve_var (i := 1) (hv := fun _ => .inl rfl))) (vg_name (i := 3) (fun _ => sc_part_at.nd) (hx := fun _ => .inr rfl) (hf := fun _ => .inl rfl))
  (vss_cons (vs_lcF (i := 4) (hN := (fun _ => sc_part_at.nd)) (own := [("row", 5)]) (vi_lst (ve_frz (ve_call D_steps_of (va_cons (ve_var (i := 2) (hv := fun _ => .inl rfl)) va_nil) (fun i => i.room)))) (fun _ => blkOk_by (own := [("row", 5)]) (N := N_part_at) (sc := defScope s_part_at) (by decide +kernel)) (vgo_name (i := 5) (fun _ => sc_part_at.nd) (hx := fun _ => .inl rfl) (hf := fun _ => .inr rfl)) (vts_one (vt_cmp (ov_eq (fun i => ru i.1.room)) (ve_ix (ve_var (i := 5) (hv := fun _ => .inl rfl)) ve_int) (ve_var (i := 3) (hv := fun _ => .inr (.inl rfl))))) (ve_ix (ve_var (i := 5) (hv := fun _ => .inl rfl)) ve_int))
  (vss_cons (vs_if (vt_cmp (ov_eq (fun i => ru i.room)) (ve_var (i := 4) (hv := fun _ => .inl rfl)) (ve_lstF va_nil)) (vss_one (vs_raise T_Astray (va_cons (ve_callTy cv_tuple g_tuple (va_cons (ve_var (i := 1) (hv := fun _ => .inl rfl)) va_nil)) va_nil) (fun i => i.room))) vss_nil)
  (vss_one (vs_set (i := 2) (fun _ => sc_part_at.nd) (ve_ix (ve_var (i := 4) (hv := fun _ => .inl rfl)) ve_int) (hx := fun _ => .inl rfl) (hf := fun _ => .inl rfl))))))
  (vss_one (vs_ret (ve_var (i := 2) (hv := fun _ => .inl rfl))))))
abbrev s_made : Stmt := top 15
abbrev N_made : List Str := ["kind", "rows", "row"]
theorem sc_made : FnScope N_made ["kind", "rows"] (defScope s_made) := ⟨rfl, rfl, rfl, by decide +kernel, rfl, by decide +kernel, by decide +kernel⟩
def t_made_e1 (q_list_of : WSp) (q_map_of : WSp) : WE :=
  (vOp rIx (vVar 2) (vC (.int 1)))
def t_made (q_list_of : WSp) (q_map_of : WSp) : WS :=
  (vSeq (vIf (vTst (vOp rEq (vVar 0) (vC (.str "list")))) (vRet (vCall q_list_of (vCons (vLcF (iLst (vVar 1)) (gNm 2) vYes (t_made_e1 q_list_of q_map_of) [2]) vNil))) vNext)
  (vRet (vCall q_map_of (vCons (vVar 1) vNil))))
theorem dv_made {C : Cmn} {k : Nat} {qual : Str} {q_list_of : WSp} (D_list_of : DefOk C k "list_of" q_list_of) {q_map_of : WSp} (D_map_of : DefOk C k "map_of" q_map_of) : VSs C (fun i : DIx k qual (defScope s_made) => DR C N_made i) (defBody s_made) (t_made q_list_of q_map_of) :=
  (vss_cons (vs_if (vt_cmp (ov_eq (fun i => ru i.room)) (ve_var (i := 0) (hv := fun _ => .inl rfl)) ve_str) (vss_one (vs_ret (ve_call D_list_of (va_cons (ve_lcF (hN := (fun _ => sc_made.nd)) (own := [("row", 2)]) (vi_lst (ve_var (i := 1) (hv := fun _ => .inl rfl))) (fun _ => blkOk_by (own := [("row", 2)]) (N := N_made) (sc := defScope s_made) (by decide +kernel)) (vgo_name (i := 2) (fun _ => sc_made.nd) (hx := fun _ => .inl rfl) (hf := fun _ => .inr rfl)) vts_nil (ve_ix (ve_var (i := 2) (hv := fun _ => .inl rfl)) ve_int)) va_nil) (fun i => i.room)))) vss_nil)
  (vss_one (vs_ret (ve_call D_map_of (va_cons (ve_var (i := 1) (hv := fun _ => .inl rfl)) va_nil) (fun i => i.room)))))
abbrev s_put_at : Stmt := top 16
abbrev N_put_at : List Str := ["value", "path", "part", "rows", "step", "old"]
theorem sc_put_at : FnScope N_put_at ["value", "path", "part"] (defScope s_put_at) := ⟨rfl, rfl, rfl, by decide +kernel, rfl, by decide +kernel, by decide +kernel⟩
def t_put_at_b1 (q_made : WSp) (q_put_at : WSp) (q_steps_of : WSp) : WS :=
  (vExpr (vMt rAppend (vVar 3) (vCons (vTup (vCons (vVar 4) (vCons (vIfE (vTst (vOp rEq (vVar 4) (vOp rIx (vVar 1) (vC (.int 0))))) (vCall q_put_at (vCons (vVar 5) (vCons (vSl rSlF (vVar 1) (vPart (vC (.int 1))) vNoP) (vCons (vVar 2) vNil)))) (vVar 5)) vNil))) vNil)))
def t_put_at (q_made : WSp) (q_put_at : WSp) (q_steps_of : WSp) : WS :=
  (vSeq (vIf (vTst (vOp rEq (vCB rLen (vCons (vVar 1) vNil)) (vC (.int 0)))) (vRet (vVar 2)) vNext)
  (vSeq (vAsg (vLst vNil) (gNm 3))
  (vSeq (vFor (iLst (vFrz (vCall q_steps_of (vCons (vVar 0) vNil)))) (gTupD 2 (gThen (gNm 4) (gThen (gNm 5) gEnd)))
  (t_put_at_b1 q_made q_put_at q_steps_of))
  (vRet (vCall q_made (vCons (vOp rIx (vVar 0) (vC (.int 0))) (vCons (vFrz (vVar 3)) vNil)))))))
theorem dv_put_at {C : Cmn} {k : Nat} {qual : Str} (g_len : C.mg "len" = none) {q_made : WSp} (D_made : DefOk C k "made" q_made) {q_put_at : WSp} (D_put_at : DefOk C k "put_at" q_put_at) {q_steps_of : WSp} (D_steps_of : DefOk C k "steps_of" q_steps_of) : VSs C (fun i : DIx k qual (defScope s_put_at) => DR C N_put_at i) (defBody s_put_at) (t_put_at q_made q_put_at q_steps_of) :=
  (vss_cons (vs_if (vt_cmp (ov_eq (fun i => ru i.room)) (ve_callB cv_len g_len (va_cons (ve_var (i := 1) (hv := fun _ => .inl rfl)) va_nil)) ve_int) (vss_one (vs_ret (ve_var (i := 2) (hv := fun _ => .inl rfl)))) vss_nil)
  (vss_cons (vs_set (i := 3) (fun _ => sc_put_at.nd) (ve_lst va_nil) (hx := fun _ => .inl rfl) (hf := fun _ => .inl rfl))
  (vss_cons (vs_for (vi_lst (ve_frz (ve_call D_steps_of (va_cons (ve_var (i := 0) (hv := fun _ => .inl rfl)) va_nil) (fun i => i.room)))) (vg_tup (vgs_cons (vg_name (i := 4) (fun _ => sc_put_at.nd) (hx := fun _ => .inl rfl) (hf := fun _ => .inl rfl)) (vgs_cons (vg_name (i := 5) (fun _ => sc_put_at.nd) (hx := fun _ => .inl rfl) (hf := fun _ => .inl rfl)) vgs_nil)))
  (vss_one (vs_expr (ve_mt PySem.F.slot_list_append PySem.F.type_list_append mv_append (ve_var (i := 3) (hv := fun _ => .inl rfl)) (va_cons (ve_tup (va_cons (ve_var (i := 4) (hv := fun _ => .inl rfl)) (va_cons (ve_if (vt_cmp (ov_eq (fun i => ru i.room)) (ve_var (i := 4) (hv := fun _ => .inl rfl)) (ve_ix (ve_var (i := 1) (hv := fun _ => .inl rfl)) ve_int)) (ve_call D_put_at (va_cons (ve_var (i := 5) (hv := fun _ => .inl rfl)) (va_cons (ve_slice slF_sound (ve_var (i := 1) (hv := fun _ => .inl rfl)) (vo_some ve_int) vo_none) (va_cons (ve_var (i := 2) (hv := fun _ => .inl rfl)) va_nil))) (fun i => i.room)) (ve_var (i := 5) (hv := fun _ => .inl rfl))) va_nil))) va_nil)))))
  (vss_one (vs_ret (ve_call D_made (va_cons (ve_ix (ve_var (i := 0) (hv := fun _ => .inl rfl)) ve_int) (va_cons (ve_frz (ve_var (i := 3) (hv := fun _ => .inl rfl))) va_nil)) (fun i => i.room)))))))
abbrev s_check_levels : Stmt := top 17
abbrev N_check_levels : List Str := ["levels"]
theorem sc_check_levels : FnScope N_check_levels ["levels"] (defScope s_check_levels) := ⟨rfl, rfl, rfl, by decide +kernel, rfl, by decide +kernel, by decide +kernel⟩
def t_check_levels (x_Overdeep : Addr) : WS :=
  (vIf (vTst (vOp rGt (vVar 0) (vC (.int 24)))) (vRaise x_Overdeep (vCons (vVar 0) vNil)) vNext)
theorem dv_check_levels {C : Cmn} {k : Nat} {qual : Str} {x_Overdeep : Addr} (T_Overdeep : ExcT C "Overdeep" x_Overdeep) (g_MOST_DEPTH : GlobV C "MOST_DEPTH" (.int 24)) : VSs C (fun i : DIx (k + 2) qual (defScope s_check_levels) => DR C N_check_levels i) (defBody s_check_levels) (t_check_levels x_Overdeep) :=
  (vss_one (vs_if (vt_cmp ov_gt (ve_var (i := 0) (hv := fun _ => .inl rfl)) (ve_gl g_MOST_DEPTH)) (vss_one (vs_raise T_Overdeep (va_cons (ve_var (i := 0) (hv := fun _ => .inl rfl)) va_nil) (fun i => i.room))) vss_nil))
abbrev s_check_step : Stmt := top 18
abbrev N_check_step : List Str := ["holder", "step", "entry"]
theorem sc_check_step : FnScope N_check_step ["holder", "step"] (defScope s_check_step) := ⟨rfl, rfl, rfl, by decide +kernel, rfl, by decide +kernel, by decide +kernel⟩
def t_check_step_e1 (x_Misplaced : Addr) : WE :=
  (vOp rIx (vVar 2) (vC (.int 0)))
def t_check_step (x_Misplaced : Addr) : WS :=
  (vSeq (vIf (vAnd (vTst (vOp rEq (vOp rIx (vVar 0) (vC (.int 0))) (vC (.str "list")))) (vAnd (vTst (vCB rIsi (vCons (vVar 1) (vCons (vC (.ty "int")) vNil)))) (vTst (vChain rLe rLe (vC (.int 0)) (vVar 1) (vCB rLen (vCons (vOp rIx (vVar 0) (vC (.int 1))) vNil)))))) vRetN vNext)
  (vSeq (vIf (vAnd (vTst (vOp rEq (vOp rIx (vVar 0) (vC (.int 0))) (vC (.str "map")))) (vAnd (vTst (vCB rIsi (vCons (vVar 1) (vCons (vC (.ty "tuple")) vNil)))) (vTst (vOp (rIn true) (vVar 1) (vLcF (iTpl (vOp rIx (vVar 0) (vC (.int 1)))) (gNm 2) vYes (t_check_step_e1 x_Misplaced) [2]))))) vRetN vNext)
  (vRaise x_Misplaced (vCons (vVar 1) vNil))))
theorem dv_check_step {C : Cmn} {k : Nat} {qual : Str} (g_int : C.mg "int" = none) (g_isinstance : C.mg "isinstance" = none) (g_len : C.mg "len" = none) (g_tuple : C.mg "tuple" = none) {x_Misplaced : Addr} (T_Misplaced : ExcT C "Misplaced" x_Misplaced) : VSs C (fun i : DIx (k + 2) qual (defScope s_check_step) => DR C N_check_step i) (defBody s_check_step) (t_check_step x_Misplaced) :=
  (vss_cons (vs_if (vw_pt (vw_and (vt_cmp (ov_eq (fun i => ru i.room)) (ve_ix (ve_var (i := 0) (hv := fun _ => .inl rfl)) ve_int) ve_str) (vw_and (vt_val (ve_callB cv_isi g_isinstance (va_cons (ve_var (i := 1) (hv := fun _ => .inl rfl)) (va_cons (ve_ty g_int) va_nil)))) (vw_and1 (vt_chain ov_le ov_le ve_int (ve_var (i := 1) (hv := fun _ => .inl rfl)) (ve_callB cv_len g_len (va_cons (ve_ix (ve_var (i := 0) (hv := fun _ => .inl rfl)) ve_int) va_nil))))))) (vss_one vs_retN) vss_nil)
  (vss_cons (vs_if (vw_pt (vw_and (vt_cmp (ov_eq (fun i => ru i.room)) (ve_ix (ve_var (i := 0) (hv := fun _ => .inl rfl)) ve_int) ve_str) (vw_and (vt_val (ve_callB cv_isi g_isinstance (va_cons (ve_var (i := 1) (hv := fun _ => .inl rfl)) (va_cons (ve_ty g_tuple) va_nil)))) (vw_and1 (vt_cmp (ov_notin (fun i => ru i.room)) (ve_var (i := 1) (hv := fun _ => .inl rfl)) (ve_lcF (hN := (fun _ => sc_check_step.nd)) (own := [("entry", 2)]) (vi_tpl (ve_ix (ve_var (i := 0) (hv := fun _ => .inl rfl)) ve_int)) (fun _ => blkOk_by (own := [("entry", 2)]) (N := N_check_step) (sc := defScope s_check_step) (by decide +kernel)) (vgo_name (i := 2) (fun _ => sc_check_step.nd) (hx := fun _ => .inl rfl) (hf := fun _ => .inr rfl)) vts_nil (ve_ix (ve_var (i := 2) (hv := fun _ => .inl rfl)) ve_int))))))) (vss_one vs_retN) vss_nil)
  (vss_one (vs_raise T_Misplaced (va_cons (ve_var (i := 1) (hv := fun _ => .inl rfl)) va_nil) (fun i => i.room)))))
abbrev s_replaced : Stmt := top 19
abbrev N_replaced : List Str := ["value", "path", "part"]
theorem sc_replaced : FnScope N_replaced ["value", "path", "part"] (defScope s_replaced) := ⟨rfl, rfl, rfl, by decide +kernel, rfl, by decide +kernel, by decide +kernel⟩
def t_replaced (q_check_levels : WSp) (q_depth : WSp) (q_part_at : WSp) (q_put_at : WSp) : WS :=
  (vSeq (vExpr (vCall q_part_at (vCons (vVar 0) (vCons (vVar 1) vNil))))
  (vSeq (vExpr (vCall q_check_levels (vCons (vOp rAdd (vCB rLen (vCons (vVar 1) vNil)) (vCall q_depth (vCons (vVar 2) vNil))) vNil)))
  (vRet (vCall q_put_at (vCons (vVar 0) (vCons (vVar 1) (vCons (vVar 2) vNil)))))))
theorem dv_replaced {C : Cmn} {k : Nat} {qual : Str} (g_len : C.mg "len" = none) {q_check_levels : WSp} (D_check_levels : DefOk C k "check_levels" q_check_levels) {q_depth : WSp} (D_depth : DefOk C k "depth" q_depth) {q_part_at : WSp} (D_part_at : DefOk C k "part_at" q_part_at) {q_put_at : WSp} (D_put_at : DefOk C k "put_at" q_put_at) : VSs C (fun i : DIx k qual (defScope s_replaced) => DR C N_replaced i) (defBody s_replaced) (t_replaced q_check_levels q_depth q_part_at q_put_at) :=
  (vss_cons (vs_expr (ve_call D_part_at (va_cons (ve_var (i := 0) (hv := fun _ => .inl rfl)) (va_cons (ve_var (i := 1) (hv := fun _ => .inl rfl)) va_nil)) (fun i => i.room)))
  (vss_cons (vs_expr (ve_call D_check_levels (va_cons (ve_op ov_add (ve_callB cv_len g_len (va_cons (ve_var (i := 1) (hv := fun _ => .inl rfl)) va_nil)) (ve_call D_depth (va_cons (ve_var (i := 2) (hv := fun _ => .inl rfl)) va_nil) (fun i => i.room))) va_nil) (fun i => i.room)))
  (vss_one (vs_ret (ve_call D_put_at (va_cons (ve_var (i := 0) (hv := fun _ => .inl rfl)) (va_cons (ve_var (i := 1) (hv := fun _ => .inl rfl)) (va_cons (ve_var (i := 2) (hv := fun _ => .inl rfl)) va_nil))) (fun i => i.room))))))
abbrev s_removed : Stmt := top 20
abbrev N_removed : List Str := ["value", "path", "holder", "rows", "row"]
theorem sc_removed : FnScope N_removed ["value", "path"] (defScope s_removed) := ⟨rfl, rfl, rfl, by decide +kernel, rfl, by decide +kernel, by decide +kernel⟩
def t_removed_c1 (x_Astray : Addr) (q_made : WSp) (q_part_at : WSp) (q_put_at : WSp) (q_steps_of : WSp) : WT :=
  (vTst (vOp rNe (vOp rIx (vVar 4) (vC (.int 0))) (vOp rIx (vVar 1) (vUn rNeg (vC (.int 1))))))
def t_removed_e1 (x_Astray : Addr) (q_made : WSp) (q_part_at : WSp) (q_put_at : WSp) (q_steps_of : WSp) : WE :=
  (vVar 4)
def t_removed (x_Astray : Addr) (q_made : WSp) (q_part_at : WSp) (q_put_at : WSp) (q_steps_of : WSp) : WS :=
  (vSeq (vExpr (vCall q_part_at (vCons (vVar 0) (vCons (vVar 1) vNil))))
  (vSeq (vIf (vTst (vOp rEq (vCB rLen (vCons (vVar 1) vNil)) (vC (.int 0)))) (vRaise x_Astray (vCons (vTup vNil) vNil)) vNext)
  (vSeq (vAsg (vCall q_part_at (vCons (vVar 0) (vCons (vSl rSlF (vVar 1) vNoP (vPart (vUn rNeg (vC (.int 1))))) vNil))) (gNm 2))
  (vSeq (vAsg (vLcF (iLst (vFrz (vCall q_steps_of (vCons (vVar 2) vNil)))) (gNm 4) (t_removed_c1 x_Astray q_made q_part_at q_put_at q_steps_of) (t_removed_e1 x_Astray q_made q_part_at q_put_at q_steps_of) [4]) (gNm 3))
  (vRet (vCall q_put_at (vCons (vVar 0) (vCons (vSl rSlF (vVar 1) vNoP (vPart (vUn rNeg (vC (.int 1))))) (vCons (vCall q_made (vCons (vOp rIx (vVar 2) (vC (.int 0))) (vCons (vVar 3) vNil))) vNil)))))))))
theorem dv_removed {C : Cmn} {k : Nat} {qual : Str} (g_len : C.mg "len" = none) {x_Astray : Addr} (T_Astray : ExcT C "Astray" x_Astray) {q_made : WSp} (D_made : DefOk C (k + 2) "made" q_made) {q_part_at : WSp} (D_part_at : DefOk C (k + 2) "part_at" q_part_at) {q_put_at : WSp} (D_put_at : DefOk C (k + 2) "put_at" q_put_at) {q_steps_of : WSp} (D_steps_of : DefOk C (k + 2) "steps_of" q_steps_of) : VSs C (fun i : DIx (k + 2) qual (defScope s_removed) => DR C N_removed i) (defBody s_removed) (t_removed x_Astray q_made q_part_at q_put_at q_steps_of) :=
  (vss_cons (vs_expr (ve_call D_part_at (va_cons (ve_var (i := 0) (hv := fun _ => .inl rfl)) (va_cons (ve_var (i := 1) (hv := fun _ => .inr (.inl rfl))) va_nil)) (fun i => i.room)))
  (vss_cons (vs_if (vt_cmp (ov_eq (fun i => ru i.room)) (ve_callB cv_len g_len (va_cons (ve_var (i := 1) (hv := fun _ => .inr (.inl rfl))) va_nil)) ve_int) (vss_one (vs_raise T_Astray (va_cons (ve_tup va_nil) va_nil) (fun i => i.room))) vss_nil)
  (vss_cons (vs_set (i := 2) (fun _ => sc_removed.nd) (ve_call D_part_at (va_cons (ve_var (i := 0) (hv := fun _ => .inl rfl)) (va_cons (ve_slice slF_sound (ve_var (i := 1) (hv := fun _ => .inr (.inl rfl))) vo_none (vo_some (ve_neg ve_int))) va_nil)) (fun i => i.room)) (hx := fun _ => .inl rfl) (hf := fun _ => .inl rfl))
  (vss_cons (vs_lcF (i := 3) (hN := (fun _ => sc_removed.nd)) (own := [("row", 4)]) (vi_lst (ve_frz (ve_call D_steps_of (va_cons (ve_var (i := 2) (hv := fun _ => .inl rfl)) va_nil) (fun i => i.room)))) (fun _ => blkOk_by (own := [("row", 4)]) (N := N_removed) (sc := defScope s_removed) (by decide +kernel)) (vgo_name (i := 4) (fun _ => sc_removed.nd) (hx := fun _ => .inl rfl) (hf := fun _ => .inr rfl)) (vts_one (vt_cmp (ov_ne (fun i => ru i.1.room)) (ve_ix (ve_var (i := 4) (hv := fun _ => .inl rfl)) ve_int) (ve_ix (ve_var (i := 1) (hv := fun _ => .inr (.inl rfl))) (ve_neg ve_int)))) (ve_var (i := 4) (hv := fun _ => .inl rfl)))
  (vss_one (vs_ret (ve_call D_put_at (va_cons (ve_var (i := 0) (hv := fun _ => .inl rfl)) (va_cons (ve_slice slF_sound (ve_var (i := 1) (hv := fun _ => .inr (.inl rfl))) vo_none (vo_some (ve_neg ve_int))) (va_cons (ve_call D_made (va_cons (ve_ix (ve_var (i := 2) (hv := fun _ => .inl rfl)) ve_int) (va_cons (ve_var (i := 3) (hv := fun _ => .inl rfl)) va_nil)) (fun i => i.room)) va_nil))) (fun i => i.room))))))))
abbrev s_inserted : Stmt := top 21
abbrev N_inserted : List Str := ["value", "path", "step", "part", "holder", "rows"]
theorem sc_inserted : FnScope N_inserted ["value", "path", "step", "part"] (defScope s_inserted) := ⟨rfl, rfl, rfl, by decide +kernel, rfl, by decide +kernel, by decide +kernel⟩
def t_inserted (q_check_levels : WSp) (q_check_step : WSp) (q_depth : WSp) (q_made : WSp) (q_part_at : WSp) (q_put_at : WSp) (q_steps_of : WSp) : WS :=
  (vSeq (vAsg (vCall q_part_at (vCons (vVar 0) (vCons (vVar 1) vNil))) (gNm 4))
  (vSeq (vExpr (vCall q_check_step (vCons (vVar 4) (vCons (vVar 2) vNil))))
  (vSeq (vExpr (vCall q_check_levels (vCons (vOp rAdd (vOp rAdd (vCB rLen (vCons (vVar 1) vNil)) (vC (.int 1))) (vCall q_depth (vCons (vVar 3) vNil))) vNil)))
  (vSeq (vAsg (vCall q_steps_of (vCons (vVar 4) vNil)) (gNm 5))
  (vSeq (vIf (vTst (vOp rEq (vOp rIx (vVar 4) (vC (.int 0))) (vC (.str "list")))) (vExpr (vMt rInsert (vVar 5) (vCons (vVar 2) (vCons (vTup (vCons (vVar 2) (vCons (vVar 3) vNil))) vNil)))) (vExpr (vMt rAppend (vVar 5) (vCons (vTup (vCons (vVar 2) (vCons (vVar 3) vNil))) vNil))))
  (vRet (vCall q_put_at (vCons (vVar 0) (vCons (vVar 1) (vCons (vCall q_made (vCons (vOp rIx (vVar 4) (vC (.int 0))) (vCons (vFrz (vVar 5)) vNil))) vNil))))))))))
theorem dv_inserted {C : Cmn} {k : Nat} {qual : Str} (g_len : C.mg "len" = none) {q_check_levels : WSp} (D_check_levels : DefOk C k "check_levels" q_check_levels) {q_check_step : WSp} (D_check_step : DefOk C k "check_step" q_check_step) {q_depth : WSp} (D_depth : DefOk C k "depth" q_depth) {q_made : WSp} (D_made : DefOk C k "made" q_made) {q_part_at : WSp} (D_part_at : DefOk C k "part_at" q_part_at) {q_put_at : WSp} (D_put_at : DefOk C k "put_at" q_put_at) {q_steps_of : WSp} (D_steps_of : DefOk C k "steps_of" q_steps_of) : VSs C (fun i : DIx k qual (defScope s_inserted) => DR C N_inserted i) (defBody s_inserted) (t_inserted q_check_levels q_check_step q_depth q_made q_part_at q_put_at q_steps_of) :=
  (vss_cons (vs_set (i := 4) (fun _ => sc_inserted.nd) (ve_call D_part_at (va_cons (ve_var (i := 0) (hv := fun _ => .inl rfl)) (va_cons (ve_var (i := 1) (hv := fun _ => .inl rfl)) va_nil)) (fun i => i.room)) (hx := fun _ => .inl rfl) (hf := fun _ => .inl rfl))
  (vss_cons (vs_expr (ve_call D_check_step (va_cons (ve_var (i := 4) (hv := fun _ => .inl rfl)) (va_cons (ve_var (i := 2) (hv := fun _ => .inl rfl)) va_nil)) (fun i => i.room)))
  (vss_cons (vs_expr (ve_call D_check_levels (va_cons (ve_op ov_add (ve_op ov_add (ve_callB cv_len g_len (va_cons (ve_var (i := 1) (hv := fun _ => .inl rfl)) va_nil)) ve_int) (ve_call D_depth (va_cons (ve_var (i := 3) (hv := fun _ => .inl rfl)) va_nil) (fun i => i.room))) va_nil) (fun i => i.room)))
  (vss_cons (vs_set (i := 5) (fun _ => sc_inserted.nd) (ve_call D_steps_of (va_cons (ve_var (i := 4) (hv := fun _ => .inl rfl)) va_nil) (fun i => i.room)) (hx := fun _ => .inl rfl) (hf := fun _ => .inl rfl))
  (vss_cons (vs_if (vt_cmp (ov_eq (fun i => ru i.room)) (ve_ix (ve_var (i := 4) (hv := fun _ => .inl rfl)) ve_int) ve_str) (vss_one (vs_expr (ve_mt PySem.F.slot_list_insert PySem.F.type_list_insert mv_insert (ve_var (i := 5) (hv := fun _ => .inl rfl)) (va_cons (ve_var (i := 2) (hv := fun _ => .inl rfl)) (va_cons (ve_tup (va_cons (ve_var (i := 2) (hv := fun _ => .inl rfl)) (va_cons (ve_var (i := 3) (hv := fun _ => .inl rfl)) va_nil))) va_nil))))) (vss_one (vs_expr (ve_mt PySem.F.slot_list_append PySem.F.type_list_append mv_append (ve_var (i := 5) (hv := fun _ => .inl rfl)) (va_cons (ve_tup (va_cons (ve_var (i := 2) (hv := fun _ => .inl rfl)) (va_cons (ve_var (i := 3) (hv := fun _ => .inl rfl)) va_nil))) va_nil)))))
  (vss_one (vs_ret (ve_call D_put_at (va_cons (ve_var (i := 0) (hv := fun _ => .inl rfl)) (va_cons (ve_var (i := 1) (hv := fun _ => .inl rfl)) (va_cons (ve_call D_made (va_cons (ve_ix (ve_var (i := 4) (hv := fun _ => .inl rfl)) ve_int) (va_cons (ve_frz (ve_var (i := 5) (hv := fun _ => .inl rfl))) va_nil)) (fun i => i.room)) va_nil))) (fun i => i.room)))))))))
abbrev s_edited : Stmt := top 22
abbrev N_edited : List Str := ["value", "edit"]
theorem sc_edited : FnScope N_edited ["value", "edit"] (defScope s_edited) := ⟨rfl, rfl, rfl, by decide +kernel, rfl, by decide +kernel, by decide +kernel⟩
def t_edited (q_inserted : WSp) (q_removed : WSp) (q_replaced : WSp) : WS :=
  (vSeq (vMatch (vOp rIx (vVar 1) (vC (.int 0))) [("replace", (vRet (vCall q_replaced (vCons (vVar 0) (vCons (vOp rIx (vVar 1) (vC (.int 1))) (vCons (vOp rIx (vVar 1) (vC (.int 2))) vNil)))))), ("remove", (vRet (vCall q_removed (vCons (vVar 0) (vCons (vOp rIx (vVar 1) (vC (.int 1))) vNil)))))])
  (vRet (vCall q_inserted (vCons (vVar 0) (vCons (vOp rIx (vVar 1) (vC (.int 1))) (vCons (vOp rIx (vVar 1) (vC (.int 2))) (vCons (vOp rIx (vVar 1) (vC (.int 3))) vNil)))))))
theorem dv_edited {C : Cmn} {k : Nat} {qual : Str} {q_inserted : WSp} (D_inserted : DefOk C k "inserted" q_inserted) {q_removed : WSp} (D_removed : DefOk C k "removed" q_removed) {q_replaced : WSp} (D_replaced : DefOk C k "replaced" q_replaced) : VSs C (fun i : DIx k qual (defScope s_edited) => DR C N_edited i) (defBody s_edited) (t_edited q_inserted q_removed q_replaced) :=
  (vss_cons (vs_match (ve_ix (ve_var (i := 1) (hv := fun _ => .inl rfl)) ve_int)
  (vms_cons (vss_one (vs_ret (ve_call D_replaced (va_cons (ve_var (i := 0) (hv := fun _ => .inl rfl)) (va_cons (ve_ix (ve_var (i := 1) (hv := fun _ => .inl rfl)) ve_int) (va_cons (ve_ix (ve_var (i := 1) (hv := fun _ => .inl rfl)) ve_int) va_nil))) (fun i => i.room))))
  (vms_cons (vss_one (vs_ret (ve_call D_removed (va_cons (ve_var (i := 0) (hv := fun _ => .inl rfl)) (va_cons (ve_ix (ve_var (i := 1) (hv := fun _ => .inl rfl)) ve_int) va_nil)) (fun i => i.room))))
  vms_nil)))
  (vss_one (vs_ret (ve_call D_inserted (va_cons (ve_var (i := 0) (hv := fun _ => .inl rfl)) (va_cons (ve_ix (ve_var (i := 1) (hv := fun _ => .inl rfl)) ve_int) (va_cons (ve_ix (ve_var (i := 1) (hv := fun _ => .inl rfl)) ve_int) (va_cons (ve_ix (ve_var (i := 1) (hv := fun _ => .inl rfl)) ve_int) va_nil)))) (fun i => i.room)))))
abbrev s_common : Stmt := top 24
abbrev N_common : List Str := ["old", "new", "count"]
theorem sc_common : FnScope N_common ["old", "new"] (defScope s_common) := ⟨rfl, rfl, rfl, by decide +kernel, rfl, by decide +kernel, by decide +kernel⟩
def t_common_b1 : WS :=
  (vAsg (vOp rAdd (vVar 2) (vC (.int 1))) (gNm 2))
def t_common_w1 : WT :=
  (vAnd (vTst (vOp rLt (vVar 2) (vCB rLen (vCons (vVar 0) vNil)))) (vAnd (vTst (vOp rLt (vVar 2) (vCB rLen (vCons (vVar 1) vNil)))) (vTst (vOp rEq (vOp rIx (vVar 0) (vVar 2)) (vOp rIx (vVar 1) (vVar 2))))))
def t_common : WS :=
  (vSeq (vAsg (vC (.int 0)) (gNm 2))
  (vSeq (vWhile (t_common_w1)
  (t_common_b1))
  (vRet (vVar 2))))
theorem dv_common {C : Cmn} {k : Nat} {qual : Str} (g_len : C.mg "len" = none) : VSs C (fun i : DIx k qual (defScope s_common) => DR C N_common i) (defBody s_common) (t_common) :=
  (vss_cons (vs_set (i := 2) (fun _ => sc_common.nd) ve_int (hx := fun _ => .inl rfl) (hf := fun _ => .inl rfl))
  (vss_cons (vs_while (vw_pt (vw_and (vt_cmp ov_lt (ve_var (i := 2) (hv := fun _ => .inl rfl)) (ve_callB cv_len g_len (va_cons (ve_var (i := 0) (hv := fun _ => .inl rfl)) va_nil))) (vw_and (vt_cmp ov_lt (ve_var (i := 2) (hv := fun _ => .inl rfl)) (ve_callB cv_len g_len (va_cons (ve_var (i := 1) (hv := fun _ => .inl rfl)) va_nil))) (vw_and1 (vt_cmp (ov_eq (fun i => ru i.room)) (ve_ix (ve_var (i := 0) (hv := fun _ => .inl rfl)) (ve_var (i := 2) (hv := fun _ => .inl rfl))) (ve_ix (ve_var (i := 1) (hv := fun _ => .inl rfl)) (ve_var (i := 2) (hv := fun _ => .inl rfl))))))))
  (vss_one (vs_set (i := 2) (fun _ => sc_common.nd) (ve_op ov_add (ve_var (i := 2) (hv := fun _ => .inl rfl)) ve_int) (hx := fun _ => .inl rfl) (hf := fun _ => .inl rfl))))
  (vss_one (vs_ret (ve_var (i := 2) (hv := fun _ => .inl rfl))))))
abbrev s_list_edits : Stmt := top 25
abbrev N_list_edits : List Str := ["old", "new", "path", "first", "last", "gone", "come", "found", "index", "_"]
theorem sc_list_edits : FnScope N_list_edits ["old", "new", "path"] (defScope s_list_edits) := ⟨rfl, rfl, rfl, by decide +kernel, rfl, by decide +kernel, by decide +kernel⟩
def t_list_edits_b1 (q_common : WSp) (q_edits_at : WSp) : WS :=
  (vExpr (vMt rAppend (vVar 7) (vCons (vTup (vCons (vC (.str "insert")) (vCons (vVar 2) (vCons (vVar 8) (vCons (vOp rIx (vVar 1) (vVar 8)) vNil))))) vNil)))
def t_list_edits_b2 (q_common : WSp) (q_edits_at : WSp) : WS :=
  (vExpr (vMt rAppend (vVar 7) (vCons (vTup (vCons (vC (.str "remove")) (vCons (vOp rAdd (vVar 2) (vTup (vCons (vOp rAdd (vVar 3) (vVar 6)) vNil))) vNil))) vNil)))
def t_list_edits_b3 (q_common : WSp) (q_edits_at : WSp) : WS :=
  (vExpr (vMt rExtend (vVar 7) (vCons (vFrz (vCall q_edits_at (vCons (vOp rIx (vVar 0) (vVar 8)) (vCons (vOp rIx (vVar 1) (vVar 8)) (vCons (vOp rAdd (vVar 2) (vTup (vCons (vVar 8) vNil))) vNil))))) vNil)))
def t_list_edits (q_common : WSp) (q_edits_at : WSp) : WS :=
  (vSeq (vAsg (vCall q_common (vCons (vVar 0) (vCons (vVar 1) vNil))) (gNm 3))
  (vSeq (vAsg (vCall q_common (vCons (vBack (vSl rSlF (vVar 0) (vPart (vVar 3)) vNoP)) (vCons (vBack (vSl rSlF (vVar 1) (vPart (vVar 3)) vNoP)) vNil))) (gNm 4))
  (vSeq (vAsg (vOp rSub (vOp rSub (vCB rLen (vCons (vVar 0) vNil)) (vVar 3)) (vVar 4)) (gNm 5))
  (vSeq (vAsg (vOp rSub (vOp rSub (vCB rLen (vCons (vVar 1) vNil)) (vVar 3)) (vVar 4)) (gNm 6))
  (vSeq (vAsg (vLst vNil) (gNm 7))
  (vSeq (vFor (iRg2 (vCons (vVar 3) (vCons (vOp rAdd (vVar 3) (vCB rMin (vCons (vVar 5) (vCons (vVar 6) vNil)))) vNil))) (gNm 8)
  (t_list_edits_b3 q_common q_edits_at))
  (vSeq (vFor (iRg1 (vCons (vOp rSub (vVar 5) (vVar 6)) vNil)) (gNm 9)
  (t_list_edits_b2 q_common q_edits_at))
  (vSeq (vFor (iRg2 (vCons (vOp rAdd (vVar 3) (vVar 5)) (vCons (vOp rAdd (vVar 3) (vVar 6)) vNil))) (gNm 8)
  (t_list_edits_b1 q_common q_edits_at))
  (vRet (vVar 7))))))))))
theorem dv_list_edits {C : Cmn} {k : Nat} {qual : Str} (g_len : C.mg "len" = none) (g_min : C.mg "min" = none) (g_range : C.mg "range" = none) {q_common : WSp} (D_common : DefOk C k "common" q_common) {q_edits_at : WSp} (D_edits_at : DefOk C k "edits_at" q_edits_at) : VSs C (fun i : DIx k qual (defScope s_list_edits) => DR C N_list_edits i) (defBody s_list_edits) (t_list_edits q_common q_edits_at) :=
  (vss_cons (vs_set (i := 3) (fun _ => sc_list_edits.nd) (ve_call D_common (va_cons (ve_var (i := 0) (hv := fun _ => .inl rfl)) (va_cons (ve_var (i := 1) (hv := fun _ => .inl rfl)) va_nil)) (fun i => i.room)) (hx := fun _ => .inl rfl) (hf := fun _ => .inl rfl))
  (vss_cons (vs_set (i := 4) (fun _ => sc_list_edits.nd) (ve_call D_common (va_cons (ve_back (ve_slice slF_sound (ve_var (i := 0) (hv := fun _ => .inl rfl)) (vo_some (ve_var (i := 3) (hv := fun _ => .inl rfl))) vo_none)) (va_cons (ve_back (ve_slice slF_sound (ve_var (i := 1) (hv := fun _ => .inl rfl)) (vo_some (ve_var (i := 3) (hv := fun _ => .inl rfl))) vo_none)) va_nil)) (fun i => i.room)) (hx := fun _ => .inl rfl) (hf := fun _ => .inl rfl))
  (vss_cons (vs_set (i := 5) (fun _ => sc_list_edits.nd) (ve_op ov_sub (ve_op ov_sub (ve_callB cv_len g_len (va_cons (ve_var (i := 0) (hv := fun _ => .inl rfl)) va_nil)) (ve_var (i := 3) (hv := fun _ => .inl rfl))) (ve_var (i := 4) (hv := fun _ => .inl rfl))) (hx := fun _ => .inl rfl) (hf := fun _ => .inl rfl))
  (vss_cons (vs_set (i := 6) (fun _ => sc_list_edits.nd) (ve_op ov_sub (ve_op ov_sub (ve_callB cv_len g_len (va_cons (ve_var (i := 1) (hv := fun _ => .inl rfl)) va_nil)) (ve_var (i := 3) (hv := fun _ => .inl rfl))) (ve_var (i := 4) (hv := fun _ => .inl rfl))) (hx := fun _ => .inl rfl) (hf := fun _ => .inl rfl))
  (vss_cons (vs_set (i := 7) (fun _ => sc_list_edits.nd) (ve_lst va_nil) (hx := fun _ => .inl rfl) (hf := fun _ => .inl rfl))
  (vss_cons (vs_for (vi_rg2 g_range (va_cons (ve_var (i := 3) (hv := fun _ => .inl rfl)) (va_cons (ve_op ov_add (ve_var (i := 3) (hv := fun _ => .inl rfl)) (ve_callB cv_min g_min (va_cons (ve_var (i := 5) (hv := fun _ => .inl rfl)) (va_cons (ve_var (i := 6) (hv := fun _ => .inl rfl)) va_nil)))) va_nil))) (vg_name (i := 8) (fun _ => sc_list_edits.nd) (hx := fun _ => .inl rfl) (hf := fun _ => .inl rfl))
  (vss_one (vs_expr (ve_mt PySem.F.slot_list_extend PySem.F.type_list_extend mv_extend (ve_var (i := 7) (hv := fun _ => .inl rfl)) (va_cons (ve_frz (ve_call D_edits_at (va_cons (ve_ix (ve_var (i := 0) (hv := fun _ => .inl rfl)) (ve_var (i := 8) (hv := fun _ => .inl rfl))) (va_cons (ve_ix (ve_var (i := 1) (hv := fun _ => .inl rfl)) (ve_var (i := 8) (hv := fun _ => .inl rfl))) (va_cons (ve_op ov_add (ve_var (i := 2) (hv := fun _ => .inl rfl)) (ve_tup (va_cons (ve_var (i := 8) (hv := fun _ => .inl rfl)) va_nil))) va_nil))) (fun i => i.room))) va_nil)))))
  (vss_cons (vs_for (vi_rg1 g_range (va_cons (ve_op ov_sub (ve_var (i := 5) (hv := fun _ => .inl rfl)) (ve_var (i := 6) (hv := fun _ => .inl rfl))) va_nil)) (vg_name (i := 9) (fun _ => sc_list_edits.nd) (hx := fun _ => .inl rfl) (hf := fun _ => .inl rfl))
  (vss_one (vs_expr (ve_mt PySem.F.slot_list_append PySem.F.type_list_append mv_append (ve_var (i := 7) (hv := fun _ => .inl rfl)) (va_cons (ve_tup (va_cons ve_str (va_cons (ve_op ov_add (ve_var (i := 2) (hv := fun _ => .inl rfl)) (ve_tup (va_cons (ve_op ov_add (ve_var (i := 3) (hv := fun _ => .inl rfl)) (ve_var (i := 6) (hv := fun _ => .inl rfl))) va_nil))) va_nil))) va_nil)))))
  (vss_cons (vs_for (vi_rg2 g_range (va_cons (ve_op ov_add (ve_var (i := 3) (hv := fun _ => .inl rfl)) (ve_var (i := 5) (hv := fun _ => .inl rfl))) (va_cons (ve_op ov_add (ve_var (i := 3) (hv := fun _ => .inl rfl)) (ve_var (i := 6) (hv := fun _ => .inl rfl))) va_nil))) (vg_name (i := 8) (fun _ => sc_list_edits.nd) (hx := fun _ => .inl rfl) (hf := fun _ => .inl rfl))
  (vss_one (vs_expr (ve_mt PySem.F.slot_list_append PySem.F.type_list_append mv_append (ve_var (i := 7) (hv := fun _ => .inl rfl)) (va_cons (ve_tup (va_cons ve_str (va_cons (ve_var (i := 2) (hv := fun _ => .inl rfl)) (va_cons (ve_var (i := 8) (hv := fun _ => .inl rfl)) (va_cons (ve_ix (ve_var (i := 1) (hv := fun _ => .inl rfl)) (ve_var (i := 8) (hv := fun _ => .inl rfl))) va_nil))))) va_nil)))))
  (vss_one (vs_ret (ve_var (i := 7) (hv := fun _ => .inl rfl))))))))))))
abbrev s_map_edits : Stmt := top 26
abbrev N_map_edits : List Str := ["old", "new", "path", "olds", "news", "found", "key", "part"]
theorem sc_map_edits : FnScope N_map_edits ["old", "new", "path"] (defScope s_map_edits) := ⟨rfl, rfl, rfl, by decide +kernel, rfl, by decide +kernel, by decide +kernel⟩
def t_map_edits_b1 (q_edits_at : WSp) (q_steps_of : WSp) : WS :=
  (vIf (vTst (vOp (rInT false) (vVar 6) (vVar 3))) (vExpr (vMt rExtend (vVar 5) (vCons (vFrz (vCall q_edits_at (vCons (vDGet (vVar 3) (vVar 6)) (vCons (vDGetF (vVar 4) (vVar 6)) (vCons (vOp rAdd (vVar 2) (vTup (vCons (vVar 6) vNil))) vNil))))) vNil))) (vExpr (vMt rAppend (vVar 5) (vCons (vTup (vCons (vC (.str "insert")) (vCons (vVar 2) (vCons (vVar 6) (vCons (vDGetF (vVar 4) (vVar 6)) vNil))))) vNil))))
def t_map_edits_c1 (q_edits_at : WSp) (q_steps_of : WSp) : WT :=
  (vTst (vOp (rInT true) (vVar 6) (vVar 4)))
def t_map_edits_e1 (q_edits_at : WSp) (q_steps_of : WSp) : WE :=
  (vTup (vCons (vC (.str "remove")) (vCons (vOp rAdd (vVar 2) (vTup (vCons (vVar 6) vNil))) vNil)))
def t_map_edits_k1 (q_edits_at : WSp) (q_steps_of : WSp) : WE :=
  (vVar 6)
def t_map_edits_v1 (q_edits_at : WSp) (q_steps_of : WSp) : WE :=
  (vVar 7)
def t_map_edits_k2 (q_edits_at : WSp) (q_steps_of : WSp) : WE :=
  (vVar 6)
def t_map_edits_v2 (q_edits_at : WSp) (q_steps_of : WSp) : WE :=
  (vVar 7)
def t_map_edits (q_edits_at : WSp) (q_steps_of : WSp) : WS :=
  (vSeq (vAsg (vDt (iLst (vFrz (vCall q_steps_of (vCons (vVar 0) vNil)))) (gTupD 2 (gThen (gNm 6) (gThen (gNm 7) gEnd))) (t_map_edits_k2 q_edits_at q_steps_of) (t_map_edits_v2 q_edits_at q_steps_of) [6, 7]) (gNm 3))
  (vSeq (vAsg (vDt (iLst (vFrz (vCall q_steps_of (vCons (vVar 1) vNil)))) (gTupD 2 (gThen (gNm 6) (gThen (gNm 7) gEnd))) (t_map_edits_k1 q_edits_at q_steps_of) (t_map_edits_v1 q_edits_at q_steps_of) [6, 7]) (gNm 4))
  (vSeq (vLock 3 (vAsg (vLcO (iKeysF (vVar 3)) (gNm 6) (t_map_edits_c1 q_edits_at q_steps_of) (t_map_edits_e1 q_edits_at q_steps_of) [6]) (gNm 5)))
  (vSeq (vLock 4 (vFor (iKeysF (vVar 4)) (gNm 6)
  (t_map_edits_b1 q_edits_at q_steps_of)))
  (vRet (vDrop 4 (vDrop 3 (vVar 5))))))))
theorem dv_map_edits {C : Cmn} {k : Nat} {qual : Str} {q_edits_at : WSp} (D_edits_at : DefOk C k "edits_at" q_edits_at) {q_steps_of : WSp} (D_steps_of : DefOk C k "steps_of" q_steps_of) : VSs C (fun i : DIx k qual (defScope s_map_edits) => DR C N_map_edits i) (defBody s_map_edits) (t_map_edits q_edits_at q_steps_of) :=
  (vss_cons (vs_dt (i := 3) (hN := (fun _ => sc_map_edits.nd)) (hu := (fun i => ru i.room)) (own := [("key", 6), ("part", 7)]) (vi_lst (ve_frz (ve_call D_steps_of (va_cons (ve_var (i := 0) (hv := fun _ => .inl rfl)) va_nil) (fun i => i.room)))) (fun _ => blkOk_by (own := [("key", 6), ("part", 7)]) (N := N_map_edits) (sc := defScope s_map_edits) (by decide +kernel)) (vgo_tup (vgos_cons (vgo_name (i := 6) (fun _ => sc_map_edits.nd) (hx := fun _ => .inl rfl) (hf := fun _ => .inr rfl)) (vgos_cons (vgo_name (i := 7) (fun _ => sc_map_edits.nd) (hx := fun _ => .inl rfl) (hf := fun _ => .inr rfl)) vgos_nil))) (ve_var (i := 6) (hv := fun _ => .inl rfl)) (ve_var (i := 7) (hv := fun _ => .inl rfl)))
  (vss_cons (vs_set (i := 4) (fun _ => sc_map_edits.nd) (ve_dt (hN := (fun _ => sc_map_edits.nd)) (hu := (fun i => ru i.room)) (own := [("key", 6), ("part", 7)]) (vi_lst (ve_frz (ve_call D_steps_of (va_cons (ve_var (i := 1) (hv := fun _ => .inl rfl)) va_nil) (fun i => i.room)))) (fun _ => blkOk_by (own := [("key", 6), ("part", 7)]) (N := N_map_edits) (sc := defScope s_map_edits) (by decide +kernel)) (vgo_tup (vgos_cons (vgo_name (i := 6) (fun _ => sc_map_edits.nd) (hx := fun _ => .inl rfl) (hf := fun _ => .inr rfl)) (vgos_cons (vgo_name (i := 7) (fun _ => sc_map_edits.nd) (hx := fun _ => .inl rfl) (hf := fun _ => .inr rfl)) vgos_nil))) (ve_var (i := 6) (hv := fun _ => .inl rfl)) (ve_var (i := 7) (hv := fun _ => .inl rfl))) (hx := fun _ => .inr rfl) (hf := fun _ => .inl rfl))
  (vss_cons (vs_lock 3 (vs_lcO (i := 5) (hN := (fun _ => sc_map_edits.nd)) (own := [("key", 6)]) (vi_keysF (ve_var (i := 3) (hv := fun _ => .inl rfl))) (fun _ => blkOk_by (own := [("key", 6)]) (N := N_map_edits) (sc := defScope s_map_edits) (by decide +kernel)) (vgo_name (i := 6) (fun _ => sc_map_edits.nd) (hx := fun _ => .inl rfl) (hf := fun _ => .inr rfl)) (vts_one (vt_cmp (ov_notinT (fun i => ru i.1.room)) (ve_var (i := 6) (hv := fun _ => .inl rfl)) (ve_var (i := 4) (hv := fun _ => .inr (.inl rfl))))) (ve_tup (va_cons ve_str (va_cons (ve_op ov_add (ve_var (i := 2) (hv := fun _ => .inr (.inl rfl))) (ve_tup (va_cons (ve_var (i := 6) (hv := fun _ => .inl rfl)) va_nil))) va_nil)))))
  (vss_cons (vs_lock 4 (vs_for (vi_keysF (ve_var (i := 4) (hv := fun _ => .inr (.inl rfl)))) (vg_name (i := 6) (fun _ => sc_map_edits.nd) (hx := fun _ => .inl rfl) (hf := fun _ => .inl rfl))
  (vss_one (vs_if (vt_cmp (ov_inT (fun i => ru i.room)) (ve_var (i := 6) (hv := fun _ => .inl rfl)) (ve_var (i := 3) (hv := fun _ => .inl rfl))) (vss_one (vs_expr (ve_mt PySem.F.slot_list_extend PySem.F.type_list_extend mv_extend (ve_var (i := 5) (hv := fun _ => .inl rfl)) (va_cons (ve_frz (ve_call D_edits_at (va_cons (ve_dget (fun i => ru i.room) (ve_var (i := 3) (hv := fun _ => .inl rfl)) (ve_var (i := 6) (hv := fun _ => .inl rfl))) (va_cons (ve_dgetF (fun i => ru i.room) (ve_var (i := 4) (hv := fun _ => .inr (.inl rfl))) (ve_var (i := 6) (hv := fun _ => .inl rfl))) (va_cons (ve_op ov_add (ve_var (i := 2) (hv := fun _ => .inr (.inl rfl))) (ve_tup (va_cons (ve_var (i := 6) (hv := fun _ => .inl rfl)) va_nil))) va_nil))) (fun i => i.room))) va_nil)))) (vss_one (vs_expr (ve_mt PySem.F.slot_list_append PySem.F.type_list_append mv_append (ve_var (i := 5) (hv := fun _ => .inl rfl)) (va_cons (ve_tup (va_cons ve_str (va_cons (ve_var (i := 2) (hv := fun _ => .inr (.inl rfl))) (va_cons (ve_var (i := 6) (hv := fun _ => .inl rfl)) (va_cons (ve_dgetF (fun i => ru i.room) (ve_var (i := 4) (hv := fun _ => .inr (.inl rfl))) (ve_var (i := 6) (hv := fun _ => .inl rfl))) va_nil))))) va_nil))))))))
  (vss_one (vs_ret (ve_drop 4 (ve_drop 3 (ve_var (i := 5) (hv := fun _ => .inl rfl))))))))))
abbrev s_edits_at : Stmt := top 27
abbrev N_edits_at : List Str := ["old", "new", "path"]
theorem sc_edits_at : FnScope N_edits_at ["old", "new", "path"] (defScope s_edits_at) := ⟨rfl, rfl, rfl, by decide +kernel, rfl, by decide +kernel, by decide +kernel⟩
def t_edits_at (q_list_edits : WSp) (q_map_edits : WSp) : WS :=
  (vSeq (vIf (vTst (vOp rEq (vVar 0) (vVar 1))) (vRet (vLst vNil)) vNext)
  (vSeq (vIf (vAnd (vTst (vOp rEq (vOp rIx (vVar 0) (vC (.int 0))) (vC (.str "list")))) (vTst (vOp rEq (vOp rIx (vVar 1) (vC (.int 0))) (vC (.str "list"))))) (vRet (vCall q_list_edits (vCons (vOp rIx (vVar 0) (vC (.int 1))) (vCons (vOp rIx (vVar 1) (vC (.int 1))) (vCons (vVar 2) vNil))))) vNext)
  (vSeq (vIf (vAnd (vTst (vOp rEq (vOp rIx (vVar 0) (vC (.int 0))) (vC (.str "map")))) (vTst (vOp rEq (vOp rIx (vVar 1) (vC (.int 0))) (vC (.str "map"))))) (vRet (vCall q_map_edits (vCons (vVar 0) (vCons (vVar 1) (vCons (vVar 2) vNil))))) vNext)
  (vRet (vLst (vCons (vTup (vCons (vC (.str "replace")) (vCons (vVar 2) (vCons (vVar 1) vNil)))) vNil))))))
theorem dv_edits_at {C : Cmn} {k : Nat} {qual : Str} {q_list_edits : WSp} (D_list_edits : DefOk C k "list_edits" q_list_edits) {q_map_edits : WSp} (D_map_edits : DefOk C k "map_edits" q_map_edits) : VSs C (fun i : DIx k qual (defScope s_edits_at) => DR C N_edits_at i) (defBody s_edits_at) (t_edits_at q_list_edits q_map_edits) :=
  (vss_cons (vs_if (vt_cmp (ov_eq (fun i => ru i.room)) (ve_var (i := 0) (hv := fun _ => .inl rfl)) (ve_var (i := 1) (hv := fun _ => .inl rfl))) (vss_one (vs_ret (ve_lst va_nil))) vss_nil)
  (vss_cons (vs_if (vw_pt (vw_and (vt_cmp (ov_eq (fun i => ru i.room)) (ve_ix (ve_var (i := 0) (hv := fun _ => .inl rfl)) ve_int) ve_str) (vw_and1 (vt_cmp (ov_eq (fun i => ru i.room)) (ve_ix (ve_var (i := 1) (hv := fun _ => .inl rfl)) ve_int) ve_str)))) (vss_one (vs_ret (ve_call D_list_edits (va_cons (ve_ix (ve_var (i := 0) (hv := fun _ => .inl rfl)) ve_int) (va_cons (ve_ix (ve_var (i := 1) (hv := fun _ => .inl rfl)) ve_int) (va_cons (ve_var (i := 2) (hv := fun _ => .inl rfl)) va_nil))) (fun i => i.room)))) vss_nil)
  (vss_cons (vs_if (vw_pt (vw_and (vt_cmp (ov_eq (fun i => ru i.room)) (ve_ix (ve_var (i := 0) (hv := fun _ => .inl rfl)) ve_int) ve_str) (vw_and1 (vt_cmp (ov_eq (fun i => ru i.room)) (ve_ix (ve_var (i := 1) (hv := fun _ => .inl rfl)) ve_int) ve_str)))) (vss_one (vs_ret (ve_call D_map_edits (va_cons (ve_var (i := 0) (hv := fun _ => .inl rfl)) (va_cons (ve_var (i := 1) (hv := fun _ => .inl rfl)) (va_cons (ve_var (i := 2) (hv := fun _ => .inl rfl)) va_nil))) (fun i => i.room)))) vss_nil)
  (vss_one (vs_ret (ve_lst (va_cons (ve_tup (va_cons ve_str (va_cons (ve_var (i := 2) (hv := fun _ => .inl rfl)) (va_cons (ve_var (i := 1) (hv := fun _ => .inl rfl)) va_nil)))) va_nil)))))))
abbrev s_difference : Stmt := top 28
abbrev N_difference : List Str := ["old", "new"]
theorem sc_difference : FnScope N_difference ["old", "new"] (defScope s_difference) := ⟨rfl, rfl, rfl, by decide +kernel, rfl, by decide +kernel, by decide +kernel⟩
def t_difference (q_edits_at : WSp) : WS :=
  (vRet (vCall q_edits_at (vCons (vVar 0) (vCons (vVar 1) (vCons (vTup vNil) vNil)))))
theorem dv_difference {C : Cmn} {k : Nat} {qual : Str} {q_edits_at : WSp} (D_edits_at : DefOk C k "edits_at" q_edits_at) : VSs C (fun i : DIx k qual (defScope s_difference) => DR C N_difference i) (defBody s_difference) (t_difference q_edits_at) :=
  (vss_one (vs_ret (ve_call D_edits_at (va_cons (ve_var (i := 0) (hv := fun _ => .inl rfl)) (va_cons (ve_var (i := 1) (hv := fun _ => .inl rfl)) (va_cons (ve_tup va_nil) va_nil))) (fun i => i.room))))
abbrev s__law_cell : Stmt := top 30
abbrev N__law_cell : List Str := ["script", "k"]
theorem sc__law_cell : FnScope N__law_cell ["script", "k"] (defScope s__law_cell) := ⟨rfl, rfl, rfl, by decide +kernel, rfl, by decide +kernel, by decide +kernel⟩
def t__law_cell : WS :=
  (vSeq (vIf (vTst (vOp rLt (vVar 1) (vCB rLen (vCons (vVar 0) vNil)))) (vRet (vOp rIx (vVar 0) (vVar 1))) vNext)
  (vRet (vC (.int 0))))
theorem dv__law_cell {C : Cmn} {k : Nat} {qual : Str} (g_len : C.mg "len" = none) : VSs C (fun i : DIx k qual (defScope s__law_cell) => DR C N__law_cell i) (defBody s__law_cell) (t__law_cell) :=
  (vss_cons (vs_if (vt_cmp ov_lt (ve_var (i := 1) (hv := fun _ => .inl rfl)) (ve_callB cv_len g_len (va_cons (ve_var (i := 0) (hv := fun _ => .inl rfl)) va_nil))) (vss_one (vs_ret (ve_ix (ve_var (i := 0) (hv := fun _ => .inl rfl)) (ve_var (i := 1) (hv := fun _ => .inl rfl))))) vss_nil)
  (vss_one (vs_ret ve_int)))
abbrev s__law_numbers : Stmt := top 31
abbrev N__law_numbers : List Str := ["cell", "many", "rest", "size", "numbers", "k", "mixed"]
theorem sc__law_numbers : FnScope N__law_numbers ["cell", "many"] (defScope s__law_numbers) := ⟨rfl, rfl, rfl, by decide +kernel, rfl, by decide +kernel, by decide +kernel⟩
def t__law_numbers_b1 : WS :=
  (vIf (vAnd (vTst (vOp rGe (vVar 3) (vOp rPow (vC (.int 10)) (vC (.int 18))))) (vTst (vOp rGt (vVar 2) (vC (.int 0))))) (vSeq (vExpr (vMt rAppend (vVar 4) (vCons (vOp rMod (vCB rInt (vCons (vVar 2) vNil)) (vC (.int 1000))) vNil)))
  (vAsg (vOp rFdiv (vVar 2) (vC (.int 1000))) (gNm 2))) (vSeq (vAsg (vOp rMod (vCB rInt (vCons (vOp rAdd (vOp rAdd (vOp rMul (vVar 3) (vC (.int 48271))) (vOp rMul (vVar 5) (vC (.int 69621)))) (vC (.int 11))) vNil)) (vC (.int 2147483647))) (gNm 6))
  (vSeq (vAsg (vOp rMod (vCB rInt (vCons (vOp rAdd (vOp rAdd (vOp rMul (vVar 6) (vVar 6)) (vOp rMul (vC (.int 40692)) (vVar 5))) (vC (.int 3))) vNil)) (vC (.int 2147483629))) (gNm 6))
  (vExpr (vMt rAppend (vVar 4) (vCons (vOp rMod (vCB rInt (vCons (vOp rFdiv (vVar 6) (vC (.int 7))) vNil)) (vC (.int 1000))) vNil))))))
def t__law_numbers : WS :=
  (vSeq (vAsg (vCB rAbs (vCons (vVar 0) vNil)) (gNm 2))
  (vSeq (vAsg (vVar 2) (gNm 3))
  (vSeq (vAsg (vLst vNil) (gNm 4))
  (vSeq (vFor (iRg1 (vCons (vVar 1) vNil)) (gNm 5)
  (t__law_numbers_b1))
  (vRet (vVar 4))))))
theorem dv__law_numbers {C : Cmn} {k : Nat} {qual : Str} (g_abs : C.mg "abs" = none) (g_int : C.mg "int" = none) (g_range : C.mg "range" = none) : VSs C (fun i : DIx k qual (defScope s__law_numbers) => DR C N__law_numbers i) (defBody s__law_numbers) (t__law_numbers) :=
  (vss_cons (vs_set (i := 2) (fun _ => sc__law_numbers.nd) (ve_callB cv_abs g_abs (va_cons (ve_var (i := 0) (hv := fun _ => .inl rfl)) va_nil)) (hx := fun _ => .inl rfl) (hf := fun _ => .inl rfl))
  (vss_cons (vs_set (i := 3) (fun _ => sc__law_numbers.nd) (ve_var (i := 2) (hv := fun _ => .inl rfl)) (hx := fun _ => .inl rfl) (hf := fun _ => .inl rfl))
  (vss_cons (vs_set (i := 4) (fun _ => sc__law_numbers.nd) (ve_lst va_nil) (hx := fun _ => .inl rfl) (hf := fun _ => .inl rfl))
  (vss_cons (vs_for (vi_rg1 g_range (va_cons (ve_var (i := 1) (hv := fun _ => .inl rfl)) va_nil)) (vg_name (i := 5) (fun _ => sc__law_numbers.nd) (hx := fun _ => .inl rfl) (hf := fun _ => .inl rfl))
  (vss_one (vs_if (vw_pt (vw_and (vt_cmp ov_ge (ve_var (i := 3) (hv := fun _ => .inl rfl)) (ve_op ov_pow ve_int ve_int)) (vw_and1 (vt_cmp ov_gt (ve_var (i := 2) (hv := fun _ => .inl rfl)) ve_int)))) (vss_cons (vs_expr (ve_mt PySem.F.slot_list_append PySem.F.type_list_append mv_append (ve_var (i := 4) (hv := fun _ => .inl rfl)) (va_cons (ve_op ov_mod (ve_callTy cv_int g_int (va_cons (ve_var (i := 2) (hv := fun _ => .inl rfl)) va_nil)) ve_int) va_nil)))
  (vss_one (vs_set (i := 2) (fun _ => sc__law_numbers.nd) (ve_op ov_fdiv (ve_var (i := 2) (hv := fun _ => .inl rfl)) ve_int) (hx := fun _ => .inl rfl) (hf := fun _ => .inl rfl)))) (vss_cons (vs_set (i := 6) (fun _ => sc__law_numbers.nd) (ve_op ov_mod (ve_callTy cv_int g_int (va_cons (ve_op ov_add (ve_op ov_add (ve_op ov_mul (ve_var (i := 3) (hv := fun _ => .inl rfl)) ve_int) (ve_op ov_mul (ve_var (i := 5) (hv := fun _ => .inl rfl)) ve_int)) ve_int) va_nil)) ve_int) (hx := fun _ => .inl rfl) (hf := fun _ => .inl rfl))
  (vss_cons (vs_set (i := 6) (fun _ => sc__law_numbers.nd) (ve_op ov_mod (ve_callTy cv_int g_int (va_cons (ve_op ov_add (ve_op ov_add (ve_op ov_mul (ve_var (i := 6) (hv := fun _ => .inl rfl)) (ve_var (i := 6) (hv := fun _ => .inl rfl))) (ve_op ov_mul ve_int (ve_var (i := 5) (hv := fun _ => .inl rfl)))) ve_int) va_nil)) ve_int) (hx := fun _ => .inl rfl) (hf := fun _ => .inl rfl))
  (vss_one (vs_expr (ve_mt PySem.F.slot_list_append PySem.F.type_list_append mv_append (ve_var (i := 4) (hv := fun _ => .inl rfl)) (va_cons (ve_op ov_mod (ve_callTy cv_int g_int (va_cons (ve_op ov_fdiv (ve_var (i := 6) (hv := fun _ => .inl rfl)) ve_int) va_nil)) ve_int) va_nil)))))))))
  (vss_one (vs_ret (ve_var (i := 4) (hv := fun _ => .inl rfl))))))))
abbrev s__law_state : Stmt := top 32
abbrev N__law_state : List Str := ["script", "left", "numbers", "parted", "k"]
theorem sc__law_state : FnScope N__law_state ["script", "left"] (defScope s__law_state) := ⟨rfl, rfl, rfl, by decide +kernel, rfl, by decide +kernel, by decide +kernel⟩
def t__law_state_b1 (q__law_cell : WSp) (q__law_numbers : WSp) : WS :=
  (vExpr (vMt rExtend (vVar 2) (vCons (vLstF (vCons (vOp rIx (vOp rIx (vVar 3) (vC (.int 0))) (vVar 4)) (vCons (vOp rIx (vOp rIx (vVar 3) (vC (.int 1))) (vVar 4)) (vCons (vOp rIx (vOp rIx (vVar 3) (vC (.int 2))) (vVar 4)) vNil)))) vNil)))
def t__law_state_e1 (q__law_cell : WSp) (q__law_numbers : WSp) : WE :=
  (vFrz (vCall q__law_numbers (vCons (vCall q__law_cell (vCons (vVar 0) (vCons (vVar 4) vNil))) (vCons (vC (.int 40)) vNil))))
def t__law_state (q__law_cell : WSp) (q__law_numbers : WSp) : WS :=
  (vSeq (vAsg (vLst vNil) (gNm 2))
  (vSeq (vAsg (vLcF (iRg1 (vCons (vC (.int 3)) vNil)) (gNm 4) vYes (t__law_state_e1 q__law_cell q__law_numbers) [4]) (gNm 3))
  (vSeq (vFor (iRg1 (vCons (vC (.int 40)) vNil)) (gNm 4)
  (t__law_state_b1 q__law_cell q__law_numbers))
  (vRet (vLst (vCons (vFrz (vVar 2)) (vCons (vC (.int 0)) (vCons (vVar 1) (vCons (vVar 0) (vCons (vC (.int 4)) vNil))))))))))
theorem dv__law_state {C : Cmn} {k : Nat} {qual : Str} (g_range : C.mg "range" = none) {q__law_cell : WSp} (D__law_cell : DefOk C k "_law_cell" q__law_cell) {q__law_numbers : WSp} (D__law_numbers : DefOk C k "_law_numbers" q__law_numbers) : VSs C (fun i : DIx k qual (defScope s__law_state) => DR C N__law_state i) (defBody s__law_state) (t__law_state q__law_cell q__law_numbers) :=
  (vss_cons (vs_set (i := 2) (fun _ => sc__law_state.nd) (ve_lst va_nil) (hx := fun _ => .inl rfl) (hf := fun _ => .inl rfl))
  (vss_cons (vs_lcF (i := 3) (hN := (fun _ => sc__law_state.nd)) (own := [("k", 4)]) (vi_rg1 g_range (va_cons ve_int va_nil)) (fun _ => blkOk_by (own := [("k", 4)]) (N := N__law_state) (sc := defScope s__law_state) (by decide +kernel)) (vgo_name (i := 4) (fun _ => sc__law_state.nd) (hx := fun _ => .inl rfl) (hf := fun _ => .inr rfl)) vts_nil (ve_frz (ve_call D__law_numbers (va_cons (ve_call D__law_cell (va_cons (ve_var (i := 0) (hv := fun _ => .inr (.inl rfl))) (va_cons (ve_var (i := 4) (hv := fun _ => .inl rfl)) va_nil)) (fun i => i.1.room)) (va_cons ve_int va_nil)) (fun i => i.1.room))))
  (vss_cons (vs_for (vi_rg1 g_range (va_cons ve_int va_nil)) (vg_name (i := 4) (fun _ => sc__law_state.nd) (hx := fun _ => .inl rfl) (hf := fun _ => .inl rfl))
  (vss_one (vs_expr (ve_mt PySem.F.slot_list_extend PySem.F.type_list_extend mv_extend (ve_var (i := 2) (hv := fun _ => .inl rfl)) (va_cons (ve_lstF (va_cons (ve_ix (ve_ix (ve_var (i := 3) (hv := fun _ => .inl rfl)) ve_int) (ve_var (i := 4) (hv := fun _ => .inl rfl))) (va_cons (ve_ix (ve_ix (ve_var (i := 3) (hv := fun _ => .inl rfl)) ve_int) (ve_var (i := 4) (hv := fun _ => .inl rfl))) (va_cons (ve_ix (ve_ix (ve_var (i := 3) (hv := fun _ => .inl rfl)) ve_int) (ve_var (i := 4) (hv := fun _ => .inl rfl))) va_nil)))) va_nil)))))
  (vss_one (vs_ret (ve_lst (va_cons (ve_frz (ve_var (i := 2) (hv := fun _ => .inl rfl))) (va_cons ve_int (va_cons (ve_var (i := 1) (hv := fun _ => .inl rfl)) (va_cons (ve_var (i := 0) (hv := fun _ => .inr (.inl rfl))) (va_cons ve_int va_nil)))))))))))
abbrev s__law_next : Stmt := top 33
abbrev N__law_next : List Str := ["state", "many", "at"]
theorem sc__law_next : FnScope N__law_next ["state", "many"] (defScope s__law_next) := ⟨rfl, rfl, rfl, by decide +kernel, rfl, by decide +kernel, by decide +kernel⟩
def t__law_next : WS :=
  (vSeq (vAsg (vOp rIx (vVar 0) (vC (.int 1))) (gNm 2))
  (vSeq (vPutL (vOp rAdd (vVar 2) (vC (.int 1))) (vVar 0) (vC (.int 1)))
  (vRet (vOp rMod (vCB rInt (vCons (vOp rAdd (vOp rIx (vOp rIx (vVar 0) (vC (.int 0))) (vOp rMod (vVar 2) (vC (.int 120)))) (vOp rMul (vC (.int 7)) (vOp rFdiv (vVar 2) (vC (.int 120))))) vNil)) (vVar 1)))))
theorem dv__law_next {C : Cmn} {k : Nat} {qual : Str} (g_int : C.mg "int" = none) : VSs C (fun i : DIx k qual (defScope s__law_next) => DR C N__law_next i) (defBody s__law_next) (t__law_next) :=
  (vss_cons (vs_set (i := 2) (fun _ => sc__law_next.nd) (ve_ix (ve_var (i := 0) (hv := fun _ => .inl rfl)) ve_int) (hx := fun _ => .inl rfl) (hf := fun _ => .inl rfl))
  (vss_cons (vs_putL (ve_op ov_add (ve_var (i := 2) (hv := fun _ => .inl rfl)) ve_int) (ve_var (i := 0) (hv := fun _ => .inl rfl)) ve_int)
  (vss_one (vs_ret (ve_op ov_mod (ve_callTy cv_int g_int (va_cons (ve_op ov_add (ve_ix (ve_ix (ve_var (i := 0) (hv := fun _ => .inl rfl)) ve_int) (ve_op ov_mod (ve_var (i := 2) (hv := fun _ => .inl rfl)) ve_int)) (ve_op ov_mul ve_int (ve_op ov_fdiv (ve_var (i := 2) (hv := fun _ => .inl rfl)) ve_int))) va_nil)) (ve_var (i := 1) (hv := fun _ => .inl rfl)))))))
abbrev s__law_same : Stmt := top 34
abbrev N__law_same : List Str := ["told", "due", "k", "part"]
theorem sc__law_same : FnScope N__law_same ["told", "due"] (defScope s__law_same) := ⟨rfl, rfl, rfl, by decide +kernel, rfl, by decide +kernel, by decide +kernel⟩
def t__law_same_b1 (q__law_same : WSp) : WS :=
  (vIf (vNot (vTst (vCall q__law_same (vCons (vOp rIx (vVar 0) (vVar 2)) (vCons (vOp rIx (vVar 1) (vVar 2)) vNil))))) (vRet (vC (.bl false))) vNext)
def t__law_same_c1 (q__law_same : WSp) : WT :=
  (vOr (vTst (vCB rIsi (vCons (vVar 3) (vCons (vC (.ty "bool")) vNil)))) (vNot (vTst (vCB rIsi (vCons (vVar 3) (vCons (vC (.ty "int")) vNil))))))
def t__law_same_e1 (q__law_same : WSp) : WE :=
  (vVar 3)
def t__law_same_c2 (q__law_same : WSp) : WT :=
  (vOr (vTst (vCB rIsi (vCons (vVar 3) (vCons (vC (.ty "bool")) vNil)))) (vNot (vTst (vCB rIsi (vCons (vVar 3) (vCons (vC (.ty "int")) vNil))))))
def t__law_same_e2 (q__law_same : WSp) : WE :=
  (vVar 3)
def t__law_same (q__law_same : WSp) : WS :=
  (vSeq (vIf (vTst (vCB rIsi (vCons (vVar 1) (vCons (vTup (vCons (vC (.ty "tuple")) (vCons (vC (.ty "list")) vNil))) vNil)))) (vSeq (vIf (vOr (vTst (vOp rNe (vCB rIsi (vCons (vVar 0) (vCons (vC (.ty "tuple")) vNil))) (vCB rIsi (vCons (vVar 1) (vCons (vC (.ty "tuple")) vNil))))) (vOr (vTst (vOp rNe (vCB rIsi (vCons (vVar 0) (vCons (vC (.ty "list")) vNil))) (vCB rIsi (vCons (vVar 1) (vCons (vC (.ty "list")) vNil))))) (vTst (vOp rNe (vCB rLen (vCons (vVar 0) vNil)) (vCB rLen (vCons (vVar 1) vNil)))))) (vRet (vC (.bl false))) vNext)
  (vSeq (vIf (vTst (vOp rEq (vLcF (iSeq (vVar 1)) (gNm 3) (t__law_same_c1 q__law_same) (t__law_same_e1 q__law_same) [3]) (vLstF vNil))) (vRet (vAndV (vOp rEq (vLcF (iSeq (vVar 0)) (gNm 3) (t__law_same_c2 q__law_same) (t__law_same_e2 q__law_same) [3]) (vLstF vNil)) (vOp rEq (vVar 0) (vVar 1)))) vNext)
  (vSeq (vFor (iRg1 (vCons (vCB rLen (vCons (vVar 1) vNil)) vNil)) (gNm 2)
  (t__law_same_b1 q__law_same))
  (vRet (vC (.bl true)))))) vNext)
  (vSeq (vIf (vOr (vTst (vOp (rIs false) (vVar 1) (vC .non))) (vTst (vCB rIsi (vCons (vVar 1) (vCons (vC (.ty "bool")) vNil))))) (vRet (vOrV (vAndV (vOp (rIs false) (vVar 1) (vC .non)) (vOp (rIs false) (vVar 0) (vC .non))) (vOrV (vAndV (vOp (rIs false) (vVar 1) (vC (.bl true))) (vOp (rIs false) (vVar 0) (vC (.bl true)))) (vAndV (vOp (rIs false) (vVar 1) (vC (.bl false))) (vOp (rIs false) (vVar 0) (vC (.bl false))))))) vNext)
  (vSeq (vIf (vTst (vCB rIsi (vCons (vVar 1) (vCons (vC (.ty "str")) vNil)))) (vRet (vAndV (vCB rIsi (vCons (vVar 0) (vCons (vC (.ty "str")) vNil))) (vOp rEq (vVar 0) (vVar 1)))) vNext)
  (vRet (vAndV (vCB rIsi (vCons (vVar 0) (vCons (vC (.ty "int")) vNil))) (vAndV (vNotV (vCB rIsi (vCons (vVar 0) (vCons (vC (.ty "bool")) vNil)))) (vOp rEq (vVar 0) (vVar 1))))))))
theorem dv__law_same {C : Cmn} {k : Nat} {qual : Str} (g_bool : C.mg "bool" = none) (g_int : C.mg "int" = none) (g_isinstance : C.mg "isinstance" = none) (g_len : C.mg "len" = none) (g_list : C.mg "list" = none) (g_range : C.mg "range" = none) (g_str : C.mg "str" = none) (g_tuple : C.mg "tuple" = none) {q__law_same : WSp} (D__law_same : DefOk C k "_law_same" q__law_same) : VSs C (fun i : DIx k qual (defScope s__law_same) => DR C N__law_same i) (defBody s__law_same) (t__law_same q__law_same) :=
  (vss_cons (vs_if (vt_val (ve_callB cv_isi g_isinstance (va_cons (ve_var (i := 1) (hv := fun _ => .inl rfl)) (va_cons (ve_tup (va_cons (ve_ty g_tuple) (va_cons (ve_ty g_list) va_nil))) va_nil)))) (vss_cons (vs_if (vw_pt (vw_or (vt_cmp (ov_ne (fun i => ru i.room)) (ve_callB cv_isi g_isinstance (va_cons (ve_var (i := 0) (hv := fun _ => .inl rfl)) (va_cons (ve_ty g_tuple) va_nil))) (ve_callB cv_isi g_isinstance (va_cons (ve_var (i := 1) (hv := fun _ => .inl rfl)) (va_cons (ve_ty g_tuple) va_nil)))) (vw_or (vt_cmp (ov_ne (fun i => ru i.room)) (ve_callB cv_isi g_isinstance (va_cons (ve_var (i := 0) (hv := fun _ => .inl rfl)) (va_cons (ve_ty g_list) va_nil))) (ve_callB cv_isi g_isinstance (va_cons (ve_var (i := 1) (hv := fun _ => .inl rfl)) (va_cons (ve_ty g_list) va_nil)))) (vw_or1 (vt_cmp (ov_ne (fun i => ru i.room)) (ve_callB cv_len g_len (va_cons (ve_var (i := 0) (hv := fun _ => .inl rfl)) va_nil)) (ve_callB cv_len g_len (va_cons (ve_var (i := 1) (hv := fun _ => .inl rfl)) va_nil))))))) (vss_one (vs_ret ve_bl)) vss_nil)
  (vss_cons (vs_if (vt_cmp (ov_eq (fun i => ru i.room)) (ve_lcF (hN := (fun _ => sc__law_same.nd)) (own := [("part", 3)]) (vi_seq (ve_var (i := 1) (hv := fun _ => .inl rfl))) (fun _ => blkOk_by (own := [("part", 3)]) (N := N__law_same) (sc := defScope s__law_same) (by decide +kernel)) (vgo_name (i := 3) (fun _ => sc__law_same.nd) (hx := fun _ => .inl rfl) (hf := fun _ => .inr rfl)) (vts_one (vw_pt (vw_or (vt_val (ve_callB cv_isi g_isinstance (va_cons (ve_var (i := 3) (hv := fun _ => .inl rfl)) (va_cons (ve_ty g_bool) va_nil)))) (vw_or1 (vt_not (vt_val (ve_callB cv_isi g_isinstance (va_cons (ve_var (i := 3) (hv := fun _ => .inl rfl)) (va_cons (ve_ty g_int) va_nil))))))))) (ve_var (i := 3) (hv := fun _ => .inl rfl))) (ve_lstF va_nil)) (vss_one (vs_ret (ve_and (ve_cmp (ov_eq (fun i => ru i.room)) (ve_lcF (hN := (fun _ => sc__law_same.nd)) (own := [("part", 3)]) (vi_seq (ve_var (i := 0) (hv := fun _ => .inl rfl))) (fun _ => blkOk_by (own := [("part", 3)]) (N := N__law_same) (sc := defScope s__law_same) (by decide +kernel)) (vgo_name (i := 3) (fun _ => sc__law_same.nd) (hx := fun _ => .inl rfl) (hf := fun _ => .inr rfl)) (vts_one (vw_pt (vw_or (vt_val (ve_callB cv_isi g_isinstance (va_cons (ve_var (i := 3) (hv := fun _ => .inl rfl)) (va_cons (ve_ty g_bool) va_nil)))) (vw_or1 (vt_not (vt_val (ve_callB cv_isi g_isinstance (va_cons (ve_var (i := 3) (hv := fun _ => .inl rfl)) (va_cons (ve_ty g_int) va_nil))))))))) (ve_var (i := 3) (hv := fun _ => .inl rfl))) (ve_lstF va_nil)) (ve_one (ve_cmp (ov_eq (fun i => ru i.room)) (ve_var (i := 0) (hv := fun _ => .inl rfl)) (ve_var (i := 1) (hv := fun _ => .inl rfl))))))) vss_nil)
  (vss_cons (vs_for (vi_rg1 g_range (va_cons (ve_callB cv_len g_len (va_cons (ve_var (i := 1) (hv := fun _ => .inl rfl)) va_nil)) va_nil)) (vg_name (i := 2) (fun _ => sc__law_same.nd) (hx := fun _ => .inl rfl) (hf := fun _ => .inl rfl))
  (vss_one (vs_if (vt_not (vt_val (ve_call D__law_same (va_cons (ve_ix (ve_var (i := 0) (hv := fun _ => .inl rfl)) (ve_var (i := 2) (hv := fun _ => .inl rfl))) (va_cons (ve_ix (ve_var (i := 1) (hv := fun _ => .inl rfl)) (ve_var (i := 2) (hv := fun _ => .inl rfl))) va_nil)) (fun i => i.room)))) (vss_one (vs_ret ve_bl)) vss_nil)))
  (vss_one (vs_ret ve_bl))))) vss_nil)
  (vss_cons (vs_if (vw_pt (vw_or (vt_cmp ov_is (ve_var (i := 1) (hv := fun _ => .inl rfl)) ve_non) (vw_or1 (vt_val (ve_callB cv_isi g_isinstance (va_cons (ve_var (i := 1) (hv := fun _ => .inl rfl)) (va_cons (ve_ty g_bool) va_nil))))))) (vss_one (vs_ret (ve_or (ve_and (ve_cmp ov_is (ve_var (i := 1) (hv := fun _ => .inl rfl)) ve_non) (ve_one (ve_cmp ov_is (ve_var (i := 0) (hv := fun _ => .inl rfl)) ve_non))) (ve_or (ve_and (ve_cmp ov_is (ve_var (i := 1) (hv := fun _ => .inl rfl)) ve_bl) (ve_one (ve_cmp ov_is (ve_var (i := 0) (hv := fun _ => .inl rfl)) ve_bl))) (ve_one (ve_and (ve_cmp ov_is (ve_var (i := 1) (hv := fun _ => .inl rfl)) ve_bl) (ve_one (ve_cmp ov_is (ve_var (i := 0) (hv := fun _ => .inl rfl)) ve_bl)))))))) vss_nil)
  (vss_cons (vs_if (vt_val (ve_callB cv_isi g_isinstance (va_cons (ve_var (i := 1) (hv := fun _ => .inl rfl)) (va_cons (ve_ty g_str) va_nil)))) (vss_one (vs_ret (ve_and (ve_callB cv_isi g_isinstance (va_cons (ve_var (i := 0) (hv := fun _ => .inl rfl)) (va_cons (ve_ty g_str) va_nil))) (ve_one (ve_cmp (ov_eq (fun i => ru i.room)) (ve_var (i := 0) (hv := fun _ => .inl rfl)) (ve_var (i := 1) (hv := fun _ => .inl rfl))))))) vss_nil)
  (vss_one (vs_ret (ve_and (ve_callB cv_isi g_isinstance (va_cons (ve_var (i := 0) (hv := fun _ => .inl rfl)) (va_cons (ve_ty g_int) va_nil))) (ve_and (ve_not (ve_callB cv_isi g_isinstance (va_cons (ve_var (i := 0) (hv := fun _ => .inl rfl)) (va_cons (ve_ty g_bool) va_nil)))) (ve_one (ve_cmp (ov_eq (fun i => ru i.room)) (ve_var (i := 0) (hv := fun _ => .inl rfl)) (ve_var (i := 1) (hv := fun _ => .inl rfl)))))))))))
abbrev s__law_many : Stmt := top 35
abbrev N__law_many : List Str := ["state", "wide", "many", "pick"]
theorem sc__law_many : FnScope N__law_many ["state", "wide"] (defScope s__law_many) := ⟨rfl, rfl, rfl, by decide +kernel, rfl, by decide +kernel, by decide +kernel⟩
def t__law_many (q__law_next : WSp) : WS :=
  (vSeq (vAsg (vCall q__law_next (vCons (vVar 0) (vCons (vC (.int 5)) vNil))) (gNm 2))
  (vSeq (vIf (vTst (vOp rGt (vOp rIx (vVar 0) (vC (.int 4))) (vC (.int 0)))) (vSeq (vAsg (vCall q__law_next (vCons (vVar 0) (vCons (vC (.int 12)) vNil))) (gNm 3))
  (vIf (vOr (vTst (vOp rEq (vVar 3) (vC (.int 1)))) (vTst (vOp rEq (vVar 3) (vC (.int 2))))) (vSeq (vPutL (vOp rSub (vOp rIx (vVar 0) (vC (.int 4))) (vC (.int 1))) (vVar 0) (vC (.int 4)))
  (vAsg (vOp rIx (vLstF (vCons (vOp rAdd (vC (.int 5)) (vCall q__law_next (vCons (vVar 0) (vCons (vC (.int 15)) vNil)))) (vCons (vOp rAdd (vC (.int 20)) (vCall q__law_next (vCons (vVar 0) (vCons (vVar 1) vNil)))) vNil))) (vOp rSub (vVar 3) (vC (.int 1)))) (gNm 2))) vNext)) vNext)
  (vRet (vVar 2))))
theorem dv__law_many {C : Cmn} {k : Nat} {qual : Str} {q__law_next : WSp} (D__law_next : DefOk C k "_law_next" q__law_next) : VSs C (fun i : DIx k qual (defScope s__law_many) => DR C N__law_many i) (defBody s__law_many) (t__law_many q__law_next) :=
  (vss_cons (vs_set (i := 2) (fun _ => sc__law_many.nd) (ve_call D__law_next (va_cons (ve_var (i := 0) (hv := fun _ => .inl rfl)) (va_cons ve_int va_nil)) (fun i => i.room)) (hx := fun _ => .inl rfl) (hf := fun _ => .inl rfl))
  (vss_cons (vs_if (vt_cmp ov_gt (ve_ix (ve_var (i := 0) (hv := fun _ => .inl rfl)) ve_int) ve_int) (vss_cons (vs_set (i := 3) (fun _ => sc__law_many.nd) (ve_call D__law_next (va_cons (ve_var (i := 0) (hv := fun _ => .inl rfl)) (va_cons ve_int va_nil)) (fun i => i.room)) (hx := fun _ => .inl rfl) (hf := fun _ => .inl rfl))
  (vss_one (vs_if (vw_pt (vw_or (vt_cmp (ov_eq (fun i => ru i.room)) (ve_var (i := 3) (hv := fun _ => .inl rfl)) ve_int) (vw_or1 (vt_cmp (ov_eq (fun i => ru i.room)) (ve_var (i := 3) (hv := fun _ => .inl rfl)) ve_int)))) (vss_cons (vs_putL (ve_op ov_sub (ve_ix (ve_var (i := 0) (hv := fun _ => .inl rfl)) ve_int) ve_int) (ve_var (i := 0) (hv := fun _ => .inl rfl)) ve_int)
  (vss_one (vs_set (i := 2) (fun _ => sc__law_many.nd) (ve_ix (ve_lstF (va_cons (ve_op ov_add ve_int (ve_call D__law_next (va_cons (ve_var (i := 0) (hv := fun _ => .inl rfl)) (va_cons ve_int va_nil)) (fun i => i.room))) (va_cons (ve_op ov_add ve_int (ve_call D__law_next (va_cons (ve_var (i := 0) (hv := fun _ => .inl rfl)) (va_cons (ve_var (i := 1) (hv := fun _ => .inl rfl)) va_nil)) (fun i => i.room))) va_nil))) (ve_op ov_sub (ve_var (i := 3) (hv := fun _ => .inl rfl)) ve_int)) (hx := fun _ => .inl rfl) (hf := fun _ => .inl rfl)))) vss_nil))) vss_nil)
  (vss_one (vs_ret (ve_var (i := 2) (hv := fun _ => .inl rfl))))))
abbrev s__law_big : Stmt := top 36
abbrev N__law_big : List Str := ["state", "many", "cell"]
theorem sc__law_big : FnScope N__law_big ["state", "many"] (defScope s__law_big) := ⟨rfl, rfl, rfl, by decide +kernel, rfl, by decide +kernel, by decide +kernel⟩
def t__law_big (q__law_cell : WSp) (q__law_next : WSp) : WS :=
  (vSeq (vAsg (vCB rAbs (vCons (vCall q__law_cell (vCons (vOp rIx (vVar 0) (vC (.int 3))) (vCons (vOp rAdd (vC (.int 3)) (vCall q__law_next (vCons (vVar 0) (vCons (vC (.int 30)) vNil)))) vNil))) vNil)) (gNm 2))
  (vRet (vOp rMod (vCB rInt (vCons (vOp rAdd (vOp rMul (vVar 2) (vC (.int 1009))) (vCall q__law_next (vCons (vVar 0) (vCons (vC (.int 1000)) vNil)))) vNil)) (vVar 1))))
theorem dv__law_big {C : Cmn} {k : Nat} {qual : Str} (g_abs : C.mg "abs" = none) (g_int : C.mg "int" = none) {q__law_cell : WSp} (D__law_cell : DefOk C k "_law_cell" q__law_cell) {q__law_next : WSp} (D__law_next : DefOk C k "_law_next" q__law_next) : VSs C (fun i : DIx k qual (defScope s__law_big) => DR C N__law_big i) (defBody s__law_big) (t__law_big q__law_cell q__law_next) :=
  (vss_cons (vs_set (i := 2) (fun _ => sc__law_big.nd) (ve_callB cv_abs g_abs (va_cons (ve_call D__law_cell (va_cons (ve_ix (ve_var (i := 0) (hv := fun _ => .inl rfl)) ve_int) (va_cons (ve_op ov_add ve_int (ve_call D__law_next (va_cons (ve_var (i := 0) (hv := fun _ => .inl rfl)) (va_cons ve_int va_nil)) (fun i => i.room))) va_nil)) (fun i => i.room)) va_nil)) (hx := fun _ => .inl rfl) (hf := fun _ => .inl rfl))
  (vss_one (vs_ret (ve_op ov_mod (ve_callTy cv_int g_int (va_cons (ve_op ov_add (ve_op ov_mul (ve_var (i := 2) (hv := fun _ => .inl rfl)) ve_int) (ve_call D__law_next (va_cons (ve_var (i := 0) (hv := fun _ => .inl rfl)) (va_cons ve_int va_nil)) (fun i => i.room))) va_nil)) (ve_var (i := 1) (hv := fun _ => .inl rfl))))))
abbrev s__law_normal : Stmt := top 37
abbrev N__law_normal : List Str := ["m", "e", "k"]
theorem sc__law_normal : FnScope N__law_normal ["m", "e"] (defScope s__law_normal) := ⟨rfl, rfl, rfl, by decide +kernel, rfl, by decide +kernel, by decide +kernel⟩
def t__law_normal_b1 : WS :=
  (vSeq (vIf (vTst (vOp rNe (vOp rMod (vVar 0) (vC (.int 10))) (vC (.int 0)))) (vRet (vTup (vCons (vVar 0) (vCons (vVar 1) vNil)))) vNext)
  (vSeq (vAsg (vOp rFdiv (vVar 0) (vC (.int 10))) (gNm 0))
  (vAsg (vOp rAdd (vVar 1) (vC (.int 1))) (gNm 1))))
def t__law_normal : WS :=
  (vSeq (vIf (vTst (vOp rEq (vVar 0) (vC (.int 0)))) (vRet (vTup (vCons (vC (.int 0)) (vCons (vC (.int 0)) vNil)))) vNext)
  (vSeq (vFor (iRg1 (vCons (vC (.int 3001)) vNil)) (gNm 2)
  (t__law_normal_b1))
  (vRet (vTup (vCons (vVar 0) (vCons (vVar 1) vNil))))))
theorem dv__law_normal {C : Cmn} {k : Nat} {qual : Str} (g_range : C.mg "range" = none) : VSs C (fun i : DIx k qual (defScope s__law_normal) => DR C N__law_normal i) (defBody s__law_normal) (t__law_normal) :=
  (vss_cons (vs_if (vt_cmp (ov_eq (fun i => ru i.room)) (ve_var (i := 0) (hv := fun _ => .inl rfl)) ve_int) (vss_one (vs_ret (ve_tup (va_cons ve_int (va_cons ve_int va_nil))))) vss_nil)
  (vss_cons (vs_for (vi_rg1 g_range (va_cons ve_int va_nil)) (vg_name (i := 2) (fun _ => sc__law_normal.nd) (hx := fun _ => .inl rfl) (hf := fun _ => .inl rfl))
  (vss_cons (vs_if (vt_cmp (ov_ne (fun i => ru i.room)) (ve_op ov_mod (ve_var (i := 0) (hv := fun _ => .inl rfl)) ve_int) ve_int) (vss_one (vs_ret (ve_tup (va_cons (ve_var (i := 0) (hv := fun _ => .inl rfl)) (va_cons (ve_var (i := 1) (hv := fun _ => .inl rfl)) va_nil))))) vss_nil)
  (vss_cons (vs_set (i := 0) (fun _ => sc__law_normal.nd) (ve_op ov_fdiv (ve_var (i := 0) (hv := fun _ => .inl rfl)) ve_int) (hx := fun _ => .inl rfl) (hf := fun _ => .inl rfl))
  (vss_one (vs_set (i := 1) (fun _ => sc__law_normal.nd) (ve_op ov_add (ve_var (i := 1) (hv := fun _ => .inl rfl)) ve_int) (hx := fun _ => .inl rfl) (hf := fun _ => .inl rfl))))))
  (vss_one (vs_ret (ve_tup (va_cons (ve_var (i := 0) (hv := fun _ => .inl rfl)) (va_cons (ve_var (i := 1) (hv := fun _ => .inl rfl)) va_nil)))))))
abbrev s__law_number : Stmt := top 38
abbrev N__law_number : List Str := ["state", "pick", "m", "e", "edges", "power", "k"]
theorem sc__law_number : FnScope N__law_number ["state"] (defScope s__law_number) := ⟨rfl, rfl, rfl, by decide +kernel, rfl, by decide +kernel, by decide +kernel⟩
def t__law_number_b1 (q__law_big : WSp) (q__law_next : WSp) (q__law_normal : WSp) : WS :=
  (vAsg (vOp rAdd (vOp rMul (vVar 2) (vOp rAdd (vOp rPow (vC (.int 10)) (vC (.int 40))) (vC (.int 7)))) (vCall q__law_next (vCons (vVar 0) (vCons (vC (.int 1000)) vNil)))) (gNm 2))
def t__law_number_b2 (q__law_big : WSp) (q__law_next : WSp) (q__law_normal : WSp) : WS :=
  (vAsg (vOp rMul (vVar 5) (vC (.int 10))) (gNm 5))
def t__law_number (q__law_big : WSp) (q__law_next : WSp) (q__law_normal : WSp) : WS :=
  (vSeq (vAsg (vCall q__law_next (vCons (vVar 0) (vCons (vC (.int 13)) vNil))) (gNm 1))
  (vSeq (vAsg (vCall q__law_next (vCons (vVar 0) (vCons (vC (.int 300)) vNil))) (gNm 2))
  (vSeq (vAsg (vC (.int 0)) (gNm 3))
  (vSeq (vIf (vTst (vOp (rIn false) (vVar 1) (vLstF (vCons (vC (.int 4)) (vCons (vC (.int 5)) vNil))))) (vSeq (vAsg (vLstF (vCons (vC (.int 23)) (vCons (vC (.int 24)) (vCons (vC (.int 127)) (vCons (vC (.int 128)) (vCons (vC (.int 255)) (vCons (vC (.int 256)) (vCons (vC (.int 65535)) (vCons (vC (.int 65536)) (vCons (vOp rPow (vC (.int 2)) (vC (.int 31))) (vCons (vOp rPow (vC (.int 2)) (vC (.int 32))) (vCons (vOp rPow (vC (.int 2)) (vC (.int 63))) (vCons (vOp rPow (vC (.int 2)) (vC (.int 64))) (vCons (vOp rPow (vC (.int 10)) (vC (.int 30))) vNil)))))))))))))) (gNm 4))
  (vAsg (vOp rSub (vOp rAdd (vOp rIx (vVar 4) (vCall q__law_next (vCons (vVar 0) (vCons (vC (.int 13)) vNil)))) (vCall q__law_next (vCons (vVar 0) (vCons (vC (.int 3)) vNil)))) (vC (.int 1))) (gNm 2))) (vIf (vTst (vOp (rIn false) (vVar 1) (vLstF (vCons (vC (.int 6)) (vCons (vC (.int 7)) (vCons (vC (.int 8)) vNil)))))) (vSeq (vAsg (vCall q__law_next (vCons (vVar 0) (vCons (vC (.int 1000)) vNil))) (gNm 2))
  (vAsg (vOp rSub (vCall q__law_next (vCons (vVar 0) (vCons (vC (.int 60)) vNil))) (vC (.int 30))) (gNm 3))) (vIf (vTst (vOp rEq (vVar 1) (vC (.int 9)))) (vSeq (vAsg (vOp rAdd (vC (.int 1)) (vCall q__law_next (vCons (vVar 0) (vCons (vC (.int 9)) vNil)))) (gNm 2))
  (vSeq (vAsg (vOp rIx (vLstF (vCons (vC (.int 62)) (vCons (vC (.int 63)) (vCons (vC (.int 64)) (vCons (vC (.int 65)) (vCons (vC (.int 66)) (vCons (vC (.int 100)) (vCons (vC (.int 799)) (vCons (vC (.int 800)) (vCons (vUn rNeg (vC (.int 400))) (vCons (vUn rNeg (vC (.int 1))) vNil))))))))))) (vCall q__law_next (vCons (vVar 0) (vCons (vC (.int 10)) vNil)))) (gNm 3))
  (vIf (vAnd (vTst (vOp rGt (vCB rAbs (vCons (vVar 3) vNil)) (vC (.int 300)))) (vTst (vOp rGt (vOp rIx (vVar 0) (vC (.int 4))) (vC (.int 0))))) (vPutL (vOp rSub (vOp rIx (vVar 0) (vC (.int 4))) (vC (.int 1))) (vVar 0) (vC (.int 4))) (vIf (vTst (vOp rGt (vCB rAbs (vCons (vVar 3) vNil)) (vC (.int 300)))) (vAsg (vC (.int 70)) (gNm 3)) vNext)))) (vIf (vTst (vOp rGt (vVar 1) (vC (.int 9)))) (vSeq (vAsg (vC (.int 10)) (gNm 5))
  (vSeq (vFor (iRg1 (vCons (vCall q__law_next (vCons (vVar 0) (vCons (vC (.int 40)) vNil))) vNil)) (gNm 6)
  (t__law_number_b2 q__law_big q__law_next q__law_normal))
  (vSeq (vAsg (vCall q__law_big (vCons (vVar 0) (vCons (vVar 5) vNil))) (gNm 2))
  (vSeq (vAsg (vOp rSub (vCall q__law_next (vCons (vVar 0) (vCons (vC (.int 90)) vNil))) (vC (.int 45))) (gNm 3))
  (vIf (vAnd (vTst (vOp rEq (vVar 1) (vC (.int 12)))) (vTst (vOp rGt (vOp rIx (vVar 0) (vC (.int 4))) (vC (.int 0))))) (vSeq (vPutL (vOp rSub (vOp rIx (vVar 0) (vC (.int 4))) (vC (.int 1))) (vVar 0) (vC (.int 4)))
  (vFor (iRg1 (vCons (vCall q__law_next (vCons (vVar 0) (vCons (vC (.int 8)) vNil))) vNil)) (gNm 6)
  (t__law_number_b1 q__law_big q__law_next q__law_normal))) vNext))))) vNext))))
  (vSeq (vAsg (vCall q__law_normal (vCons (vOp rIx (vLstF (vCons (vVar 2) (vCons (vUn rNeg (vVar 2)) vNil))) (vCall q__law_next (vCons (vVar 0) (vCons (vC (.int 2)) vNil)))) (vCons (vVar 3) vNil))) (gTupD 2 (gThen (gNm 2) (gThen (gNm 3) gEnd))))
  (vRet (vTup (vCons (vC (.str "number")) (vCons (vVar 2) (vCons (vVar 3) vNil))))))))))
theorem dv__law_number {C : Cmn} {k : Nat} {qual : Str} (g_abs : C.mg "abs" = none) (g_range : C.mg "range" = none) {q__law_big : WSp} (D__law_big : DefOk C k "_law_big" q__law_big) {q__law_next : WSp} (D__law_next : DefOk C k "_law_next" q__law_next) {q__law_normal : WSp} (D__law_normal : DefOk C k "_law_normal" q__law_normal) : VSs C (fun i : DIx k qual (defScope s__law_number) => DR C N__law_number i) (defBody s__law_number) (t__law_number q__law_big q__law_next q__law_normal) :=
  (vss_cons (vs_set (i := 1) (fun _ => sc__law_number.nd) (ve_call D__law_next (va_cons (ve_var (i := 0) (hv := fun _ => .inl rfl)) (va_cons ve_int va_nil)) (fun i => i.room)) (hx := fun _ => .inl rfl) (hf := fun _ => .inl rfl))
  (vss_cons (vs_set (i := 2) (fun _ => sc__law_number.nd) (ve_call D__law_next (va_cons (ve_var (i := 0) (hv := fun _ => .inl rfl)) (va_cons ve_int va_nil)) (fun i => i.room)) (hx := fun _ => .inl rfl) (hf := fun _ => .inl rfl))
  (vss_cons (vs_set (i := 3) (fun _ => sc__law_number.nd) ve_int (hx := fun _ => .inl rfl) (hf := fun _ => .inl rfl))
  (vss_cons (vs_if (vt_cmp (ov_in (fun i => ru i.room)) (ve_var (i := 1) (hv := fun _ => .inl rfl)) (ve_lstF (va_cons ve_int (va_cons ve_int va_nil)))) (vss_cons (vs_set (i := 4) (fun _ => sc__law_number.nd) (ve_lstF (va_cons ve_int (va_cons ve_int (va_cons ve_int (va_cons ve_int (va_cons ve_int (va_cons ve_int (va_cons ve_int (va_cons ve_int (va_cons (ve_op ov_pow ve_int ve_int) (va_cons (ve_op ov_pow ve_int ve_int) (va_cons (ve_op ov_pow ve_int ve_int) (va_cons (ve_op ov_pow ve_int ve_int) (va_cons (ve_op ov_pow ve_int ve_int) va_nil)))))))))))))) (hx := fun _ => .inl rfl) (hf := fun _ => .inl rfl))
  (vss_one (vs_set (i := 2) (fun _ => sc__law_number.nd) (ve_op ov_sub (ve_op ov_add (ve_ix (ve_var (i := 4) (hv := fun _ => .inl rfl)) (ve_call D__law_next (va_cons (ve_var (i := 0) (hv := fun _ => .inl rfl)) (va_cons ve_int va_nil)) (fun i => i.room))) (ve_call D__law_next (va_cons (ve_var (i := 0) (hv := fun _ => .inl rfl)) (va_cons ve_int va_nil)) (fun i => i.room))) ve_int) (hx := fun _ => .inl rfl) (hf := fun _ => .inl rfl)))) (vss_one (vs_if (vt_cmp (ov_in (fun i => ru i.room)) (ve_var (i := 1) (hv := fun _ => .inl rfl)) (ve_lstF (va_cons ve_int (va_cons ve_int (va_cons ve_int va_nil))))) (vss_cons (vs_set (i := 2) (fun _ => sc__law_number.nd) (ve_call D__law_next (va_cons (ve_var (i := 0) (hv := fun _ => .inl rfl)) (va_cons ve_int va_nil)) (fun i => i.room)) (hx := fun _ => .inl rfl) (hf := fun _ => .inl rfl))
  (vss_one (vs_set (i := 3) (fun _ => sc__law_number.nd) (ve_op ov_sub (ve_call D__law_next (va_cons (ve_var (i := 0) (hv := fun _ => .inl rfl)) (va_cons ve_int va_nil)) (fun i => i.room)) ve_int) (hx := fun _ => .inl rfl) (hf := fun _ => .inl rfl)))) (vss_one (vs_if (vt_cmp (ov_eq (fun i => ru i.room)) (ve_var (i := 1) (hv := fun _ => .inl rfl)) ve_int) (vss_cons (vs_set (i := 2) (fun _ => sc__law_number.nd) (ve_op ov_add ve_int (ve_call D__law_next (va_cons (ve_var (i := 0) (hv := fun _ => .inl rfl)) (va_cons ve_int va_nil)) (fun i => i.room))) (hx := fun _ => .inl rfl) (hf := fun _ => .inl rfl))
  (vss_cons (vs_set (i := 3) (fun _ => sc__law_number.nd) (ve_ix (ve_lstF (va_cons ve_int (va_cons ve_int (va_cons ve_int (va_cons ve_int (va_cons ve_int (va_cons ve_int (va_cons ve_int (va_cons ve_int (va_cons (ve_neg ve_int) (va_cons (ve_neg ve_int) va_nil))))))))))) (ve_call D__law_next (va_cons (ve_var (i := 0) (hv := fun _ => .inl rfl)) (va_cons ve_int va_nil)) (fun i => i.room))) (hx := fun _ => .inl rfl) (hf := fun _ => .inl rfl))
  (vss_one (vs_if (vw_pt (vw_and (vt_cmp ov_gt (ve_callB cv_abs g_abs (va_cons (ve_var (i := 3) (hv := fun _ => .inl rfl)) va_nil)) ve_int) (vw_and1 (vt_cmp ov_gt (ve_ix (ve_var (i := 0) (hv := fun _ => .inl rfl)) ve_int) ve_int)))) (vss_one (vs_putL (ve_op ov_sub (ve_ix (ve_var (i := 0) (hv := fun _ => .inl rfl)) ve_int) ve_int) (ve_var (i := 0) (hv := fun _ => .inl rfl)) ve_int)) (vss_one (vs_if (vt_cmp ov_gt (ve_callB cv_abs g_abs (va_cons (ve_var (i := 3) (hv := fun _ => .inl rfl)) va_nil)) ve_int) (vss_one (vs_set (i := 3) (fun _ => sc__law_number.nd) ve_int (hx := fun _ => .inl rfl) (hf := fun _ => .inl rfl))) vss_nil)))))) (vss_one (vs_if (vt_cmp ov_gt (ve_var (i := 1) (hv := fun _ => .inl rfl)) ve_int) (vss_cons (vs_set (i := 5) (fun _ => sc__law_number.nd) ve_int (hx := fun _ => .inl rfl) (hf := fun _ => .inl rfl))
  (vss_cons (vs_for (vi_rg1 g_range (va_cons (ve_call D__law_next (va_cons (ve_var (i := 0) (hv := fun _ => .inl rfl)) (va_cons ve_int va_nil)) (fun i => i.room)) va_nil)) (vg_name (i := 6) (fun _ => sc__law_number.nd) (hx := fun _ => .inl rfl) (hf := fun _ => .inl rfl))
  (vss_one (vs_set (i := 5) (fun _ => sc__law_number.nd) (ve_op ov_mul (ve_var (i := 5) (hv := fun _ => .inl rfl)) ve_int) (hx := fun _ => .inl rfl) (hf := fun _ => .inl rfl))))
  (vss_cons (vs_set (i := 2) (fun _ => sc__law_number.nd) (ve_call D__law_big (va_cons (ve_var (i := 0) (hv := fun _ => .inl rfl)) (va_cons (ve_var (i := 5) (hv := fun _ => .inl rfl)) va_nil)) (fun i => i.room)) (hx := fun _ => .inl rfl) (hf := fun _ => .inl rfl))
  (vss_cons (vs_set (i := 3) (fun _ => sc__law_number.nd) (ve_op ov_sub (ve_call D__law_next (va_cons (ve_var (i := 0) (hv := fun _ => .inl rfl)) (va_cons ve_int va_nil)) (fun i => i.room)) ve_int) (hx := fun _ => .inl rfl) (hf := fun _ => .inl rfl))
  (vss_one (vs_if (vw_pt (vw_and (vt_cmp (ov_eq (fun i => ru i.room)) (ve_var (i := 1) (hv := fun _ => .inl rfl)) ve_int) (vw_and1 (vt_cmp ov_gt (ve_ix (ve_var (i := 0) (hv := fun _ => .inl rfl)) ve_int) ve_int)))) (vss_cons (vs_putL (ve_op ov_sub (ve_ix (ve_var (i := 0) (hv := fun _ => .inl rfl)) ve_int) ve_int) (ve_var (i := 0) (hv := fun _ => .inl rfl)) ve_int)
  (vss_one (vs_for (vi_rg1 g_range (va_cons (ve_call D__law_next (va_cons (ve_var (i := 0) (hv := fun _ => .inl rfl)) (va_cons ve_int va_nil)) (fun i => i.room)) va_nil)) (vg_name (i := 6) (fun _ => sc__law_number.nd) (hx := fun _ => .inl rfl) (hf := fun _ => .inl rfl))
  (vss_one (vs_set (i := 2) (fun _ => sc__law_number.nd) (ve_op ov_add (ve_op ov_mul (ve_var (i := 2) (hv := fun _ => .inl rfl)) (ve_op ov_add (ve_op ov_pow ve_int ve_int) ve_int)) (ve_call D__law_next (va_cons (ve_var (i := 0) (hv := fun _ => .inl rfl)) (va_cons ve_int va_nil)) (fun i => i.room))) (hx := fun _ => .inl rfl) (hf := fun _ => .inl rfl)))))) vss_nil)))))) vss_nil)))))))
  (vss_cons (vs_asg (ve_call D__law_normal (va_cons (ve_ix (ve_lstF (va_cons (ve_var (i := 2) (hv := fun _ => .inl rfl)) (va_cons (ve_neg (ve_var (i := 2) (hv := fun _ => .inl rfl))) va_nil))) (ve_call D__law_next (va_cons (ve_var (i := 0) (hv := fun _ => .inl rfl)) (va_cons ve_int va_nil)) (fun i => i.room))) (va_cons (ve_var (i := 3) (hv := fun _ => .inl rfl)) va_nil)) (fun i => i.room)) (vg_tup (vgs_cons (vg_name (i := 2) (fun _ => sc__law_number.nd) (hx := fun _ => .inl rfl) (hf := fun _ => .inl rfl)) (vgs_cons (vg_name (i := 3) (fun _ => sc__law_number.nd) (hx := fun _ => .inl rfl) (hf := fun _ => .inl rfl)) vgs_nil))))
  (vss_one (vs_ret (ve_tup (va_cons ve_str (va_cons (ve_var (i := 2) (hv := fun _ => .inl rfl)) (va_cons (ve_var (i := 3) (hv := fun _ => .inl rfl)) va_nil)))))))))))
abbrev s__law_points : Stmt := top 39
abbrev N__law_points : List Str := ["state", "menu", "many", "points", "k", "pick", "point"]
theorem sc__law_points : FnScope N__law_points ["state"] (defScope s__law_points) := ⟨rfl, rfl, rfl, by decide +kernel, rfl, by decide +kernel, by decide +kernel⟩
def t__law_points_b1 (q__law_many : WSp) (q__law_next : WSp) : WS :=
  (vSeq (vAsg (vCall q__law_next (vCons (vVar 0) (vCons (vC (.int 7)) vNil))) (gNm 5))
  (vSeq (vAsg (vOp rAdd (vC (.int 32)) (vCall q__law_next (vCons (vVar 0) (vCons (vC (.int 95)) vNil)))) (gNm 6))
  (vSeq (vIf (vTst (vOp rEq (vVar 5) (vC (.int 0)))) (vAsg (vOp rIx (vVar 1) (vCall q__law_next (vCons (vVar 0) (vCons (vC (.int 12)) vNil)))) (gNm 6)) vNext)
  (vSeq (vIf (vTst (vOp rEq (vVar 5) (vC (.int 1)))) (vAsg (vCall q__law_next (vCons (vVar 0) (vCons (vC (.int 32)) vNil))) (gNm 6)) vNext)
  (vSeq (vIf (vTst (vOp rEq (vVar 5) (vC (.int 2)))) (vSeq (vAsg (vOp rAdd (vOp rMul (vC (.int 1112)) (vCall q__law_next (vCons (vVar 0) (vCons (vC (.int 1000)) vNil)))) (vCall q__law_next (vCons (vVar 0) (vCons (vC (.int 1000)) vNil)))) (gNm 6))
  (vAsg (vOp rAdd (vVar 6) (vOp rMul (vC (.int 2048)) (vCB rInt (vCons (vOp rGt (vVar 6) (vC (.int 55295))) vNil)))) (gNm 6))) vNext)
  (vExpr (vMt rAppend (vVar 3) (vCons (vVar 6) vNil))))))))
def t__law_points (q__law_many : WSp) (q__law_next : WSp) : WS :=
  (vSeq (vAsg (vLstF (vCons (vC (.int 34)) (vCons (vC (.int 92)) (vCons (vC (.int 47)) (vCons (vC (.int 127)) (vCons (vC (.int 128)) (vCons (vC (.int 2047)) (vCons (vC (.int 2048)) (vCons (vC (.int 55295)) (vCons (vC (.int 57344)) (vCons (vC (.int 65535)) (vCons (vC (.int 65536)) (vCons (vC (.int 1114111)) vNil))))))))))))) (gNm 1))
  (vSeq (vAsg (vCall q__law_many (vCons (vVar 0) (vCons (vC (.int 120)) vNil))) (gNm 2))
  (vSeq (vAsg (vLst vNil) (gNm 3))
  (vSeq (vFor (iRg1 (vCons (vVar 2) vNil)) (gNm 4)
  (t__law_points_b1 q__law_many q__law_next))
  (vRet (vCB rTuple (vCons (vFrz (vVar 3)) vNil)))))))
theorem dv__law_points {C : Cmn} {k : Nat} {qual : Str} (g_int : C.mg "int" = none) (g_range : C.mg "range" = none) (g_tuple : C.mg "tuple" = none) {q__law_many : WSp} (D__law_many : DefOk C k "_law_many" q__law_many) {q__law_next : WSp} (D__law_next : DefOk C k "_law_next" q__law_next) : VSs C (fun i : DIx k qual (defScope s__law_points) => DR C N__law_points i) (defBody s__law_points) (t__law_points q__law_many q__law_next) :=
  (vss_cons (vs_set (i := 1) (fun _ => sc__law_points.nd) (ve_lstF (va_cons ve_int (va_cons ve_int (va_cons ve_int (va_cons ve_int (va_cons ve_int (va_cons ve_int (va_cons ve_int (va_cons ve_int (va_cons ve_int (va_cons ve_int (va_cons ve_int (va_cons ve_int va_nil))))))))))))) (hx := fun _ => .inl rfl) (hf := fun _ => .inl rfl))
  (vss_cons (vs_set (i := 2) (fun _ => sc__law_points.nd) (ve_call D__law_many (va_cons (ve_var (i := 0) (hv := fun _ => .inl rfl)) (va_cons ve_int va_nil)) (fun i => i.room)) (hx := fun _ => .inl rfl) (hf := fun _ => .inl rfl))
  (vss_cons (vs_set (i := 3) (fun _ => sc__law_points.nd) (ve_lst va_nil) (hx := fun _ => .inl rfl) (hf := fun _ => .inl rfl))
  (vss_cons (vs_for (vi_rg1 g_range (va_cons (ve_var (i := 2) (hv := fun _ => .inl rfl)) va_nil)) (vg_name (i := 4) (fun _ => sc__law_points.nd) (hx := fun _ => .inl rfl) (hf := fun _ => .inl rfl))
  (vss_cons (vs_set (i := 5) (fun _ => sc__law_points.nd) (ve_call D__law_next (va_cons (ve_var (i := 0) (hv := fun _ => .inl rfl)) (va_cons ve_int va_nil)) (fun i => i.room)) (hx := fun _ => .inl rfl) (hf := fun _ => .inl rfl))
  (vss_cons (vs_set (i := 6) (fun _ => sc__law_points.nd) (ve_op ov_add ve_int (ve_call D__law_next (va_cons (ve_var (i := 0) (hv := fun _ => .inl rfl)) (va_cons ve_int va_nil)) (fun i => i.room))) (hx := fun _ => .inl rfl) (hf := fun _ => .inl rfl))
  (vss_cons (vs_if (vt_cmp (ov_eq (fun i => ru i.room)) (ve_var (i := 5) (hv := fun _ => .inl rfl)) ve_int) (vss_one (vs_set (i := 6) (fun _ => sc__law_points.nd) (ve_ix (ve_var (i := 1) (hv := fun _ => .inl rfl)) (ve_call D__law_next (va_cons (ve_var (i := 0) (hv := fun _ => .inl rfl)) (va_cons ve_int va_nil)) (fun i => i.room))) (hx := fun _ => .inl rfl) (hf := fun _ => .inl rfl))) vss_nil)
  (vss_cons (vs_if (vt_cmp (ov_eq (fun i => ru i.room)) (ve_var (i := 5) (hv := fun _ => .inl rfl)) ve_int) (vss_one (vs_set (i := 6) (fun _ => sc__law_points.nd) (ve_call D__law_next (va_cons (ve_var (i := 0) (hv := fun _ => .inl rfl)) (va_cons ve_int va_nil)) (fun i => i.room)) (hx := fun _ => .inl rfl) (hf := fun _ => .inl rfl))) vss_nil)
  (vss_cons (vs_if (vt_cmp (ov_eq (fun i => ru i.room)) (ve_var (i := 5) (hv := fun _ => .inl rfl)) ve_int) (vss_cons (vs_set (i := 6) (fun _ => sc__law_points.nd) (ve_op ov_add (ve_op ov_mul ve_int (ve_call D__law_next (va_cons (ve_var (i := 0) (hv := fun _ => .inl rfl)) (va_cons ve_int va_nil)) (fun i => i.room))) (ve_call D__law_next (va_cons (ve_var (i := 0) (hv := fun _ => .inl rfl)) (va_cons ve_int va_nil)) (fun i => i.room))) (hx := fun _ => .inl rfl) (hf := fun _ => .inl rfl))
  (vss_one (vs_set (i := 6) (fun _ => sc__law_points.nd) (ve_op ov_add (ve_var (i := 6) (hv := fun _ => .inl rfl)) (ve_op ov_mul ve_int (ve_callTy cv_int g_int (va_cons (ve_cmp ov_gt (ve_var (i := 6) (hv := fun _ => .inl rfl)) ve_int) va_nil)))) (hx := fun _ => .inl rfl) (hf := fun _ => .inl rfl)))) vss_nil)
  (vss_one (vs_expr (ve_mt PySem.F.slot_list_append PySem.F.type_list_append mv_append (ve_var (i := 3) (hv := fun _ => .inl rfl)) (va_cons (ve_var (i := 6) (hv := fun _ => .inl rfl)) va_nil))))))))))
  (vss_one (vs_ret (ve_callTy cv_tuple g_tuple (va_cons (ve_frz (ve_var (i := 3) (hv := fun _ => .inl rfl))) va_nil))))))))
abbrev s__law_octets : Stmt := top 40
abbrev N__law_octets : List Str := ["state", "many", "low", "span", "k"]
theorem sc__law_octets : FnScope N__law_octets ["state"] (defScope s__law_octets) := ⟨rfl, rfl, rfl, by decide +kernel, rfl, by decide +kernel, by decide +kernel⟩
def t__law_octets_e1 (q__law_many : WSp) (q__law_next : WSp) : WE :=
  (vOp rAdd (vVar 2) (vCall q__law_next (vCons (vVar 0) (vCons (vVar 3) vNil))))
def t__law_octets (q__law_many : WSp) (q__law_next : WSp) : WS :=
  (vSeq (vAsg (vCall q__law_many (vCons (vVar 0) (vCons (vC (.int 260)) vNil))) (gNm 1))
  (vSeq (vAsg (vOp rIx (vLstF (vCons (vTup (vCons (vC (.int 0)) (vCons (vC (.int 256)) vNil))) (vCons (vTup (vCons (vC (.int 32)) (vCons (vC (.int 95)) vNil))) (vCons (vTup (vCons (vC (.int 97)) (vCons (vC (.int 26)) vNil))) vNil)))) (vCall q__law_next (vCons (vVar 0) (vCons (vC (.int 3)) vNil)))) (gTupD 2 (gThen (gNm 2) (gThen (gNm 3) gEnd))))
  (vRet (vCB rTuple (vCons (vLcF (iRg1 (vCons (vVar 1) vNil)) (gNm 4) vYes (t__law_octets_e1 q__law_many q__law_next) [4]) vNil)))))
theorem dv__law_octets {C : Cmn} {k : Nat} {qual : Str} (g_range : C.mg "range" = none) (g_tuple : C.mg "tuple" = none) {q__law_many : WSp} (D__law_many : DefOk C k "_law_many" q__law_many) {q__law_next : WSp} (D__law_next : DefOk C k "_law_next" q__law_next) : VSs C (fun i : DIx k qual (defScope s__law_octets) => DR C N__law_octets i) (defBody s__law_octets) (t__law_octets q__law_many q__law_next) :=
  (vss_cons (vs_set (i := 1) (fun _ => sc__law_octets.nd) (ve_call D__law_many (va_cons (ve_var (i := 0) (hv := fun _ => .inr (.inl rfl))) (va_cons ve_int va_nil)) (fun i => i.room)) (hx := fun _ => .inl rfl) (hf := fun _ => .inl rfl))
  (vss_cons (vs_asg (ve_ix (ve_lstF (va_cons (ve_tup (va_cons ve_int (va_cons ve_int va_nil))) (va_cons (ve_tup (va_cons ve_int (va_cons ve_int va_nil))) (va_cons (ve_tup (va_cons ve_int (va_cons ve_int va_nil))) va_nil)))) (ve_call D__law_next (va_cons (ve_var (i := 0) (hv := fun _ => .inr (.inl rfl))) (va_cons ve_int va_nil)) (fun i => i.room))) (vg_tup (vgs_cons (vg_name (i := 2) (fun _ => sc__law_octets.nd) (hx := fun _ => .inr rfl) (hf := fun _ => .inl rfl)) (vgs_cons (vg_name (i := 3) (fun _ => sc__law_octets.nd) (hx := fun _ => .inr rfl) (hf := fun _ => .inl rfl)) vgs_nil))))
  (vss_one (vs_ret (ve_callTy cv_tuple g_tuple (va_cons (ve_lcF (hN := (fun _ => sc__law_octets.nd)) (own := [("k", 4)]) (vi_rg1 g_range (va_cons (ve_var (i := 1) (hv := fun _ => .inl rfl)) va_nil)) (fun _ => blkOk_by (own := [("k", 4)]) (N := N__law_octets) (sc := defScope s__law_octets) (by decide +kernel)) (vgo_name (i := 4) (fun _ => sc__law_octets.nd) (hx := fun _ => .inl rfl) (hf := fun _ => .inr rfl)) vts_nil (ve_op ov_add (ve_var (i := 2) (hv := fun _ => .inr (.inl rfl))) (ve_call D__law_next (va_cons (ve_var (i := 0) (hv := fun _ => .inr (.inl rfl))) (va_cons (ve_var (i := 3) (hv := fun _ => .inr (.inl rfl))) va_nil)) (fun i => i.1.room)))) va_nil))))))
abbrev s__law_leaf : Stmt := top 41
abbrev N__law_leaf : List Str := ["state", "kinds", "kind"]
theorem sc__law_leaf : FnScope N__law_leaf ["state", "kinds"] (defScope s__law_leaf) := ⟨rfl, rfl, rfl, by decide +kernel, rfl, by decide +kernel, by decide +kernel⟩
def t__law_leaf (q__law_next : WSp) (q__law_number : WSp) (q__law_octets : WSp) (q__law_points : WSp) : WS :=
  (vSeq (vAsg (vOp rIx (vVar 1) (vCall q__law_next (vCons (vVar 0) (vCons (vCB rLen (vCons (vVar 1) vNil)) vNil)))) (gNm 2))
  (vSeq (vIf (vTst (vOp rEq (vVar 2) (vC (.str "truth")))) (vRet (vTup (vCons (vC (.str "truth")) (vCons (vOp rEq (vCall q__law_next (vCons (vVar 0) (vCons (vC (.int 2)) vNil))) (vC (.int 0))) vNil)))) vNext)
  (vSeq (vIf (vTst (vOp rEq (vVar 2) (vC (.str "number")))) (vRet (vCall q__law_number (vCons (vVar 0) vNil))) vNext)
  (vSeq (vIf (vTst (vOp rEq (vVar 2) (vC (.str "bytes")))) (vRet (vTup (vCons (vC (.str "bytes")) (vCons (vCall q__law_octets (vCons (vVar 0) vNil)) vNil)))) vNext)
  (vSeq (vIf (vTst (vOp rEq (vVar 2) (vC (.str "text")))) (vRet (vTup (vCons (vC (.str "text")) (vCons (vCall q__law_points (vCons (vVar 0) vNil)) vNil)))) vNext)
  (vRet (vTup (vCons (vC (.str "null")) vNil))))))))
theorem dv__law_leaf {C : Cmn} {k : Nat} {qual : Str} (g_len : C.mg "len" = none) {q__law_next : WSp} (D__law_next : DefOk C k "_law_next" q__law_next) {q__law_number : WSp} (D__law_number : DefOk C k "_law_number" q__law_number) {q__law_octets : WSp} (D__law_octets : DefOk C k "_law_octets" q__law_octets) {q__law_points : WSp} (D__law_points : DefOk C k "_law_points" q__law_points) : VSs C (fun i : DIx k qual (defScope s__law_leaf) => DR C N__law_leaf i) (defBody s__law_leaf) (t__law_leaf q__law_next q__law_number q__law_octets q__law_points) :=
  (vss_cons (vs_set (i := 2) (fun _ => sc__law_leaf.nd) (ve_ix (ve_var (i := 1) (hv := fun _ => .inl rfl)) (ve_call D__law_next (va_cons (ve_var (i := 0) (hv := fun _ => .inl rfl)) (va_cons (ve_callB cv_len g_len (va_cons (ve_var (i := 1) (hv := fun _ => .inl rfl)) va_nil)) va_nil)) (fun i => i.room))) (hx := fun _ => .inl rfl) (hf := fun _ => .inl rfl))
  (vss_cons (vs_if (vt_cmp (ov_eq (fun i => ru i.room)) (ve_var (i := 2) (hv := fun _ => .inl rfl)) ve_str) (vss_one (vs_ret (ve_tup (va_cons ve_str (va_cons (ve_cmp (ov_eq (fun i => ru i.room)) (ve_call D__law_next (va_cons (ve_var (i := 0) (hv := fun _ => .inl rfl)) (va_cons ve_int va_nil)) (fun i => i.room)) ve_int) va_nil))))) vss_nil)
  (vss_cons (vs_if (vt_cmp (ov_eq (fun i => ru i.room)) (ve_var (i := 2) (hv := fun _ => .inl rfl)) ve_str) (vss_one (vs_ret (ve_call D__law_number (va_cons (ve_var (i := 0) (hv := fun _ => .inl rfl)) va_nil) (fun i => i.room)))) vss_nil)
  (vss_cons (vs_if (vt_cmp (ov_eq (fun i => ru i.room)) (ve_var (i := 2) (hv := fun _ => .inl rfl)) ve_str) (vss_one (vs_ret (ve_tup (va_cons ve_str (va_cons (ve_call D__law_octets (va_cons (ve_var (i := 0) (hv := fun _ => .inl rfl)) va_nil) (fun i => i.room)) va_nil))))) vss_nil)
  (vss_cons (vs_if (vt_cmp (ov_eq (fun i => ru i.room)) (ve_var (i := 2) (hv := fun _ => .inl rfl)) ve_str) (vss_one (vs_ret (ve_tup (va_cons ve_str (va_cons (ve_call D__law_points (va_cons (ve_var (i := 0) (hv := fun _ => .inl rfl)) va_nil) (fun i => i.room)) va_nil))))) vss_nil)
  (vss_one (vs_ret (ve_tup (va_cons ve_str va_nil)))))))))
abbrev s__law_value : Stmt := top 42
abbrev N__law_value : List Str := ["state", "deep", "kinds", "has_maps", "pick", "many", "entries", "k", "key", "entry"]
theorem sc__law_value : FnScope N__law_value ["state", "deep", "kinds", "has_maps"] (defScope s__law_value) := ⟨rfl, rfl, rfl, by decide +kernel, rfl, by decide +kernel, by decide +kernel⟩
def t__law_value_e1 (q__law_leaf : WSp) (q__law_many : WSp) (q__law_next : WSp) (q__law_points : WSp) (q__law_value : WSp) : WE :=
  (vOp rIx (vVar 9) (vC (.int 0)))
def t__law_value_b1 (q__law_leaf : WSp) (q__law_many : WSp) (q__law_next : WSp) (q__law_points : WSp) (q__law_value : WSp) : WS :=
  (vSeq (vAsg (vCall q__law_points (vCons (vVar 0) vNil)) (gNm 8))
  (vIf (vTst (vOp (rIn true) (vVar 8) (vLcF (iLst (vVar 6)) (gNm 9) vYes (t__law_value_e1 q__law_leaf q__law_many q__law_next q__law_points q__law_value) [9]))) (vExpr (vMt rAppend (vVar 6) (vCons (vTup (vCons (vVar 8) (vCons (vCall q__law_value (vCons (vVar 0) (vCons (vOp rSub (vVar 1) (vC (.int 1))) (vCons (vVar 2) (vCons (vVar 3) vNil))))) vNil))) vNil))) vNext))
def t__law_value_e2 (q__law_leaf : WSp) (q__law_many : WSp) (q__law_next : WSp) (q__law_points : WSp) (q__law_value : WSp) : WE :=
  (vCall q__law_value (vCons (vVar 0) (vCons (vOp rSub (vVar 1) (vC (.int 1))) (vCons (vVar 2) (vCons (vVar 3) vNil)))))
def t__law_value (q__law_leaf : WSp) (q__law_many : WSp) (q__law_next : WSp) (q__law_points : WSp) (q__law_value : WSp) : WS :=
  (vSeq (vPutL (vOp rSub (vOp rIx (vVar 0) (vC (.int 2))) (vC (.int 1))) (vVar 0) (vC (.int 2)))
  (vSeq (vAsg (vCall q__law_next (vCons (vVar 0) (vCons (vC (.int 5)) vNil))) (gNm 4))
  (vSeq (vIf (vOr (vTst (vOp rEq (vVar 1) (vC (.int 0)))) (vOr (vTst (vOp rLe (vOp rIx (vVar 0) (vC (.int 2))) (vC (.int 0)))) (vTst (vOp rLt (vVar 4) (vC (.int 2)))))) (vRet (vCall q__law_leaf (vCons (vVar 0) (vCons (vVar 2) vNil)))) vNext)
  (vSeq (vAsg (vCall q__law_many (vCons (vVar 0) (vCons (vC (.int 30)) vNil))) (gNm 5))
  (vSeq (vIf (vOr (vTst (vOp rEq (vVar 4) (vC (.int 2)))) (vNot (vTst (vVar 3)))) (vRet (vTup (vCons (vC (.str "list")) (vCons (vCB rTuple (vCons (vLcF (iRg1 (vCons (vVar 5) vNil)) (gNm 7) vYes (t__law_value_e2 q__law_leaf q__law_many q__law_next q__law_points q__law_value) [7]) vNil)) vNil)))) vNext)
  (vSeq (vAsg (vLst vNil) (gNm 6))
  (vSeq (vFor (iRg1 (vCons (vVar 5) vNil)) (gNm 7)
  (t__law_value_b1 q__law_leaf q__law_many q__law_next q__law_points q__law_value))
  (vRet (vTup (vCons (vC (.str "map")) (vCons (vCB rTuple (vCons (vCB rSortE (vCons (vFrz (vVar 6)) vNil)) vNil)) vNil)))))))))))
theorem dv__law_value {C : Cmn} {k : Nat} {qual : Str} (g_range : C.mg "range" = none) (g_sorted : C.mg "sorted" = none) (g_tuple : C.mg "tuple" = none) {q__law_leaf : WSp} (D__law_leaf : DefOk C k "_law_leaf" q__law_leaf) {q__law_many : WSp} (D__law_many : DefOk C k "_law_many" q__law_many) {q__law_next : WSp} (D__law_next : DefOk C k "_law_next" q__law_next) {q__law_points : WSp} (D__law_points : DefOk C k "_law_points" q__law_points) {q__law_value : WSp} (D__law_value : DefOk C k "_law_value" q__law_value) : VSs C (fun i : DIx k qual (defScope s__law_value) => DR C N__law_value i) (defBody s__law_value) (t__law_value q__law_leaf q__law_many q__law_next q__law_points q__law_value) :=
  (vss_cons (vs_putL (ve_op ov_sub (ve_ix (ve_var (i := 0) (hv := fun _ => .inr (.inl rfl))) ve_int) ve_int) (ve_var (i := 0) (hv := fun _ => .inr (.inl rfl))) ve_int)
  (vss_cons (vs_set (i := 4) (fun _ => sc__law_value.nd) (ve_call D__law_next (va_cons (ve_var (i := 0) (hv := fun _ => .inr (.inl rfl))) (va_cons ve_int va_nil)) (fun i => i.room)) (hx := fun _ => .inl rfl) (hf := fun _ => .inl rfl))
  (vss_cons (vs_if (vw_pt (vw_or (vt_cmp (ov_eq (fun i => ru i.room)) (ve_var (i := 1) (hv := fun _ => .inr (.inl rfl))) ve_int) (vw_or (vt_cmp ov_le (ve_ix (ve_var (i := 0) (hv := fun _ => .inr (.inl rfl))) ve_int) ve_int) (vw_or1 (vt_cmp ov_lt (ve_var (i := 4) (hv := fun _ => .inl rfl)) ve_int))))) (vss_one (vs_ret (ve_call D__law_leaf (va_cons (ve_var (i := 0) (hv := fun _ => .inr (.inl rfl))) (va_cons (ve_var (i := 2) (hv := fun _ => .inr (.inl rfl))) va_nil)) (fun i => i.room)))) vss_nil)
  (vss_cons (vs_set (i := 5) (fun _ => sc__law_value.nd) (ve_call D__law_many (va_cons (ve_var (i := 0) (hv := fun _ => .inr (.inl rfl))) (va_cons ve_int va_nil)) (fun i => i.room)) (hx := fun _ => .inl rfl) (hf := fun _ => .inl rfl))
  (vss_cons (vs_if (vw_pt (vw_or (vt_cmp (ov_eq (fun i => ru i.room)) (ve_var (i := 4) (hv := fun _ => .inl rfl)) ve_int) (vw_or1 (vt_not (vt_val (ve_var (i := 3) (hv := fun _ => .inr (.inl rfl)))))))) (vss_one (vs_ret (ve_tup (va_cons ve_str (va_cons (ve_callTy cv_tuple g_tuple (va_cons (ve_lcF (hN := (fun _ => sc__law_value.nd)) (own := [("k", 7)]) (vi_rg1 g_range (va_cons (ve_var (i := 5) (hv := fun _ => .inl rfl)) va_nil)) (fun _ => blkOk_by (own := [("k", 7)]) (N := N__law_value) (sc := defScope s__law_value) (by decide +kernel)) (vgo_name (i := 7) (fun _ => sc__law_value.nd) (hx := fun _ => .inl rfl) (hf := fun _ => .inr rfl)) vts_nil (ve_call D__law_value (va_cons (ve_var (i := 0) (hv := fun _ => .inr (.inl rfl))) (va_cons (ve_op ov_sub (ve_var (i := 1) (hv := fun _ => .inr (.inl rfl))) ve_int) (va_cons (ve_var (i := 2) (hv := fun _ => .inr (.inl rfl))) (va_cons (ve_var (i := 3) (hv := fun _ => .inr (.inl rfl))) va_nil)))) (fun i => i.1.room))) va_nil)) va_nil))))) vss_nil)
  (vss_cons (vs_set (i := 6) (fun _ => sc__law_value.nd) (ve_lst va_nil) (hx := fun _ => .inl rfl) (hf := fun _ => .inl rfl))
  (vss_cons (vs_for (vi_rg1 g_range (va_cons (ve_var (i := 5) (hv := fun _ => .inl rfl)) va_nil)) (vg_name (i := 7) (fun _ => sc__law_value.nd) (hx := fun _ => .inl rfl) (hf := fun _ => .inl rfl))
  (vss_cons (vs_set (i := 8) (fun _ => sc__law_value.nd) (ve_call D__law_points (va_cons (ve_var (i := 0) (hv := fun _ => .inr (.inl rfl))) va_nil) (fun i => i.room)) (hx := fun _ => .inl rfl) (hf := fun _ => .inl rfl))
  (vss_one (vs_if (vt_cmp (ov_notin (fun i => ru i.room)) (ve_var (i := 8) (hv := fun _ => .inl rfl)) (ve_lcF (hN := (fun _ => sc__law_value.nd)) (own := [("entry", 9)]) (vi_lst (ve_var (i := 6) (hv := fun _ => .inl rfl))) (fun _ => blkOk_by (own := [("entry", 9)]) (N := N__law_value) (sc := defScope s__law_value) (by decide +kernel)) (vgo_name (i := 9) (fun _ => sc__law_value.nd) (hx := fun _ => .inl rfl) (hf := fun _ => .inr rfl)) vts_nil (ve_ix (ve_var (i := 9) (hv := fun _ => .inl rfl)) ve_int))) (vss_one (vs_expr (ve_mt PySem.F.slot_list_append PySem.F.type_list_append mv_append (ve_var (i := 6) (hv := fun _ => .inl rfl)) (va_cons (ve_tup (va_cons (ve_var (i := 8) (hv := fun _ => .inl rfl)) (va_cons (ve_call D__law_value (va_cons (ve_var (i := 0) (hv := fun _ => .inr (.inl rfl))) (va_cons (ve_op ov_sub (ve_var (i := 1) (hv := fun _ => .inr (.inl rfl))) ve_int) (va_cons (ve_var (i := 2) (hv := fun _ => .inr (.inl rfl))) (va_cons (ve_var (i := 3) (hv := fun _ => .inr (.inl rfl))) va_nil)))) (fun i => i.room)) va_nil))) va_nil)))) vss_nil))))
  (vss_one (vs_ret (ve_tup (va_cons ve_str (va_cons (ve_callTy cv_tuple g_tuple (va_cons (ve_callB (cv_sortE (fun i => ru i.room)) g_sorted (va_cons (ve_frz (ve_var (i := 6) (hv := fun _ => .inl rfl))) va_nil)) va_nil)) va_nil))))))))))))
abbrev s__law_part : Stmt := top 43
abbrev N__law_part : List Str := ["value", "path", "step", "entry"]
theorem sc__law_part : FnScope N__law_part ["value", "path"] (defScope s__law_part) := ⟨rfl, rfl, rfl, by decide +kernel, rfl, by decide +kernel, by decide +kernel⟩
def t__law_part_c1 : WT :=
  (vTst (vOp rEq (vOp rIx (vVar 3) (vC (.int 0))) (vVar 2)))
def t__law_part_e1 : WE :=
  (vOp rIx (vVar 3) (vC (.int 1)))
def t__law_part_b1 : WS :=
  (vIf (vTst (vOp rEq (vOp rIx (vVar 0) (vC (.int 0))) (vC (.str "map")))) (vAsg (vOp rIx (vLcF (iTpl (vOp rIx (vVar 0) (vC (.int 1)))) (gNm 3) (t__law_part_c1) (t__law_part_e1) [3]) (vC (.int 0))) (gNm 0)) (vAsg (vOp rIx (vOp rIx (vVar 0) (vC (.int 1))) (vVar 2)) (gNm 0)))
def t__law_part : WS :=
  (vSeq (vFor (iTpl (vVar 1)) (gNm 2)
  (t__law_part_b1))
  (vRet (vVar 0)))
theorem dv__law_part {C : Cmn} {k : Nat} {qual : Str} : VSs C (fun i : DIx k qual (defScope s__law_part) => DR C N__law_part i) (defBody s__law_part) (t__law_part) :=
  (vss_cons (vs_for (vi_tpl (ve_var (i := 1) (hv := fun _ => .inl rfl))) (vg_name (i := 2) (fun _ => sc__law_part.nd) (hx := fun _ => .inr rfl) (hf := fun _ => .inl rfl))
  (vss_one (vs_if (vt_cmp (ov_eq (fun i => ru i.room)) (ve_ix (ve_var (i := 0) (hv := fun _ => .inl rfl)) ve_int) ve_str) (vss_one (vs_set (i := 0) (fun _ => sc__law_part.nd) (ve_ix (ve_lcF (hN := (fun _ => sc__law_part.nd)) (own := [("entry", 3)]) (vi_tpl (ve_ix (ve_var (i := 0) (hv := fun _ => .inl rfl)) ve_int)) (fun _ => blkOk_by (own := [("entry", 3)]) (N := N__law_part) (sc := defScope s__law_part) (by decide +kernel)) (vgo_name (i := 3) (fun _ => sc__law_part.nd) (hx := fun _ => .inl rfl) (hf := fun _ => .inr rfl)) (vts_one (vt_cmp (ov_eq (fun i => ru i.1.room)) (ve_ix (ve_var (i := 3) (hv := fun _ => .inl rfl)) ve_int) (ve_var (i := 2) (hv := fun _ => .inr (.inl rfl))))) (ve_ix (ve_var (i := 3) (hv := fun _ => .inl rfl)) ve_int)) ve_int) (hx := fun _ => .inl rfl) (hf := fun _ => .inl rfl))) (vss_one (vs_set (i := 0) (fun _ => sc__law_part.nd) (ve_ix (ve_ix (ve_var (i := 0) (hv := fun _ => .inl rfl)) ve_int) (ve_var (i := 2) (hv := fun _ => .inr (.inl rfl)))) (hx := fun _ => .inl rfl) (hf := fun _ => .inl rfl))))))
  (vss_one (vs_ret (ve_var (i := 0) (hv := fun _ => .inl rfl)))))
abbrev s__law_steps : Stmt := top 44
abbrev N__law_steps : List Str := ["value", "k"]
theorem sc__law_steps : FnScope N__law_steps ["value"] (defScope s__law_steps) := ⟨rfl, rfl, rfl, by decide +kernel, rfl, by decide +kernel, by decide +kernel⟩
def t__law_steps_e1 : WE :=
  (vTup (vCons (vVar 1) (vCons (vOp rIx (vOp rIx (vVar 0) (vC (.int 1))) (vVar 1)) vNil)))
def t__law_steps : WS :=
  (vSeq (vIf (vTst (vOp rEq (vOp rIx (vVar 0) (vC (.int 0))) (vC (.str "list")))) (vRet (vLcF (iRg1 (vCons (vCB rLen (vCons (vOp rIx (vVar 0) (vC (.int 1))) vNil)) vNil)) (gNm 1) vYes (t__law_steps_e1) [1])) vNext)
  (vSeq (vIf (vTst (vOp rEq (vOp rIx (vVar 0) (vC (.int 0))) (vC (.str "map")))) (vRet (vCB rListF (vCons (vOp rIx (vVar 0) (vC (.int 1))) vNil))) vNext)
  (vRet (vLstF vNil))))
theorem dv__law_steps {C : Cmn} {k : Nat} {qual : Str} (g_len : C.mg "len" = none) (g_list : C.mg "list" = none) (g_range : C.mg "range" = none) : VSs C (fun i : DIx k qual (defScope s__law_steps) => DR C N__law_steps i) (defBody s__law_steps) (t__law_steps) :=
  (vss_cons (vs_if (vt_cmp (ov_eq (fun i => ru i.room)) (ve_ix (ve_var (i := 0) (hv := fun _ => .inr (.inl rfl))) ve_int) ve_str) (vss_one (vs_ret (ve_lcF (hN := (fun _ => sc__law_steps.nd)) (own := [("k", 1)]) (vi_rg1 g_range (va_cons (ve_callB cv_len g_len (va_cons (ve_ix (ve_var (i := 0) (hv := fun _ => .inr (.inl rfl))) ve_int) va_nil)) va_nil)) (fun _ => blkOk_by (own := [("k", 1)]) (N := N__law_steps) (sc := defScope s__law_steps) (by decide +kernel)) (vgo_name (i := 1) (fun _ => sc__law_steps.nd) (hx := fun _ => .inl rfl) (hf := fun _ => .inr rfl)) vts_nil (ve_tup (va_cons (ve_var (i := 1) (hv := fun _ => .inl rfl)) (va_cons (ve_ix (ve_ix (ve_var (i := 0) (hv := fun _ => .inr (.inl rfl))) ve_int) (ve_var (i := 1) (hv := fun _ => .inl rfl))) va_nil)))))) vss_nil)
  (vss_cons (vs_if (vt_cmp (ov_eq (fun i => ru i.room)) (ve_ix (ve_var (i := 0) (hv := fun _ => .inr (.inl rfl))) ve_int) ve_str) (vss_one (vs_ret (ve_callTy cv_listF g_list (va_cons (ve_ix (ve_var (i := 0) (hv := fun _ => .inr (.inl rfl))) ve_int) va_nil)))) vss_nil)
  (vss_one (vs_ret (ve_lstF va_nil)))))
abbrev s__law_ways : Stmt := top 45
abbrev N__law_ways : List Str := ["value", "found", "step", "part", "path"]
theorem sc__law_ways : FnScope N__law_ways ["value"] (defScope s__law_ways) := ⟨rfl, rfl, rfl, by decide +kernel, rfl, by decide +kernel, by decide +kernel⟩
def t__law_ways_e1 (q__law_steps : WSp) (q__law_ways : WSp) : WE :=
  (vOp rAdd (vTup (vCons (vVar 2) vNil)) (vVar 4))
def t__law_ways_b1 (q__law_steps : WSp) (q__law_ways : WSp) : WS :=
  (vExpr (vMt rExtend (vVar 1) (vCons (vLcF (iLst (vFrz (vCall q__law_ways (vCons (vVar 3) vNil)))) (gNm 4) vYes (t__law_ways_e1 q__law_steps q__law_ways) [4]) vNil)))
def t__law_ways (q__law_steps : WSp) (q__law_ways : WSp) : WS :=
  (vSeq (vAsg (vLst (vCons (vTup vNil) vNil)) (gNm 1))
  (vSeq (vFor (iLst (vCall q__law_steps (vCons (vVar 0) vNil))) (gTupD 2 (gThen (gNm 2) (gThen (gNm 3) gEnd)))
  (t__law_ways_b1 q__law_steps q__law_ways))
  (vRet (vVar 1))))
theorem dv__law_ways {C : Cmn} {k : Nat} {qual : Str} {q__law_steps : WSp} (D__law_steps : DefOk C k "_law_steps" q__law_steps) {q__law_ways : WSp} (D__law_ways : DefOk C k "_law_ways" q__law_ways) : VSs C (fun i : DIx k qual (defScope s__law_ways) => DR C N__law_ways i) (defBody s__law_ways) (t__law_ways q__law_steps q__law_ways) :=
  (vss_cons (vs_set (i := 1) (fun _ => sc__law_ways.nd) (ve_lst (va_cons (ve_tup va_nil) va_nil)) (hx := fun _ => .inl rfl) (hf := fun _ => .inl rfl))
  (vss_cons (vs_for (vi_lst (ve_call D__law_steps (va_cons (ve_var (i := 0) (hv := fun _ => .inl rfl)) va_nil) (fun i => i.room))) (vg_tup (vgs_cons (vg_name (i := 2) (fun _ => sc__law_ways.nd) (hx := fun _ => .inr rfl) (hf := fun _ => .inl rfl)) (vgs_cons (vg_name (i := 3) (fun _ => sc__law_ways.nd) (hx := fun _ => .inl rfl) (hf := fun _ => .inl rfl)) vgs_nil)))
  (vss_one (vs_expr (ve_mt PySem.F.slot_list_extend PySem.F.type_list_extend mv_extend (ve_var (i := 1) (hv := fun _ => .inl rfl)) (va_cons (ve_lcF (hN := (fun _ => sc__law_ways.nd)) (own := [("path", 4)]) (vi_lst (ve_frz (ve_call D__law_ways (va_cons (ve_var (i := 3) (hv := fun _ => .inl rfl)) va_nil) (fun i => i.room)))) (fun _ => blkOk_by (own := [("path", 4)]) (N := N__law_ways) (sc := defScope s__law_ways) (by decide +kernel)) (vgo_name (i := 4) (fun _ => sc__law_ways.nd) (hx := fun _ => .inl rfl) (hf := fun _ => .inr rfl)) vts_nil (ve_op ov_add (ve_tup (va_cons (ve_var (i := 2) (hv := fun _ => .inr (.inl rfl))) va_nil)) (ve_var (i := 4) (hv := fun _ => .inl rfl)))) va_nil)))))
  (vss_one (vs_ret (ve_var (i := 1) (hv := fun _ => .inl rfl))))))
abbrev s__law_drawn : Stmt := top 46
abbrev N__law_drawn : List Str := ["state", "value", "k", "ways"]
theorem sc__law_drawn : FnScope N__law_drawn ["state"] (defScope s__law_drawn) := ⟨rfl, rfl, rfl, by decide +kernel, rfl, by decide +kernel, by decide +kernel⟩
def t__law_drawn_b1 (q__law_depth : WSp) (q__law_next : WSp) (q__law_points : WSp) (q__law_value : WSp) : WS :=
  (vIf (vTst (vOp rLt (vCall q__law_depth (vCons (vVar 1) vNil)) (vC (.int 24)))) (vSeq (vAsg (vLstF (vCons (vTup (vCons (vC (.str "list")) (vCons (vTup (vCons (vVar 1) vNil)) vNil))) (vCons (vTup (vCons (vC (.str "map")) (vCons (vTup (vCons (vTup (vCons (vCall q__law_points (vCons (vVar 0) vNil)) (vCons (vVar 1) vNil))) vNil)) vNil))) (vCons (vTup (vCons (vC (.str "list")) (vCons (vTup (vCons (vTup (vCons (vC (.str "list")) (vCons (vTup vNil) vNil))) (vCons (vVar 1) vNil))) vNil))) vNil)))) (gNm 3))
  (vAsg (vOp rIx (vVar 3) (vCall q__law_next (vCons (vVar 0) (vCons (vC (.int 3)) vNil)))) (gNm 1))) vNext)
def t__law_drawn (q__law_depth : WSp) (q__law_next : WSp) (q__law_points : WSp) (q__law_value : WSp) : WS :=
  (vSeq (vAsg (vCall q__law_value (vCons (vVar 0) (vCons (vC (.int 4)) (vCons (vLstF (vCons (vC (.str "null")) (vCons (vC (.str "truth")) (vCons (vC (.str "number")) (vCons (vC (.str "bytes")) (vCons (vC (.str "text")) vNil)))))) (vCons (vC (.bl true)) vNil))))) (gNm 1))
  (vSeq (vIf (vTst (vOp rEq (vCall q__law_next (vCons (vVar 0) (vCons (vC (.int 4)) vNil))) (vC (.int 1)))) (vFor (iRg1 (vCons (vCall q__law_next (vCons (vVar 0) (vCons (vC (.int 25)) vNil))) vNil)) (gNm 2)
  (t__law_drawn_b1 q__law_depth q__law_next q__law_points q__law_value)) vNext)
  (vRet (vVar 1))))
theorem dv__law_drawn {C : Cmn} {k : Nat} {qual : Str} (g_range : C.mg "range" = none) {q__law_depth : WSp} (D__law_depth : DefOk C k "_law_depth" q__law_depth) {q__law_next : WSp} (D__law_next : DefOk C k "_law_next" q__law_next) {q__law_points : WSp} (D__law_points : DefOk C k "_law_points" q__law_points) {q__law_value : WSp} (D__law_value : DefOk C k "_law_value" q__law_value) : VSs C (fun i : DIx k qual (defScope s__law_drawn) => DR C N__law_drawn i) (defBody s__law_drawn) (t__law_drawn q__law_depth q__law_next q__law_points q__law_value) :=
  (vss_cons (vs_set (i := 1) (fun _ => sc__law_drawn.nd) (ve_call D__law_value (va_cons (ve_var (i := 0) (hv := fun _ => .inl rfl)) (va_cons ve_int (va_cons (ve_lstF (va_cons ve_str (va_cons ve_str (va_cons ve_str (va_cons ve_str (va_cons ve_str va_nil)))))) (va_cons ve_bl va_nil)))) (fun i => i.room)) (hx := fun _ => .inl rfl) (hf := fun _ => .inl rfl))
  (vss_cons (vs_if (vt_cmp (ov_eq (fun i => ru i.room)) (ve_call D__law_next (va_cons (ve_var (i := 0) (hv := fun _ => .inl rfl)) (va_cons ve_int va_nil)) (fun i => i.room)) ve_int) (vss_one (vs_for (vi_rg1 g_range (va_cons (ve_call D__law_next (va_cons (ve_var (i := 0) (hv := fun _ => .inl rfl)) (va_cons ve_int va_nil)) (fun i => i.room)) va_nil)) (vg_name (i := 2) (fun _ => sc__law_drawn.nd) (hx := fun _ => .inl rfl) (hf := fun _ => .inl rfl))
  (vss_one (vs_if (vt_cmp ov_lt (ve_call D__law_depth (va_cons (ve_var (i := 1) (hv := fun _ => .inl rfl)) va_nil) (fun i => i.room)) ve_int) (vss_cons (vs_set (i := 3) (fun _ => sc__law_drawn.nd) (ve_lstF (va_cons (ve_tup (va_cons ve_str (va_cons (ve_tup (va_cons (ve_var (i := 1) (hv := fun _ => .inl rfl)) va_nil)) va_nil))) (va_cons (ve_tup (va_cons ve_str (va_cons (ve_tup (va_cons (ve_tup (va_cons (ve_call D__law_points (va_cons (ve_var (i := 0) (hv := fun _ => .inl rfl)) va_nil) (fun i => i.room)) (va_cons (ve_var (i := 1) (hv := fun _ => .inl rfl)) va_nil))) va_nil)) va_nil))) (va_cons (ve_tup (va_cons ve_str (va_cons (ve_tup (va_cons (ve_tup (va_cons ve_str (va_cons (ve_tup va_nil) va_nil))) (va_cons (ve_var (i := 1) (hv := fun _ => .inl rfl)) va_nil))) va_nil))) va_nil)))) (hx := fun _ => .inl rfl) (hf := fun _ => .inl rfl))
  (vss_one (vs_set (i := 1) (fun _ => sc__law_drawn.nd) (ve_ix (ve_var (i := 3) (hv := fun _ => .inl rfl)) (ve_call D__law_next (va_cons (ve_var (i := 0) (hv := fun _ => .inl rfl)) (va_cons ve_int va_nil)) (fun i => i.room))) (hx := fun _ => .inl rfl) (hf := fun _ => .inl rfl)))) vss_nil)))) vss_nil)
  (vss_one (vs_ret (ve_var (i := 1) (hv := fun _ => .inl rfl))))))
abbrev s__law_small : Stmt := top 47
abbrev N__law_small : List Str := ["state"]
theorem sc__law_small : FnScope N__law_small ["state"] (defScope s__law_small) := ⟨rfl, rfl, rfl, by decide +kernel, rfl, by decide +kernel, by decide +kernel⟩
def t__law_small (q__law_next : WSp) (q__law_value : WSp) : WS :=
  (vSeq (vPutL (vOp rAdd (vC (.int 1)) (vCall q__law_next (vCons (vVar 0) (vCons (vC (.int 5)) vNil)))) (vVar 0) (vC (.int 2)))
  (vRet (vCall q__law_value (vCons (vVar 0) (vCons (vC (.int 2)) (vCons (vLstF (vCons (vC (.str "null")) (vCons (vC (.str "truth")) (vCons (vC (.str "number")) (vCons (vC (.str "bytes")) (vCons (vC (.str "text")) vNil)))))) (vCons (vC (.bl true)) vNil)))))))
theorem dv__law_small {C : Cmn} {k : Nat} {qual : Str} {q__law_next : WSp} (D__law_next : DefOk C k "_law_next" q__law_next) {q__law_value : WSp} (D__law_value : DefOk C k "_law_value" q__law_value) : VSs C (fun i : DIx k qual (defScope s__law_small) => DR C N__law_small i) (defBody s__law_small) (t__law_small q__law_next q__law_value) :=
  (vss_cons (vs_putL (ve_op ov_add ve_int (ve_call D__law_next (va_cons (ve_var (i := 0) (hv := fun _ => .inl rfl)) (va_cons ve_int va_nil)) (fun i => i.room))) (ve_var (i := 0) (hv := fun _ => .inl rfl)) ve_int)
  (vss_one (vs_ret (ve_call D__law_value (va_cons (ve_var (i := 0) (hv := fun _ => .inl rfl)) (va_cons ve_int (va_cons (ve_lstF (va_cons ve_str (va_cons ve_str (va_cons ve_str (va_cons ve_str (va_cons ve_str va_nil)))))) (va_cons ve_bl va_nil)))) (fun i => i.room)))))
abbrev s__law_edited : Stmt := top 48
abbrev N__law_edited : List Str := ["value", "way", "path", "step", "part", "before", "rows", "old", "inner", "entry", "row"]
theorem sc__law_edited : FnScope N__law_edited ["value", "way", "path", "step", "part"] (defScope s__law_edited) := ⟨rfl, rfl, rfl, by decide +kernel, rfl, by decide +kernel, by decide +kernel⟩
def t__law_edited_e1 (q__law_edited : WSp) (q__law_steps : WSp) : WE :=
  (vOp rIx (vVar 10) (vC (.int 1)))
def t__law_edited_b1 (q__law_edited : WSp) (q__law_steps : WSp) : WS :=
  (vIf (vTst (vOp rNe (vVar 7) (vOp rIx (vVar 2) (vC (.int 0))))) (vExpr (vMt rAppend (vVar 6) (vCons (vTup (vCons (vVar 7) (vCons (vVar 8) vNil))) vNil))) (vIf (vOr (vTst (vOp rNe (vVar 1) (vC (.int 1)))) (vTst (vOp rGtT (vCB rLen (vCons (vVar 2) vNil)) (vC (.int 1))))) (vExpr (vMt rAppend (vVar 6) (vCons (vTup (vCons (vVar 7) (vCons (vCall q__law_edited (vCons (vVar 8) (vCons (vVar 1) (vCons (vSl rSlF (vVar 2) (vPart (vC (.int 1))) vNoP) (vCons (vVar 3) (vCons (vVar 4) vNil)))))) vNil))) vNil))) vNext))
def t__law_edited_c1 (q__law_edited : WSp) (q__law_steps : WSp) : WT :=
  (vTst (vOp rGtT (vOp rIx (vVar 9) (vC (.int 0))) (vVar 3)))
def t__law_edited_e2 (q__law_edited : WSp) (q__law_steps : WSp) : WE :=
  (vVar 9)
def t__law_edited_c2 (q__law_edited : WSp) (q__law_steps : WSp) : WT :=
  (vTst (vOp rLtT (vOp rIx (vVar 9) (vC (.int 0))) (vVar 3)))
def t__law_edited_e3 (q__law_edited : WSp) (q__law_steps : WSp) : WE :=
  (vVar 9)
def t__law_edited (q__law_edited : WSp) (q__law_steps : WSp) : WS :=
  (vSeq (vIf (vTst (vOp rEq (vVar 2) (vTup vNil))) (vSeq (vIf (vTst (vOp rEq (vVar 1) (vC (.int 0)))) (vRet (vVar 4)) vNext)
  (vSeq (vIf (vTst (vOp rEq (vOp rIx (vVar 0) (vC (.int 0))) (vC (.str "list")))) (vRet (vTup (vCons (vC (.str "list")) (vCons (vOp rAdd (vOp rAdd (vSl rSlF (vOp rIx (vVar 0) (vC (.int 1))) vNoP (vPart (vVar 3))) (vTup (vCons (vVar 4) vNil))) (vSl rSlF (vOp rIx (vVar 0) (vC (.int 1))) (vPart (vVar 3)) vNoP)) vNil)))) vNext)
  (vSeq (vAsg (vCB rTuple (vCons (vLcF (iTpl (vOp rIx (vVar 0) (vC (.int 1)))) (gNm 9) (t__law_edited_c2 q__law_edited q__law_steps) (t__law_edited_e3 q__law_edited q__law_steps) [9]) vNil)) (gNm 5))
  (vRet (vTup (vCons (vC (.str "map")) (vCons (vOp rAdd (vOp rAdd (vVar 5) (vTup (vCons (vTup (vCons (vVar 3) (vCons (vVar 4) vNil))) vNil))) (vCB rTuple (vCons (vLcF (iTpl (vOp rIx (vVar 0) (vC (.int 1)))) (gNm 9) (t__law_edited_c1 q__law_edited q__law_steps) (t__law_edited_e2 q__law_edited q__law_steps) [9]) vNil))) vNil))))))) vNext)
  (vSeq (vAsg (vLst vNil) (gNm 6))
  (vSeq (vFor (iLst (vCall q__law_steps (vCons (vVar 0) vNil))) (gTupD 2 (gThen (gNm 7) (gThen (gNm 8) gEnd)))
  (t__law_edited_b1 q__law_edited q__law_steps))
  (vSeq (vIf (vTst (vOp rEq (vOp rIx (vVar 0) (vC (.int 0))) (vC (.str "list")))) (vRet (vTup (vCons (vC (.str "list")) (vCons (vCB rTuple (vCons (vLcF (iLst (vFrz (vVar 6))) (gNm 10) vYes (t__law_edited_e1 q__law_edited q__law_steps) [10]) vNil)) vNil)))) vNext)
  (vRet (vTup (vCons (vC (.str "map")) (vCons (vCB rTuple (vCons (vFrz (vVar 6)) vNil)) vNil))))))))
theorem dv__law_edited {C : Cmn} {k : Nat} {qual : Str} (g_len : C.mg "len" = none) (g_tuple : C.mg "tuple" = none) {q__law_edited : WSp} (D__law_edited : DefOk C k "_law_edited" q__law_edited) {q__law_steps : WSp} (D__law_steps : DefOk C k "_law_steps" q__law_steps) : VSs C (fun i : DIx k qual (defScope s__law_edited) => DR C N__law_edited i) (defBody s__law_edited) (t__law_edited q__law_edited q__law_steps) :=
  (vss_cons (vs_if (vt_cmp (ov_eq (fun i => ru i.room)) (ve_var (i := 2) (hv := fun _ => .inl rfl)) (ve_tup va_nil)) (vss_cons (vs_if (vt_cmp (ov_eq (fun i => ru i.room)) (ve_var (i := 1) (hv := fun _ => .inl rfl)) ve_int) (vss_one (vs_ret (ve_var (i := 4) (hv := fun _ => .inl rfl)))) vss_nil)
  (vss_cons (vs_if (vt_cmp (ov_eq (fun i => ru i.room)) (ve_ix (ve_var (i := 0) (hv := fun _ => .inl rfl)) ve_int) ve_str) (vss_one (vs_ret (ve_tup (va_cons ve_str (va_cons (ve_op ov_add (ve_op ov_add (ve_slice slF_sound (ve_ix (ve_var (i := 0) (hv := fun _ => .inl rfl)) ve_int) vo_none (vo_some (ve_var (i := 3) (hv := fun _ => .inr (.inl rfl))))) (ve_tup (va_cons (ve_var (i := 4) (hv := fun _ => .inl rfl)) va_nil))) (ve_slice slF_sound (ve_ix (ve_var (i := 0) (hv := fun _ => .inl rfl)) ve_int) (vo_some (ve_var (i := 3) (hv := fun _ => .inr (.inl rfl)))) vo_none)) va_nil))))) vss_nil)
  (vss_cons (vs_set (i := 5) (fun _ => sc__law_edited.nd) (ve_callTy cv_tuple g_tuple (va_cons (ve_lcF (hN := (fun _ => sc__law_edited.nd)) (own := [("entry", 9)]) (vi_tpl (ve_ix (ve_var (i := 0) (hv := fun _ => .inl rfl)) ve_int)) (fun _ => blkOk_by (own := [("entry", 9)]) (N := N__law_edited) (sc := defScope s__law_edited) (by decide +kernel)) (vgo_name (i := 9) (fun _ => sc__law_edited.nd) (hx := fun _ => .inl rfl) (hf := fun _ => .inr rfl)) (vts_one (vt_cmp (ov_ltT (fun i => ru i.1.room)) (ve_ix (ve_var (i := 9) (hv := fun _ => .inl rfl)) ve_int) (ve_var (i := 3) (hv := fun _ => .inr (.inl rfl))))) (ve_var (i := 9) (hv := fun _ => .inl rfl))) va_nil)) (hx := fun _ => .inl rfl) (hf := fun _ => .inl rfl))
  (vss_one (vs_ret (ve_tup (va_cons ve_str (va_cons (ve_op ov_add (ve_op ov_add (ve_var (i := 5) (hv := fun _ => .inl rfl)) (ve_tup (va_cons (ve_tup (va_cons (ve_var (i := 3) (hv := fun _ => .inr (.inl rfl))) (va_cons (ve_var (i := 4) (hv := fun _ => .inl rfl)) va_nil))) va_nil))) (ve_callTy cv_tuple g_tuple (va_cons (ve_lcF (hN := (fun _ => sc__law_edited.nd)) (own := [("entry", 9)]) (vi_tpl (ve_ix (ve_var (i := 0) (hv := fun _ => .inl rfl)) ve_int)) (fun _ => blkOk_by (own := [("entry", 9)]) (N := N__law_edited) (sc := defScope s__law_edited) (by decide +kernel)) (vgo_name (i := 9) (fun _ => sc__law_edited.nd) (hx := fun _ => .inl rfl) (hf := fun _ => .inr rfl)) (vts_one (vt_cmp (ov_gtT (fun i => ru i.1.room)) (ve_ix (ve_var (i := 9) (hv := fun _ => .inl rfl)) ve_int) (ve_var (i := 3) (hv := fun _ => .inr (.inl rfl))))) (ve_var (i := 9) (hv := fun _ => .inl rfl))) va_nil))) va_nil)))))))) vss_nil)
  (vss_cons (vs_set (i := 6) (fun _ => sc__law_edited.nd) (ve_lst va_nil) (hx := fun _ => .inl rfl) (hf := fun _ => .inl rfl))
  (vss_cons (vs_for (vi_lst (ve_call D__law_steps (va_cons (ve_var (i := 0) (hv := fun _ => .inl rfl)) va_nil) (fun i => i.room))) (vg_tup (vgs_cons (vg_name (i := 7) (fun _ => sc__law_edited.nd) (hx := fun _ => .inl rfl) (hf := fun _ => .inl rfl)) (vgs_cons (vg_name (i := 8) (fun _ => sc__law_edited.nd) (hx := fun _ => .inl rfl) (hf := fun _ => .inl rfl)) vgs_nil)))
  (vss_one (vs_if (vt_cmp (ov_ne (fun i => ru i.room)) (ve_var (i := 7) (hv := fun _ => .inl rfl)) (ve_ix (ve_var (i := 2) (hv := fun _ => .inl rfl)) ve_int)) (vss_one (vs_expr (ve_mt PySem.F.slot_list_append PySem.F.type_list_append mv_append (ve_var (i := 6) (hv := fun _ => .inl rfl)) (va_cons (ve_tup (va_cons (ve_var (i := 7) (hv := fun _ => .inl rfl)) (va_cons (ve_var (i := 8) (hv := fun _ => .inl rfl)) va_nil))) va_nil)))) (vss_one (vs_if (vw_pt (vw_or (vt_cmp (ov_ne (fun i => ru i.room)) (ve_var (i := 1) (hv := fun _ => .inl rfl)) ve_int) (vw_or1 (vt_cmp (ov_gtT (fun i => ru i.room)) (ve_callB cv_len g_len (va_cons (ve_var (i := 2) (hv := fun _ => .inl rfl)) va_nil)) ve_int)))) (vss_one (vs_expr (ve_mt PySem.F.slot_list_append PySem.F.type_list_append mv_append (ve_var (i := 6) (hv := fun _ => .inl rfl)) (va_cons (ve_tup (va_cons (ve_var (i := 7) (hv := fun _ => .inl rfl)) (va_cons (ve_call D__law_edited (va_cons (ve_var (i := 8) (hv := fun _ => .inl rfl)) (va_cons (ve_var (i := 1) (hv := fun _ => .inl rfl)) (va_cons (ve_slice slF_sound (ve_var (i := 2) (hv := fun _ => .inl rfl)) (vo_some ve_int) vo_none) (va_cons (ve_var (i := 3) (hv := fun _ => .inr (.inl rfl))) (va_cons (ve_var (i := 4) (hv := fun _ => .inl rfl)) va_nil))))) (fun i => i.room)) va_nil))) va_nil)))) vss_nil)))))
  (vss_cons (vs_if (vt_cmp (ov_eq (fun i => ru i.room)) (ve_ix (ve_var (i := 0) (hv := fun _ => .inl rfl)) ve_int) ve_str) (vss_one (vs_ret (ve_tup (va_cons ve_str (va_cons (ve_callTy cv_tuple g_tuple (va_cons (ve_lcF (hN := (fun _ => sc__law_edited.nd)) (own := [("row", 10)]) (vi_lst (ve_frz (ve_var (i := 6) (hv := fun _ => .inl rfl)))) (fun _ => blkOk_by (own := [("row", 10)]) (N := N__law_edited) (sc := defScope s__law_edited) (by decide +kernel)) (vgo_name (i := 10) (fun _ => sc__law_edited.nd) (hx := fun _ => .inl rfl) (hf := fun _ => .inr rfl)) vts_nil (ve_ix (ve_var (i := 10) (hv := fun _ => .inl rfl)) ve_int)) va_nil)) va_nil))))) vss_nil)
  (vss_one (vs_ret (ve_tup (va_cons ve_str (va_cons (ve_callTy cv_tuple g_tuple (va_cons (ve_frz (ve_var (i := 6) (hv := fun _ => .inl rfl))) va_nil)) va_nil)))))))))
abbrev s__law_depth : Stmt := top 49
abbrev N__law_depth : List Str := ["value", "item", "entry"]
theorem sc__law_depth : FnScope N__law_depth ["value"] (defScope s__law_depth) := ⟨rfl, rfl, rfl, by decide +kernel, rfl, by decide +kernel, by decide +kernel⟩
def t__law_depth_e1 (q__law_depth : WSp) : WE :=
  (vCall q__law_depth (vCons (vOp rIx (vVar 2) (vC (.int 1))) vNil))
def t__law_depth_e2 (q__law_depth : WSp) : WE :=
  (vCall q__law_depth (vCons (vVar 1) vNil))
def t__law_depth (q__law_depth : WSp) : WS :=
  (vSeq (vIf (vTst (vOp rEq (vOp rIx (vVar 0) (vC (.int 0))) (vC (.str "list")))) (vRet (vOp rAdd (vC (.int 1)) (vCB rMax (vCons (vOp rAdd (vLstF (vCons (vC (.int 0)) vNil)) (vLcF (iTpl (vOp rIx (vVar 0) (vC (.int 1)))) (gNm 1) vYes (t__law_depth_e2 q__law_depth) [1])) vNil)))) vNext)
  (vSeq (vIf (vTst (vOp rEq (vOp rIx (vVar 0) (vC (.int 0))) (vC (.str "map")))) (vRet (vOp rAdd (vC (.int 1)) (vCB rMax (vCons (vOp rAdd (vLstF (vCons (vC (.int 0)) vNil)) (vLcF (iTpl (vOp rIx (vVar 0) (vC (.int 1)))) (gNm 2) vYes (t__law_depth_e1 q__law_depth) [2])) vNil)))) vNext)
  (vRet (vC (.int 0)))))
theorem dv__law_depth {C : Cmn} {k : Nat} {qual : Str} (g_max : C.mg "max" = none) {q__law_depth : WSp} (D__law_depth : DefOk C k "_law_depth" q__law_depth) : VSs C (fun i : DIx k qual (defScope s__law_depth) => DR C N__law_depth i) (defBody s__law_depth) (t__law_depth q__law_depth) :=
  (vss_cons (vs_if (vt_cmp (ov_eq (fun i => ru i.room)) (ve_ix (ve_var (i := 0) (hv := fun _ => .inl rfl)) ve_int) ve_str) (vss_one (vs_ret (ve_op ov_add ve_int (ve_callB cv_max g_max (va_cons (ve_op ov_add (ve_lstF (va_cons ve_int va_nil)) (ve_lcF (hN := (fun _ => sc__law_depth.nd)) (own := [("item", 1)]) (vi_tpl (ve_ix (ve_var (i := 0) (hv := fun _ => .inl rfl)) ve_int)) (fun _ => blkOk_by (own := [("item", 1)]) (N := N__law_depth) (sc := defScope s__law_depth) (by decide +kernel)) (vgo_name (i := 1) (fun _ => sc__law_depth.nd) (hx := fun _ => .inl rfl) (hf := fun _ => .inr rfl)) vts_nil (ve_call D__law_depth (va_cons (ve_var (i := 1) (hv := fun _ => .inl rfl)) va_nil) (fun i => i.1.room)))) va_nil))))) vss_nil)
  (vss_cons (vs_if (vt_cmp (ov_eq (fun i => ru i.room)) (ve_ix (ve_var (i := 0) (hv := fun _ => .inl rfl)) ve_int) ve_str) (vss_one (vs_ret (ve_op ov_add ve_int (ve_callB cv_max g_max (va_cons (ve_op ov_add (ve_lstF (va_cons ve_int va_nil)) (ve_lcF (hN := (fun _ => sc__law_depth.nd)) (own := [("entry", 2)]) (vi_tpl (ve_ix (ve_var (i := 0) (hv := fun _ => .inl rfl)) ve_int)) (fun _ => blkOk_by (own := [("entry", 2)]) (N := N__law_depth) (sc := defScope s__law_depth) (by decide +kernel)) (vgo_name (i := 2) (fun _ => sc__law_depth.nd) (hx := fun _ => .inl rfl) (hf := fun _ => .inr rfl)) vts_nil (ve_call D__law_depth (va_cons (ve_ix (ve_var (i := 2) (hv := fun _ => .inl rfl)) ve_int) va_nil) (fun i => i.1.room)))) va_nil))))) vss_nil)
  (vss_one (vs_ret ve_int))))
abbrev s__law_refusal : Stmt := top 50
abbrev N__law_refusal : List Str := ["value", "way", "path", "step", "part", "holder", "fits", "deep", "entry"]
theorem sc__law_refusal : FnScope N__law_refusal ["value", "way", "path", "step", "part"] (defScope s__law_refusal) := ⟨rfl, rfl, rfl, by decide +kernel, rfl, by decide +kernel, by decide +kernel⟩
def t__law_refusal_c1 (q__law_depth : WSp) (q__law_part : WSp) (q__law_ways : WSp) : WT :=
  (vTst (vOp rEq (vOp rIx (vVar 8) (vC (.int 0))) (vVar 3)))
def t__law_refusal_e1 (q__law_depth : WSp) (q__law_part : WSp) (q__law_ways : WSp) : WE :=
  (vVar 8)
def t__law_refusal (q__law_depth : WSp) (q__law_part : WSp) (q__law_ways : WSp) : WS :=
  (vSeq (vIf (vOr (vTst (vOp (rIn true) (vVar 2) (vFrz (vCall q__law_ways (vCons (vVar 0) vNil))))) (vAnd (vTst (vOp rEq (vVar 1) (vC (.int 1)))) (vTst (vOp rEq (vVar 2) (vTup vNil))))) (vRet (vTup (vCons (vC (.str "astray")) (vCons (vVar 2) vNil)))) vNext)
  (vSeq (vAsg (vCall q__law_part (vCons (vVar 0) (vCons (vVar 2) vNil))) (gNm 5))
  (vSeq (vIf (vTst (vOp rEq (vVar 1) (vC (.int 2)))) (vSeq (vAsg (vAndV (vCB rIsi (vCons (vVar 3) (vCons (vC (.ty "int")) vNil))) (vAndV (vOp rEq (vOp rIx (vVar 5) (vC (.int 0))) (vC (.str "list"))) (vAndV (vOp rLe (vC (.int 0)) (vVar 3)) (vOp rLe (vVar 3) (vCB rLen (vCons (vOp rIx (vVar 5) (vC (.int 1))) vNil)))))) (gNm 6))
  (vSeq (vIf (vAnd (vTst (vOp rEq (vOp rIx (vVar 5) (vC (.int 0))) (vC (.str "map")))) (vTst (vCB rIsi (vCons (vVar 3) (vCons (vC (.ty "tuple")) vNil))))) (vAsg (vOp rEq (vLcF (iTpl (vOp rIx (vVar 5) (vC (.int 1)))) (gNm 8) (t__law_refusal_c1 q__law_depth q__law_part q__law_ways) (t__law_refusal_e1 q__law_depth q__law_part q__law_ways) [8]) (vLstF vNil)) (gNm 6)) vNext)
  (vIf (vNot (vTst (vVar 6))) (vRet (vTup (vCons (vC (.str "misplaced")) (vCons (vVar 3) vNil)))) vNext))) vNext)
  (vSeq (vAsg (vOp rAdd (vOp rAdd (vCB rLen (vCons (vVar 2) vNil)) (vCB rInt (vCons (vOp rEq (vVar 1) (vC (.int 2))) vNil))) (vCall q__law_depth (vCons (vVar 4) vNil))) (gNm 7))
  (vSeq (vIf (vAnd (vTst (vOp rNe (vVar 1) (vC (.int 1)))) (vTst (vOp rGt (vVar 7) (vC (.int 24))))) (vRet (vTup (vCons (vC (.str "overdeep")) (vCons (vVar 7) vNil)))) vNext)
  (vRet (vC .non)))))))
theorem dv__law_refusal {C : Cmn} {k : Nat} {qual : Str} (g_int : C.mg "int" = none) (g_isinstance : C.mg "isinstance" = none) (g_len : C.mg "len" = none) (g_tuple : C.mg "tuple" = none) {q__law_depth : WSp} (D__law_depth : DefOk C k "_law_depth" q__law_depth) {q__law_part : WSp} (D__law_part : DefOk C k "_law_part" q__law_part) {q__law_ways : WSp} (D__law_ways : DefOk C k "_law_ways" q__law_ways) : VSs C (fun i : DIx k qual (defScope s__law_refusal) => DR C N__law_refusal i) (defBody s__law_refusal) (t__law_refusal q__law_depth q__law_part q__law_ways) :=
  (vss_cons (vs_if (vw_pt (vw_or (vt_cmp (ov_notin (fun i => ru i.room)) (ve_var (i := 2) (hv := fun _ => .inl rfl)) (ve_frz (ve_call D__law_ways (va_cons (ve_var (i := 0) (hv := fun _ => .inl rfl)) va_nil) (fun i => i.room)))) (vw_or1 (vw_pt (vw_and (vt_cmp (ov_eq (fun i => ru i.room)) (ve_var (i := 1) (hv := fun _ => .inl rfl)) ve_int) (vw_and1 (vt_cmp (ov_eq (fun i => ru i.room)) (ve_var (i := 2) (hv := fun _ => .inl rfl)) (ve_tup va_nil)))))))) (vss_one (vs_ret (ve_tup (va_cons ve_str (va_cons (ve_var (i := 2) (hv := fun _ => .inl rfl)) va_nil))))) vss_nil)
  (vss_cons (vs_set (i := 5) (fun _ => sc__law_refusal.nd) (ve_call D__law_part (va_cons (ve_var (i := 0) (hv := fun _ => .inl rfl)) (va_cons (ve_var (i := 2) (hv := fun _ => .inl rfl)) va_nil)) (fun i => i.room)) (hx := fun _ => .inl rfl) (hf := fun _ => .inl rfl))
  (vss_cons (vs_if (vt_cmp (ov_eq (fun i => ru i.room)) (ve_var (i := 1) (hv := fun _ => .inl rfl)) ve_int) (vss_cons (vs_set (i := 6) (fun _ => sc__law_refusal.nd) (ve_and (ve_callB cv_isi g_isinstance (va_cons (ve_var (i := 3) (hv := fun _ => .inr (.inl rfl))) (va_cons (ve_ty g_int) va_nil))) (ve_and (ve_cmp (ov_eq (fun i => ru i.room)) (ve_ix (ve_var (i := 5) (hv := fun _ => .inl rfl)) ve_int) ve_str) (ve_and (ve_cmp ov_le ve_int (ve_var (i := 3) (hv := fun _ => .inr (.inl rfl)))) (ve_one (ve_cmp ov_le (ve_var (i := 3) (hv := fun _ => .inr (.inl rfl))) (ve_callB cv_len g_len (va_cons (ve_ix (ve_var (i := 5) (hv := fun _ => .inl rfl)) ve_int) va_nil))))))) (hx := fun _ => .inl rfl) (hf := fun _ => .inl rfl))
  (vss_cons (vs_if (vw_pt (vw_and (vt_cmp (ov_eq (fun i => ru i.room)) (ve_ix (ve_var (i := 5) (hv := fun _ => .inl rfl)) ve_int) ve_str) (vw_and1 (vt_val (ve_callB cv_isi g_isinstance (va_cons (ve_var (i := 3) (hv := fun _ => .inr (.inl rfl))) (va_cons (ve_ty g_tuple) va_nil))))))) (vss_one (vs_set (i := 6) (fun _ => sc__law_refusal.nd) (ve_cmp (ov_eq (fun i => ru i.room)) (ve_lcF (hN := (fun _ => sc__law_refusal.nd)) (own := [("entry", 8)]) (vi_tpl (ve_ix (ve_var (i := 5) (hv := fun _ => .inl rfl)) ve_int)) (fun _ => blkOk_by (own := [("entry", 8)]) (N := N__law_refusal) (sc := defScope s__law_refusal) (by decide +kernel)) (vgo_name (i := 8) (fun _ => sc__law_refusal.nd) (hx := fun _ => .inl rfl) (hf := fun _ => .inr rfl)) (vts_one (vt_cmp (ov_eq (fun i => ru i.1.room)) (ve_ix (ve_var (i := 8) (hv := fun _ => .inl rfl)) ve_int) (ve_var (i := 3) (hv := fun _ => .inr (.inl rfl))))) (ve_var (i := 8) (hv := fun _ => .inl rfl))) (ve_lstF va_nil)) (hx := fun _ => .inl rfl) (hf := fun _ => .inl rfl))) vss_nil)
  (vss_one (vs_if (vt_not (vt_val (ve_var (i := 6) (hv := fun _ => .inl rfl)))) (vss_one (vs_ret (ve_tup (va_cons ve_str (va_cons (ve_var (i := 3) (hv := fun _ => .inr (.inl rfl))) va_nil))))) vss_nil)))) vss_nil)
  (vss_cons (vs_set (i := 7) (fun _ => sc__law_refusal.nd) (ve_op ov_add (ve_op ov_add (ve_callB cv_len g_len (va_cons (ve_var (i := 2) (hv := fun _ => .inl rfl)) va_nil)) (ve_callTy cv_int g_int (va_cons (ve_cmp (ov_eq (fun i => ru i.room)) (ve_var (i := 1) (hv := fun _ => .inl rfl)) ve_int) va_nil))) (ve_call D__law_depth (va_cons (ve_var (i := 4) (hv := fun _ => .inl rfl)) va_nil) (fun i => i.room))) (hx := fun _ => .inl rfl) (hf := fun _ => .inl rfl))
  (vss_cons (vs_if (vw_pt (vw_and (vt_cmp (ov_ne (fun i => ru i.room)) (ve_var (i := 1) (hv := fun _ => .inl rfl)) ve_int) (vw_and1 (vt_cmp ov_gt (ve_var (i := 7) (hv := fun _ => .inl rfl)) ve_int)))) (vss_one (vs_ret (ve_tup (va_cons ve_str (va_cons (ve_var (i := 7) (hv := fun _ => .inl rfl)) va_nil))))) vss_nil)
  (vss_one (vs_ret ve_non)))))))
abbrev s__law_path : Stmt := top 51
abbrev N__law_path : List Str := ["state", "value", "ways", "path", "pick", "way"]
theorem sc__law_path : FnScope N__law_path ["state", "value"] (defScope s__law_path) := ⟨rfl, rfl, rfl, by decide +kernel, rfl, by decide +kernel, by decide +kernel⟩
def t__law_path_e1 (q__law_next : WSp) (q__law_points : WSp) (q__law_ways : WSp) : WE :=
  (vCB rLen (vCons (vVar 5) vNil))
def t__law_path_e2 (q__law_next : WSp) (q__law_points : WSp) (q__law_ways : WSp) : WE :=
  (vCB rLen (vCons (vVar 5) vNil))
def t__law_path (q__law_next : WSp) (q__law_points : WSp) (q__law_ways : WSp) : WS :=
  (vSeq (vAsg (vFrz (vCall q__law_ways (vCons (vVar 1) vNil))) (gNm 2))
  (vSeq (vAsg (vOp rIx (vVar 2) (vOp rMod (vOp rAdd (vCall q__law_next (vCons (vVar 0) (vCons (vC (.int 1000)) vNil))) (vOp rMul (vC (.int 1000)) (vCall q__law_next (vCons (vVar 0) (vCons (vC (.int 3)) vNil))))) (vCB rLen (vCons (vVar 2) vNil)))) (gNm 3))
  (vSeq (vIf (vTst (vOp rEq (vCall q__law_next (vCons (vVar 0) (vCons (vC (.int 6)) vNil))) (vC (.int 1)))) (vAsg (vOp rIx (vVar 2) (vMtF rIndex (vLcF (iLst (vVar 2)) (gNm 5) vYes (t__law_path_e1 q__law_next q__law_points q__law_ways) [5]) (vCons (vCB rMax (vCons (vLcF (iLst (vVar 2)) (gNm 5) vYes (t__law_path_e2 q__law_next q__law_points q__law_ways) [5]) vNil)) vNil))) (gNm 3)) vNext)
  (vSeq (vAsg (vCall q__law_next (vCons (vVar 0) (vCons (vC (.int 16)) vNil))) (gNm 4))
  (vSeq (vIf (vTst (vOp rEq (vVar 4) (vC (.int 1)))) (vRet (vOp rAdd (vVar 3) (vTup (vCons (vOp rIx (vLstF (vCons (vCall q__law_next (vCons (vVar 0) (vCons (vC (.int 40)) vNil))) (vCons (vCall q__law_points (vCons (vVar 0) vNil)) vNil))) (vCall q__law_next (vCons (vVar 0) (vCons (vC (.int 2)) vNil)))) vNil)))) vNext)
  (vSeq (vIf (vAnd (vTst (vOp rEq (vVar 4) (vC (.int 2)))) (vTst (vOp rNe (vVar 3) (vTup vNil)))) (vRet (vOp rAdd (vSl rSlF (vVar 3) vNoP (vPart (vUn rNeg (vC (.int 1))))) (vTup (vCons (vOp rIx (vTup (vCons (vCall q__law_points (vCons (vVar 0) vNil)) (vCons (vOp rAdd (vCB rLen (vCons (vVar 3) vNil)) (vC (.int 7))) vNil))) (vCall q__law_next (vCons (vVar 0) (vCons (vC (.int 2)) vNil)))) vNil)))) vNext)
  (vRet (vVar 3))))))))
theorem dv__law_path {C : Cmn} {k : Nat} {qual : Str} (g_len : C.mg "len" = none) (g_max : C.mg "max" = none) {q__law_next : WSp} (D__law_next : DefOk C k "_law_next" q__law_next) {q__law_points : WSp} (D__law_points : DefOk C k "_law_points" q__law_points) {q__law_ways : WSp} (D__law_ways : DefOk C k "_law_ways" q__law_ways) : VSs C (fun i : DIx k qual (defScope s__law_path) => DR C N__law_path i) (defBody s__law_path) (t__law_path q__law_next q__law_points q__law_ways) :=
  (vss_cons (vs_set (i := 2) (fun _ => sc__law_path.nd) (ve_frz (ve_call D__law_ways (va_cons (ve_var (i := 1) (hv := fun _ => .inl rfl)) va_nil) (fun i => i.room))) (hx := fun _ => .inl rfl) (hf := fun _ => .inl rfl))
  (vss_cons (vs_set (i := 3) (fun _ => sc__law_path.nd) (ve_ix (ve_var (i := 2) (hv := fun _ => .inl rfl)) (ve_op ov_mod (ve_op ov_add (ve_call D__law_next (va_cons (ve_var (i := 0) (hv := fun _ => .inl rfl)) (va_cons ve_int va_nil)) (fun i => i.room)) (ve_op ov_mul ve_int (ve_call D__law_next (va_cons (ve_var (i := 0) (hv := fun _ => .inl rfl)) (va_cons ve_int va_nil)) (fun i => i.room)))) (ve_callB cv_len g_len (va_cons (ve_var (i := 2) (hv := fun _ => .inl rfl)) va_nil)))) (hx := fun _ => .inl rfl) (hf := fun _ => .inl rfl))
  (vss_cons (vs_if (vt_cmp (ov_eq (fun i => ru i.room)) (ve_call D__law_next (va_cons (ve_var (i := 0) (hv := fun _ => .inl rfl)) (va_cons ve_int va_nil)) (fun i => i.room)) ve_int) (vss_one (vs_set (i := 3) (fun _ => sc__law_path.nd) (ve_ix (ve_var (i := 2) (hv := fun _ => .inl rfl)) (ve_mtF PySem.F.slot_list_index PySem.F.type_list_index mv_index (ve_lcF (hN := (fun _ => sc__law_path.nd)) (own := [("way", 5)]) (vi_lst (ve_var (i := 2) (hv := fun _ => .inl rfl))) (fun _ => blkOk_by (own := [("way", 5)]) (N := N__law_path) (sc := defScope s__law_path) (by decide +kernel)) (vgo_name (i := 5) (fun _ => sc__law_path.nd) (hx := fun _ => .inl rfl) (hf := fun _ => .inr rfl)) vts_nil (ve_callB cv_len g_len (va_cons (ve_var (i := 5) (hv := fun _ => .inl rfl)) va_nil))) (va_cons (ve_callB cv_max g_max (va_cons (ve_lcF (hN := (fun _ => sc__law_path.nd)) (own := [("way", 5)]) (vi_lst (ve_var (i := 2) (hv := fun _ => .inl rfl))) (fun _ => blkOk_by (own := [("way", 5)]) (N := N__law_path) (sc := defScope s__law_path) (by decide +kernel)) (vgo_name (i := 5) (fun _ => sc__law_path.nd) (hx := fun _ => .inl rfl) (hf := fun _ => .inr rfl)) vts_nil (ve_callB cv_len g_len (va_cons (ve_var (i := 5) (hv := fun _ => .inl rfl)) va_nil))) va_nil)) va_nil))) (hx := fun _ => .inl rfl) (hf := fun _ => .inl rfl))) vss_nil)
  (vss_cons (vs_set (i := 4) (fun _ => sc__law_path.nd) (ve_call D__law_next (va_cons (ve_var (i := 0) (hv := fun _ => .inl rfl)) (va_cons ve_int va_nil)) (fun i => i.room)) (hx := fun _ => .inl rfl) (hf := fun _ => .inl rfl))
  (vss_cons (vs_if (vt_cmp (ov_eq (fun i => ru i.room)) (ve_var (i := 4) (hv := fun _ => .inl rfl)) ve_int) (vss_one (vs_ret (ve_op ov_add (ve_var (i := 3) (hv := fun _ => .inl rfl)) (ve_tup (va_cons (ve_ix (ve_lstF (va_cons (ve_call D__law_next (va_cons (ve_var (i := 0) (hv := fun _ => .inl rfl)) (va_cons ve_int va_nil)) (fun i => i.room)) (va_cons (ve_call D__law_points (va_cons (ve_var (i := 0) (hv := fun _ => .inl rfl)) va_nil) (fun i => i.room)) va_nil))) (ve_call D__law_next (va_cons (ve_var (i := 0) (hv := fun _ => .inl rfl)) (va_cons ve_int va_nil)) (fun i => i.room))) va_nil))))) vss_nil)
  (vss_cons (vs_if (vw_pt (vw_and (vt_cmp (ov_eq (fun i => ru i.room)) (ve_var (i := 4) (hv := fun _ => .inl rfl)) ve_int) (vw_and1 (vt_cmp (ov_ne (fun i => ru i.room)) (ve_var (i := 3) (hv := fun _ => .inl rfl)) (ve_tup va_nil))))) (vss_one (vs_ret (ve_op ov_add (ve_slice slF_sound (ve_var (i := 3) (hv := fun _ => .inl rfl)) vo_none (vo_some (ve_neg ve_int))) (ve_tup (va_cons (ve_ix (ve_tup (va_cons (ve_call D__law_points (va_cons (ve_var (i := 0) (hv := fun _ => .inl rfl)) va_nil) (fun i => i.room)) (va_cons (ve_op ov_add (ve_callB cv_len g_len (va_cons (ve_var (i := 3) (hv := fun _ => .inl rfl)) va_nil)) ve_int) va_nil))) (ve_call D__law_next (va_cons (ve_var (i := 0) (hv := fun _ => .inl rfl)) (va_cons ve_int va_nil)) (fun i => i.room))) va_nil))))) vss_nil)
  (vss_one (vs_ret (ve_var (i := 3) (hv := fun _ => .inl rfl))))))))))
abbrev s__law_step : Stmt := top 52
abbrev N__law_step : List Str := ["state", "value", "path", "holder", "pick"]
theorem sc__law_step : FnScope N__law_step ["state", "value", "path"] (defScope s__law_step) := ⟨rfl, rfl, rfl, by decide +kernel, rfl, by decide +kernel, by decide +kernel⟩
def t__law_step (q__law_next : WSp) (q__law_part : WSp) (q__law_points : WSp) (q__law_ways : WSp) : WS :=
  (vSeq (vAsg (vTup (vCons (vC (.str "null")) vNil)) (gNm 3))
  (vSeq (vIf (vTst (vOp (rIn false) (vVar 2) (vFrz (vCall q__law_ways (vCons (vVar 1) vNil))))) (vAsg (vCall q__law_part (vCons (vVar 1) (vCons (vVar 2) vNil))) (gNm 3)) vNext)
  (vSeq (vAsg (vCall q__law_next (vCons (vVar 0) (vCons (vC (.int 8)) vNil))) (gNm 4))
  (vSeq (vIf (vTst (vOp rEq (vVar 4) (vC (.int 1)))) (vRet (vCall q__law_next (vCons (vVar 0) (vCons (vC (.int 7)) vNil)))) vNext)
  (vSeq (vIf (vTst (vOp rEq (vVar 4) (vC (.int 2)))) (vRet (vCall q__law_points (vCons (vVar 0) vNil))) vNext)
  (vSeq (vIf (vTst (vOp rEq (vOp rIx (vVar 3) (vC (.int 0))) (vC (.str "list")))) (vRet (vOp rIx (vLstF (vCons (vOp rMod (vCall q__law_next (vCons (vVar 0) (vCons (vC (.int 1000)) vNil))) (vOp rAdd (vCB rLen (vCons (vOp rIx (vVar 3) (vC (.int 1))) vNil)) (vC (.int 1)))) (vCons (vCB rLen (vCons (vOp rIx (vVar 3) (vC (.int 1))) vNil)) (vCons (vOp rAdd (vCB rLen (vCons (vOp rIx (vVar 3) (vC (.int 1))) vNil)) (vC (.int 1))) vNil)))) (vOp rIx (vLstF (vCons (vC (.int 0)) (vCons (vC (.int 0)) (vCons (vC (.int 0)) (vCons (vC (.int 0)) (vCons (vC (.int 1)) (vCons (vC (.int 1)) (vCons (vC (.int 2)) vNil)))))))) (vCall q__law_next (vCons (vVar 0) (vCons (vC (.int 7)) vNil)))))) vNext)
  (vSeq (vIf (vAnd (vTst (vOp rEq (vOp rIx (vVar 3) (vC (.int 0))) (vC (.str "map")))) (vAnd (vTst (vOp rGt (vCB rLen (vCons (vOp rIx (vVar 3) (vC (.int 1))) vNil)) (vC (.int 0)))) (vTst (vOp rEq (vVar 4) (vC (.int 3)))))) (vRet (vOp rIx (vOp rIx (vOp rIx (vVar 3) (vC (.int 1))) (vOp rMod (vCall q__law_next (vCons (vVar 0) (vCons (vC (.int 1000)) vNil))) (vCB rLen (vCons (vOp rIx (vVar 3) (vC (.int 1))) vNil)))) (vC (.int 0)))) vNext)
  (vRet (vCall q__law_points (vCons (vVar 0) vNil))))))))))
theorem dv__law_step {C : Cmn} {k : Nat} {qual : Str} (g_len : C.mg "len" = none) {q__law_next : WSp} (D__law_next : DefOk C k "_law_next" q__law_next) {q__law_part : WSp} (D__law_part : DefOk C k "_law_part" q__law_part) {q__law_points : WSp} (D__law_points : DefOk C k "_law_points" q__law_points) {q__law_ways : WSp} (D__law_ways : DefOk C k "_law_ways" q__law_ways) : VSs C (fun i : DIx k qual (defScope s__law_step) => DR C N__law_step i) (defBody s__law_step) (t__law_step q__law_next q__law_part q__law_points q__law_ways) :=
  (vss_cons (vs_set (i := 3) (fun _ => sc__law_step.nd) (ve_tup (va_cons ve_str va_nil)) (hx := fun _ => .inl rfl) (hf := fun _ => .inl rfl))
  (vss_cons (vs_if (vt_cmp (ov_in (fun i => ru i.room)) (ve_var (i := 2) (hv := fun _ => .inl rfl)) (ve_frz (ve_call D__law_ways (va_cons (ve_var (i := 1) (hv := fun _ => .inl rfl)) va_nil) (fun i => i.room)))) (vss_one (vs_set (i := 3) (fun _ => sc__law_step.nd) (ve_call D__law_part (va_cons (ve_var (i := 1) (hv := fun _ => .inl rfl)) (va_cons (ve_var (i := 2) (hv := fun _ => .inl rfl)) va_nil)) (fun i => i.room)) (hx := fun _ => .inl rfl) (hf := fun _ => .inl rfl))) vss_nil)
  (vss_cons (vs_set (i := 4) (fun _ => sc__law_step.nd) (ve_call D__law_next (va_cons (ve_var (i := 0) (hv := fun _ => .inl rfl)) (va_cons ve_int va_nil)) (fun i => i.room)) (hx := fun _ => .inl rfl) (hf := fun _ => .inl rfl))
  (vss_cons (vs_if (vt_cmp (ov_eq (fun i => ru i.room)) (ve_var (i := 4) (hv := fun _ => .inl rfl)) ve_int) (vss_one (vs_ret (ve_call D__law_next (va_cons (ve_var (i := 0) (hv := fun _ => .inl rfl)) (va_cons ve_int va_nil)) (fun i => i.room)))) vss_nil)
  (vss_cons (vs_if (vt_cmp (ov_eq (fun i => ru i.room)) (ve_var (i := 4) (hv := fun _ => .inl rfl)) ve_int) (vss_one (vs_ret (ve_call D__law_points (va_cons (ve_var (i := 0) (hv := fun _ => .inl rfl)) va_nil) (fun i => i.room)))) vss_nil)
  (vss_cons (vs_if (vt_cmp (ov_eq (fun i => ru i.room)) (ve_ix (ve_var (i := 3) (hv := fun _ => .inl rfl)) ve_int) ve_str) (vss_one (vs_ret (ve_ix (ve_lstF (va_cons (ve_op ov_mod (ve_call D__law_next (va_cons (ve_var (i := 0) (hv := fun _ => .inl rfl)) (va_cons ve_int va_nil)) (fun i => i.room)) (ve_op ov_add (ve_callB cv_len g_len (va_cons (ve_ix (ve_var (i := 3) (hv := fun _ => .inl rfl)) ve_int) va_nil)) ve_int)) (va_cons (ve_callB cv_len g_len (va_cons (ve_ix (ve_var (i := 3) (hv := fun _ => .inl rfl)) ve_int) va_nil)) (va_cons (ve_op ov_add (ve_callB cv_len g_len (va_cons (ve_ix (ve_var (i := 3) (hv := fun _ => .inl rfl)) ve_int) va_nil)) ve_int) va_nil)))) (ve_ix (ve_lstF (va_cons ve_int (va_cons ve_int (va_cons ve_int (va_cons ve_int (va_cons ve_int (va_cons ve_int (va_cons ve_int va_nil)))))))) (ve_call D__law_next (va_cons (ve_var (i := 0) (hv := fun _ => .inl rfl)) (va_cons ve_int va_nil)) (fun i => i.room)))))) vss_nil)
  (vss_cons (vs_if (vw_pt (vw_and (vt_cmp (ov_eq (fun i => ru i.room)) (ve_ix (ve_var (i := 3) (hv := fun _ => .inl rfl)) ve_int) ve_str) (vw_and (vt_cmp ov_gt (ve_callB cv_len g_len (va_cons (ve_ix (ve_var (i := 3) (hv := fun _ => .inl rfl)) ve_int) va_nil)) ve_int) (vw_and1 (vt_cmp (ov_eq (fun i => ru i.room)) (ve_var (i := 4) (hv := fun _ => .inl rfl)) ve_int))))) (vss_one (vs_ret (ve_ix (ve_ix (ve_ix (ve_var (i := 3) (hv := fun _ => .inl rfl)) ve_int) (ve_op ov_mod (ve_call D__law_next (va_cons (ve_var (i := 0) (hv := fun _ => .inl rfl)) (va_cons ve_int va_nil)) (fun i => i.room)) (ve_callB cv_len g_len (va_cons (ve_ix (ve_var (i := 3) (hv := fun _ => .inl rfl)) ve_int) va_nil)))) ve_int))) vss_nil)
  (vss_one (vs_ret (ve_call D__law_points (va_cons (ve_var (i := 0) (hv := fun _ => .inl rfl)) va_nil) (fun i => i.room)))))))))))
abbrev s__law_common : Stmt := top 53
abbrev N__law_common : List Str := ["old", "new", "count", "k"]
theorem sc__law_common : FnScope N__law_common ["old", "new"] (defScope s__law_common) := ⟨rfl, rfl, rfl, by decide +kernel, rfl, by decide +kernel, by decide +kernel⟩
def t__law_common_b1 (q__law_same : WSp) : WS :=
  (vIf (vAnd (vTst (vOp rEq (vVar 2) (vVar 3))) (vTst (vCall q__law_same (vCons (vOp rIx (vVar 0) (vVar 3)) (vCons (vOp rIx (vVar 1) (vVar 3)) vNil))))) (vAsg (vOp rAdd (vVar 3) (vC (.int 1))) (gNm 2)) vNext)
def t__law_common (q__law_same : WSp) : WS :=
  (vSeq (vAsg (vC (.int 0)) (gNm 2))
  (vSeq (vFor (iRg1 (vCons (vCB rMin (vCons (vLstF (vCons (vCB rLen (vCons (vVar 0) vNil)) (vCons (vCB rLen (vCons (vVar 1) vNil)) vNil))) vNil)) vNil)) (gNm 3)
  (t__law_common_b1 q__law_same))
  (vRet (vVar 2))))
theorem dv__law_common {C : Cmn} {k : Nat} {qual : Str} (g_len : C.mg "len" = none) (g_min : C.mg "min" = none) (g_range : C.mg "range" = none) {q__law_same : WSp} (D__law_same : DefOk C k "_law_same" q__law_same) : VSs C (fun i : DIx k qual (defScope s__law_common) => DR C N__law_common i) (defBody s__law_common) (t__law_common q__law_same) :=
  (vss_cons (vs_set (i := 2) (fun _ => sc__law_common.nd) ve_int (hx := fun _ => .inl rfl) (hf := fun _ => .inl rfl))
  (vss_cons (vs_for (vi_rg1 g_range (va_cons (ve_callB cv_min g_min (va_cons (ve_lstF (va_cons (ve_callB cv_len g_len (va_cons (ve_var (i := 0) (hv := fun _ => .inl rfl)) va_nil)) (va_cons (ve_callB cv_len g_len (va_cons (ve_var (i := 1) (hv := fun _ => .inl rfl)) va_nil)) va_nil))) va_nil)) va_nil)) (vg_name (i := 3) (fun _ => sc__law_common.nd) (hx := fun _ => .inl rfl) (hf := fun _ => .inl rfl))
  (vss_one (vs_if (vw_pt (vw_and (vt_cmp (ov_eq (fun i => ru i.room)) (ve_var (i := 2) (hv := fun _ => .inl rfl)) (ve_var (i := 3) (hv := fun _ => .inl rfl))) (vw_and1 (vt_val (ve_call D__law_same (va_cons (ve_ix (ve_var (i := 0) (hv := fun _ => .inl rfl)) (ve_var (i := 3) (hv := fun _ => .inl rfl))) (va_cons (ve_ix (ve_var (i := 1) (hv := fun _ => .inl rfl)) (ve_var (i := 3) (hv := fun _ => .inl rfl))) va_nil)) (fun i => i.room)))))) (vss_one (vs_set (i := 2) (fun _ => sc__law_common.nd) (ve_op ov_add (ve_var (i := 3) (hv := fun _ => .inl rfl)) ve_int) (hx := fun _ => .inl rfl) (hf := fun _ => .inl rfl))) vss_nil)))
  (vss_one (vs_ret (ve_var (i := 2) (hv := fun _ => .inl rfl))))))
abbrev s__law_between : Stmt := top 54
abbrev N__law_between : List Str := ["old", "new", "path", "first", "last", "gone", "come", "found", "k"]
theorem sc__law_between : FnScope N__law_between ["old", "new", "path"] (defScope s__law_between) := ⟨rfl, rfl, rfl, by decide +kernel, rfl, by decide +kernel, by decide +kernel⟩
def t__law_between_e1 (q__law_common : WSp) (q__law_edits : WSp) : WE :=
  (vTup (vCons (vC (.str "insert")) (vCons (vVar 2) (vCons (vOp rAdd (vVar 3) (vVar 8)) (vCons (vOp rIx (vVar 1) (vOp rAdd (vVar 3) (vVar 8))) vNil)))))
def t__law_between_e2 (q__law_common : WSp) (q__law_edits : WSp) : WE :=
  (vTup (vCons (vC (.str "remove")) (vCons (vOp rAdd (vVar 2) (vTup (vCons (vOp rAdd (vVar 3) (vVar 6)) vNil))) vNil)))
def t__law_between_b1 (q__law_common : WSp) (q__law_edits : WSp) : WS :=
  (vExpr (vMt rExtend (vVar 7) (vCons (vCall q__law_edits (vCons (vOp rIx (vVar 0) (vOp rAdd (vVar 3) (vVar 8))) (vCons (vOp rIx (vVar 1) (vOp rAdd (vVar 3) (vVar 8))) (vCons (vOp rAdd (vVar 2) (vTup (vCons (vOp rAdd (vVar 3) (vVar 8)) vNil))) vNil)))) vNil)))
def t__law_between (q__law_common : WSp) (q__law_edits : WSp) : WS :=
  (vSeq (vAsg (vCall q__law_common (vCons (vVar 0) (vCons (vVar 1) vNil))) (gNm 3))
  (vSeq (vAsg (vCall q__law_common (vCons (vBack (vSl rSlF (vVar 0) (vPart (vVar 3)) vNoP)) (vCons (vBack (vSl rSlF (vVar 1) (vPart (vVar 3)) vNoP)) vNil))) (gNm 4))
  (vSeq (vAsg (vOp rSub (vOp rSub (vCB rLen (vCons (vVar 0) vNil)) (vVar 3)) (vVar 4)) (gNm 5))
  (vSeq (vAsg (vOp rSub (vOp rSub (vCB rLen (vCons (vVar 1) vNil)) (vVar 3)) (vVar 4)) (gNm 6))
  (vSeq (vAsg (vLst vNil) (gNm 7))
  (vSeq (vFor (iRg1 (vCons (vCB rMin (vCons (vLstF (vCons (vVar 5) (vCons (vVar 6) vNil))) vNil)) vNil)) (gNm 8)
  (t__law_between_b1 q__law_common q__law_edits))
  (vSeq (vExpr (vMt rExtend (vVar 7) (vCons (vLcF (iRg1 (vCons (vOp rSub (vVar 5) (vVar 6)) vNil)) (gNm 8) vYes (t__law_between_e2 q__law_common q__law_edits) [8]) vNil)))
  (vRet (vOp rAdd (vFrz (vVar 7)) (vLcF (iRg2 (vCons (vVar 5) (vCons (vVar 6) vNil))) (gNm 8) vYes (t__law_between_e1 q__law_common q__law_edits) [8]))))))))))
theorem dv__law_between {C : Cmn} {k : Nat} {qual : Str} (g_len : C.mg "len" = none) (g_min : C.mg "min" = none) (g_range : C.mg "range" = none) {q__law_common : WSp} (D__law_common : DefOk C k "_law_common" q__law_common) {q__law_edits : WSp} (D__law_edits : DefOk C k "_law_edits" q__law_edits) : VSs C (fun i : DIx k qual (defScope s__law_between) => DR C N__law_between i) (defBody s__law_between) (t__law_between q__law_common q__law_edits) :=
  (vss_cons (vs_set (i := 3) (fun _ => sc__law_between.nd) (ve_call D__law_common (va_cons (ve_var (i := 0) (hv := fun _ => .inl rfl)) (va_cons (ve_var (i := 1) (hv := fun _ => .inr (.inl rfl))) va_nil)) (fun i => i.room)) (hx := fun _ => .inr rfl) (hf := fun _ => .inl rfl))
  (vss_cons (vs_set (i := 4) (fun _ => sc__law_between.nd) (ve_call D__law_common (va_cons (ve_back (ve_slice slF_sound (ve_var (i := 0) (hv := fun _ => .inl rfl)) (vo_some (ve_var (i := 3) (hv := fun _ => .inr (.inl rfl)))) vo_none)) (va_cons (ve_back (ve_slice slF_sound (ve_var (i := 1) (hv := fun _ => .inr (.inl rfl))) (vo_some (ve_var (i := 3) (hv := fun _ => .inr (.inl rfl)))) vo_none)) va_nil)) (fun i => i.room)) (hx := fun _ => .inl rfl) (hf := fun _ => .inl rfl))
  (vss_cons (vs_set (i := 5) (fun _ => sc__law_between.nd) (ve_op ov_sub (ve_op ov_sub (ve_callB cv_len g_len (va_cons (ve_var (i := 0) (hv := fun _ => .inl rfl)) va_nil)) (ve_var (i := 3) (hv := fun _ => .inr (.inl rfl)))) (ve_var (i := 4) (hv := fun _ => .inl rfl))) (hx := fun _ => .inl rfl) (hf := fun _ => .inl rfl))
  (vss_cons (vs_set (i := 6) (fun _ => sc__law_between.nd) (ve_op ov_sub (ve_op ov_sub (ve_callB cv_len g_len (va_cons (ve_var (i := 1) (hv := fun _ => .inr (.inl rfl))) va_nil)) (ve_var (i := 3) (hv := fun _ => .inr (.inl rfl)))) (ve_var (i := 4) (hv := fun _ => .inl rfl))) (hx := fun _ => .inr rfl) (hf := fun _ => .inl rfl))
  (vss_cons (vs_set (i := 7) (fun _ => sc__law_between.nd) (ve_lst va_nil) (hx := fun _ => .inl rfl) (hf := fun _ => .inl rfl))
  (vss_cons (vs_for (vi_rg1 g_range (va_cons (ve_callB cv_min g_min (va_cons (ve_lstF (va_cons (ve_var (i := 5) (hv := fun _ => .inl rfl)) (va_cons (ve_var (i := 6) (hv := fun _ => .inr (.inl rfl))) va_nil))) va_nil)) va_nil)) (vg_name (i := 8) (fun _ => sc__law_between.nd) (hx := fun _ => .inl rfl) (hf := fun _ => .inl rfl))
  (vss_one (vs_expr (ve_mt PySem.F.slot_list_extend PySem.F.type_list_extend mv_extend (ve_var (i := 7) (hv := fun _ => .inl rfl)) (va_cons (ve_call D__law_edits (va_cons (ve_ix (ve_var (i := 0) (hv := fun _ => .inl rfl)) (ve_op ov_add (ve_var (i := 3) (hv := fun _ => .inr (.inl rfl))) (ve_var (i := 8) (hv := fun _ => .inl rfl)))) (va_cons (ve_ix (ve_var (i := 1) (hv := fun _ => .inr (.inl rfl))) (ve_op ov_add (ve_var (i := 3) (hv := fun _ => .inr (.inl rfl))) (ve_var (i := 8) (hv := fun _ => .inl rfl)))) (va_cons (ve_op ov_add (ve_var (i := 2) (hv := fun _ => .inr (.inl rfl))) (ve_tup (va_cons (ve_op ov_add (ve_var (i := 3) (hv := fun _ => .inr (.inl rfl))) (ve_var (i := 8) (hv := fun _ => .inl rfl))) va_nil))) va_nil))) (fun i => i.room)) va_nil)))))
  (vss_cons (vs_expr (ve_mt PySem.F.slot_list_extend PySem.F.type_list_extend mv_extend (ve_var (i := 7) (hv := fun _ => .inl rfl)) (va_cons (ve_lcF (hN := (fun _ => sc__law_between.nd)) (own := [("k", 8)]) (vi_rg1 g_range (va_cons (ve_op ov_sub (ve_var (i := 5) (hv := fun _ => .inl rfl)) (ve_var (i := 6) (hv := fun _ => .inr (.inl rfl)))) va_nil)) (fun _ => blkOk_by (own := [("k", 8)]) (N := N__law_between) (sc := defScope s__law_between) (by decide +kernel)) (vgo_name (i := 8) (fun _ => sc__law_between.nd) (hx := fun _ => .inl rfl) (hf := fun _ => .inr rfl)) vts_nil (ve_tup (va_cons ve_str (va_cons (ve_op ov_add (ve_var (i := 2) (hv := fun _ => .inr (.inl rfl))) (ve_tup (va_cons (ve_op ov_add (ve_var (i := 3) (hv := fun _ => .inr (.inl rfl))) (ve_var (i := 6) (hv := fun _ => .inr (.inl rfl)))) va_nil))) va_nil)))) va_nil)))
  (vss_one (vs_ret (ve_op ov_add (ve_frz (ve_var (i := 7) (hv := fun _ => .inl rfl))) (ve_lcF (hN := (fun _ => sc__law_between.nd)) (own := [("k", 8)]) (vi_rg2 g_range (va_cons (ve_var (i := 5) (hv := fun _ => .inl rfl)) (va_cons (ve_var (i := 6) (hv := fun _ => .inr (.inl rfl))) va_nil))) (fun _ => blkOk_by (own := [("k", 8)]) (N := N__law_between) (sc := defScope s__law_between) (by decide +kernel)) (vgo_name (i := 8) (fun _ => sc__law_between.nd) (hx := fun _ => .inl rfl) (hf := fun _ => .inr rfl)) vts_nil (ve_tup (va_cons ve_str (va_cons (ve_var (i := 2) (hv := fun _ => .inr (.inl rfl))) (va_cons (ve_op ov_add (ve_var (i := 3) (hv := fun _ => .inr (.inl rfl))) (ve_var (i := 8) (hv := fun _ => .inl rfl))) (va_cons (ve_ix (ve_var (i := 1) (hv := fun _ => .inr (.inl rfl))) (ve_op ov_add (ve_var (i := 3) (hv := fun _ => .inr (.inl rfl))) (ve_var (i := 8) (hv := fun _ => .inl rfl)))) va_nil))))))))))))))))
abbrev s__law_edits : Stmt := top 55
abbrev N__law_edits : List Str := ["old", "new", "path", "keys", "found", "key", "part", "had", "entry"]
theorem sc__law_edits : FnScope N__law_edits ["old", "new", "path"] (defScope s__law_edits) := ⟨rfl, rfl, rfl, by decide +kernel, rfl, by decide +kernel, by decide +kernel⟩
def t__law_edits_c1 (q__law_between : WSp) (q__law_edits : WSp) (q__law_same : WSp) : WT :=
  (vTst (vOp rEq (vOp rIx (vVar 8) (vC (.int 0))) (vVar 5)))
def t__law_edits_e1 (q__law_between : WSp) (q__law_edits : WSp) (q__law_same : WSp) : WE :=
  (vOp rIx (vVar 8) (vC (.int 1)))
def t__law_edits_b1 (q__law_between : WSp) (q__law_edits : WSp) (q__law_same : WSp) : WS :=
  (vSeq (vAsg (vLcF (iTpl (vOp rIx (vVar 0) (vC (.int 1)))) (gNm 8) (t__law_edits_c1 q__law_between q__law_edits q__law_same) (t__law_edits_e1 q__law_between q__law_edits q__law_same) [8]) (gNm 7))
  (vIf (vTst (vOp rEq (vVar 7) (vLstF vNil))) (vExpr (vMt rAppend (vVar 4) (vCons (vTup (vCons (vC (.str "insert")) (vCons (vVar 2) (vCons (vVar 5) (vCons (vVar 6) vNil))))) vNil))) (vExpr (vMt rExtend (vVar 4) (vCons (vCall q__law_edits (vCons (vOp rIx (vVar 7) (vC (.int 0))) (vCons (vVar 6) (vCons (vOp rAdd (vVar 2) (vTup (vCons (vVar 5) vNil))) vNil)))) vNil)))))
def t__law_edits_c2 (q__law_between : WSp) (q__law_edits : WSp) (q__law_same : WSp) : WT :=
  (vTst (vOp (rIn true) (vOp rIx (vVar 8) (vC (.int 0))) (vVar 3)))
def t__law_edits_e2 (q__law_between : WSp) (q__law_edits : WSp) (q__law_same : WSp) : WE :=
  (vTup (vCons (vC (.str "remove")) (vCons (vOp rAdd (vVar 2) (vTup (vCons (vOp rIx (vVar 8) (vC (.int 0))) vNil))) vNil)))
def t__law_edits_e3 (q__law_between : WSp) (q__law_edits : WSp) (q__law_same : WSp) : WE :=
  (vOp rIx (vVar 8) (vC (.int 0)))
def t__law_edits (q__law_between : WSp) (q__law_edits : WSp) (q__law_same : WSp) : WS :=
  (vSeq (vIf (vTst (vCall q__law_same (vCons (vVar 0) (vCons (vVar 1) vNil)))) (vRet (vLstF vNil)) vNext)
  (vSeq (vIf (vOr (vTst (vOp rNe (vOp rIx (vVar 0) (vC (.int 0))) (vOp rIx (vVar 1) (vC (.int 0))))) (vTst (vOp (rIn true) (vOp rIx (vVar 0) (vC (.int 0))) (vLstF (vCons (vC (.str "list")) (vCons (vC (.str "map")) vNil)))))) (vRet (vLstF (vCons (vTup (vCons (vC (.str "replace")) (vCons (vVar 2) (vCons (vVar 1) vNil)))) vNil))) vNext)
  (vSeq (vIf (vTst (vOp rEq (vOp rIx (vVar 0) (vC (.int 0))) (vC (.str "list")))) (vRet (vCall q__law_between (vCons (vOp rIx (vVar 0) (vC (.int 1))) (vCons (vOp rIx (vVar 1) (vC (.int 1))) (vCons (vVar 2) vNil))))) vNext)
  (vSeq (vAsg (vLcF (iTpl (vOp rIx (vVar 1) (vC (.int 1)))) (gNm 8) vYes (t__law_edits_e3 q__law_between q__law_edits q__law_same) [8]) (gNm 3))
  (vSeq (vAsg (vLcO (iTpl (vOp rIx (vVar 0) (vC (.int 1)))) (gNm 8) (t__law_edits_c2 q__law_between q__law_edits q__law_same) (t__law_edits_e2 q__law_between q__law_edits q__law_same) [8]) (gNm 4))
  (vSeq (vFor (iTpl (vOp rIx (vVar 1) (vC (.int 1)))) (gTupD 2 (gThen (gNm 5) (gThen (gNm 6) gEnd)))
  (t__law_edits_b1 q__law_between q__law_edits q__law_same))
  (vRet (vFrz (vVar 4)))))))))
theorem dv__law_edits {C : Cmn} {k : Nat} {qual : Str} {q__law_between : WSp} (D__law_between : DefOk C k "_law_between" q__law_between) {q__law_edits : WSp} (D__law_edits : DefOk C k "_law_edits" q__law_edits) {q__law_same : WSp} (D__law_same : DefOk C k "_law_same" q__law_same) : VSs C (fun i : DIx k qual (defScope s__law_edits) => DR C N__law_edits i) (defBody s__law_edits) (t__law_edits q__law_between q__law_edits q__law_same) :=
  (vss_cons (vs_if (vt_val (ve_call D__law_same (va_cons (ve_var (i := 0) (hv := fun _ => .inl rfl)) (va_cons (ve_var (i := 1) (hv := fun _ => .inl rfl)) va_nil)) (fun i => i.room))) (vss_one (vs_ret (ve_lstF va_nil))) vss_nil)
  (vss_cons (vs_if (vw_pt (vw_or (vt_cmp (ov_ne (fun i => ru i.room)) (ve_ix (ve_var (i := 0) (hv := fun _ => .inl rfl)) ve_int) (ve_ix (ve_var (i := 1) (hv := fun _ => .inl rfl)) ve_int)) (vw_or1 (vt_cmp (ov_notin (fun i => ru i.room)) (ve_ix (ve_var (i := 0) (hv := fun _ => .inl rfl)) ve_int) (ve_lstF (va_cons ve_str (va_cons ve_str va_nil))))))) (vss_one (vs_ret (ve_lstF (va_cons (ve_tup (va_cons ve_str (va_cons (ve_var (i := 2) (hv := fun _ => .inr (.inl rfl))) (va_cons (ve_var (i := 1) (hv := fun _ => .inl rfl)) va_nil)))) va_nil)))) vss_nil)
  (vss_cons (vs_if (vt_cmp (ov_eq (fun i => ru i.room)) (ve_ix (ve_var (i := 0) (hv := fun _ => .inl rfl)) ve_int) ve_str) (vss_one (vs_ret (ve_call D__law_between (va_cons (ve_ix (ve_var (i := 0) (hv := fun _ => .inl rfl)) ve_int) (va_cons (ve_ix (ve_var (i := 1) (hv := fun _ => .inl rfl)) ve_int) (va_cons (ve_var (i := 2) (hv := fun _ => .inr (.inl rfl))) va_nil))) (fun i => i.room)))) vss_nil)
  (vss_cons (vs_set (i := 3) (fun _ => sc__law_edits.nd) (ve_lcF (hN := (fun _ => sc__law_edits.nd)) (own := [("entry", 8)]) (vi_tpl (ve_ix (ve_var (i := 1) (hv := fun _ => .inl rfl)) ve_int)) (fun _ => blkOk_by (own := [("entry", 8)]) (N := N__law_edits) (sc := defScope s__law_edits) (by decide +kernel)) (vgo_name (i := 8) (fun _ => sc__law_edits.nd) (hx := fun _ => .inl rfl) (hf := fun _ => .inr rfl)) vts_nil (ve_ix (ve_var (i := 8) (hv := fun _ => .inl rfl)) ve_int)) (hx := fun _ => .inr rfl) (hf := fun _ => .inl rfl))
  (vss_cons (vs_lcO (i := 4) (hN := (fun _ => sc__law_edits.nd)) (own := [("entry", 8)]) (vi_tpl (ve_ix (ve_var (i := 0) (hv := fun _ => .inl rfl)) ve_int)) (fun _ => blkOk_by (own := [("entry", 8)]) (N := N__law_edits) (sc := defScope s__law_edits) (by decide +kernel)) (vgo_name (i := 8) (fun _ => sc__law_edits.nd) (hx := fun _ => .inl rfl) (hf := fun _ => .inr rfl)) (vts_one (vt_cmp (ov_notin (fun i => ru i.1.room)) (ve_ix (ve_var (i := 8) (hv := fun _ => .inl rfl)) ve_int) (ve_var (i := 3) (hv := fun _ => .inr (.inl rfl))))) (ve_tup (va_cons ve_str (va_cons (ve_op ov_add (ve_var (i := 2) (hv := fun _ => .inr (.inl rfl))) (ve_tup (va_cons (ve_ix (ve_var (i := 8) (hv := fun _ => .inl rfl)) ve_int) va_nil))) va_nil))))
  (vss_cons (vs_for (vi_tpl (ve_ix (ve_var (i := 1) (hv := fun _ => .inl rfl)) ve_int)) (vg_tup (vgs_cons (vg_name (i := 5) (fun _ => sc__law_edits.nd) (hx := fun _ => .inr rfl) (hf := fun _ => .inl rfl)) (vgs_cons (vg_name (i := 6) (fun _ => sc__law_edits.nd) (hx := fun _ => .inl rfl) (hf := fun _ => .inl rfl)) vgs_nil)))
  (vss_cons (vs_lcF (i := 7) (hN := (fun _ => sc__law_edits.nd)) (own := [("entry", 8)]) (vi_tpl (ve_ix (ve_var (i := 0) (hv := fun _ => .inl rfl)) ve_int)) (fun _ => blkOk_by (own := [("entry", 8)]) (N := N__law_edits) (sc := defScope s__law_edits) (by decide +kernel)) (vgo_name (i := 8) (fun _ => sc__law_edits.nd) (hx := fun _ => .inl rfl) (hf := fun _ => .inr rfl)) (vts_one (vt_cmp (ov_eq (fun i => ru i.1.room)) (ve_ix (ve_var (i := 8) (hv := fun _ => .inl rfl)) ve_int) (ve_var (i := 5) (hv := fun _ => .inr (.inl rfl))))) (ve_ix (ve_var (i := 8) (hv := fun _ => .inl rfl)) ve_int))
  (vss_one (vs_if (vt_cmp (ov_eq (fun i => ru i.room)) (ve_var (i := 7) (hv := fun _ => .inl rfl)) (ve_lstF va_nil)) (vss_one (vs_expr (ve_mt PySem.F.slot_list_append PySem.F.type_list_append mv_append (ve_var (i := 4) (hv := fun _ => .inl rfl)) (va_cons (ve_tup (va_cons ve_str (va_cons (ve_var (i := 2) (hv := fun _ => .inr (.inl rfl))) (va_cons (ve_var (i := 5) (hv := fun _ => .inr (.inl rfl))) (va_cons (ve_var (i := 6) (hv := fun _ => .inl rfl)) va_nil))))) va_nil)))) (vss_one (vs_expr (ve_mt PySem.F.slot_list_extend PySem.F.type_list_extend mv_extend (ve_var (i := 4) (hv := fun _ => .inl rfl)) (va_cons (ve_call D__law_edits (va_cons (ve_ix (ve_var (i := 7) (hv := fun _ => .inl rfl)) ve_int) (va_cons (ve_var (i := 6) (hv := fun _ => .inl rfl)) (va_cons (ve_op ov_add (ve_var (i := 2) (hv := fun _ => .inr (.inl rfl))) (ve_tup (va_cons (ve_var (i := 5) (hv := fun _ => .inr (.inl rfl))) va_nil))) va_nil))) (fun i => i.room)) va_nil))))))))
  (vss_one (vs_ret (ve_frz (ve_var (i := 4) (hv := fun _ => .inl rfl)))))))))))
abbrev s__law_stirred : Stmt := top 56
abbrev N__law_stirred : List Str := ["state", "value", "k", "part", "path", "step", "way"]
theorem sc__law_stirred : FnScope N__law_stirred ["state", "value"] (defScope s__law_stirred) := ⟨rfl, rfl, rfl, by decide +kernel, rfl, by decide +kernel, by decide +kernel⟩
def t__law_stirred_b1 (q__law_edited : WSp) (q__law_next : WSp) (q__law_path : WSp) (q__law_refusal : WSp) (q__law_small : WSp) (q__law_step : WSp) : WS :=
  (vSeq (vAsg (vCall q__law_small (vCons (vVar 0) vNil)) (gNm 3))
  (vSeq (vAsg (vCall q__law_path (vCons (vVar 0) (vCons (vVar 1) vNil))) (gNm 4))
  (vSeq (vAsg (vCall q__law_step (vCons (vVar 0) (vCons (vVar 1) (vCons (vVar 4) vNil)))) (gNm 5))
  (vSeq (vAsg (vCall q__law_next (vCons (vVar 0) (vCons (vC (.int 3)) vNil))) (gNm 6))
  (vIf (vTst (vOp (rIs false) (vCall q__law_refusal (vCons (vVar 1) (vCons (vVar 6) (vCons (vVar 4) (vCons (vVar 5) (vCons (vVar 3) vNil)))))) (vC .non))) (vAsg (vCall q__law_edited (vCons (vVar 1) (vCons (vVar 6) (vCons (vVar 4) (vCons (vVar 5) (vCons (vVar 3) vNil)))))) (gNm 1)) vNext)))))
def t__law_stirred (q__law_edited : WSp) (q__law_next : WSp) (q__law_path : WSp) (q__law_refusal : WSp) (q__law_small : WSp) (q__law_step : WSp) : WS :=
  (vSeq (vFor (iRg1 (vCons (vCall q__law_next (vCons (vVar 0) (vCons (vC (.int 6)) vNil))) vNil)) (gNm 2)
  (t__law_stirred_b1 q__law_edited q__law_next q__law_path q__law_refusal q__law_small q__law_step))
  (vRet (vVar 1)))
theorem dv__law_stirred {C : Cmn} {k : Nat} {qual : Str} (g_range : C.mg "range" = none) {q__law_edited : WSp} (D__law_edited : DefOk C k "_law_edited" q__law_edited) {q__law_next : WSp} (D__law_next : DefOk C k "_law_next" q__law_next) {q__law_path : WSp} (D__law_path : DefOk C k "_law_path" q__law_path) {q__law_refusal : WSp} (D__law_refusal : DefOk C k "_law_refusal" q__law_refusal) {q__law_small : WSp} (D__law_small : DefOk C k "_law_small" q__law_small) {q__law_step : WSp} (D__law_step : DefOk C k "_law_step" q__law_step) : VSs C (fun i : DIx k qual (defScope s__law_stirred) => DR C N__law_stirred i) (defBody s__law_stirred) (t__law_stirred q__law_edited q__law_next q__law_path q__law_refusal q__law_small q__law_step) :=
  (vss_cons (vs_for (vi_rg1 g_range (va_cons (ve_call D__law_next (va_cons (ve_var (i := 0) (hv := fun _ => .inl rfl)) (va_cons ve_int va_nil)) (fun i => i.room)) va_nil)) (vg_name (i := 2) (fun _ => sc__law_stirred.nd) (hx := fun _ => .inl rfl) (hf := fun _ => .inl rfl))
  (vss_cons (vs_set (i := 3) (fun _ => sc__law_stirred.nd) (ve_call D__law_small (va_cons (ve_var (i := 0) (hv := fun _ => .inl rfl)) va_nil) (fun i => i.room)) (hx := fun _ => .inl rfl) (hf := fun _ => .inl rfl))
  (vss_cons (vs_set (i := 4) (fun _ => sc__law_stirred.nd) (ve_call D__law_path (va_cons (ve_var (i := 0) (hv := fun _ => .inl rfl)) (va_cons (ve_var (i := 1) (hv := fun _ => .inl rfl)) va_nil)) (fun i => i.room)) (hx := fun _ => .inl rfl) (hf := fun _ => .inl rfl))
  (vss_cons (vs_set (i := 5) (fun _ => sc__law_stirred.nd) (ve_call D__law_step (va_cons (ve_var (i := 0) (hv := fun _ => .inl rfl)) (va_cons (ve_var (i := 1) (hv := fun _ => .inl rfl)) (va_cons (ve_var (i := 4) (hv := fun _ => .inl rfl)) va_nil))) (fun i => i.room)) (hx := fun _ => .inl rfl) (hf := fun _ => .inl rfl))
  (vss_cons (vs_set (i := 6) (fun _ => sc__law_stirred.nd) (ve_call D__law_next (va_cons (ve_var (i := 0) (hv := fun _ => .inl rfl)) (va_cons ve_int va_nil)) (fun i => i.room)) (hx := fun _ => .inl rfl) (hf := fun _ => .inl rfl))
  (vss_one (vs_if (vt_cmp ov_is (ve_call D__law_refusal (va_cons (ve_var (i := 1) (hv := fun _ => .inl rfl)) (va_cons (ve_var (i := 6) (hv := fun _ => .inl rfl)) (va_cons (ve_var (i := 4) (hv := fun _ => .inl rfl)) (va_cons (ve_var (i := 5) (hv := fun _ => .inl rfl)) (va_cons (ve_var (i := 3) (hv := fun _ => .inl rfl)) va_nil))))) (fun i => i.room)) ve_non) (vss_one (vs_set (i := 1) (fun _ => sc__law_stirred.nd) (ve_call D__law_edited (va_cons (ve_var (i := 1) (hv := fun _ => .inl rfl)) (va_cons (ve_var (i := 6) (hv := fun _ => .inl rfl)) (va_cons (ve_var (i := 4) (hv := fun _ => .inl rfl)) (va_cons (ve_var (i := 5) (hv := fun _ => .inl rfl)) (va_cons (ve_var (i := 3) (hv := fun _ => .inl rfl)) va_nil))))) (fun i => i.room)) (hx := fun _ => .inl rfl) (hf := fun _ => .inl rfl))) vss_nil)))))))
  (vss_one (vs_ret (ve_var (i := 1) (hv := fun _ => .inl rfl)))))
abbrev s_law : Stmt := top 57
abbrev N_law : List Str := ["script", "state", "old", "pick", "new", "due", "told", "here", "there", "edit", "way"]
theorem sc_law : FnScope N_law ["script"] (defScope s_law) := ⟨rfl, rfl, rfl, by decide +kernel, rfl, by decide +kernel, by decide +kernel⟩
def t_law_b1 (q__law_cell : WSp) (q__law_drawn : WSp) (q__law_edited : WSp) (q__law_edits : WSp) (q__law_next : WSp) (q__law_same : WSp) (q__law_state : WSp) (q__law_stirred : WSp) (q_difference : WSp) (q_edited : WSp) : WS :=
  (vSeq (vAsg (vMtF rIndex (vLstF (vCons (vC (.str "replace")) (vCons (vC (.str "remove")) (vCons (vC (.str "insert")) vNil)))) (vCons (vOp rIx (vVar 9) (vC (.int 0))) vNil)) (gNm 10))
  (vSeq (vAsg (vCall q__law_edited (vCons (vVar 7) (vCons (vVar 10) (vCons (vOp rIx (vVar 9) (vC (.int 1))) (vCons (vOp rIx (vOp rAdd (vVar 9) (vTup (vCons (vC (.int 0)) vNil))) (vC (.int 2))) (vCons (vOp rIx (vVar 9) (vUn rNeg (vC (.int 1)))) vNil)))))) (gNm 7))
  (vSeq (vAsg (vCall q_edited (vCons (vVar 8) (vCons (vVar 9) vNil))) (gNm 8))
  (vIf (vNot (vTst (vCallR q__law_same (vCons (vVar 8) (vCons (vVar 7) vNil))))) (vRet (vC (.bl false))) vNext))))
def t_law (q__law_cell : WSp) (q__law_drawn : WSp) (q__law_edited : WSp) (q__law_edits : WSp) (q__law_next : WSp) (q__law_same : WSp) (q__law_state : WSp) (q__law_stirred : WSp) (q_difference : WSp) (q_edited : WSp) : WS :=
  (vSeq (vAsg (vCall q__law_state (vCons (vVar 0) (vCons (vOp rAdd (vC (.int 6)) (vOp rMod (vCB rInt (vCons (vCB rAbs (vCons (vCall q__law_cell (vCons (vVar 0) (vCons (vC (.int 0)) vNil))) vNil)) vNil)) (vC (.int 30)))) vNil))) (gNm 1))
  (vSeq (vAsg (vCall q__law_drawn (vCons (vVar 1) vNil)) (gNm 2))
  (vSeq (vAsg (vCall q__law_next (vCons (vVar 1) (vCons (vC (.int 8)) vNil))) (gNm 3))
  (vSeq (vAsg (vVar 2) (gNm 4))
  (vSeq (vIf (vTst (vOp rEq (vVar 3) (vC (.int 1)))) (vSeq (vPutL (vOp rAdd (vC (.int 6)) (vCall q__law_next (vCons (vVar 1) (vCons (vC (.int 20)) vNil)))) (vVar 1) (vC (.int 2)))
  (vAsg (vCall q__law_drawn (vCons (vVar 1) vNil)) (gNm 4))) (vIf (vTst (vOp rGt (vVar 3) (vC (.int 2)))) (vAsg (vCall q__law_stirred (vCons (vVar 1) (vCons (vVar 2) vNil))) (gNm 4)) vNext))
  (vSeq (vAsg (vCall q__law_edits (vCons (vVar 2) (vCons (vVar 4) (vCons (vTup vNil) vNil)))) (gNm 5))
  (vSeq (vAsg (vCall q_difference (vCons (vVar 2) (vCons (vVar 4) vNil))) (gNm 6))
  (vSeq (vIf (vOr (vNot (vTst (vCallR q__law_same (vCons (vVar 6) (vCons (vVar 5) vNil))))) (vTst (vOp rNe (vOp rEq (vVar 5) (vLstF vNil)) (vCallR q__law_same (vCons (vVar 2) (vCons (vVar 4) vNil)))))) (vRet (vC (.bl false))) vNext)
  (vSeq (vAsg (vVar 2) (gNm 7))
  (vSeq (vAsg (vVar 2) (gNm 8))
  (vSeq (vFor (iLst (vVar 5)) (gNm 9)
  (t_law_b1 q__law_cell q__law_drawn q__law_edited q__law_edits q__law_next q__law_same q__law_state q__law_stirred q_difference q_edited))
  (vSeq (vExpr (vMt rAppend (vVar 6) (vCons (vTup (vCons (vC (.str "remove")) (vCons (vTup (vCons (vC (.int 0)) vNil)) vNil))) vNil)))
  (vRet (vCallR q__law_same (vCons (vLstF (vCons (vVar 7) (vCons (vFrz (vCall q_difference (vCons (vVar 2) (vCons (vVar 4) vNil)))) vNil))) (vCons (vLstF (vCons (vVar 4) (vCons (vVar 5) vNil))) vNil))))))))))))))))
theorem dv_law {C : Cmn} {k : Nat} {qual : Str} (g_abs : C.mg "abs" = none) (g_int : C.mg "int" = none) {q__law_cell : WSp} (D__law_cell : DefOk C k "_law_cell" q__law_cell) {q__law_drawn : WSp} (D__law_drawn : DefOk C k "_law_drawn" q__law_drawn) {q__law_edited : WSp} (D__law_edited : DefOk C k "_law_edited" q__law_edited) {q__law_edits : WSp} (D__law_edits : DefOk C k "_law_edits" q__law_edits) {q__law_next : WSp} (D__law_next : DefOk C k "_law_next" q__law_next) {q__law_same : WSp} (D__law_same : DefOk C k "_law_same" q__law_same) {q__law_state : WSp} (D__law_state : DefOk C k "_law_state" q__law_state) {q__law_stirred : WSp} (D__law_stirred : DefOk C k "_law_stirred" q__law_stirred) {q_difference : WSp} (D_difference : DefOk C k "difference" q_difference) {q_edited : WSp} (D_edited : DefOk C k "edited" q_edited) : VSs C (fun i : DIx k qual (defScope s_law) => DR C N_law i) (defBody s_law) (t_law q__law_cell q__law_drawn q__law_edited q__law_edits q__law_next q__law_same q__law_state q__law_stirred q_difference q_edited) :=
  (vss_cons (vs_set (i := 1) (fun _ => sc_law.nd) (ve_call D__law_state (va_cons (ve_var (i := 0) (hv := fun _ => .inl rfl)) (va_cons (ve_op ov_add ve_int (ve_op ov_mod (ve_callTy cv_int g_int (va_cons (ve_callB cv_abs g_abs (va_cons (ve_call D__law_cell (va_cons (ve_var (i := 0) (hv := fun _ => .inl rfl)) (va_cons ve_int va_nil)) (fun i => i.room)) va_nil)) va_nil)) ve_int)) va_nil)) (fun i => i.room)) (hx := fun _ => .inl rfl) (hf := fun _ => .inl rfl))
  (vss_cons (vs_set (i := 2) (fun _ => sc_law.nd) (ve_call D__law_drawn (va_cons (ve_var (i := 1) (hv := fun _ => .inl rfl)) va_nil) (fun i => i.room)) (hx := fun _ => .inl rfl) (hf := fun _ => .inl rfl))
  (vss_cons (vs_set (i := 3) (fun _ => sc_law.nd) (ve_call D__law_next (va_cons (ve_var (i := 1) (hv := fun _ => .inl rfl)) (va_cons ve_int va_nil)) (fun i => i.room)) (hx := fun _ => .inl rfl) (hf := fun _ => .inl rfl))
  (vss_cons (vs_set (i := 4) (fun _ => sc_law.nd) (ve_var (i := 2) (hv := fun _ => .inl rfl)) (hx := fun _ => .inl rfl) (hf := fun _ => .inl rfl))
  (vss_cons (vs_if (vt_cmp (ov_eq (fun i => ru i.room)) (ve_var (i := 3) (hv := fun _ => .inl rfl)) ve_int) (vss_cons (vs_putL (ve_op ov_add ve_int (ve_call D__law_next (va_cons (ve_var (i := 1) (hv := fun _ => .inl rfl)) (va_cons ve_int va_nil)) (fun i => i.room))) (ve_var (i := 1) (hv := fun _ => .inl rfl)) ve_int)
  (vss_one (vs_set (i := 4) (fun _ => sc_law.nd) (ve_call D__law_drawn (va_cons (ve_var (i := 1) (hv := fun _ => .inl rfl)) va_nil) (fun i => i.room)) (hx := fun _ => .inl rfl) (hf := fun _ => .inl rfl)))) (vss_one (vs_if (vt_cmp ov_gt (ve_var (i := 3) (hv := fun _ => .inl rfl)) ve_int) (vss_one (vs_set (i := 4) (fun _ => sc_law.nd) (ve_call D__law_stirred (va_cons (ve_var (i := 1) (hv := fun _ => .inl rfl)) (va_cons (ve_var (i := 2) (hv := fun _ => .inl rfl)) va_nil)) (fun i => i.room)) (hx := fun _ => .inl rfl) (hf := fun _ => .inl rfl))) vss_nil)))
  (vss_cons (vs_set (i := 5) (fun _ => sc_law.nd) (ve_call D__law_edits (va_cons (ve_var (i := 2) (hv := fun _ => .inl rfl)) (va_cons (ve_var (i := 4) (hv := fun _ => .inl rfl)) (va_cons (ve_tup va_nil) va_nil))) (fun i => i.room)) (hx := fun _ => .inl rfl) (hf := fun _ => .inl rfl))
  (vss_cons (vs_set (i := 6) (fun _ => sc_law.nd) (ve_call D_difference (va_cons (ve_var (i := 2) (hv := fun _ => .inl rfl)) (va_cons (ve_var (i := 4) (hv := fun _ => .inl rfl)) va_nil)) (fun i => i.room)) (hx := fun _ => .inl rfl) (hf := fun _ => .inl rfl))
  (vss_cons (vs_if (vw_pt (vw_or (vt_not (vt_val (ve_callR D__law_same (va_cons (ve_var (i := 6) (hv := fun _ => .inl rfl)) (va_cons (ve_var (i := 5) (hv := fun _ => .inl rfl)) va_nil)) (fun i => i.room)))) (vw_or1 (vt_cmp (ov_ne (fun i => ru i.room)) (ve_cmp (ov_eq (fun i => ru i.room)) (ve_var (i := 5) (hv := fun _ => .inl rfl)) (ve_lstF va_nil)) (ve_callR D__law_same (va_cons (ve_var (i := 2) (hv := fun _ => .inl rfl)) (va_cons (ve_var (i := 4) (hv := fun _ => .inl rfl)) va_nil)) (fun i => i.room)))))) (vss_one (vs_ret ve_bl)) vss_nil)
  (vss_cons (vs_set (i := 7) (fun _ => sc_law.nd) (ve_var (i := 2) (hv := fun _ => .inl rfl)) (hx := fun _ => .inl rfl) (hf := fun _ => .inl rfl))
  (vss_cons (vs_set (i := 8) (fun _ => sc_law.nd) (ve_var (i := 2) (hv := fun _ => .inl rfl)) (hx := fun _ => .inl rfl) (hf := fun _ => .inl rfl))
  (vss_cons (vs_for (vi_lst (ve_var (i := 5) (hv := fun _ => .inl rfl))) (vg_name (i := 9) (fun _ => sc_law.nd) (hx := fun _ => .inl rfl) (hf := fun _ => .inl rfl))
  (vss_cons (vs_set (i := 10) (fun _ => sc_law.nd) (ve_mtF PySem.F.slot_list_index PySem.F.type_list_index mv_index (ve_lstF (va_cons ve_str (va_cons ve_str (va_cons ve_str va_nil)))) (va_cons (ve_ix (ve_var (i := 9) (hv := fun _ => .inl rfl)) ve_int) va_nil)) (hx := fun _ => .inl rfl) (hf := fun _ => .inl rfl))
  (vss_cons (vs_set (i := 7) (fun _ => sc_law.nd) (ve_call D__law_edited (va_cons (ve_var (i := 7) (hv := fun _ => .inl rfl)) (va_cons (ve_var (i := 10) (hv := fun _ => .inl rfl)) (va_cons (ve_ix (ve_var (i := 9) (hv := fun _ => .inl rfl)) ve_int) (va_cons (ve_ix (ve_op ov_add (ve_var (i := 9) (hv := fun _ => .inl rfl)) (ve_tup (va_cons ve_int va_nil))) ve_int) (va_cons (ve_ix (ve_var (i := 9) (hv := fun _ => .inl rfl)) (ve_neg ve_int)) va_nil))))) (fun i => i.room)) (hx := fun _ => .inl rfl) (hf := fun _ => .inl rfl))
  (vss_cons (vs_set (i := 8) (fun _ => sc_law.nd) (ve_call D_edited (va_cons (ve_var (i := 8) (hv := fun _ => .inl rfl)) (va_cons (ve_var (i := 9) (hv := fun _ => .inl rfl)) va_nil)) (fun i => i.room)) (hx := fun _ => .inl rfl) (hf := fun _ => .inl rfl))
  (vss_one (vs_if (vt_not (vt_val (ve_callR D__law_same (va_cons (ve_var (i := 8) (hv := fun _ => .inl rfl)) (va_cons (ve_var (i := 7) (hv := fun _ => .inl rfl)) va_nil)) (fun i => i.room)))) (vss_one (vs_ret ve_bl)) vss_nil))))))
  (vss_cons (vs_expr (ve_mt PySem.F.slot_list_append PySem.F.type_list_append mv_append (ve_var (i := 6) (hv := fun _ => .inl rfl)) (va_cons (ve_tup (va_cons ve_str (va_cons (ve_tup (va_cons ve_int va_nil)) va_nil))) va_nil)))
  (vss_one (vs_ret (ve_callR D__law_same (va_cons (ve_lstF (va_cons (ve_var (i := 7) (hv := fun _ => .inl rfl)) (va_cons (ve_frz (ve_call D_difference (va_cons (ve_var (i := 2) (hv := fun _ => .inl rfl)) (va_cons (ve_var (i := 4) (hv := fun _ => .inl rfl)) va_nil)) (fun i => i.room))) va_nil))) (va_cons (ve_lstF (va_cons (ve_var (i := 4) (hv := fun _ => .inl rfl)) (va_cons (ve_var (i := 5) (hv := fun _ => .inl rfl)) va_nil))) va_nil)) (fun i => i.room))))))))))))))))
end K77

set_option Elab.async false
set_option linter.all false
set_option maxRecDepth 100000
set_option maxHeartbeats 1000000
/-! k75: the state's draws. -/
namespace L3
open PySem PySem.Spec PyProof.Rows L2
section
variable {g : WG} {b : WS} {E : VEnds} {G : Sto → Prop}
theorem forW_inv (I : List D → Env → Sto → Prop) (hn : ∀ env S, I [] env S → G S ∧ E.nx env S)
    (hc : ∀ y r env S (N : Env → Sto → Prop), I (y :: r) env S → (∀ e S', I r e S' → N e S') → G S ∧ g y env S (fun e1 S1 => b { E with nx := N, ct := N, bk := E.nx } e1 S1)) :
    ∀ ys env S, I ys env S → forW g b E G ys env S
  | [], env, S, h => hn env S h
  | y :: r, env, S, h => hc y r env S _ h fun e S' h' => forW_inv I hn hc r e S' h'
variable {tt : WT} {te : WE} {env : Env} {Qd : List D → Sto → Prop}
theorem lcW_inv (I : List D → List D → Sto → Prop) (hn : ∀ acc S, I [] acc S → G S ∧ Qd acc S)
    (hc : ∀ y r acc S (N : List D → Sto → Prop), I (y :: r) acc S → (∀ acc' S', I r acc' S' → N acc' S') → G S ∧ g y env S (fun e1 S1 => tt e1 S1 (fun b S2 => if b = true then te e1 S2 (fun d S3 => acc.length < sizeLine ∧ N (acc ++ [d]) S3) NoEx else N acc S2) NoEx)) :
    ∀ ys acc S, I ys acc S → lcW g tt te G env Qd ys acc S
  | [], acc, S, h => hn acc S h
  | y :: r, acc, S, h => hc y r acc S _ h fun e S' h' => lcW_inv I hn hc r e S' h'
/-- a comprehension that leaves the store as it is -/
theorem lcW_pure (o : D → Option D) {S : Sto} (hG : G S) : ∀ (ys acc : List D), acc.length + ys.length ≤ sizeLine →
    (∀ y ∈ ys, ∀ (A : D → Sto → Prop) (B : Sto → Prop), (match o y with | some d => A d S | none => B S) → g y env S (fun e1 S1 => tt e1 S1 (fun b S2 => if b = true then te e1 S2 A NoEx else B S2) NoEx)) →
    Qd (acc ++ ys.filterMap o) S → lcW g tt te G env Qd ys acc S
  | [], acc, _, _, h => ⟨hG, by simpa using h⟩
  | y :: r, acc, hl, hf, h => by
    rw [List.length_cons] at hl
    refine ⟨hG, hf y List.mem_cons_self _ _ ?_⟩
    cases e : o y with
    | some d =>
      refine ⟨by omega, lcW_pure o hG r (acc ++ [d]) (by rw [List.length_append, List.length_singleton]; omega) (fun y' hy => hf y' (List.mem_cons_of_mem _ hy)) ?_⟩
      rw [List.filterMap_cons_some e] at h
      simpa using h
    | none =>
      refine lcW_pure o hG r acc (by omega) (fun y' hy => hf y' (List.mem_cons_of_mem _ hy)) ?_
      rw [List.filterMap_cons_none e] at h
      exact h
end
end L3
namespace K77
open PySem PySem.Spec L2 L3
/-- the state of the draws -/
structure Sta where
  nums : List Int
  at_ : Int
  left : Int
  scr : List Int
  cnt : Int
  ok : nums.length = 120
def Sta.so (s : Sta) : SO := .lst [.lst (s.nums.map D.int), .int s.at_, .int s.left, .fix (s.scr.map D.int), .int s.cnt]
/-- what a draw leaves -/
def After (G : D → Prop) (S : Sto) (p : Addr) (Q : VQ) : Prop := ∀ (r : D) (s : Sta), G r → Q r (sup S p s.so)
/-- a whole number from lo, below hi -/
def Num (lo hi : Int) (d : D) : Prop := ∃ i, d = .int i ∧ lo ≤ i ∧ i < hi
def sp_next : WSp := fun ds S Q _ => ∃ (p : Addr) (s : Sta) (m : Int), ds = [.ref p, .int m] ∧ S p = some s.so ∧ 0 < m ∧ After (Num 0 m) S p Q
theorem w_next (ds S Q E) (h : sp_next ds S Q E) : t__law_next (dEnds Q E) (L3.start 3 ds) S := by
  obtain ⟨p, s, m, rfl, hp, hm, k⟩ := h
  obtain ⟨nums, a, left, scr, cnt, hl⟩ := s
  have h0 : 0 ≤ a % 120 := Int.emod_nonneg a (by decide)
  have h1 : a % 120 < 120 := Int.emod_lt_of_pos a (by decide)
  obtain ⟨v, e1, e2⟩ := at_lt (xs := nums.map D.int) h0 (by simp only [List.length_map]; omega)
  obtain ⟨z, _, rfl⟩ : ∃ z, nums[(a % 120).toNat]? = some z ∧ v = .int z := by
    rw [List.getElem?_map] at e1
    cases q : nums[(a % 120).toNat]? with
    | none => rw [q] at e1; cases e1
    | some z => rw [q] at e1; cases e1; exact ⟨z, rfl, rfl⟩
  simp only [Sta.so] at hp
  simp [t__law_next, hp, ixN, e2, hm, cmul_l]
  exact k _ ⟨nums, a + 1, left, scr, cnt, hl⟩ ⟨_, rfl, Int.emod_nonneg _ (by omega), Int.emod_lt_of_pos _ hm⟩
theorem nx {p : Addr} (s : Sta) {m : Int} {S : Sto} {Q : VQ} {E : EX} {hh} (hp : S p = some s.so) (hm : 0 < m) (k : ∀ i (s' : Sta), 0 ≤ i → i < m → Q (.int i) (sup S p s'.so)) : Call sp_next [.ref p, .int m] S Q E hh :=
  ⟨p, s, m, rfl, hp, hm, fun r s' ⟨i, e, h0, h1⟩ => by rw [e]; exact k i s' h0 h1⟩
def sp_many : WSp := fun ds S Q _ => ∃ (p : Addr) (s : Sta) (m : Int), ds = [.ref p, .int m] ∧ S p = some s.so ∧ 0 < m ∧ After (Num 0 (20 + m)) S p Q
theorem w_many (ds S Q E) (h : sp_many ds S Q E) : t__law_many sp_next (dEnds Q E) (L3.start 4 ds) S := by
  obtain ⟨p, s, m, rfl, hp, hm, k⟩ := h
  simp [t__law_many]
  refine nx s hp (by decide) fun i s1 h0 h1 => ?_
  obtain ⟨n1, a1, l1, c1, k1, o1⟩ := s1
  simp [Sta.so]
  split
  · refine nx ⟨n1, a1, l1, c1, k1, o1⟩ (by simp [Sta.so]) (by decide) fun i2 s2 h2 h3 => ?_
    obtain ⟨n2, a2, l2, c2, k2, o2⟩ := s2
    simp [Sta.so, ixN]
    split
    · rename_i e; subst e
      refine nx ⟨n2, a2, l2, c2, k2 - 1, o2⟩ (by simp [Sta.so]) (by decide) fun i3 s3 h4 h5 => ?_
      obtain ⟨n3, a3, l3, c3, k3, o3⟩ := s3
      simp [Sta.so]
      refine nx ⟨n3, a3, l3, c3, k3, o3⟩ (by simp [Sta.so]) hm fun i4 s4 h6 h7 => ?_
      simp [line2]
      exact k _ s4 ⟨_, rfl, by omega, by omega⟩
    · split
      · rename_i e; subst e
        refine nx ⟨n2, a2, l2, c2, k2 - 1, o2⟩ (by simp [Sta.so]) (by decide) fun i3 s3 h4 h5 => ?_
        obtain ⟨n3, a3, l3, c3, k3, o3⟩ := s3
        simp [Sta.so]
        refine nx ⟨n3, a3, l3, c3, k3, o3⟩ (by simp [Sta.so]) hm fun i4 s4 h6 h7 => ?_
        simp [line2]
        exact k _ s4 ⟨_, rfl, by omega, by omega⟩
      · exact k _ ⟨n2, a2, l2, c2, k2, o2⟩ ⟨_, rfl, by omega, by omega⟩
  · exact k _ ⟨n1, a1, l1, c1, k1, o1⟩ ⟨_, rfl, by omega, by omega⟩
theorem mn {p : Addr} (s : Sta) {m : Int} {S : Sto} {Q : VQ} {E : EX} {hh} (hp : S p = some s.so) (hm : 0 < m) (k : ∀ i (s' : Sta), 0 ≤ i → i < 20 + m → Q (.int i) (sup S p s'.so)) : Call sp_many [.ref p, .int m] S Q E hh :=
  ⟨p, s, m, rfl, hp, hm, fun r s' ⟨i, e, h0, h1⟩ => by rw [e]; exact k i s' h0 h1⟩
end K77

set_option Elab.async false
set_option linter.all false
set_option maxRecDepth 100000
set_option maxHeartbeats 1000000
/-! k75: numbers, texts, octets, leaves. -/
namespace L3
open PySem PySem.Spec PyProof.Rows L2
theorem rng_len {lo : Int} {n : Nat} : (rngD lo n).length = n := by unfold rngD; simp
theorem rng_mem {lo : Int} {n : Nat} : ∀ y ∈ rngD lo n, ∃ i, y = .int i ∧ lo ≤ i ∧ i < lo + n := fun y hy => by
  unfold rngD at hy
  obtain ⟨i, hi, rfl⟩ := List.mem_map.mp hy
  exact ⟨_, rfl, by omega, by have := List.mem_range.mp hi; omega⟩
end L3
namespace K77
open PySem PySem.Spec L2 L3
def sp_cell : WSp := fun ds S Q _ => ∃ (scr : List Int) (k : Int), ds = [.fix (scr.map D.int), .int k] ∧ 0 ≤ k ∧ ∀ i, Q (.int i) S
theorem w_cell (ds S Q E) (h : sp_cell ds S Q E) : t__law_cell (dEnds Q E) (L3.start 2 ds) S := by
  obtain ⟨scr, k, rfl, hk, q⟩ := h
  simp [t__law_cell]
  split
  · rename_i hl
    obtain ⟨v, e1, e2⟩ := at_lt (xs := scr.map D.int) hk (by simpa using hl)
    rw [e2]
    rw [List.getElem?_map] at e1
    cases q' : scr[k.toNat]? with
    | none => rw [q'] at e1; cases e1
    | some z => rw [q'] at e1; cases e1; exact q z
  · exact q 0
def sp_numbers : WSp := fun ds S Q _ => ∃ (c m : Int), ds = [.int c, .int m] ∧ 0 ≤ m ∧ m ≤ 1000 ∧ ∀ p (ns : List Int), S p = none → ns.length = m.toNat → Q (.ref p) (sup S p (.lst (ns.map D.int)))
theorem w_numbers (ds S Q E) (h : sp_numbers ds S Q E) : t__law_numbers (dEnds Q E) (L3.start 7 ds) S := by
  obtain ⟨c, m, rfl, h0, h1, q⟩ := h
  simp [t__law_numbers, line2]
  refine fun p hp => ⟨⟨by omega, by omega⟩, ?_⟩
  refine forW_inv (fun ys env S' => ∃ (rest size : Int) (ns : List Int) (o1 o2 : Option D), env = [some (.int c), some (.int m), some (.int rest), some (.int size), some (.ref p), o1, o2] ∧ S' = sup S p (.lst (ns.map D.int)) ∧ ns.length + ys.length = m.toNat ∧ ∀ y ∈ ys, ∃ i, y = D.int i) ?_ ?_ _ _ _ ⟨_, _, [], none, none, rfl, by simp, by simp [rng_len], fun y hy => ?_⟩
  · rintro env S' ⟨rest, size, ns, o1, o2, rfl, rfl, hl, _⟩
    refine ⟨trivial, ?_⟩
    simp
    exact q p ns hp (by simpa using hl)
  · rintro y r env S' N ⟨rest, size, ns, o1, o2, rfl, rfl, hl, hy⟩ hN
    obtain ⟨k, rfl⟩ := hy _ List.mem_cons_self
    have hy' : ∀ y ∈ r, ∃ i, y = D.int i := fun y h => hy y (List.mem_cons_of_mem _ h)
    have hl' : ns.length + 1 + r.length = m.toNat := by simp at hl; omega
    have hz : ns.length < 16777216 := by omega
    have hc : CPow 10 18 := ⟨by decide, by decide, by decide⟩
    refine ⟨trivial, ?_⟩
    simp [t__law_numbers_b1, line2, hz, hc]
    have done : ∀ (z rest' : Int) (o1 o2 : Option D), N [some (.int c), some (.int m), some (.int rest'), some (.int size), some (.ref p), o1, o2] (sup S p (.lst (ns.map D.int ++ [.int z]))) := fun z rest' o1 o2 => hN _ _ ⟨rest', size, ns ++ [z], o1, o2, rfl, by simp, by simp; omega, hy'⟩
    have m1 : ∀ x : Int, CMul x 48271 := fun x => cmul_r (by decide) (by decide)
    have m2 : ∀ x : Int, CMul x 69621 := fun x => cmul_r (by decide) (by decide)
    have m3 : ∀ x : Int, CMul 40692 x := fun x => cmul_l (by decide) (by decide)
    have m4 : ∀ x : Int, CMul (x % 2147483647) (x % 2147483647) := fun x => cmul_l (by omega) (by omega)
    simp [m1, m2, m3, m4]
    split
    · split
      · exact done _ _ _ _
      · exact done _ _ _ _
    · exact done _ _ _ _
  · obtain ⟨i, e, _⟩ := rng_mem y hy
    exact ⟨i, e⟩
end K77

set_option Elab.async false
set_option linter.all false
set_option maxRecDepth 100000
set_option maxHeartbeats 2000000
/-! k75: the state, numbers, texts, octets, leaves. -/
namespace L3
open PySem PySem.Spec PyProof.Rows L2
theorem sdel_at {S : Sto} {p : Addr} : sdel S p p = none := sdel_same
end L3
namespace K77
open PySem PySem.Spec L2 L3
def sp_state : WSp := fun ds S Q _ => ∃ (scr : List Int) (left : Int), ds = [.fix (scr.map D.int), .int left] ∧ ∀ p (s : Sta), S p = none → Q (.ref p) (sup S p s.so)
theorem w_state (ds S Q E) (h : sp_state ds S Q E) : t__law_state sp_cell sp_numbers (dEnds Q E) (L3.start 5 ds) S := by
  obtain ⟨scr, left, rfl, q⟩ := h
  simp [t__law_state, line2]
  intro p hp
  refine lcW_inv (fun ys acc S' => S' = sup S p (.lst []) ∧ ∃ pts : List (List Int), acc = pts.map (fun ns => .lst (ns.map D.int)) ∧ (∀ ns ∈ pts, ns.length = 40) ∧ acc.length + ys.length = 3 ∧ ∀ y ∈ ys, ∃ i, y = D.int i ∧ 0 ≤ i) ?_ ?_ _ _ _ ⟨rfl, [], rfl, (by simp), by simp [rng_len], fun y hy => ?_⟩
  · rintro acc S' ⟨rfl, pts, rfl, hl, hn, _⟩
    refine ⟨trivial, ?_⟩
    simp at hn
    obtain ⟨x, y, z, rfl⟩ : ∃ x y z, pts = [x, y, z] := by
      match pts, hn with
      | [x, y, z], _ => exact ⟨x, y, z, rfl⟩
    have hx := hl x (by simp)
    have hy := hl y (by simp)
    have hz := hl z (by simp)
    simp
    refine forW_inv (fun ys env S' => ∃ (ns : List Int) (o : Option D), env = [some (.fix (scr.map D.int)), some (.int left), some (.ref p), some (.lst [.lst (x.map D.int), .lst (y.map D.int), .lst (z.map D.int)]), o] ∧ S' = sup S p (.lst (ns.map D.int)) ∧ ns.length + 3 * ys.length = 120 ∧ ∀ y ∈ ys, ∃ i, y = D.int i ∧ 0 ≤ i ∧ i < 40) ?_ ?_ _ _ _ ⟨[], none, rfl, by simp, by simp [rng_len], fun y hy => ?_⟩
    · rintro env S' ⟨ns, o, rfl, rfl, hl, _⟩
      refine ⟨trivial, ?_⟩
      simp [line2]
      intro r hr
      by_cases e : r = p
      · subst e
        rw [sdel_sup hp]
        exact q _ ⟨ns, 0, left, scr, 4, by simpa using hl⟩ hp
      · rw [sdel_sup hp]
        refine q _ ⟨ns, 0, left, scr, 4, by simpa using hl⟩ ?_
        rw [sdel_sup hp] at hr; exact hr
    · rintro y' r env S' N ⟨ns, o, rfl, rfl, hl, hy'⟩ hN
      obtain ⟨k, rfl, h0, h1⟩ := hy' _ List.mem_cons_self
      refine ⟨trivial, ?_⟩
      have at' : ∀ w : List Int, w.length = 40 → ∃ v, atI (w.map D.int) k = some (.int v) := fun w hw => by
        obtain ⟨v, e1, e2⟩ := at_lt (xs := w.map D.int) h0 (by simp; omega)
        rw [List.getElem?_map] at e1
        cases q' : w[k.toNat]? with
        | none => rw [q'] at e1; cases e1
        | some z => rw [q'] at e1; cases e1; exact ⟨z, e2⟩
      obtain ⟨v1, e1⟩ := at' x hx
      obtain ⟨v2, e2⟩ := at' y hy
      obtain ⟨v3, e3⟩ := at' z hz
      simp at hl
      simp [t__law_state_b1, e1, e2, e3, line2]
      refine ⟨by omega, hN _ _ ⟨ns ++ [v1, v2, v3], some (.int k), rfl, by simp, by simp; omega, fun y h => hy' y (List.mem_cons_of_mem _ h)⟩⟩
    · exact rng_mem y hy
  · rintro y r acc S' N ⟨rfl, pts, rfl, hl, hn, hy⟩ hN
    obtain ⟨k, rfl, h0⟩ := hy _ List.mem_cons_self
    refine ⟨trivial, ?_⟩
    simp [t__law_state_e1]
    refine ⟨scr, k, rfl, h0, fun i => ?_⟩
    simp
    refine ⟨i, 40, rfl, by decide, by decide, fun p2 ns hp2 hl2 => ?_⟩
    simp at hn
    simp [line2, sdel_sup hp2]
    refine ⟨by omega, hN _ _ ⟨rfl, pts ++ [ns], by simp, fun ns' h => ?_, by simp; omega, fun y h => hy y (List.mem_cons_of_mem _ h)⟩⟩
    rcases List.mem_append.mp h with h | h
    · exact hl _ h
    · rw [List.mem_singleton.mp h, hl2]; rfl
  · obtain ⟨i, e, h0, _⟩ := rng_mem y hy
    exact ⟨i, e, h0⟩
def sp_big : WSp := fun ds S Q _ => ∃ (p : Addr) (s : Sta) (m : Int), ds = [.ref p, .int m] ∧ S p = some s.so ∧ 0 < m ∧ After (Num 0 m) S p Q
theorem w_big (ds S Q E) (h : sp_big ds S Q E) : t__law_big sp_cell sp_next (dEnds Q E) (L3.start 3 ds) S := by
  obtain ⟨p, s, m, rfl, hp, hm, k⟩ := h
  obtain ⟨n0, a0, l0, c0, k0, o0⟩ := s
  simp only [Sta.so] at hp
  simp [t__law_big, hp]
  refine nx ⟨n0, a0, l0, c0, k0, o0⟩ hp (by decide) fun i s1 h0 h1 => ?_
  simp
  refine ⟨c0, 3 + i, rfl, by omega, fun c => ?_⟩
  have m1 : ∀ x : Int, CMul x 1009 := fun x => cmul_r (by decide) (by decide)
  simp [m1]
  refine nx s1 (by simp) (by decide) fun i2 s2 h2 h3 => ?_
  simp [hm]
  exact k _ s2 ⟨_, rfl, Int.emod_nonneg _ (by omega), Int.emod_lt_of_pos _ hm⟩
theorem bg {p : Addr} (s : Sta) {m : Int} {S : Sto} {Q : VQ} {E : EX} {hh} (hp : S p = some s.so) (hm : 0 < m) (k : ∀ i (s' : Sta), 0 ≤ i → i < m → Q (.int i) (sup S p s'.so)) : Call sp_big [.ref p, .int m] S Q E hh :=
  ⟨p, s, m, rfl, hp, hm, fun r s' ⟨i, e, h0, h1⟩ => by rw [e]; exact k i s' h0 h1⟩
def sp_normal : WSp := fun ds S Q _ => ∃ (m e : Int), ds = [.int m, .int e] ∧ ∀ m' e' : Int, Q (.tup [.int m', .int e']) S
theorem w_normal (ds S Q E) (h : sp_normal ds S Q E) : t__law_normal (dEnds Q E) (L3.start 3 ds) S := by
  obtain ⟨m, e, rfl, q⟩ := h
  simp [t__law_normal, line2]
  split
  · exact q 0 0
  · refine forW_inv (fun ys env S' => ∃ (m e : Int) (o : Option D), env = [some (.int m), some (.int e), o] ∧ S' = S) ?_ ?_ _ _ _ ⟨m, e, none, rfl, rfl⟩
    · rintro env S' ⟨m, e, o, rfl, rfl⟩
      refine ⟨trivial, ?_⟩
      simp [line2]
      exact q m e
    · rintro y r env S' N ⟨m, e, o, rfl, rfl⟩ hN
      refine ⟨trivial, ?_⟩
      simp [t__law_normal_b1, line2]
      split
      · exact hN _ _ ⟨_, _, _, rfl, rfl⟩
      · exact q m e
end K77

set_option Elab.async false
set_option linter.all false
set_option maxRecDepth 100000
set_option maxHeartbeats 4000000
/-! k75: numbers, texts, octets, leaves. -/
namespace K77
open PySem PySem.Spec L2 L3
theorem w_normal_use {m e : Int} {S : Sto} {Q : VQ} {E : EX} {hh} (k : ∀ m' e' : Int, Q (.tup [.int m', .int e']) S) : Call sp_normal [.int m, .int e] S Q E hh := ⟨m, e, rfl, k⟩
def IsNum (d : D) : Prop := ∃ m e, d = .tup [.str "number", .int m, .int e]
def sp_number : WSp := fun ds S Q _ => ∃ (p : Addr) (s : Sta), ds = [.ref p] ∧ S p = some s.so ∧ After IsNum S p Q
theorem at_use {xs : List D} {i : Int} {Q : D → Prop} {hh} (h0 : 0 ≤ i) (h1 : i < xs.length) (h : ∀ d ∈ xs, Q d) : AtC (atI xs i) Q hh := by
  obtain ⟨v, e1, e2⟩ := at_lt (xs := xs) h0 h1
  rw [e2]
  exact h v (List.mem_of_getElem? e1)
theorem inInts {i : Int} {xs : List Int} : InD (.int i) (xs.map D.int) (inV (.int i) ((xs.map D.int).map toV)) := .inl ⟨rfl, by simp [List.all_map], rfl⟩
/-- from the number on: its normal form -/
theorem number_end {p : Addr} {S : Sto} {Q : VQ} {E : EX} (k : After IsNum S p Q) (o : Option D) (m e : Int) (o1 o2 o3 : Option D) (s : Sta) :
    Call sp_next [.ref p, .int 2] (sup S p s.so) (fun y S2 => L3.rIx (.lst [.int m, .int (-m)]) y S2 fun d S1 =>
      vCons (vVar 3) vNil [some (.ref p), o, some (.int m), some (.int e), o1, o2, o3] S1 (fun ds S2 => Call sp_normal (d :: ds) S2 (fun d S1 => gTupD 2 (gThen (gNm 2) (gThen (gNm 3) gEnd)) d [some (.ref p), o, some (.int m), some (.int e), o1, o2, o3] S1
        (vRet (vTup (vCons (vC (.str "number")) (vCons (vVar 2) (vCons (vVar 3) vNil)))) (dEnds Q E))) E .mk) E) E .mk := by
  refine nx s (by simp) (by decide) fun i s1 h0 h1 => ?_
  simp
  refine at_use h0 (by simpa using h1) fun d hd => ?_
  have : ∃ z, d = .int z := by
    simp at hd
    rcases hd with rfl | rfl <;> exact ⟨_, rfl⟩
  obtain ⟨z, rfl⟩ := this
  simp
  refine w_normal_use fun m' e' => ?_
  simp [line2]
  exact k _ s1 ⟨_, _, rfl⟩
theorem w_number (ds S Q E) (h : sp_number ds S Q E) : t__law_number sp_big sp_next sp_normal (dEnds Q E) (L3.start 7 ds) S := by
  obtain ⟨p, s, rfl, hp, k⟩ := h
  simp [t__law_number]
  refine nx s hp (by decide) fun pick s1 _ _ => ?_
  simp
  refine nx s1 (by simp) (by decide) fun m s2 _ _ => ?_
  simp [line2]
  refine ⟨_, inInts (xs := [4, 5]), ?_⟩
  have c10 : CPow 10 40 := ⟨by decide, by decide, by decide⟩
  try simp [line2]
  split
  · have c1 : CPow 2 31 := ⟨by decide, by decide, by decide⟩
    have c2 : CPow 2 32 := ⟨by decide, by decide, by decide⟩
    have c3 : CPow 2 63 := ⟨by decide, by decide, by decide⟩
    have c4 : CPow 2 64 := ⟨by decide, by decide, by decide⟩
    have c5 : CPow 10 30 := ⟨by decide, by decide, by decide⟩
    simp [c1, c2, c3, c4, c5, line2]
    refine nx s2 (by simp) (by decide) fun i s3 h0 h1 => ?_
    simp
    refine at_use h0 (by simpa using h1) fun d hd => ?_
    have : ∃ z, d = .int z := by
      simp at hd
      rcases hd with rfl | rfl | rfl | rfl | rfl | rfl | rfl | rfl | rfl | rfl | rfl | rfl | rfl <;> exact ⟨_, rfl⟩
    obtain ⟨z, rfl⟩ := this
    simp
    refine nx s3 (by simp) (by decide) fun i2 s4 _ _ => ?_
    simp [line2]
    exact number_end k _ _ _ _ _ _ _
  · try simp [line2]
    refine ⟨_, inInts (xs := [6, 7, 8]), ?_⟩
    try simp [line2]
    split
    · try simp
      refine nx s2 (by simp) (by decide) fun i s3 h0 h1 => ?_
      simp
      refine nx s3 (by simp) (by decide) fun i2 s4 _ _ => ?_
      simp [line2]
      exact number_end k _ _ _ _ _ _ _
    · try simp [line2]
      split
      · try simp [line2]
        refine nx s2 (by simp) (by decide) fun i s3 h0 h1 => ?_
        simp [line2]
        refine nx s3 (by simp) (by decide) fun i2 s4 h2 h3 => ?_
        simp
        refine at_use h2 (by simpa using h3) fun d hd => ?_
        have : ∃ z, d = .int z := by
          simp at hd
          rcases hd with rfl | rfl | rfl | rfl | rfl | rfl | rfl | rfl | rfl | rfl <;> exact ⟨_, rfl⟩
        obtain ⟨z, rfl⟩ := this
        obtain ⟨n4, a4, l4, c4, k4, o4⟩ := s4
        simp [Sta.so, ixN, line2]
        repeat' split
        all_goals first
          | exact number_end k _ _ _ _ _ _ ⟨n4, a4, l4, c4, k4 - 1, o4⟩
          | exact number_end k _ _ _ _ _ _ ⟨n4, a4, l4, c4, k4, o4⟩
      · try simp [line2]
        split
        · try simp [line2]
          refine nx s2 (by simp) (by decide) fun i s3 h0 h1 => ?_
          simp [line2]
          refine ⟨⟨by omega, by omega⟩, ?_⟩
          refine forW_inv (fun ys env S' => ∃ (w : Nat) (o : Option D), env = [some (.ref p), some (.int pick), some (.int m), some (.int 0), none, some (.int w), o] ∧ S' = sup S p s3.so ∧ 0 < w ∧ w * 16 ^ ys.length ≤ 2 ^ 164) ?_ ?_ _ _ _ ⟨10, none, by simp, by simp, by decide, ?_⟩
          · rintro env S' ⟨w, o, rfl, rfl, hw, hb⟩
            refine ⟨trivial, ?_⟩
            simp
            refine bg s3 (by simp) (by omega) fun m' s4 g0 g1 => ?_
            simp
            refine nx s4 (by simp) (by decide) fun e s5 g2 g3 => ?_
            obtain ⟨n5, a5, l5, c5, k5, o5⟩ := s5
            simp [Sta.so, ixN, line2]
            split
            · split
              · refine nx ⟨n5, a5, l5, c5, k5 - 1, o5⟩ (by simp [Sta.so]) (by decide) fun t s6 g4 g5 => ?_
                simp [line2]
                refine ⟨⟨by omega, by omega⟩, ?_⟩
                refine forW_inv (fun ys env S' => ∃ (v : Nat) (s : Sta) (o : Option D), env = [some (.ref p), some (.int pick), some (.int v), some (.int (e - 45)), none, some (.int w), o] ∧ S' = sup S p s.so ∧ (v + 1) * 2 ^ (140 * ys.length) ≤ 2 ^ 1300) ?_ ?_ _ _ _ ⟨m'.toNat, s6, o, by simp; omega, by simp, ?_⟩
                · rintro env S' ⟨v, s, o, rfl, rfl, _⟩
                  refine ⟨trivial, ?_⟩
                  simp [line2]
                  exact number_end k _ _ _ _ _ _ s
                · rintro y r env S' N ⟨v, s, o, rfl, rfl, hv⟩ hN
                  refine ⟨trivial, ?_⟩
                  have e1 : (2 : Nat) ^ (140 * (r.length + 1)) = 2 ^ (140 * r.length) * 2 ^ 140 := by rw [← Nat.pow_add]; congr 1
                  have e2 : 0 < (2 : Nat) ^ (140 * r.length) := Nat.pow_pos (by decide)
                  rw [List.length_cons, e1] at hv
                  generalize (2 : Nat) ^ (140 * r.length) = X at hv e2 hN
                  have hv' : v < 2 ^ 1300 := by
                    refine Nat.lt_of_lt_of_le (Nat.lt_succ_self v) (Nat.le_trans ?_ hv)
                    exact Nat.le_mul_of_pos_right _ (Nat.mul_pos e2 (by decide))
                  have cm : CMulW (v : Int) 10000000000000000000000000000000000000007 := wide_mul (a := 1300) (b := 140) (by simpa using hv') (by decide) (by decide) (by decide) (by decide)
                  simp [t__law_number_b1, c10, cm, line2]
                  refine nx s (by simp) (by decide) fun j s7 g6 g7 => ?_
                  simp
                  refine hN _ _ ⟨v * 10000000000000000000000000000000000000007 + j.toNat, s7, some y, by simp; omega, rfl, ?_⟩
                  refine Nat.le_trans ?_ hv
                  rw [Nat.mul_comm X, ← Nat.mul_assoc]
                  exact Nat.mul_le_mul_right _ (by omega)
                · simp [rng_len]
                  simp at hb
                  have hm : m'.toNat + 1 ≤ 2 ^ 164 := by omega
                  refine Nat.le_trans (Nat.mul_le_mul hm (Nat.pow_le_pow_right (n := 2) (by decide) (show 140 * t.toNat ≤ 980 by omega))) (by rw [← Nat.pow_add]; exact Nat.pow_le_pow_right (by decide) (by decide))
              · exact number_end k _ _ _ _ _ _ ⟨n5, a5, l5, c5, k5, o5⟩
            · exact number_end k _ _ _ _ _ _ ⟨n5, a5, l5, c5, k5, o5⟩
          · rintro y r env S' N ⟨w, o, rfl, rfl, hw, hb⟩ hN
            refine ⟨trivial, ?_⟩
            simp [t__law_number_b2, cmul_r]
            refine hN _ _ ⟨w * 10, some y, by simp, rfl, by omega, ?_⟩
            rw [List.length_cons, Nat.pow_succ] at hb
            refine Nat.le_trans ?_ hb
            rw [Nat.mul_comm (16 ^ r.length) 16, ← Nat.mul_assoc]
            exact Nat.mul_le_mul_right _ (by omega)
          · simp [rng_len]
            have : i.toNat ≤ 40 := by omega
            exact Nat.le_trans (Nat.mul_le_mul_left 10 (Nat.pow_le_pow_right (by decide) this)) (by decide)
        · try simp [line2]
          exact number_end k _ _ _ _ _ _ s2
end K77

set_option Elab.async false
set_option linter.all false
set_option maxRecDepth 100000
set_option maxHeartbeats 4000000
/-! k75: texts, octets, leaves. -/
namespace K77
open PySem PySem.Spec L2 L3
def IsInts (n : Nat) (d : D) : Prop := ∃ ns : List Int, d = .tup (ns.map D.int) ∧ ns.length < n
def sp_points : WSp := fun ds S Q _ => ∃ (p : Addr) (s : Sta), ds = [.ref p] ∧ S p = some s.so ∧ After (IsInts 1000) S p Q
theorem pt {p : Addr} (s : Sta) {S : Sto} {Q : VQ} {E : EX} {hh} (hp : S p = some s.so) (k : ∀ (ns : List Int) (s' : Sta), ns.length < 1000 → Q (.tup (ns.map D.int)) (sup S p s'.so)) : Call sp_points [.ref p] S Q E hh :=
  ⟨p, s, rfl, hp, fun r s' ⟨ns, e, h⟩ => by rw [e]; exact k ns s' h⟩
/-- a draw, with a list of the def's own beside the state -/
theorem nx2 {p q : Addr} {o : SO} (s : Sta) {m : Int} {S : Sto} {Q : VQ} {E : EX} {hh} (hq : p ≠ q) (hm : 0 < m) (k : ∀ i (s' : Sta), 0 ≤ i → i < m → Q (.int i) (sup (sup S p s'.so) q o)) : Call sp_next [.ref p, .int m] (sup (sup S p s.so) q o) Q E hh :=
  nx s (by rw [sup_ne hq]; exact sup_same) hm fun i s' h0 h1 => by
    have z := k i s' h0 h1
    rw [sup_comm hq.symm, sup_sup]
    exact z
theorem w_points (ds S Q E) (h : sp_points ds S Q E) : t__law_points sp_many sp_next (dEnds Q E) (L3.start 7 ds) S := by
  obtain ⟨p, s, rfl, hp, k⟩ := h
  simp [t__law_points, line2]
  refine mn s hp (by decide) fun n s1 h0 h1 => ?_
  simp [line2]
  intro q hq
  have hpq : p ≠ q := fun e => by subst e; simp at hq
  refine ⟨⟨by omega, by omega⟩, ?_⟩
  let menu : D := .lst [.int 34, .int 92, .int 47, .int 127, .int 128, .int 2047, .int 2048, .int 55295, .int 57344, .int 65535, .int 65536, .int 1114111]
  refine forW_inv (fun ys env S' => ∃ (ns : List Int) (s : Sta) (o1 o2 o3 : Option D), env = [some (.ref p), some menu, some (.int n), some (.ref q), o1, o2, o3] ∧ S' = sup (sup S p s.so) q (.lst (ns.map D.int)) ∧ ns.length + ys.length < 1000) ?_ ?_ _ _ _ ⟨[], s1, none, none, none, rfl, by simp, by simp [rng_len]; omega⟩
  · rintro env S' ⟨ns, s, o1, o2, o3, rfl, rfl, hl⟩
    refine ⟨trivial, ?_⟩
    simp
    have hq' : sup S p s.so q = none := by rw [sup_ne (Ne.symm hpq)]; rw [sup_ne (Ne.symm hpq)] at hq; exact hq
    rw [sdel_sup hq']
    exact k _ s ⟨ns, rfl, by simpa using hl⟩
  · rintro y r env S' N ⟨ns, s, o1, o2, o3, rfl, rfl, hl⟩ hN
    refine ⟨trivial, ?_⟩
    simp at hl
    have hz : ns.length < 16777216 := by omega
    have done : ∀ (z : Int) (s : Sta) (o1 o2 o3 : Option D), N [some (.ref p), some menu, some (.int n), some (.ref q), o1, o2, o3] (sup (sup S p s.so) q (.lst (ns.map D.int ++ [.int z]))) := fun z s o1 o2 o3 => hN _ _ ⟨ns ++ [z], s, o1, o2, o3, rfl, by simp, by simp; omega⟩
    simp [t__law_points_b1]
    refine nx2 s hpq (by decide) fun pick s2 _ _ => ?_
    simp
    refine nx2 s2 hpq (by decide) fun i s3 _ _ => ?_
    simp
    have fin : ∀ (z pick : Int) (s : Sta) (o1 o2 : Option D), pick ≠ 0 → pick ≠ 1 → pick ≠ 2 → True := fun _ _ _ _ _ _ _ _ => trivial
    have m1 : ∀ x : Int, CMul 1112 x := fun x => cmul_l (by decide) (by decide)
    have m2 : ∀ x : Int, CMul 2048 x := fun x => cmul_l (by decide) (by decide)
    split
    · rename_i e; subst e
      refine nx2 s3 hpq (by decide) fun j s4 g0 g1 => ?_
      simp [menu]
      refine at_use g0 (by simpa using g1) fun d hd => ?_
      have : ∃ z, d = .int z := by
        simp at hd
        rcases hd with rfl | rfl | rfl | rfl | rfl | rfl | rfl | rfl | rfl | rfl | rfl | rfl <;> exact ⟨_, rfl⟩
      obtain ⟨z, rfl⟩ := this
      simp [line2, hz]
      exact done _ _ _ _ _
    · split
      · rename_i e; subst e
        refine nx2 s3 hpq (by decide) fun j s4 g0 g1 => ?_
        simp [line2, hz]
        exact done _ _ _ _ _
      · split
        · rename_i e; subst e
          refine nx2 s3 hpq (by decide) fun j s4 g0 g1 => ?_
          simp [m1]
          refine nx2 s4 hpq (by decide) fun j2 s5 g2 g3 => ?_
          simp [m2, line2, hz]
          exact done _ _ _ _ _
        · simp [line2, hz]
          exact done _ _ _ _ _
def sp_octets : WSp := fun ds S Q _ => ∃ (p : Addr) (s : Sta), ds = [.ref p] ∧ S p = some s.so ∧ After (IsInts 1000) S p Q
theorem oc {p : Addr} (s : Sta) {S : Sto} {Q : VQ} {E : EX} {hh} (hp : S p = some s.so) (k : ∀ (ns : List Int) (s' : Sta), ns.length < 1000 → Q (.tup (ns.map D.int)) (sup S p s'.so)) : Call sp_octets [.ref p] S Q E hh :=
  ⟨p, s, rfl, hp, fun r s' ⟨ns, e, h⟩ => by rw [e]; exact k ns s' h⟩
theorem w_octets (ds S Q E) (h : sp_octets ds S Q E) : t__law_octets sp_many sp_next (dEnds Q E) (L3.start 5 ds) S := by
  obtain ⟨p, s, rfl, hp, k⟩ := h
  simp [t__law_octets, line2]
  refine mn s hp (by decide) fun n s1 h0 h1 => ?_
  simp [line2]
  refine nx s1 (by simp) (by decide) fun i s2 g0 g1 => ?_
  simp
  refine at_use g0 (by simpa using g1) fun d hd => ?_
  have : ∃ lo sp, d = .tup [.int lo, .int sp] ∧ 0 < sp := by
    simp at hd
    rcases hd with rfl | rfl | rfl <;> exact ⟨_, _, rfl, by decide⟩
  obtain ⟨lo, sp, rfl, hsp⟩ := this
  simp
  refine ⟨⟨by omega, by omega⟩, ?_⟩
  refine lcW_inv (fun ys acc S' => ∃ (ns : List Int) (s : Sta), acc = ns.map D.int ∧ S' = sup S p s.so ∧ ns.length + ys.length < 1000) ?_ ?_ _ _ _ ⟨[], s2, rfl, by simp, by simp [rng_len]; omega⟩
  · rintro acc S' ⟨ns, s, rfl, rfl, hl⟩
    refine ⟨trivial, ?_⟩
    simp
    exact k _ s ⟨ns, rfl, by simpa using hl⟩
  · rintro y r acc S' N ⟨ns, s, rfl, rfl, hl⟩ hN
    refine ⟨trivial, ?_⟩
    simp [t__law_octets_e1]
    refine nx s (by simp) hsp fun j s4 g0 g1 => ?_
    simp at hl
    simp [line2]
    exact ⟨by omega, hN _ _ ⟨ns ++ [lo + j], s4, by simp, rfl, by simp; omega⟩⟩
/-- a value without parts -/
inductive IsLeaf : D → Prop
  | null : IsLeaf (.tup [.str "null"])
  | truth (b : Bool) : IsLeaf (.tup [.str "truth", .bl b])
  | num (m e : Int) : IsLeaf (.tup [.str "number", .int m, .int e])
  | bytes (ns : List Int) : ns.length < 1000 → IsLeaf (.tup [.str "bytes", .tup (ns.map D.int)])
  | text (ns : List Int) : ns.length < 1000 → IsLeaf (.tup [.str "text", .tup (ns.map D.int)])
def sp_leaf : WSp := fun ds S Q _ => ∃ (p : Addr) (s : Sta) (ks : List Str), ds = [.ref p, .lst (ks.map D.str)] ∧ S p = some s.so ∧ 0 < ks.length ∧ After IsLeaf S p Q
theorem w_leaf (ds S Q E) (h : sp_leaf ds S Q E) : t__law_leaf sp_next sp_number sp_octets sp_points (dEnds Q E) (L3.start 3 ds) S := by
  obtain ⟨p, s, ks, rfl, hp, hk, k⟩ := h
  simp [t__law_leaf, line2]
  refine nx s hp (by omega) fun i s1 h0 h1 => ?_
  simp
  refine at_use h0 (by simpa using h1) fun d hd => ?_
  obtain ⟨z, _, rfl⟩ := List.mem_map.mp hd
  simp
  split
  · refine nx s1 (by simp) (by decide) fun j s2 _ _ => ?_
    simp [line2]
    exact k _ s2 (.truth _)
  · split
    · refine ⟨p, s1, rfl, by simp, fun r s2 ⟨m, e, he⟩ => ?_⟩
      subst he
      simp
      exact k _ s2 (.num _ _)
    · split
      · refine oc s1 (by simp) fun ns s2 hn => ?_
        simp [line2]
        exact k _ s2 (.bytes _ hn)
      · split
        · refine pt s1 (by simp) fun ns s2 hn => ?_
          simp [line2]
          exact k _ s2 (.text _ hn)
        · simp [line2]
          exact k _ s1 .null
end K77

set_option Elab.async false
set_option linter.all false
set_option maxRecDepth 100000
set_option maxHeartbeats 4000000
/-! k75: values, depth. -/
namespace K77
open PySem PySem.Spec L2 L3
/-- rows by their keys -/
def Srt (es : List (List Int × D)) : Prop := es.Pairwise fun e f => HT.lexLt e.1 f.1 = true
theorem Srt.nodup {es : List (List Int × D)} (h : Srt es) : (es.map (·.1)).Nodup := by
  unfold List.Nodup
  rw [List.pairwise_map]
  refine h.imp fun {e f} z c => ?_
  rw [c, lex_irr] at z
  cases z
/-- a value of at most n levels, each with at most B parts -/
def VB (B : Nat) : Nat → D → Prop
  | 0, d => IsLeaf d
  | n + 1, d => IsLeaf d ∨ (∃ xs, d = .tup [.str "list", .tup xs] ∧ xs.length ≤ B ∧ ∀ x ∈ xs, VB B n x) ∨
    ∃ es : List (List Int × D), d = .tup [.str "map", .tup (es.map ent)] ∧ es.length ≤ B ∧ Srt es ∧ ∀ e ∈ es, e.1.length < 1000 ∧ VB B n e.2
abbrev Vl : Nat → D → Prop := VB 2000
theorem VB.leaf {B : Nat} {d : D} (h : IsLeaf d) : ∀ n, VB B n d
  | 0 => h
  | n + 1 => .inl h
theorem VB.up {B : Nat} : ∀ {n : Nat} {d : D}, VB B n d → VB B (n + 1) d
  | 0, d, h => .inl h
  | n + 1, d, h => by
    rcases h with h | ⟨xs, e, hl, h⟩ | ⟨es, e, hl, hn, h⟩
    · exact .inl h
    · exact .inr (.inl ⟨xs, e, hl, fun x hx => (h x hx).up⟩)
    · exact .inr (.inr ⟨es, e, hl, hn, fun x hx => ⟨(h x hx).1, (h x hx).2.up⟩⟩)
theorem VB.mono {B n m : Nat} {d : D} (h : VB B n d) (le : n ≤ m) : VB B m d := by
  induction le with
  | refl => exact h
  | step _ ih => exact ih.up
theorem VB.wide {B B' : Nat} (le : B ≤ B') : ∀ {n : Nat} {d : D}, VB B n d → VB B' n d
  | 0, d, h => h
  | n + 1, d, h => by
    rcases h with h | ⟨xs, e, hl, h⟩ | ⟨es, e, hl, hn, h⟩
    · exact .inl h
    · exact .inr (.inl ⟨xs, e, Nat.le_trans hl le, fun x hx => (h x hx).wide le⟩)
    · exact .inr (.inr ⟨es, e, Nat.le_trans hl le, hn, fun x hx => ⟨(h x hx).1, (h x hx).2.wide le⟩⟩)
theorem leaf_head {d : D} (h : IsLeaf d) : ∃ nm r, d = .tup (.str nm :: r) ∧ nm ≠ "list" ∧ nm ≠ "map" := by
  cases h <;> exact ⟨_, _, rfl, by decide, by decide⟩
theorem map_list : ("map" : Str) ≠ "list" := by decide
/-- what a value is, one level of it -/
theorem VB.look {B n : Nat} {d : D} (h : VB B n d) : (∃ nm r, d = .tup (.str nm :: r) ∧ nm ≠ "list" ∧ nm ≠ "map" ∧ IsLeaf d) ∨
    ∃ m, n = m + 1 ∧ ((∃ xs, d = .tup [.str "list", .tup xs] ∧ xs.length ≤ B ∧ ∀ x ∈ xs, VB B m x) ∨
    ∃ es : List (List Int × D), d = .tup [.str "map", .tup (es.map ent)] ∧ es.length ≤ B ∧ Srt es ∧ ∀ e ∈ es, e.1.length < 1000 ∧ VB B m e.2) := by
  cases n with
  | zero =>
    obtain ⟨nm, r, e, h1, h2⟩ := leaf_head h
    exact .inl ⟨nm, r, e, h1, h2, h⟩
  | succ m =>
    rcases h with h | h
    · obtain ⟨nm, r, e, h1, h2⟩ := leaf_head h
      exact .inl ⟨nm, r, e, h1, h2, h⟩
    · exact .inr ⟨m, rfl, h⟩
theorem after2 {p q : Addr} {o : SO} {s : Sta} {S : Sto} {Q : VQ} {G : D → Prop} (hq : p ≠ q) (k : ∀ r (s' : Sta), G r → Q r (sup (sup S p s'.so) q o)) : After G (sup (sup S p s.so) q o) p Q := fun r s' g => by
  have z := k r s' g
  rw [sup_comm hq.symm, sup_sup]
  exact z
theorem at2 {p q : Addr} {o : SO} {s : Sta} {S : Sto} (hq : p ≠ q) : sup (sup S p s.so) q o p = some s.so := by rw [sup_ne hq]; exact sup_same
theorem toPy_ints : ∀ ns : List Int, toPys (ns.map D.int) = some (ns.map .int)
  | [] => by simp [toPys]
  | n :: ns => by simp [toPys, toPy, toPy_ints ns]
theorem lay_ints : ∀ ns : List Int, PyData.canLayAll0 (ns.map .int) = true
  | [] => by simp [PyData.canLayAll0]
  | n :: ns => by simp [PyData.canLayAll0, PyData.canLay0, lay_ints ns]
def keyD (k : List Int) : D := .tup (k.map D.int)
theorem py_key (k : List Int) : toPy (keyD k) = some (.tuple (k.map .int)) := by simp [keyD, toPy, toPy_ints]
theorem py_keys : ∀ ks : List (List Int), toPys (ks.map keyD) = some (ks.map fun k => .tuple (k.map .int))
  | [] => by simp [toPys]
  | k :: ks => by simp [toPys, py_key, py_keys ks]
theorem dep_keys : ∀ ks : List (List Int), PyData.depthAll (ks.map fun k => PyData.tuple (k.map .int)) ≤ 1 ∧ PyData.canLayAll0 (ks.map fun k => PyData.tuple (k.map .int)) = true
  | [] => by simp [PyData.depthAll, PyData.canLayAll0]
  | k :: ks => by
    obtain ⟨h1, h2⟩ := dep_keys ks
    simp [PyData.depthAll, PyData.canLayAll0, PyData.canLay0, PyData.depth, lay_ints, plain_ints, h2]
    omega
theorem in_keys (k : List Int) (ks : List (List Int)) : InD (keyD k) (ks.map keyD) (decide (k ∈ ks)) := by
  refine .inr ⟨_, _, py_key k, py_keys ks, ?_, ?_, ?_⟩
  · simp [SeqAt.shaped, PyData.canLay0, PyData.depth, lay_ints, plain_ints]
  · obtain ⟨h1, h2⟩ := dep_keys ks
    simp [SeqAt.shaped, PyData.canLay0, PyData.depth, h2]
    omega
  · induction ks with
    | nil => simp
    | cons x ks ih =>
      simp only [List.map_cons, List.any_cons, ih, PyData.eqv, eqvAll_ints]
      by_cases e : x = k
      · simp [e]
      · have e' : ¬ k = x := fun z => e z.symm
        simp [e, e']
theorem in_keys2 (k : List Int) (es : List (List Int × D)) : InD (.tup (k.map D.int)) (es.map (keyD ∘ fun x => x.1)) (decide (k ∈ es.map (·.1))) := by
  have z := in_keys k (es.map (·.1))
  rw [List.map_map] at z
  exact z
def sp_value (k : Nat) : WSp := fun ds S Q _ => ∃ (p : Addr) (s : Sta) (deep : Nat) (ks : List Str) (hm : Bool), deep < k ∧ ds = [.ref p, .int deep, .lst (ks.map D.str), .bl hm] ∧ S p = some s.so ∧ 0 < ks.length ∧ After (VB 49 deep) S p Q
theorem w_value (k : Nat) (ds S Q E) (h : sp_value (k + 1) ds S Q E) : t__law_value sp_leaf sp_many sp_next sp_points (sp_value k) (dEnds Q E) (L3.start 10 ds) S := by
  obtain ⟨p, s, deep, ks, hm, hd, rfl, hp, hk, q⟩ := h
  obtain ⟨n0, a0, l0, c0, k0, o0⟩ := s
  simp only [Sta.so] at hp
  simp [t__law_value, hp, ixN]
  refine nx ⟨n0, a0, l0 - 1, c0, k0, o0⟩ (by simp [Sta.so]) (by decide) fun pick s1 g0 g1 => ?_
  obtain ⟨n1, a1, l1, c1, k1, o1⟩ := s1
  simp [Sta.so]
  have leaf : ∀ E, Call sp_leaf [.ref p, .lst (ks.map D.str)] (sup S p (SO.lst [.lst (n1.map D.int), .int a1, .int l1, .fix (c1.map D.int), .int k1])) Q E .mk := fun E =>
    ⟨p, ⟨n1, a1, l1, c1, k1, o1⟩, ks, rfl, by simp [Sta.so], hk, fun r s' g => by rw [sup_sup]; exact q r s' (VB.leaf g deep)⟩
  split
  · exact leaf _
  · split
    · exact leaf _
    · split
      · exact leaf _
      · rename_i h0 h1 h2
        obtain ⟨m, rfl⟩ : ∃ m, deep = m + 1 := ⟨deep - 1, by omega⟩
        refine mn ⟨n1, a1, l1, c1, k1, o1⟩ (by simp [Sta.so]) (by decide) fun many s2 g2 g3 => ?_
        have hdeep : ((m + 1 : Nat) : Int) - 1 = (m : Nat) := by omega
        have lst : ∀ (Qd : List D → Sto → Prop), (∀ xs (s : Sta), xs.length ≤ 49 → (∀ x ∈ xs, VB 49 m x) → Qd xs (sup S p s.so)) → LcC (gNm 7) vYes (t__law_value_e2 sp_leaf sp_many sp_next sp_points (sp_value k)) Always [some (.ref p), some (.int ((m : Int) + 1)), some (.lst (ks.map D.str)), some (.bl hm), some (.int pick), some (.int many), none, none, none, none] Qd (rngD 0 many.toNat) [] (sup S p s2.so) .mk := fun Qd hQ => by
          refine lcW_inv (fun ys acc S' => ∃ (s : Sta), S' = sup S p s.so ∧ acc.length + ys.length ≤ 49 ∧ ∀ x ∈ acc, VB 49 m x) ?_ ?_ _ _ _ ⟨s2, rfl, by simp [rng_len]; omega, fun x hx => (by cases hx)⟩
          · rintro acc S' ⟨s, rfl, hl, hv⟩
            exact ⟨trivial, hQ acc s (by simpa using hl) hv⟩
          · rintro y r acc S' N ⟨s, rfl, hl, hv⟩ hN
            refine ⟨trivial, ?_⟩
            simp at hl
            simp [t__law_value_e2]
            refine ⟨p, s, m, ks, hm, by omega, rfl, by simp, hk, fun v s' hv' => ?_⟩
            simp [line2]
            refine ⟨by omega, hN _ _ ⟨s', rfl, by simp; omega, fun x hx => ?_⟩⟩
            rcases List.mem_append.mp hx with hx | hx
            · exact hv x hx
            · rw [List.mem_singleton.mp hx]; exact hv'
        have both : (-4611686018427387904 ≤ many ∧ many < 4611686018427387904) := ⟨by omega, by omega⟩
        simp [line2]
        split
        · refine ⟨both, lst _ fun xs s hl hv => ?_⟩
          simp [line2]
          exact q _ s (.inr (.inl ⟨xs, rfl, hl, hv⟩))
        · split
          · intro e he
            have hpe : p ≠ e := fun z => by subst z; simp at he
            refine ⟨both, ?_⟩
            refine forW_inv (fun ys env S' => ∃ (es : List (List Int × D)) (s : Sta) (o1 o2 o3 : Option D), env = [some (.ref p), some (.int ((m : Int) + 1)), some (.lst (ks.map D.str)), some (.bl hm), some (.int pick), some (.int many), some (.ref e), o1, o2, o3] ∧ S' = sup (sup S p s.so) e (.lst (es.map ent)) ∧ es.length + ys.length ≤ 49 ∧ (es.map (·.1)).Nodup ∧ ∀ x ∈ es, x.1.length < 1000 ∧ VB 49 m x.2) ?_ ?_ _ _ _ ⟨[], s2, none, none, none, rfl, by simp, by simp [rng_len]; omega, by simp, fun x hx => (by cases hx)⟩
            · rintro env S' ⟨es, s, o1, o2, o3, rfl, rfl, hl, hn, hv⟩
              refine ⟨trivial, ?_⟩
              have he' : sup S p s.so e = none := by rw [sup_ne (Ne.symm hpe)]; rw [sup_ne (Ne.symm hpe)] at he; exact he
              simp [sdel_sup he']
              refine ⟨es, by simp, hn, fun fs pf hs => ?_⟩
              simp [line2]
              exact q _ s (.inr (.inr ⟨fs, by simp, by rw [pf.length_eq]; simpa using hl, hs, fun x hx => hv x (pf.mem_iff.mp hx)⟩))
            · rintro y r env S' N ⟨es, s, o1, o2, o3, rfl, rfl, hl, hn, hv⟩ hN
              refine ⟨trivial, ?_⟩
              simp at hl
              simp [t__law_value_b1]
              refine ⟨p, s, rfl, at2 hpe, after2 hpe fun key s3 hkey => ?_⟩
              obtain ⟨kn, rfl, hkl⟩ := hkey
              simp
              refine lcW_pure (fun d => match d with | .tup (x :: _) => some x | _ => none) (by simp) _ _ (by simp [line2]; omega) (fun y hy A B hh => ?_) ?_
              · obtain ⟨x, _, rfl⟩ := List.mem_map.mp hy
                simpa [t__law_value_e1] using hh
              · have e1 : ∀ es : List (List Int × D), (es.map ent).filterMap (fun d => match d with | .tup (x :: _) => some x | _ => none) = (es.map (·.1)).map keyD := fun es => by
                  induction es with
                  | nil => rfl
                  | cons x es ih => simp only [List.map_cons, ent, List.filterMap_cons, ih, keyD]
                rw [List.nil_append, e1]
                simp
                refine ⟨_, in_keys2 kn es, ?_⟩
                simp
                by_cases hin : kn ∈ es.map (·.1)
                · simp only [hin, decide_true, Bool.not_true, Bool.false_eq_true, if_false]
                  exact hN _ _ ⟨es, s3, some y, _, o3, rfl, rfl, by omega, hn, hv⟩
                · simp only [hin, decide_false, Bool.not_false, if_true]
                  refine ⟨p, s3, m, ks, hm, by omega, rfl, at2 hpe, hk, after2 hpe fun v s4 hv4 => ?_⟩
                  simp [line2]
                  refine ⟨by omega, hN _ _ ⟨es ++ [(kn, v)], s4, some y, _, o3, rfl, by simp, by simp; omega, ?_, fun x hx => ?_⟩⟩
                  · rw [List.map_append, List.nodup_append]
                    refine ⟨hn, by simp, fun a ha b hb => ?_⟩
                    simp at hb
                    subst hb
                    exact fun z => hin (z ▸ ha)
                  · rcases List.mem_append.mp hx with hx | hx
                    · exact hv x hx
                    · rw [List.mem_singleton.mp hx]; exact ⟨hkl, hv4⟩
          · refine ⟨both, lst _ fun xs s hl hv => ?_⟩
            simp [line2]
            exact q _ s (.inr (.inl ⟨xs, rfl, hl, hv⟩))
end K77

set_option Elab.async false
set_option linter.all false
set_option maxRecDepth 100000
set_option maxHeartbeats 4000000
/-! k76: steps and ways, depth. -/
namespace K77
open PySem PySem.Spec L2 L3
/-- a list, a map -/
abbrev lsD (xs : List D) : D := .tup [.str "list", .tup xs]
abbrev mpD (es : List (List Int × D)) : D := .tup [.str "map", .tup (es.map ent)]
theorem ints_inj : ∀ {k l : List Int}, k.map D.int = l.map D.int → k = l
  | [], [], _ => rfl
  | [], _ :: _, h => by cases h
  | _ :: _, [], h => by cases h
  | a :: k, b :: l, h => by
    simp only [List.map_cons, List.cons.injEq, D.int.injEq] at h
    rw [h.1, ints_inj h.2]
theorem key_inj {k l : List Int} (h : keyD k = keyD l) : k = l := by
  unfold keyD at h
  exact ints_inj (D.tup.inj h)
theorem ents_inj : ∀ {es fs : List (List Int × D)}, es.map ent = fs.map ent → es = fs
  | [], [], _ => rfl
  | [], _ :: _, h => by cases h
  | _ :: _, [], h => by cases h
  | (a, b) :: es, (c, d) :: fs, h => by
    simp only [List.map_cons, List.cons.injEq, ent, D.tup.injEq] at h
    obtain ⟨⟨h1, h2, _⟩, h3⟩ := h
    rw [ints_inj h1, h2, ents_inj h3]
theorem not_leaf_list {xs : List D} : ¬ IsLeaf (lsD xs) := fun h => by
  obtain ⟨nm, r, e, h1, _⟩ := leaf_head h
  simp only [lsD, D.tup.injEq, List.cons.injEq, D.str.injEq] at e
  exact h1 e.1.symm
theorem not_leaf_map {es : List (List Int × D)} : ¬ IsLeaf (mpD es) := fun h => by
  obtain ⟨nm, r, e, _, h1⟩ := leaf_head h
  simp only [mpD, D.tup.injEq, List.cons.injEq, D.str.injEq] at e
  exact h1 e.1.symm
theorem list_ne_map {xs : List D} {es : List (List Int × D)} : lsD xs ≠ mpD es := fun e => by
  simp only [lsD, mpD, D.tup.injEq, List.cons.injEq, D.str.injEq] at e
  exact absurd e.1 (by decide)
theorem vl_list {B j : Nat} {xs : List D} : VB B j (lsD xs) ↔ ∃ i, j = i + 1 ∧ xs.length ≤ B ∧ ∀ x ∈ xs, VB B i x := by
  constructor
  · intro h
    cases j with
    | zero => exact absurd h not_leaf_list
    | succ i =>
      rcases h with h | ⟨ys, e, hl, h⟩ | ⟨es, e, _⟩
      · exact absurd h not_leaf_list
      · simp only [D.tup.injEq, List.cons.injEq] at e
        obtain ⟨_, e, _⟩ := e
        subst e
        exact ⟨i, rfl, hl, h⟩
      · exact absurd e list_ne_map
  · rintro ⟨i, rfl, hl, h⟩
    exact .inr (.inl ⟨xs, rfl, hl, h⟩)
theorem vl_map {B j : Nat} {es : List (List Int × D)} : VB B j (mpD es) ↔ ∃ i, j = i + 1 ∧ es.length ≤ B ∧ Srt es ∧ ∀ e ∈ es, e.1.length < 1000 ∧ VB B i e.2 := by
  constructor
  · intro h
    cases j with
    | zero => exact absurd h not_leaf_map
    | succ i =>
      rcases h with h | ⟨ys, e, hl, h⟩ | ⟨fs, e, hl, hn, h⟩
      · exact absurd h not_leaf_map
      · exact absurd e.symm list_ne_map
      · simp only [D.tup.injEq, List.cons.injEq] at e
        obtain ⟨_, e, _⟩ := e
        rw [ents_inj e]
        exact ⟨i, rfl, hl, hn, h⟩
  · rintro ⟨i, rfl, hl, hn, h⟩
    exact .inr (.inr ⟨es, rfl, hl, hn, h⟩)
/-- few parts, few levels: few parts at these levels -/
theorem VB.both {B B' : Nat} : ∀ {n j : Nat} {d : D}, VB B n d → VB B' j d → VB B j d
  | n, j, d, h, h' => by
    rcases h.look with ⟨nm, r, rfl, _, _, hl⟩ | ⟨m, rfl, ⟨xs, rfl, hl, hx⟩ | ⟨es, rfl, hl, hs, hx⟩⟩
    · exact VB.leaf hl j
    · obtain ⟨i, rfl, _, h2⟩ := vl_list.mp h'
      exact vl_list.mpr ⟨i, rfl, hl, fun x hx' => (hx x hx').both (h2 x hx')⟩
    · obtain ⟨i, rfl, _, _, h2⟩ := vl_map.mp h'
      exact vl_map.mpr ⟨i, rfl, hl, hs, fun x hx' => ⟨(hx x hx').1, (hx x hx').2.both (h2 x hx').2⟩⟩
/-- the parts of a value: which step leads to which -/
def steps : D → List (D × D)
  | .tup [.str a, .tup xs] => if a = "list" then xs.zipIdx.map (fun p => (.int (p.2 : Int), p.1)) else if a = "map" then xs.filterMap (fun
    | .tup [k, v] => some (k, v)
    | _ => none) else []
  | _ => []
theorem steps_leaf {d : D} (h : IsLeaf d) : steps d = [] := by
  cases h <;> first | rfl | (simp only [steps]; rw [if_neg (by decide), if_neg (by decide)])
theorem steps_list {xs : List D} : steps (lsD xs) = xs.zipIdx.map (fun p => (.int (p.2 : Int), p.1)) := by
  simp only [steps]; rw [if_pos trivial]
theorem steps_map {es : List (List Int × D)} : steps (mpD es) = es.map (fun e => (keyD e.1, e.2)) := by
  simp only [steps]; rw [if_neg (by decide), if_pos trivial]
  induction es with
  | nil => rfl
  | cons e es ih => simp only [List.map_cons, ent, List.filterMap_cons, ih, keyD]
/-- the ways into a value, f levels deep at most -/
def ways : Nat → D → List (List D)
  | 0, _ => [[]]
  | f + 1, d => [] :: (steps d).flatMap fun p => (ways f p.2).map (p.1 :: ·)
def W : Nat → Nat
  | 0 => 1
  | n + 1 => 1 + 49 * W n
theorem sum_le {α : Type} {g : α → Nat} {B : Nat} : ∀ {l : List α}, (∀ x ∈ l, g x ≤ B) → (l.map g).sum ≤ l.length * B
  | [], _ => by simp
  | a :: l, h => by
    have h1 := h a List.mem_cons_self
    have h2 := sum_le (l := l) fun x hx => h x (List.mem_cons_of_mem _ hx)
    simp only [List.map_cons, List.sum_cons, List.length_cons, Nat.add_mul]
    omega
theorem ways_len (f : Nat) (d : D) : (ways (f + 1) d).length = 1 + ((steps d).map fun p => (ways f p.2).length).sum := by
  simp only [ways, List.length_cons, List.length_flatMap, List.length_map]
  omega
/-- what is known of the parts -/
theorem VB.parts {B n : Nat} {d : D} (h : VB B n d) : (steps d).length ≤ B ∧ ∀ q ∈ steps d, ∃ m, n = m + 1 ∧ VB B m q.2 := by
  rcases h.look with ⟨nm, r, rfl, h1, h2, hl⟩ | ⟨m, rfl, ⟨xs, rfl, hl, hv⟩ | ⟨es, rfl, hl, hn, hv⟩⟩
  · rw [steps_leaf hl]
    exact ⟨by simp, fun q hq => (by cases hq)⟩
  · rw [steps_list]
    refine ⟨by simpa using hl, fun q hq => ?_⟩
    obtain ⟨⟨x, i⟩, hx, rfl⟩ := List.mem_map.mp hq
    exact ⟨m, rfl, hv x (List.fst_mem_of_mem_zipIdx hx)⟩
  · rw [steps_map]
    refine ⟨by simpa using hl, fun q hq => ?_⟩
    obtain ⟨e, he, rfl⟩ := List.mem_map.mp hq
    exact ⟨m, rfl, (hv e he).2⟩
theorem W_pos : ∀ n, 1 ≤ W n
  | 0 => Nat.le_refl _
  | n + 1 => by simp only [W]; omega
theorem ways_le : ∀ {n : Nat} {d : D}, VB 49 n d → ∀ f, (ways f d).length ≤ W n
  | n, d, h, 0 => by simp only [ways, List.length_singleton]; exact W_pos n
  | n, d, h, f + 1 => by
    rw [ways_len]
    obtain ⟨h1, h2⟩ := h.parts
    cases n with
    | zero =>
      have e : steps d = [] := by
        cases q : steps d with
        | nil => rfl
        | cons a l =>
          obtain ⟨m, e, _⟩ := h2 a (by rw [q]; exact List.mem_cons_self)
          cases e
      rw [e]; simp [W]
    | succ m =>
      have := sum_le (l := steps d) (g := fun p => (ways f p.2).length) (B := W m) fun q hq => by
        obtain ⟨m', e, hv⟩ := h2 q hq
        cases e
        exact ways_le hv f
      have := Nat.mul_le_mul_right (W m) h1
      simp only [W]; omega
/-! ### depth -/
/-- d has just n levels -/
def Mn (d : D) (n : Nat) : Prop := Vl n d ∧ ∀ j, Vl j d → n ≤ j
theorem Mn.one {d : D} {n m : Nat} (h : Mn d n) (h' : Mn d m) : n = m := Nat.le_antisymm (h.2 _ h'.1) (h'.2 _ h.1)
theorem mn_leaf {d : D} (h : IsLeaf d) : Mn d 0 := ⟨h, fun j _ => Nat.zero_le j⟩
/-- the greatest of the parts' levels -/
theorem top_of {xs : List D} {ns : List Nat} (h : Paired Mn xs ns) {m : Nat} (hm : m ∈ 0 :: ns) (ht : ∀ y ∈ 0 :: ns, y ≤ m) : (∀ x ∈ xs, Vl m x) ∧ ∀ j, (∀ x ∈ xs, Vl j x) → m ≤ j := by
  have up : ∀ {xs : List D} {ns : List Nat}, Paired Mn xs ns → (∀ y ∈ ns, y ≤ m) → ∀ x ∈ xs, Vl m x := by
    intro xs ns h
    induction h with
    | nil => exact fun _ x hx => (by cases hx)
    | @cons x n xs ns h1 h2 ih =>
      intro hy y hy'
      rcases List.mem_cons.mp hy' with rfl | hy'
      · exact h1.1.mono (hy n List.mem_cons_self)
      · exact ih (fun z hz => hy z (List.mem_cons_of_mem _ hz)) y hy'
  have dn : ∀ {xs : List D} {ns : List Nat}, Paired Mn xs ns → ∀ j, (∀ x ∈ xs, Vl j x) → ∀ y ∈ ns, y ≤ j := by
    intro xs ns h
    induction h with
    | nil => exact fun _ _ x hx => (by cases hx)
    | @cons x n xs ns h1 h2 ih =>
      intro j hj y hy'
      rcases List.mem_cons.mp hy' with rfl | hy'
      · exact h1.2 j (hj x List.mem_cons_self)
      · exact ih j (fun z hz => hj z (List.mem_cons_of_mem _ hz)) y hy'
  refine ⟨up h fun y hy => ht y (List.mem_cons_of_mem _ hy), fun j hj => ?_⟩
  rcases List.mem_cons.mp hm with rfl | hm
  · exact Nat.zero_le j
  · exact dn h j hj m hm
theorem mn_list {xs : List D} {ns : List Nat} (hl : xs.length ≤ 2000) (h : Paired Mn xs ns) {m : Nat} (hm : m ∈ 0 :: ns) (ht : ∀ y ∈ 0 :: ns, y ≤ m) : Mn (lsD xs) (m + 1) := by
  obtain ⟨h1, h2⟩ := top_of h hm ht
  refine ⟨vl_list.mpr ⟨m, rfl, hl, h1⟩, fun j hj => ?_⟩
  obtain ⟨i, rfl, _, h3⟩ := vl_list.mp hj
  have := h2 i h3
  omega
theorem mn_map {es : List (List Int × D)} {ns : List Nat} {n : Nat} (hv : Vl n (mpD es)) (h : Paired Mn (es.map (·.2)) ns) {m : Nat} (hm : m ∈ 0 :: ns) (ht : ∀ y ∈ 0 :: ns, y ≤ m) : Mn (mpD es) (m + 1) := by
  obtain ⟨h1, h2⟩ := top_of h hm ht
  obtain ⟨i, rfl, hl, hs, h3⟩ := vl_map.mp hv
  refine ⟨vl_map.mpr ⟨m, rfl, hl, hs, fun e he => ⟨(h3 e he).1, h1 _ (List.mem_map.mpr ⟨e, he, rfl⟩)⟩⟩, fun j hj => ?_⟩
  obtain ⟨i, rfl, _, _, h4⟩ := vl_map.mp hj
  have := h2 i fun x hx => by
    obtain ⟨e, he, rfl⟩ := List.mem_map.mp hx
    exact (h4 e he).2
  omega
def sp_depth (k : Nat) : WSp := fun ds S Q _ => ∃ (n : Nat) (d : D), n < k ∧ ds = [d] ∧ Vl n d ∧ ∀ i : Nat, Mn d i → Q (.int i) S
theorem paired_snoc {xs : List D} {ns : List Nat} {x : D} {n : Nat} (h : Paired Mn xs ns) (hx : Mn x n) : Paired Mn (xs ++ [x]) (ns ++ [n]) := by
  induction h with
  | nil => exact .cons hx .nil
  | cons h1 h2 ih => exact .cons h1 ih
theorem depth_lc {S : Sto} {env : L3.Env} {g : WG} {te : WE} {Qd : List D → Sto → Prop} {f : D → D} {xs : List D} {hh} (hl : xs.length ≤ 2000)
    (ht : ∀ x ∈ xs, ∀ A : D → Sto → Prop, (∀ i : Nat, Mn (f x) i → A (.int i) S) → g x env S (fun e1 S1 => te e1 S1 A NoEx)) (hQ : ∀ ns : List Nat, Paired Mn (xs.map f) ns → ns.length ≤ 2000 → Qd (ns.map fun n : Nat => D.int n) S) : LcC g vYes te Always env Qd xs [] S hh := by
  refine lcW_inv (fun ys acc S' => ∃ (ns : List Nat) (a : List D), acc = ns.map (fun n : Nat => D.int n) ∧ S' = S ∧ xs = a ++ ys ∧ Paired Mn (a.map f) ns ∧ ns.length = a.length) ?_ ?_ _ _ _ ⟨[], [], rfl, rfl, rfl, .nil, rfl⟩
  · rintro acc S' ⟨ns, a, rfl, rfl, e, h, hn⟩
    rw [List.append_nil] at e
    subst e
    exact ⟨trivial, hQ ns h (by omega)⟩
  · rintro y r acc S' N ⟨ns, a, rfl, rfl, e, h, hn⟩ hN
    refine ⟨trivial, ?_⟩
    have hlen := congrArg List.length e
    simp at hlen
    simp only [vYes_eq, if_true]
    refine ht y (by rw [e]; simp) _ fun i hi => ⟨by simp [line2]; omega, hN _ _ ⟨ns ++ [i], a ++ [y], by simp, rfl, by simp [e], ?_, by simp [hn]⟩⟩
    rw [List.map_append]
    exact paired_snoc h hi
theorem max_use {ns : List Nat} {S : Sto} {Q : VQ} {hh} (h : ∀ m : Nat, m ∈ 0 :: ns → (∀ y ∈ 0 :: ns, y ≤ m) → Q (.int m) S) : RMax [.lst (.int 0 :: ns.map fun n : Nat => D.int n)] S Q hh := by
  refine ⟨(0 :: ns).map (fun n : Nat => (n : Int)), by simp, by simp, fun m hm ht => ?_⟩
  obtain ⟨n, hn, rfl⟩ := List.mem_map.mp hm
  refine h n hn fun y hy => ?_
  have := ht (y : Int) (List.mem_map.mpr ⟨y, hy, rfl⟩)
  omega
theorem w_depth (k : Nat) (ds S Q E) (h : sp_depth (k + 1) ds S Q E) : t__law_depth (sp_depth k) (dEnds Q E) (L3.start 3 ds) S := by
  obtain ⟨n, d, hn, rfl, hv, q⟩ := h
  rcases hv.look with ⟨nm, r, rfl, h1, h2, hl⟩ | ⟨m, rfl, ⟨xs, rfl, hl, hx⟩ | ⟨es, rfl, hl, hs, hx⟩⟩
  · simp [t__law_depth, h1, h2]
    exact q 0 (mn_leaf hl)
  · simp [t__law_depth, line2]
    refine depth_lc (f := id) hl (fun x hxm A hA => ?_) fun ns hns hl2 => ?_
    · simp [t__law_depth_e2]
      exact ⟨m, x, by omega, rfl, hx x hxm, hA⟩
    · rw [List.map_id] at hns
      simp [line2]
      refine ⟨by omega, max_use fun m hm ht => ?_⟩
      simp
      rw [Int.add_comm]
      exact q (m + 1) (mn_list hl hns hm ht)
  · have hne := map_list
    simp [t__law_depth, line2, hne]
    refine depth_lc (f := fun d => match d with | .tup [_, v] => v | d => d) (by simpa using hl) (fun x hxm A hA => ?_) fun ns hns hl2 => ?_
    · obtain ⟨e, he, rfl⟩ := List.mem_map.mp hxm
      simp [t__law_depth_e1]
      exact ⟨m, _, by omega, rfl, (hx e he).2, hA⟩
    · rw [List.map_map] at hns
      simp [line2]
      refine ⟨by omega, max_use fun m hm ht => ?_⟩
      simp
      rw [Int.add_comm]
      exact q (m + 1) (mn_map hv hns hm ht)
def sp_parts : WSp := fun ds S Q _ => ∃ (n : Nat) (d : D), ds = [d] ∧ Vl n d ∧ Q (.tup ((steps d).map (·.2))) S
theorem w_parts (ds S Q E) (h : sp_parts ds S Q E) : t_parts (dEnds Q E) (L3.start 2 ds) S := by
  obtain ⟨n, d, rfl, hv, q⟩ := h
  rcases hv.look with ⟨nm, r, rfl, h1, h2, hl⟩ | ⟨m, rfl, ⟨xs, rfl, hl, hx⟩ | ⟨es, rfl, hl, hs, hx⟩⟩
  · rw [steps_leaf hl] at q
    simp [t_parts, h1, h2, line2]
    exact q
  · rw [steps_list, List.map_map] at q
    have e : xs.zipIdx.map ((fun q : D × D => q.2) ∘ fun p : D × Nat => (D.int (p.2 : Int), p.1)) = xs := by
      show xs.zipIdx.map (fun p => p.1) = xs
      exact List.zipIdx_map_fst 0 xs
    rw [e] at q
    simp [t_parts]
    exact q
  · have hne := map_list
    rw [steps_map, List.map_map] at q
    simp [t_parts, hne]
    refine lcW_pure (fun d => match d with | .tup [_, v] => some v | _ => none) trivial _ _ (by simp [line2]; omega) (fun y hy A B hh => ?_) ?_
    · obtain ⟨x, _, rfl⟩ := List.mem_map.mp hy
      simpa [t_parts_e1] using hh
    · have e1 : ∀ es : List (List Int × D), (es.map ent).filterMap (fun d => match d with | .tup [_, v] => some v | _ => none) = es.map (fun e => e.2) := fun es => by
        induction es with
        | nil => rfl
        | cons x es ih => simp only [List.map_cons, ent, List.filterMap_cons, ih]
      rw [List.nil_append, e1]
      simp
      exact q
theorem w_pdepth (k : Nat) (ds S Q E) (h : sp_depth (k + 1) ds S Q E) : t_depth (sp_depth k) sp_parts (dEnds Q E) (L3.start 2 ds) S := by
  obtain ⟨n, d, hn, rfl, hv, q⟩ := h
  rcases hv.look with ⟨nm, r, rfl, h1, h2, hl⟩ | ⟨m, rfl, ⟨xs, rfl, hl, hx⟩ | ⟨es, rfl, hl, hs, hx⟩⟩
  · simp [t_depth, h1, h2]
    exact q 0 (mn_leaf hl)
  · simp [t_depth, line2]
    refine ⟨m + 1, _, rfl, hv, ?_⟩
    rw [steps_list, List.map_map]
    have e : xs.zipIdx.map ((fun q : D × D => q.2) ∘ fun p : D × Nat => (D.int (p.2 : Int), p.1)) = xs := by
      show xs.zipIdx.map (fun p => p.1) = xs
      exact List.zipIdx_map_fst 0 xs
    rw [e]
    simp
    refine depth_lc (f := id) hl (fun x hxm A hA => ?_) fun ns hns hl2 => ?_
    · simp [t_depth_e1]
      exact ⟨m, x, by omega, rfl, hx x hxm, hA⟩
    · rw [List.map_id] at hns
      simp [line2]
      refine ⟨by omega, max_use fun m hm ht => ?_⟩
      simp
      rw [Int.add_comm]
      exact q (m + 1) (mn_list hl hns hm ht)
  · have hne := map_list
    simp [t_depth, line2, hne]
    refine ⟨m + 1, _, rfl, hv, ?_⟩
    rw [steps_map, List.map_map]
    simp
    refine depth_lc (f := id) (by simpa using hl) (fun x hxm A hA => ?_) fun ns hns hl2 => ?_
    · obtain ⟨e, he, rfl⟩ := List.mem_map.mp hxm
      simp [t_depth_e1]
      exact ⟨m, _, by omega, rfl, (hx e he).2, hA⟩
    · rw [List.map_id] at hns
      simp [line2]
      refine ⟨by omega, max_use fun m hm ht => ?_⟩
      simp
      rw [Int.add_comm]
      exact q (m + 1) (mn_map hv hns hm ht)
end K77

set_option Elab.async false
set_option linter.all false
set_option maxRecDepth 100000
set_option maxHeartbeats 4000000
/-! k75: the value drawn; steps and ways as the program finds them. -/
namespace K77
open PySem PySem.Spec L2 L3
def Fine (d : D) : Prop := VB 49 24 d ∧ ∀ f, (ways f d).length ≤ 5890000
def sp_drawn : WSp := fun ds S Q _ => ∃ (p : Addr) (s : Sta), ds = [.ref p] ∧ S p = some s.so ∧ After Fine S p Q
theorem ways_one {d : D} (h : steps d = []) (f : Nat) : (ways f d).length = 1 := by
  cases f with
  | zero => rfl
  | succ f => rw [ways_len, h]; rfl
theorem ways_wrap {d v : D} {k : D} {B : Nat} (h : steps d = [(k, v)]) (hb : ∀ f, (ways f v).length ≤ B) (f : Nat) : (ways f d).length ≤ B + 2 := by
  cases f with
  | zero => simp [ways]
  | succ f =>
    have := hb f
    rw [ways_len, h]; simp; omega
theorem ways_wrap2 {d u v : D} {k l : D} {B : Nat} (h : steps d = [(k, u), (l, v)]) (hu : steps u = []) (hb : ∀ f, (ways f v).length ≤ B) (f : Nat) : (ways f d).length ≤ B + 2 := by
  cases f with
  | zero => simp [ways]
  | succ f =>
    have := hb f
    rw [ways_len, h]; simp [ways_one hu]; omega
theorem W4 : W 4 = 5884901 := by decide
theorem w_drawn (ds S Q E) (h : sp_drawn ds S Q E) : t__law_drawn (sp_depth 61) sp_next sp_points (sp_value 5) (dEnds Q E) (L3.start 4 ds) S := by
  obtain ⟨p, s, rfl, hp, q⟩ := h
  simp [t__law_drawn, line2]
  refine ⟨p, s, 4, ["null", "truth", "number", "bytes", "text"], true, by decide, rfl, hp, by decide, fun v s1 hv => ?_⟩
  simp
  refine nx s1 (by simp) (by decide) fun i s2 _ _ => ?_
  simp
  have w4 : ∀ f, (ways f v).length ≤ W 4 := ways_le hv
  split
  · rename_i e
    refine nx s2 (by simp) (by decide) fun many s3 g0 g1 => ?_
    simp
    refine ⟨⟨by omega, by omega⟩, ?_⟩
    refine forW_inv (fun ys env S' => ∃ (v : D) (s : Sta) (o1 o2 : Option D), env = [some (.ref p), some v, o1, o2] ∧ S' = sup S p s.so ∧ VB 49 24 v ∧ ys.length ≤ 24 ∧ ∀ f, (ways f v).length + 2 * ys.length ≤ W 4 + 48) ?_ ?_ _ _ _ ⟨v, s3, none, none, rfl, by simp, hv.mono (by decide), by simp [rng_len]; omega, fun f => by have := w4 f; simp [rng_len]; omega⟩
    · rintro env S' ⟨v, s, o1, o2, rfl, rfl, hv, hl, hw⟩
      refine ⟨trivial, ?_⟩
      simp
      exact q _ s ⟨hv, fun f => by have := hw f; rw [W4] at this; omega⟩
    · rintro y r env S' N ⟨v, s, o1, o2, rfl, rfl, hv, hl, hw⟩ hN
      refine ⟨trivial, ?_⟩
      simp at hl hw
      simp [t__law_drawn_b1]
      refine ⟨24, v, by decide, rfl, hv.wide (by decide), fun i hi => ?_⟩
      simp
      have hb : ∀ f, (ways f v).length ≤ W 4 + 46 - 2 * r.length := fun f => by have := hw f; omega
      have hr : 2 * r.length ≤ W 4 + 46 := by have := hw 0; omega
      split
      · rename_i hlt
        have hv23 : VB 49 23 v := (hv.both hi.1).mono (by omega)
        simp [line2]
        refine pt s (by simp) fun ns s4 hns => ?_
        simp [line2]
        refine nx s4 (by simp) (by decide) fun j s5 g2 g3 => ?_
        simp
        refine at_use g2 (by simpa using g3) fun d hd => ?_
        simp at hd
        have hd' : VB 49 24 d ∧ ∀ f, (ways f d).length ≤ W 4 + 46 - 2 * r.length + 2 := by
          rcases hd with rfl | rfl | rfl
          · exact ⟨.inr (.inl ⟨[v], rfl, by simp, fun x hx => by rw [List.mem_singleton.mp hx]; exact hv23⟩), ways_wrap (by rw [steps_list]; rfl) hb⟩
          · refine ⟨.inr (.inr ⟨[(ns, v)], rfl, by simp, List.pairwise_singleton _ _, fun x hx => by rw [List.mem_singleton.mp hx]; exact ⟨hns, hv23⟩⟩), ways_wrap (k := keyD ns) ?_ hb⟩
            have z := steps_map (es := [(ns, v)])
            exact z
          · refine ⟨.inr (.inl ⟨[.tup [.str "list", .tup []], v], rfl, by simp, fun x hx => ?_⟩), ways_wrap2 (by rw [steps_list]; rfl) (by rw [steps_list]; rfl) hb⟩
            have hx' : x = .tup [.str "list", .tup []] ∨ x = v := by simpa using hx
            rcases hx' with rfl | rfl
            · exact .inr (.inl ⟨[], rfl, by decide, fun x hx => (by cases hx)⟩)
            · exact hv23
        exact hN _ _ ⟨d, s5, some y, _, rfl, by simp, hd'.1, by omega, fun f => by have := hd'.2 f; omega⟩
      · exact hN _ _ ⟨v, s, some y, o2, rfl, rfl, hv, by omega, fun f => by have := hw f; omega⟩
  · exact q _ s2 ⟨hv.mono (by decide), fun f => by have := w4 f; rw [W4] at this; omega⟩
def pairD (q : D × D) : D := .tup [q.1, q.2]
def sp_steps : WSp := fun ds S Q _ => ∃ (n : Nat) (d : D), ds = [d] ∧ Vl n d ∧ Q (.lst ((steps d).map pairD)) S
theorem filterMap_some' {α : Type} : ∀ l : List α, l.filterMap some = l
  | [] => rfl
  | x :: l => by simp
def sp_osteps : WSp := fun ds S Q _ => ∃ (n : Nat) (d : D), ds = [d] ∧ Vl n d ∧ ∀ p, S p = none → Q (.ref p) (sup S p (.lst ((steps d).map pairD)))
theorem w_steps (ds S Q E) (h : sp_osteps ds S Q E) : t_steps_of (dEnds Q E) (L3.start 3 ds) S := by
  obtain ⟨n, d, rfl, hv, q⟩ := h
  rcases hv.look with ⟨nm, r, rfl, h1, h2, hl⟩ | ⟨m, rfl, ⟨xs, rfl, hl, hx⟩ | ⟨es, rfl, hl, _, hx⟩⟩
  · simp [t_steps_of, h1, h2, line2]
    rw [steps_leaf hl] at q
    exact q
  · simp [t_steps_of]
    refine lcW_pure some trivial _ _ (by simp [enumD, line2]; omega) (fun y hy A B hh => ?_) ?_
    · obtain ⟨⟨x, i⟩, _, rfl⟩ := List.mem_map.mp hy
      simpa [t_steps_of_e1, line2] using hh
    · rw [filterMap_some', List.nil_append]
      rw [steps_list, List.map_map] at q
      exact q
  · have hne := map_list
    simp [t_steps_of, hne]
    rw [steps_map, List.map_map] at q
    exact q
theorem w_lsteps (ds S Q E) (h : sp_steps ds S Q E) : t__law_steps (dEnds Q E) (L3.start 2 ds) S := by
  obtain ⟨n, d, rfl, hv, q⟩ := h
  rcases hv.look with ⟨nm, r, rfl, h1, h2, hl⟩ | ⟨m, rfl, ⟨xs, rfl, hl, hx⟩ | ⟨es, rfl, hl, _, hx⟩⟩
  · simp [t__law_steps, h1, h2, line2]
    rw [steps_leaf hl] at q
    exact q
  · simp [t__law_steps]
    refine ⟨(by omega), ?_⟩
    refine lcW_inv (fun ys acc S' => S' = S ∧ ∃ j, j + ys.length = xs.length ∧ acc = ((steps (lsD xs)).map pairD).take j ∧ ys = (rngD 0 xs.length).drop j) ?_ ?_ _ _ _ ⟨rfl, 0, by simp [rng_len], by simp, by simp⟩
    · rintro acc S' ⟨rfl, j, hj, rfl, _⟩
      refine ⟨trivial, ?_⟩
      simp at hj
      rw [List.take_of_length_le (by rw [List.length_map, steps_list, List.length_map, List.length_zipIdx]; omega)]
      exact q
    · rintro y r acc S' N ⟨rfl, j, hj, rfl, hy⟩ hN
      refine ⟨trivial, ?_⟩
      simp at hj
      have hjl : j < xs.length := by omega
      have hd := List.drop_eq_getElem_cons (l := rngD 0 xs.length) (i := j) (by rw [rng_len]; exact hjl)
      rw [← hy] at hd
      injection hd with e1 e2
      have e3 : y = .int j := by rw [e1]; simp [rngD]
      subst e3
      have at' : atI xs j = some xs[j] := by
        obtain ⟨v, a1, a2⟩ := at_lt (xs := xs) (i := (j : Int)) (by omega) (by omega)
        rw [a2]
        simp at a1
        rw [List.getElem?_eq_getElem hjl] at a1
        exact a1.symm ▸ rfl
      simp [t__law_steps_e1, line2, at']
      refine ⟨by omega, hN _ _ ⟨rfl, j + 1, by omega, ?_, by rw [e2]⟩⟩
      rw [List.take_succ, steps_list]
      congr 1
      simp [hjl, pairD]
  · have hne := map_list
    simp [t__law_steps, hne]
    rw [steps_map, List.map_map] at q
    exact q
end K77

set_option Elab.async false
set_option linter.all false
set_option maxRecDepth 100000
set_option maxHeartbeats 4000000
/-! k75: the ways, as the program and as the law find them. -/
namespace K77
open PySem PySem.Spec L2 L3
def Fw (f : Nat) (q : D × D) : List (List D) := (ways (f - 1) q.2).map (q.1 :: ·)
theorem ways_eq {f n : Nat} {d : D} (h : Vl n d) (le : n ≤ f) : ways f d = [] :: (steps d).flatMap (Fw f) := by
  cases f with
  | zero =>
    obtain rfl : n = 0 := by omega
    rw [steps_leaf h]; rfl
  | succ f => rfl
theorem ways_depth : ∀ {f : Nat} {d : D}, ∀ path ∈ ways f d, path.length ≤ f
  | 0, d, path, h => by
    simp only [ways, List.mem_singleton] at h
    rw [h]; exact Nat.le_refl _
  | f + 1, d, path, h => by
    simp only [ways, List.mem_cons, List.mem_flatMap, List.mem_map] at h
    rcases h with rfl | ⟨q, _, r, hr, rfl⟩
    · exact Nat.zero_le _
    · have := ways_depth r hr
      simp; omega
def sp_ways (k : Nat) : WSp := fun ds S Q _ => ∃ (f n : Nat) (d : D), f < k ∧ f ≤ 1000 ∧ n ≤ f ∧ ds = [d] ∧ Vl n d ∧ (ways f d).length ≤ 6000000 ∧ ∀ p, S p = none → Q (.ref p) (sup S p (.lst ((ways f d).map D.tup)))
/-- how far a walk over the steps has come -/
structure Half (f : Nat) (d : D) (q : D × D) (a b : List (D × D)) : Prop where
  eq : steps d = a ++ q :: b
  len : ([] :: a.flatMap (Fw f)).length + (Fw f q).length ≤ 6000000
theorem half {f n : Nat} {d : D} {q : D × D} {a b : List (D × D)} (h : Vl n d) (le : n ≤ f) (hw : (ways f d).length ≤ 6000000) (e : steps d = a ++ q :: b) : ([] :: a.flatMap (Fw f)).length + (Fw f q).length ≤ 6000000 := by
  rw [ways_eq h le, e] at hw
  simp only [List.length_cons, List.flatMap_append, List.flatMap_cons, List.length_append] at hw ⊢
  omega
theorem w_ways (k : Nat) (ds S Q E) (h : sp_ways (k + 1) ds S Q E) : t__law_ways sp_steps (sp_ways k) (dEnds Q E) (L3.start 5 ds) S := by
  obtain ⟨f, n, d, hf, hf2, hn, rfl, hv, hw, q⟩ := h
  simp [t__law_ways, line2]
  intro p hp
  refine ⟨n, d, rfl, hv, ?_⟩
  simp
  refine forW_inv (fun ys env S' => ∃ (a b : List (D × D)) (o1 o2 o3 : Option D), steps d = a ++ b ∧ ys = b.map pairD ∧ env = [some d, some (.ref p), o1, o2, o3] ∧ S' = sup S p (.lst (([] :: a.flatMap (Fw f)).map D.tup))) ?_ ?_ _ _ _ ⟨[], steps d, none, none, none, rfl, rfl, rfl, by simp⟩
  · rintro env S' ⟨a, b, o1, o2, o3, e, hb, rfl, rfl⟩
    refine ⟨trivial, ?_⟩
    obtain rfl : b = [] := by simpa using hb.symm
    rw [List.append_nil] at e
    have z := q p hp
    rw [ways_eq hv hn, e] at z
    simpa using z
  · rintro y r env S' N ⟨a, b, o1, o2, o3, e, hb, rfl, rfl⟩ hN
    obtain ⟨⟨s, c⟩, b', rfl⟩ : ∃ x b', b = x :: b' := by
      cases b with
      | nil => simp at hb
      | cons x b' => exact ⟨x, b', rfl⟩
    simp only [List.map_cons, List.cons.injEq] at hb
    obtain ⟨rfl, rfl⟩ := hb
    obtain ⟨m, hm, hc⟩ := hv.parts.2 (s, c) (by rw [e]; simp)
    have hlen := half hv hn hw e
    have hlen2 : (Fw f (s, c)).length = (ways (f - 1) c).length := by simp [Fw]
    refine ⟨trivial, ?_⟩
    simp [t__law_ways_b1, pairD]
    refine ⟨f - 1, m, c, by omega, by omega, by omega, rfl, hc, by omega, fun p2 hp2 => ?_⟩
    simp [sdel_sup hp2]
    refine lcW_pure (fun y => match y with | .tup r => some (.tup (s :: r)) | _ => none) trivial _ _ (by simp [line2]; omega) (fun y hy A B hh => ?_) ?_
    · obtain ⟨path, hpath, rfl⟩ := List.mem_map.mp hy
      have := ways_depth path hpath
      simp [t__law_ways_e1, line2]
      exact ⟨by omega, hh⟩
    · have e1 : ((ways (f - 1) c).map D.tup).filterMap (fun y => match y with | .tup r => some (.tup (s :: r)) | _ => none) = (Fw f (s, c)).map D.tup := by
        unfold Fw
        induction ways (f - 1) c with
        | nil => rfl
        | cons x l ih => simp only [List.map_cons, List.filterMap_cons, ih]
      rw [List.nil_append, e1]
      simp [line2]
      simp at hlen
      refine ⟨by omega, hN _ _ ⟨a ++ [(s, c)], b', some s, some c, o3, by simp [e], rfl, by simp, by simp⟩⟩
end K77

set_option Elab.async false
set_option linter.all false
set_option maxRecDepth 100000
set_option maxHeartbeats 4000000
/-! k75: parts at paths. -/
namespace K77
open PySem PySem.Spec L2 L3
inductive Fol : D → List D → D → Prop
  | nil {d : D} : Fol d [] d
  | cons {d s e f : D} {r : List D} : (s, e) ∈ steps d → Fol e r f → Fol d (s :: r) f
inductive Stray : D → List D → Prop
  | here {d s : D} {r : List D} : (∀ q ∈ steps d, q.1 ≠ s) → Stray d (s :: r)
  | there {d s e : D} {r : List D} : (s, e) ∈ steps d → Stray e r → Stray d (s :: r)
theorem Fol.stray {d e s : D} {a r : List D} (h : Fol d a e) (hs : ∀ q ∈ steps e, q.1 ≠ s) : Stray d (a ++ s :: r) := by
  induction h with
  | nil => exact .here hs
  | cons h _ ih => exact .there h (ih hs)
theorem Fol.vl {B : Nat} {d e : D} {a : List D} (h : Fol d a e) : ∀ {n : Nat}, VB B n d → ∃ m, m + a.length ≤ n ∧ VB B m e := by
  induction h with
  | nil => exact fun {n} hv => ⟨n, by simp, hv⟩
  | cons h _ ih =>
    intro n hv
    obtain ⟨m, e, hc⟩ := hv.parts.2 _ h
    obtain ⟨m', h1, h2⟩ := ih hc
    exact ⟨m', by simp; omega, h2⟩
theorem ways_fol : ∀ {f : Nat} {d : D}, ∀ path ∈ ways f d, ∃ e, Fol d path e
  | 0, d, path, h => by
    simp only [ways, List.mem_singleton] at h
    rw [h]; exact ⟨d, .nil⟩
  | f + 1, d, path, h => by
    simp only [ways, List.mem_cons, List.mem_flatMap, List.mem_map] at h
    rcases h with rfl | ⟨q, hq, r, hr, rfl⟩
    · exact ⟨d, .nil⟩
    · obtain ⟨e, he⟩ := ways_fol r hr
      exact ⟨e, .cons hq he⟩
def IsKey (d : D) : Prop := (∃ i, d = .int i) ∨ ∃ ns : List Int, d = keyD ns ∧ ns.length ≤ 5000
theorem VB.keys {B n : Nat} {d : D} (h : VB B n d) : ∀ q ∈ steps d, IsKey q.1 := by
  rcases h.look with ⟨nm, r, rfl, h1, h2, hl⟩ | ⟨m, rfl, ⟨xs, rfl, hl, hv⟩ | ⟨es, rfl, hl, hn, hv⟩⟩
  · rw [steps_leaf hl]
    exact fun q hq => (by cases hq)
  · rw [steps_list]
    intro q hq
    obtain ⟨⟨x, i⟩, hx, rfl⟩ := List.mem_map.mp hq
    exact .inl ⟨_, rfl⟩
  · rw [steps_map]
    intro q hq
    obtain ⟨e, he, rfl⟩ := List.mem_map.mp hq
    exact .inr ⟨_, rfl, by have := (hv e he).1; omega⟩
theorem VB.uniq {B n : Nat} {d s e e' : D} (h : VB B n d) (h1 : (s, e) ∈ steps d) (h2 : (s, e') ∈ steps d) : e = e' := by
  rcases h.look with ⟨nm, r, rfl, _, _, hl⟩ | ⟨m, rfl, ⟨xs, rfl, hl, hv⟩ | ⟨es, rfl, hl, hn, hv⟩⟩
  · rw [steps_leaf hl] at h1; cases h1
  · rw [steps_list] at h1 h2
    obtain ⟨⟨x, i⟩, hx, e1⟩ := List.mem_map.mp h1
    obtain ⟨⟨y, j⟩, hy, e2⟩ := List.mem_map.mp h2
    simp only [Prod.mk.injEq] at e1 e2
    have : (D.int i) = .int j := e1.1.trans e2.1.symm
    simp only [D.int.injEq] at this
    have hij : i = j := by omega
    subst hij
    have a := List.mem_zipIdx_iff_getElem?.mp hx
    have b := List.mem_zipIdx_iff_getElem?.mp hy
    simp only at a b
    rw [a] at b
    rw [← e1.2, ← e2.2]
    exact Option.some.inj b
  · rw [steps_map] at h1 h2
    obtain ⟨x, hx, e1⟩ := List.mem_map.mp h1
    obtain ⟨y, hy, e2⟩ := List.mem_map.mp h2
    simp only [Prod.mk.injEq] at e1 e2
    have : x = y := nodup_inj hn.nodup x hx y hy (key_inj (e1.1.trans e2.1.symm))
    rw [← e1.2, ← e2.2, this]
theorem rEq_key {a b : D} {S : Sto} {Q : VQ} (ha : IsKey a) (hb : IsKey b) (h : ∀ t : Bool, (t = true ↔ a = b) → Q (.bl t) S) : L3.rEq a b S Q := by
  rcases ha with ⟨i, rfl⟩ | ⟨k, rfl, _⟩
  · rcases hb with ⟨j, rfl⟩ | ⟨l, rfl, _⟩
    · simp
      exact h _ (by simp)
    · rw [keyD] at h ⊢
      simp
      refine ⟨false, ⟨_, _, rfl, py_key l, ?_, ?_, ?_, ?_⟩, h false (by simp)⟩
      · simp [PyData.canLay0]
      · simp [PyData.canLay0, lay_ints]
      · simp [PyData.depth, plain_ints]
      · simp [PyData.eqv]
  · rcases hb with ⟨j, rfl⟩ | ⟨l, rfl, _⟩
    · rw [keyD] at h ⊢
      simp
      refine ⟨false, ⟨_, _, py_key k, rfl, ?_, ?_, ?_, ?_⟩, h false (by simp)⟩
      · simp [PyData.canLay0, lay_ints]
      · simp [PyData.canLay0]
      · simp [PyData.depth, plain_ints]
      · simp [PyData.eqv]
    · rw [keyD, keyD] at h ⊢
      simp
      refine ⟨decide (k = l), ⟨_, _, py_key k, py_key l, ?_, ?_, ?_, ?_⟩, h _ ?_⟩
      · simp [PyData.canLay0, lay_ints]
      · simp [PyData.canLay0, lay_ints]
      · simp [PyData.depth, plain_ints]
      · simp [PyData.eqv, eqvAll_ints]
      · rw [decide_eq_true_iff]
        exact ⟨fun e => by rw [e], fun e => ints_inj (D.tup.inj e)⟩
theorem exKey {k : List Int} {b : D} {Q : Bool → Prop} {hh} (hb : IsKey b) (h : ∀ t : Bool, (t = true ↔ keyD k = b) → Q t) : ExC (Deep (.tup (k.map D.int)) b) Q hh := by
  rcases hb with ⟨j, rfl⟩ | ⟨l, rfl, _⟩
  · refine ⟨false, ⟨_, _, py_key k, rfl, ?_, ?_, ?_, ?_⟩, h false (by simp [keyD])⟩
    · simp [PyData.canLay0, lay_ints]
    · simp [PyData.canLay0]
    · simp [PyData.depth, plain_ints]
    · simp [PyData.eqv]
  · refine ⟨decide (k = l), ⟨_, _, py_key k, py_key l, ?_, ?_, ?_, ?_⟩, h _ ?_⟩
    · simp [PyData.canLay0, lay_ints]
    · simp [PyData.canLay0, lay_ints]
    · simp [PyData.depth, plain_ints]
    · simp [PyData.eqv, eqvAll_ints]
    · rw [decide_eq_true_iff]
      exact ⟨fun e => by rw [e], key_inj⟩
theorem fm_first {o : D → Option D} {e : D} : ∀ {l : List D}, (∀ y ∈ l, o y = none ∨ o y = some e) → (∃ y ∈ l, o y = some e) → ∃ r, l.filterMap o = e :: r
  | [], _, ⟨y, h, _⟩ => by cases h
  | x :: l, h, hx => by
    rcases h x List.mem_cons_self with e1 | e1
    · rw [List.filterMap_cons_none e1]
      refine fm_first (fun y hy => h y (List.mem_cons_of_mem _ hy)) ?_
      obtain ⟨y, hy, e2⟩ := hx
      rcases List.mem_cons.mp hy with rfl | hy
      · rw [e1] at e2; cases e2
      · exact ⟨y, hy, e2⟩
    · rw [List.filterMap_cons_some e1]
      exact ⟨_, rfl⟩
open Classical in
/-- of a row (key, value): the value, if the key is s -/
noncomputable def pick (s : D) : D → Option D
  | .tup [k, v] => if k = s then some v else none
  | _ => none
def sp_lpart : WSp := fun ds S Q _ => ∃ (n : Nat) (d e : D) (path : List D), ds = [d, .tup path] ∧ Vl n d ∧ Fol d path e ∧ Q e S
theorem Fol.key {B : Nat} {d e : D} {path : List D} (h : Fol d path e) : ∀ {n : Nat}, VB B n d → ∀ s ∈ path, IsKey s := by
  induction h with
  | nil => exact fun hv s hs => (by cases hs)
  | cons h _ ih =>
    intro n hv s hs
    rcases List.mem_cons.mp hs with rfl | hs
    · exact hv.keys _ h
    · obtain ⟨m, _, hc⟩ := hv.parts.2 _ h
      exact ih hc s hs
theorem w_lpart (ds S Q E) (h : sp_lpart ds S Q E) : t__law_part (dEnds Q E) (L3.start 4 ds) S := by
  obtain ⟨n, d, e, path, rfl, hv, hf, q⟩ := h
  simp [t__law_part]
  refine forW_inv (fun ys env S' => ∃ (n : Nat) (cur : D) (o2 o3 : Option D), env = [some cur, some (.tup path), o2, o3] ∧ S' = S ∧ Vl n cur ∧ Fol cur ys e) ?_ ?_ _ _ _ ⟨n, d, none, none, rfl, rfl, hv, hf⟩
  · rintro env S' ⟨n, cur, o2, o3, rfl, rfl, hv, hf⟩
    cases hf
    exact ⟨trivial, by simpa using q⟩
  · rintro s r env S' N ⟨n, cur, o2, o3, rfl, rfl, hv, hf⟩ hN
    refine ⟨trivial, ?_⟩
    cases hf with
    | @cons _ _ c _ _ hs hf =>
    have hk := hv.keys _ hs
    obtain ⟨m, hm, hc⟩ := hv.parts.2 _ hs
    rcases hv.look with ⟨nm, w, rfl, _, _, hl⟩ | ⟨m', hm', ⟨xs, rfl, hl, hx⟩ | ⟨es, rfl, hl, hn, hx⟩⟩
    · rw [steps_leaf hl] at hs; cases hs
    · have hne : ("list" : Str) ≠ "map" := by decide
      rw [steps_list] at hs
      obtain ⟨⟨x, i⟩, hx', e1⟩ := List.mem_map.mp hs
      simp only [Prod.mk.injEq] at e1
      obtain ⟨rfl, rfl⟩ := e1
      have a := List.mem_zipIdx_iff_getElem?.mp hx'
      simp only at a
      have at' : atI xs (i : Int) = some x := by
        obtain ⟨hi, _⟩ := List.getElem?_eq_some_iff.mp a
        obtain ⟨v, a1, a2⟩ := at_lt (xs := xs) (i := (i : Int)) (by omega) (by omega)
        rw [a2, ← a1]
        simp at a ⊢
        exact a
      simp [t__law_part_b1, hne, at']
      exact hN _ _ ⟨m, x, _, _, rfl, rfl, hc, hf⟩
    · simp [t__law_part_b1]
      refine lcW_pure (pick s) trivial _ _ (by simp [line2]; omega) (fun y hy A B hh => ?_) ?_
      · obtain ⟨z, hz, rfl⟩ := List.mem_map.mp hy
        simp [t__law_part_c1, t__law_part_e1]
        refine exKey hk fun t ht => ?_
        simp only [ent, pick] at hh
        by_cases e2 : D.tup (z.1.map D.int) = s
        · rw [if_pos e2] at hh
          rw [ht.mpr e2]
          simpa using hh
        · rw [if_neg e2] at hh
          have : t = false := by
            cases t with
            | true => exact absurd (ht.mp rfl) e2
            | false => rfl
          rw [this]
          simpa using hh
      · obtain ⟨w, e2⟩ := fm_first (o := pick s) (e := c) (l := es.map ent) (fun y hy => by
          obtain ⟨z, hz, rfl⟩ := List.mem_map.mp hy
          simp only [ent, pick]
          by_cases e2 : D.tup (z.1.map D.int) = s
          · right
            rw [if_pos e2]
            congr 1
            exact hv.uniq (by rw [steps_map]; exact List.mem_map.mpr ⟨z, hz, by rw [keyD, e2]⟩) hs
          · left
            rw [if_neg e2]) (by
          rw [steps_map] at hs
          obtain ⟨z, hz, e1⟩ := List.mem_map.mp hs
          simp only [Prod.mk.injEq] at e1
          refine ⟨ent z, List.mem_map.mpr ⟨z, hz, rfl⟩, ?_⟩
          simp only [ent, pick]
          have e3 : D.tup (z.1.map D.int) = s := e1.1
          rw [if_pos e3, e1.2])
        rw [List.nil_append, e2]
        simp
        exact hN _ _ ⟨m, c, _, _, rfl, rfl, hc, hf⟩
end K77

set_option Elab.async false
set_option linter.all false
set_option maxRecDepth 100000
set_option maxHeartbeats 4000000
/-! k75: part_at, and what it finds. -/
namespace K77
open PySem PySem.Spec L2 L3
def Pl (d : D) : Prop := ∃ x, toPy d = some x ∧ x.canLay0 = true
theorem pl_all : ∀ {xs : List D}, (∀ x ∈ xs, Pl x) → ∃ ys, toPys xs = some ys ∧ PyData.canLayAll0 ys = true
  | [], _ => ⟨[], by simp [toPys], by simp [PyData.canLayAll0]⟩
  | x :: xs, h => by
    obtain ⟨y, h1, h2⟩ := h x List.mem_cons_self
    obtain ⟨ys, h3, h4⟩ := pl_all fun x hx => h x (List.mem_cons_of_mem _ hx)
    exact ⟨y :: ys, by simp [toPys, h1, h3], by simp [PyData.canLayAll0, h2, h4]⟩
theorem pl_tup {xs : List D} (h : ∀ x ∈ xs, Pl x) : Pl (.tup xs) := by
  obtain ⟨ys, h1, h2⟩ := pl_all h
  exact ⟨.tuple ys, by simp [toPy, h1], by simp [PyData.canLay0, h2]⟩
theorem pl_lst {xs : List D} (h : ∀ x ∈ xs, Pl x) : Pl (.lst xs) := by
  obtain ⟨ys, h1, h2⟩ := pl_all h
  exact ⟨.list ys, by simp [toPy, h1], by simp [PyData.canLay0, h2]⟩
theorem pl_int (i : Int) : Pl (.int i) := ⟨.int i, by simp [toPy], by simp [PyData.canLay0]⟩
theorem pl_bl (b : Bool) : Pl (.bl b) := ⟨.bool b, by simp [toPy], by simp [PyData.canLay0]⟩
theorem pl_key (k : List Int) : Pl (.tup (k.map D.int)) := pl_tup fun x hx => by
  obtain ⟨i, _, rfl⟩ := List.mem_map.mp hx
  exact pl_int i
theorem pl_str {x : Str} (h : (PyData.str x).canLay0 = true) : Pl (.str x) := ⟨.str x, by simp [toPy], h⟩
theorem pl_one {x : Str} (h : (PyData.str x).canLay0 = true) : Pl (.tup [.str x]) := pl_tup fun y hy => by
  rw [List.mem_singleton.mp hy]; exact pl_str h
theorem pl_two {x : Str} {d : D} (h : (PyData.str x).canLay0 = true) (hd : Pl d) : Pl (.tup [.str x, d]) := pl_tup fun y hy => by
  have hy' : y = .str x ∨ y = d := by simpa using hy
  rcases hy' with rfl | rfl
  · exact pl_str h
  · exact hd
theorem pl_three {x : Str} {d e : D} (h : (PyData.str x).canLay0 = true) (hd : Pl d) (he : Pl e) : Pl (.tup [.str x, d, e]) := pl_tup fun y hy => by
  have hy' : y = .str x ∨ y = d ∨ y = e := by simpa using hy
  rcases hy' with rfl | rfl | rfl
  · exact pl_str h
  · exact hd
  · exact he
theorem lay_null : (PyData.str "null").canLay0 = true := by decide +kernel
theorem lay_truth : (PyData.str "truth").canLay0 = true := by decide +kernel
theorem lay_number : (PyData.str "number").canLay0 = true := by decide +kernel
theorem lay_bytes : (PyData.str "bytes").canLay0 = true := by decide +kernel
theorem lay_text : (PyData.str "text").canLay0 = true := by decide +kernel
theorem lay_list : (PyData.str "list").canLay0 = true := by decide +kernel
theorem lay_map : (PyData.str "map").canLay0 = true := by decide +kernel
theorem lay_part : (PyData.str "part").canLay0 = true := by decide +kernel
theorem lay_astray : (PyData.str "astray").canLay0 = true := by decide +kernel
theorem pl_leaf {d : D} (h : IsLeaf d) : Pl d := by
  cases h with
  | null => exact pl_one lay_null
  | truth b => exact pl_two lay_truth (pl_bl b)
  | num m e => exact pl_three lay_number (pl_int m) (pl_int e)
  | bytes ns _ => exact pl_two lay_bytes (pl_key ns)
  | text ns _ => exact pl_two lay_text (pl_key ns)
theorem VB.pl {B : Nat} : ∀ {n : Nat} {d : D}, VB B n d → Pl d
  | n, d, h => by
    rcases h.look with ⟨nm, w, rfl, _, _, hl⟩ | ⟨m, rfl, ⟨xs, rfl, hl, hx⟩ | ⟨es, rfl, hl, hn, hx⟩⟩
    · exact pl_leaf hl
    · exact pl_two lay_list (pl_tup fun x hx' => VB.pl (hx x hx'))
    · refine pl_two lay_map (pl_tup fun x hx' => ?_)
      obtain ⟨e, he, rfl⟩ := List.mem_map.mp hx'
      refine pl_tup fun x hx' => ?_
      have hx3 : x = .tup (e.1.map D.int) ∨ x = e.2 := by simpa using hx'
      rcases hx3 with rfl | rfl
      · exact pl_key e.1
      · exact VB.pl (hx e he).2
/-- a list beside the empty one -/
theorem exNil {xs : List D} {Q : Bool → Prop} {hh} (hx : ∀ x ∈ xs, Pl x) (h : Q (decide (xs = []))) : ExC (Deep (.lst xs) (.lst [])) Q hh := by
  obtain ⟨ys, h1, h2⟩ := pl_all hx
  refine ⟨_, ⟨.list ys, .list [], by simp [toPy, h1], by simp [toPy, toPys], by simp [PyData.canLay0, h2], by simp [PyData.canLay0, PyData.canLayAll0], by simp [PyData.depth, PyData.depthAll], ?_⟩, h⟩
  cases xs with
  | nil =>
    simp [toPys] at h1
    subst h1
    simp [PyData.eqv, PyData.eqvAll]
  | cons x xs =>
    cases ys with
    | nil =>
      simp only [toPys] at h1
      split at h1 <;> cases h1
    | cons y ys => simp [PyData.eqv, PyData.eqvAll]
def sp_part (x : Addr) : WSp := fun ds S Q E => ∃ (n : Nat) (d : D) (path : List D), ds = [d, .tup path] ∧ Vl n d ∧ (∀ s ∈ path, IsKey s) ∧ ((∃ e, Fol d path e ∧ Q e S) ∨ (Stray d path ∧ E x (.tup path) S))
theorem w_part (x : Addr) (ds S Q E) (h : sp_part x ds S Q E) : t_part_at x sp_osteps (dEnds Q E) (L3.start 6 ds) S := by
  obtain ⟨n, d, path, rfl, hv, hk, q⟩ := h
  simp [t_part_at]
  refine forW_inv (fun ys env S' => ∃ (n : Nat) (cur : D) (o3 o4 o5 : Option D), env = [some d, some (.tup path), some cur, o3, o4, o5] ∧ S' = S ∧ Vl n cur ∧ (∀ s ∈ ys, IsKey s) ∧ ((∃ e, Fol cur ys e ∧ Q e S) ∨ (Stray cur ys ∧ E x (.tup path) S))) ?_ ?_ _ _ _ ⟨n, d, none, none, none, rfl, rfl, hv, hk, q⟩
  · rintro env S' ⟨n, cur, o3, o4, o5, rfl, rfl, hv, _, q⟩
    refine ⟨trivial, ?_⟩
    rcases q with ⟨e, hf, q⟩ | ⟨hs, _⟩
    · cases hf
      simpa using q
    · cases hs
  · rintro s r env S' N ⟨n, cur, o3, o4, o5, rfl, rfl, hv, hk, q⟩ hN
    refine ⟨trivial, ?_⟩
    simp [t_part_at_b1]
    refine ⟨n, cur, rfl, hv, fun p hp => ?_⟩
    simp [sdel_sup hp]
    have hks := hk s List.mem_cons_self
    have hkr : ∀ t ∈ r, IsKey t := fun t ht => hk t (List.mem_cons_of_mem _ ht)
    refine lcW_pure (pick s) trivial _ _ (by have := hv.parts.1; simp [line2]; omega) (fun y hy A B hh => ?_) ?_
    · obtain ⟨z, hz, rfl⟩ := List.mem_map.mp hy
      simp [t_part_at_c1, t_part_at_e1, pairD, -L3.rEq_eq]
      refine rEq_key (hv.keys z hz) hks fun t ht => ?_
      simp only [pairD, pick] at hh
      by_cases e2 : z.1 = s
      · rw [if_pos e2] at hh
        rw [ht.mpr e2]
        simpa using hh
      · rw [if_neg e2] at hh
        have : t = false := by
          cases t with
          | true => exact absurd (ht.mp rfl) e2
          | false => rfl
        rw [this]
        simpa using hh
    · rw [List.nil_append]
      have hpl : ∀ x ∈ ((steps cur).map pairD).filterMap (pick s), Pl x := fun x hx => by
        obtain ⟨y, hy, e⟩ := List.mem_filterMap.mp hx
        obtain ⟨z, hz, rfl⟩ := List.mem_map.mp hy
        simp only [pairD, pick] at e
        by_cases e2 : z.1 = s
        · rw [if_pos e2] at e
          obtain ⟨m, _, hc⟩ := hv.parts.2 z hz
          cases e
          exact hc.pl
        · rw [if_neg e2] at e; cases e
      have hit : ∀ c, (s, c) ∈ steps cur → ∃ w, ((steps cur).map pairD).filterMap (pick s) = c :: w := fun c hs => by
        refine fm_first (fun y hy => ?_) ⟨pairD (s, c), List.mem_map.mpr ⟨_, hs, rfl⟩, by simp [pairD, pick]⟩
        obtain ⟨z, hz, rfl⟩ := List.mem_map.mp hy
        simp only [pairD, pick]
        by_cases e2 : z.1 = s
        · right
          rw [if_pos e2]
          congr 1
          exact hv.uniq (by rw [← e2]; exact hz) hs
        · left
          rw [if_neg e2]
      have go : ∀ c, (s, c) ∈ steps cur → ((∃ e, Fol c r e ∧ Q e S') ∨ (Stray c r ∧ E x (.tup path) S')) → ∃ w, ((steps cur).map pairD).filterMap (pick s) = c :: w ∧ ∃ m, Vl m c := fun c hs _ => by
        obtain ⟨w, e⟩ := hit c hs
        obtain ⟨m, _, hc⟩ := hv.parts.2 _ hs
        exact ⟨w, e, m, hc⟩
      have next : ∀ c, (s, c) ∈ steps cur → ((∃ e, Fol c r e ∧ Q e S') ∨ (Stray c r ∧ E x (.tup path) S')) → ∃ w, ((steps cur).map pairD).filterMap (pick s) = c :: w ∧ ∀ o, N [some d, some (.tup path), some c, some s, some (.lst (c :: w)), o] S' := fun c hs hq => by
        obtain ⟨w, e, m, hc⟩ := go c hs hq
        exact ⟨w, e, fun o => hN _ _ ⟨m, c, _, _, _, rfl, rfl, hc, hkr, hq⟩⟩
      have cases3 : (∃ c, (s, c) ∈ steps cur ∧ ((∃ e, Fol c r e ∧ Q e S') ∨ (Stray c r ∧ E x (.tup path) S'))) ∨ ((∀ q ∈ steps cur, q.1 ≠ s) ∧ E x (.tup path) S') := by
        rcases q with ⟨e, hf, q⟩ | ⟨hs, q⟩
        · cases hf with
          | @cons _ _ c _ _ hs hf => exact .inl ⟨c, hs, .inl ⟨e, hf, q⟩⟩
        · cases hs with
          | here h => exact .inr ⟨h, q⟩
          | @there _ _ c _ hs hr => exact .inl ⟨c, hs, .inr ⟨hr, q⟩⟩
      have nilE : (∀ q ∈ steps cur, q.1 ≠ s) → ((steps cur).map pairD).filterMap (pick s) = [] := fun h => List.filterMap_eq_nil_iff.mpr fun y hy => by
        obtain ⟨z, hz, rfl⟩ := List.mem_map.mp hy
        simp only [pairD, pick]
        rw [if_neg (h z hz)]
      clear go hit
      generalize ((steps cur).map pairD).filterMap (pick s) = fm at hpl next nilE
      simp [line2]
      refine exNil hpl ?_
      rcases cases3 with ⟨c, hs, hq⟩ | ⟨h, q⟩
      · obtain ⟨w, e, hN'⟩ := next c hs hq
        subst e
        simp
        exact hN' _
      · rw [nilE h]
        simp
        exact q
end K77

set_option Elab.async false
set_option linter.all false
set_option maxRecDepth 100000
set_option maxHeartbeats 4000000
/-! k75: what is found; the law's own comparison. -/
namespace K77
open PySem PySem.Spec L2 L3
def Flat (d : D) : Prop := d = .non ∨ (∃ b, d = .bl b) ∨ (∃ i, d = .int i) ∨ ∃ x, d = .str x ∧ (PyData.str x).canLay0 = true
def Sm : Nat → D → Prop
  | 0, d => Flat d
  | n + 1, d => Flat d ∨ ∃ xs, (d = .tup xs ∨ d = .lst xs) ∧ xs.length ≤ 16000000 ∧ ∀ x ∈ xs, Sm n x
theorem Sm.look {n : Nat} {d : D} (h : Sm n d) : Flat d ∨ ∃ m xs, n = m + 1 ∧ (d = .tup xs ∨ d = .lst xs) ∧ xs.length ≤ 16000000 ∧ ∀ x ∈ xs, Sm m x := by
  cases n with
  | zero => exact .inl h
  | succ m =>
    rcases h with h | ⟨xs, h⟩
    · exact .inl h
    · exact .inr ⟨m, xs, rfl, h⟩
theorem pl_non : Pl .non := ⟨.none, by simp [toPy], by simp [PyData.canLay0]⟩
theorem Flat.pl {d : D} (h : Flat d) : Pl d := by
  rcases h with rfl | ⟨b, rfl⟩ | ⟨i, rfl⟩ | ⟨x, rfl, hx⟩
  · exact pl_non
  · exact pl_bl b
  · exact pl_int i
  · exact pl_str hx
theorem Sm.pl : ∀ {n : Nat} {d : D}, Sm n d → Pl d
  | n, d, h => by
    rcases h.look with h | ⟨m, xs, rfl, e, hl, hx⟩
    · exact h.pl
    · rcases e with rfl | rfl
      · exact pl_tup fun x hx' => Sm.pl (hx x hx')
      · exact pl_lst fun x hx' => Sm.pl (hx x hx')
def notInt : D → Option D
  | .int _ => none
  | d => some d
/-- of no use when all are ints -/
theorem all_int {xs : List D} (h : xs.filterMap notInt = []) : ∃ ns : List Int, xs = ns.map D.int := by
  induction xs with
  | nil => exact ⟨[], rfl⟩
  | cons x xs ih =>
    cases x with
    | int i =>
      obtain ⟨ns, e⟩ := ih (by simpa [notInt] using h)
      exact ⟨i :: ns, by rw [e]; rfl⟩
    | _ => simp [notInt] at h
theorem deep_ints_t (ns : List Int) : Deep (.tup (ns.map D.int)) (.tup (ns.map D.int)) true := ⟨.tuple (ns.map .int), .tuple (ns.map .int), by simp [toPy, toPy_ints], by simp [toPy, toPy_ints], by simp [PyData.canLay0, lay_ints], by simp [PyData.canLay0, lay_ints], by simp [PyData.depth, plain_ints], by simp [PyData.eqv, eqvAll_ints]⟩
theorem deep_ints_l (ns : List Int) : Deep (.lst (ns.map D.int)) (.lst (ns.map D.int)) true := ⟨.list (ns.map .int), .list (ns.map .int), by simp [toPy, toPy_ints], by simp [toPy, toPy_ints], by simp [PyData.canLay0, lay_ints], by simp [PyData.canLay0, lay_ints], by simp [PyData.depth, plain_ints], by simp [PyData.eqv, eqvAll_ints]⟩
theorem deep_ints2_t (ns ms : List Int) : Deep (.tup (ns.map D.int)) (.tup (ms.map D.int)) (decide (ns = ms)) := ⟨.tuple (ns.map .int), .tuple (ms.map .int), by simp [toPy, toPy_ints], by simp [toPy, toPy_ints], by simp [PyData.canLay0, lay_ints], by simp [PyData.canLay0, lay_ints], by simp [PyData.depth, plain_ints], by simp [PyData.eqv, eqvAll_ints]⟩
theorem deep_ints2_l (ns ms : List Int) : Deep (.lst (ns.map D.int)) (.lst (ms.map D.int)) (decide (ns = ms)) := ⟨.list (ns.map .int), .list (ms.map .int), by simp [toPy, toPy_ints], by simp [toPy, toPy_ints], by simp [PyData.canLay0, lay_ints], by simp [PyData.canLay0, lay_ints], by simp [PyData.depth, plain_ints], by simp [PyData.eqv, eqvAll_ints]⟩
/-- told, due: whether they are the same -/
def sp_same (k : Nat) : WSp := fun ds S Q _ => ∃ (n : Nat) (d e : D), n < k ∧ ds = [d, e] ∧ Sm n e ∧ Sm n d ∧ ∀ t : Bool, (t = true ↔ d = e) → Q (.bl t) S
theorem same_lc {m : Nat} {xs : List D} {o : Option D} {d d1 : D} {q : WSp} {S : Sto} {Qd : List D → Sto → Prop} {hh} (hl : xs.length ≤ 16000000) (hx : ∀ x ∈ xs, Sm m x) (hQ : Qd (xs.filterMap notInt) S) :
    LcC (gNm 3) (t__law_same_c1 q) (t__law_same_e1 q) Always [some d1, some d, o, none] Qd xs [] S hh := by
  refine lcW_pure notInt trivial _ _ (by simp [line2]; omega) (fun y hy A B h => ?_) (by simpa using hQ)
  rcases (hx y hy).look with h0 | ⟨m', ys, rfl, e, _, _⟩
  · rcases h0 with rfl | ⟨b, rfl⟩ | ⟨i, rfl⟩ | ⟨x, rfl, hx⟩
    · simpa [t__law_same_c1, t__law_same_e1, tys, notInt] using h
    · simpa [t__law_same_c1, t__law_same_e1, tys, notInt] using h
    · simpa [t__law_same_c1, t__law_same_e1, tys, notInt] using h
    · simpa [t__law_same_c1, t__law_same_e1, tys, notInt] using h
  · rcases e with rfl | rfl
    · simpa [t__law_same_c1, t__law_same_e1, tys, notInt] using h
    · simpa [t__law_same_c1, t__law_same_e1, tys, notInt] using h
theorem rng_cons {n i : Nat} {y : D} {r : List D} (h : y :: r = (rngD 0 n).drop i) : i + 1 ≤ n ∧ y = .int (i : Int) ∧ r = (rngD 0 n).drop (i + 1) := by
  have hl : i < (rngD 0 n).length := by
    apply Classical.byContradiction
    intro c
    rw [List.drop_eq_nil_of_le (by omega)] at h
    cases h
  rw [List.drop_eq_getElem_cons hl] at h
  simp only [List.cons.injEq] at h
  rw [rng_len] at hl
  refine ⟨hl, ?_, h.2⟩
  rw [h.1]
  simp [rngD]
theorem w_same (k : Nat) (ds S Q E) (h : sp_same (k + 1) ds S Q E) : t__law_same (sp_same k) (dEnds Q E) (L3.start 4 ds) S := by
  obtain ⟨n, d, e, hn, rfl, he, hd, q⟩ := h
  have flat : Flat e → t__law_same (sp_same k) (dEnds Q E) (L3.start 4 [d, e]) S := fun h0 => by
    have hd' : Flat d ∨ (∃ xs, d = .tup xs) ∨ ∃ xs, d = .lst xs := by
      rcases hd.look with h2 | ⟨m', ys, hm, h2, hl2, hy⟩
      · exact .inl h2
      · exact h2.elim (fun z => .inr (.inl ⟨_, z⟩)) fun z => .inr (.inr ⟨_, z⟩)
    rcases h0 with rfl | ⟨b, rfl⟩ | ⟨i, rfl⟩ | ⟨x, rfl, hx⟩
    · rcases hd' with (rfl | ⟨b', rfl⟩ | ⟨i', rfl⟩ | ⟨x', rfl, hx'⟩) | ⟨ys, rfl⟩ | ⟨ys, rfl⟩ <;> (simp [t__law_same, tys, line2]; exact q _ (by simp))
    · rcases hd' with (rfl | ⟨b', rfl⟩ | ⟨i', rfl⟩ | ⟨x', rfl, hx'⟩) | ⟨ys, rfl⟩ | ⟨ys, rfl⟩
      · cases b <;> (simp [t__law_same, tys, line2]; exact q _ (by simp))
      · cases b <;> cases b' <;> (simp [t__law_same, tys, line2]; exact q _ (by simp))
      · cases b <;> (simp [t__law_same, tys, line2]; exact q _ (by simp))
      · cases b <;> (simp [t__law_same, tys, line2]; exact q _ (by simp))
      · cases b <;> (simp [t__law_same, tys, line2]; exact q _ (by simp))
      · cases b <;> (simp [t__law_same, tys, line2]; exact q _ (by simp))
    · rcases hd' with (rfl | ⟨b', rfl⟩ | ⟨i', rfl⟩ | ⟨x', rfl, hx'⟩) | ⟨ys, rfl⟩ | ⟨ys, rfl⟩ <;> (simp [t__law_same, tys, line2]; exact q _ (by simp))
    · rcases hd' with (rfl | ⟨b', rfl⟩ | ⟨i', rfl⟩ | ⟨x', rfl, hx'⟩) | ⟨ys, rfl⟩ | ⟨ys, rfl⟩ <;> (simp [t__law_same, tys, line2]; exact q _ (by simp))
  rcases he.look with h0 | ⟨m, xs, rfl, h1, hl, hx⟩
  · exact flat h0
  · have hpl : ∀ x ∈ xs.filterMap notInt, Pl x := fun x hx' => by
      obtain ⟨y, hy, e⟩ := List.mem_filterMap.mp hx'
      have : y = x := by
        cases y <;> simp [notInt] at e <;> exact e
      rw [← this]
      exact (hx y hy).pl
    rcases hd.look with h2 | ⟨m', ys, hm, h2, hl2, hy⟩
    · rcases h1 with rfl | rfl
      · rcases h2 with rfl | ⟨b', rfl⟩ | ⟨i', rfl⟩ | ⟨x', rfl, hx'⟩ <;> (simp [t__law_same, tys, line2]; exact q _ (by simp))
      · rcases h2 with rfl | ⟨b', rfl⟩ | ⟨i', rfl⟩ | ⟨x', rfl, hx'⟩ <;> (simp [t__law_same, tys, line2]; exact q _ (by simp))
    · obtain rfl : m' = m := by omega
      have hpl2 : ∀ x ∈ ys.filterMap notInt, Pl x := fun x hx' => by
        obtain ⟨y, hy', e⟩ := List.mem_filterMap.mp hx'
        have : y = x := by
          cases y <;> simp [notInt] at e <;> exact e
        rw [← this]
        exact (hy y hy').pl
      rcases h1 with rfl | rfl
      · rcases h2 with rfl | rfl
        · simp [t__law_same, tys, line2]
          by_cases hlen : ys.length = xs.length
          · rw [if_pos (by rw [hlen])]
            refine same_lc hl hx ?_
            generalize hg : xs.filterMap notInt = fm at hpl
            simp [line2]
            refine exNil hpl ?_
            by_cases hz : fm = []
            · subst hz
              obtain ⟨ns, rfl⟩ := all_int hg
              simp
              refine same_lc (q := sp_same k) hl2 hy ?_
              generalize hg2 : ys.filterMap notInt = fm2 at hpl2
              simp [line2]
              refine exNil hpl2 ?_
              by_cases hz2 : fm2 = []
              · subst hz2
                obtain ⟨ms, rfl⟩ := all_int hg2
                simp
                refine ⟨_, deep_ints2_t ms ns, q _ ?_⟩
                simp
                exact ⟨fun z => by rw [z], fun z => ints_inj z⟩
              · simp [hz2]
                refine q false ?_
                simp
                rintro rfl
                exact hz2 (by rw [← hg2, hg])
            · simp [hz]
              refine ⟨by omega, ?_⟩
              refine forW_inv (fun r env S' => ∃ (o1 o2 : Option D) (i : Nat), env = [some (D.tup ys), some (D.tup xs), o1, o2] ∧ S' = S ∧ r = (rngD 0 xs.length).drop i ∧ i ≤ xs.length ∧ ∀ j, j < i → ys[j]? = xs[j]?) ?_ ?_ _ _ _ ⟨none, none, 0, rfl, rfl, by simp, Nat.zero_le _, fun j hj => absurd hj (Nat.not_lt_zero _)⟩
              · rintro env S' ⟨o1, o2, i, rfl, rfl, hr, hi, heq⟩
                refine ⟨trivial, ?_⟩
                have hil : xs.length ≤ i := by
                  have := congrArg List.length hr
                  simp [rng_len] at this
                  omega
                simp
                refine q true ?_
                simp
                refine List.ext_getElem? fun j => ?_
                by_cases hj : j < i
                · exact heq j hj
                · rw [List.getElem?_eq_none (by omega), List.getElem?_eq_none (by omega)]
              · rintro y r env S' N ⟨o1, o2, i, rfl, rfl, hr, hi, heq⟩ hN
                refine ⟨trivial, ?_⟩
                obtain ⟨hi2, rfl, hr2⟩ := rng_cons hr
                obtain ⟨v, a1, a2⟩ := at_lt (xs := xs) (i := (i : Int)) (by omega) (by omega)
                obtain ⟨w, b1, b2⟩ := at_lt (xs := ys) (i := (i : Int)) (by omega) (by omega)
                simp at a1 b1
                simp [t__law_same_b1, a2, b2]
                refine ⟨m', w, v, by omega, rfl, hx v (List.mem_of_getElem? a1), hy w (List.mem_of_getElem? b1), fun t ht => ?_⟩
                simp
                cases t with
                | true =>
                  have hwv := ht.mp rfl
                  simp
                  refine hN _ _ ⟨_, o2, i + 1, rfl, rfl, hr2, hi2, fun j hj => ?_⟩
                  by_cases hji : j = i
                  · subst hji; rw [a1, b1, hwv]
                  · exact heq j (by omega)
                | false =>
                  simp
                  refine q false ?_
                  simp
                  rintro rfl
                  rw [a1] at b1
                  cases b1
                  exact absurd (ht.mpr rfl) (by simp)
          · rw [if_neg (by omega)]
            refine q false ?_
            simp
            exact fun z => hlen (by rw [z])
        · simp [t__law_same, tys, line2]
          exact q _ (by simp)
      · rcases h2 with rfl | rfl
        · simp [t__law_same, tys, line2]
          exact q _ (by simp)
        · simp [t__law_same, tys, line2]
          by_cases hlen : ys.length = xs.length
          · rw [if_pos (by rw [hlen])]
            refine same_lc hl hx ?_
            generalize hg : xs.filterMap notInt = fm at hpl
            simp [line2]
            refine exNil hpl ?_
            by_cases hz : fm = []
            · subst hz
              obtain ⟨ns, rfl⟩ := all_int hg
              simp
              refine same_lc (q := sp_same k) hl2 hy ?_
              generalize hg2 : ys.filterMap notInt = fm2 at hpl2
              simp [line2]
              refine exNil hpl2 ?_
              by_cases hz2 : fm2 = []
              · subst hz2
                obtain ⟨ms, rfl⟩ := all_int hg2
                simp
                refine ⟨_, deep_ints2_l ms ns, q _ ?_⟩
                simp
                exact ⟨fun z => by rw [z], fun z => ints_inj z⟩
              · simp [hz2]
                refine q false ?_
                simp
                rintro rfl
                exact hz2 (by rw [← hg2, hg])
            · simp [hz]
              refine ⟨by omega, ?_⟩
              refine forW_inv (fun r env S' => ∃ (o1 o2 : Option D) (i : Nat), env = [some (D.lst ys), some (D.lst xs), o1, o2] ∧ S' = S ∧ r = (rngD 0 xs.length).drop i ∧ i ≤ xs.length ∧ ∀ j, j < i → ys[j]? = xs[j]?) ?_ ?_ _ _ _ ⟨none, none, 0, rfl, rfl, by simp, Nat.zero_le _, fun j hj => absurd hj (Nat.not_lt_zero _)⟩
              · rintro env S' ⟨o1, o2, i, rfl, rfl, hr, hi, heq⟩
                refine ⟨trivial, ?_⟩
                have hil : xs.length ≤ i := by
                  have := congrArg List.length hr
                  simp [rng_len] at this
                  omega
                simp
                refine q true ?_
                simp
                refine List.ext_getElem? fun j => ?_
                by_cases hj : j < i
                · exact heq j hj
                · rw [List.getElem?_eq_none (by omega), List.getElem?_eq_none (by omega)]
              · rintro y r env S' N ⟨o1, o2, i, rfl, rfl, hr, hi, heq⟩ hN
                refine ⟨trivial, ?_⟩
                obtain ⟨hi2, rfl, hr2⟩ := rng_cons hr
                obtain ⟨v, a1, a2⟩ := at_lt (xs := xs) (i := (i : Int)) (by omega) (by omega)
                obtain ⟨w, b1, b2⟩ := at_lt (xs := ys) (i := (i : Int)) (by omega) (by omega)
                simp at a1 b1
                simp [t__law_same_b1, a2, b2]
                refine ⟨m', w, v, by omega, rfl, hx v (List.mem_of_getElem? a1), hy w (List.mem_of_getElem? b1), fun t ht => ?_⟩
                simp
                cases t with
                | true =>
                  have hwv := ht.mp rfl
                  simp
                  refine hN _ _ ⟨_, o2, i + 1, rfl, rfl, hr2, hi2, fun j hj => ?_⟩
                  by_cases hji : j = i
                  · subst hji; rw [a1, b1, hwv]
                  · exact heq j (by omega)
                | false =>
                  simp
                  refine q false ?_
                  simp
                  rintro rfl
                  rw [a1] at b1
                  cases b1
                  exact absurd (ht.mpr rfl) (by simp)
          · rw [if_neg (by omega)]
            refine q false ?_
            simp
            exact fun z => hlen (by rw [z])
end K77

set_option Elab.async false
set_option linter.all false
set_option maxRecDepth 100000
set_option maxHeartbeats 4000000
/-! k76: values put together anew. -/
namespace K77
open PySem PySem.Spec L2 L3
theorem cut_tail {x : D} {r : List D} : cutD (x :: r) (some 1) none = r := by
  unfold cutD
  simp [HT.sIx]
theorem cut_init {r : List D} : cutD r none (some (-1)) = r.dropLast := by
  unfold cutD
  simp [HT.sIx]
  rw [List.dropLast_eq_take]
  congr 1
  omega
theorem cut_to {xs : List D} {i : Nat} (h : i ≤ xs.length) : cutD xs none (some (i : Int)) = xs.take i := by
  unfold cutD
  rw [HT.sIx_nat, HT.sIx_none, Nat.min_eq_left h]
  simp
theorem cut_from {xs : List D} {i : Nat} (h : i ≤ xs.length) : cutD xs (some (i : Int)) none = xs.drop i := by
  unfold cutD
  rw [HT.sIx_nat, HT.sIx_none, Nat.min_eq_left h]
  rw [List.take_of_length_le]
  rw [List.length_drop]; exact Nat.le_refl _
theorem srt_uniq : ∀ {es fs : List (List Int × D)}, fs.Perm es → Srt es → Srt fs → fs = es
  | [], fs, p, _, _ => List.perm_nil.mp p
  | e :: es, fs, p, h, h' => by
    cases fs with
    | nil => exact absurd p.length_eq (by simp)
    | cons f fs =>
      have h1 := List.pairwise_cons.mp h
      have h2 := List.pairwise_cons.mp h'
      have hf : f ∈ e :: es := p.mem_iff.mp List.mem_cons_self
      have he : e ∈ f :: fs := p.mem_iff.mpr List.mem_cons_self
      have ef : f = e := by
        rcases List.mem_cons.mp hf with z | hf
        · exact z
        · rcases List.mem_cons.mp he with z | he
          · exact z.symm
          · have a := h1.1 f hf
            have b := h2.1 e he
            rw [NtL.lex_asym _ _ a] at b
            cases b
      subst ef
      rw [srt_uniq (List.Perm.cons_inv p) h1.2 h2.2]
def sp_listof : WSp := fun ds S Q _ => ∃ xs : List D, ds = [.lst xs] ∧ Q (lsD xs) S
theorem w_listof (ds S Q E) (h : sp_listof ds S Q E) : t_list_of (dEnds Q E) (L3.start 1 ds) S := by
  obtain ⟨xs, rfl, q⟩ := h
  simp [t_list_of, line2]
  exact q
def sp_mapof : WSp := fun ds S Q _ => ∃ es : List (List Int × D), ds = [.lst (es.map ent)] ∧ (es.map (·.1)).Nodup ∧ es.length ≤ 5000 ∧ ∀ fs, List.Perm fs es → Srt fs → Q (mpD fs) S
theorem find_dk {k : List Int} {d : D} : ∀ {es : List (List Int × D)}, (k, d) ∈ es → (es.map (·.1)).Nodup → (((dk (es.map (·.1))).zip (es.map (·.2))).find? fun z => decide (z.1 = (k.map Sum.inl : List Key))).map (·.2) = some d
  | [], h, _ => by cases h
  | e :: es, h, hn => by
    rw [List.map_cons, List.nodup_cons] at hn
    have e1 : (dk ((e :: es).map (·.1))).zip ((e :: es).map (·.2)) = ((e.1.map Sum.inl : List Key), e.2) :: (dk (es.map (·.1))).zip (es.map (·.2)) := rfl
    rw [e1, List.find?_cons]
    rcases List.mem_cons.mp h with rfl | h
    · simp
    · have hne : e.1 ≠ k := fun z => hn.1 (z ▸ List.mem_map.mpr ⟨_, h, rfl⟩)
      have hne' : ¬ (e.1.map Sum.inl : List Key) = k.map Sum.inl := fun z => hne (inl_inj z)
      show ((match decide ((e.1.map Sum.inl : List Key) = k.map Sum.inl) with | true => some _ | false => _) : Option _).map _ = _
      rw [decide_eq_false hne']
      exact find_dk h hn.2
theorem w_mapof (x : Addr) (ds S Q E) (h : sp_mapof ds S Q E) : t_map_of x (dEnds Q E) (L3.start 4 ds) S := by
  obtain ⟨es, rfl, hn, hl, q⟩ := h
  simp [t_map_of]
  intro p hp
  refine forW_inv (fun ys env S' => ∃ (a b : List (List Int × D)) (o2 o3 : Option D), es = a ++ b ∧ ys = b.map ent ∧ env = [some (.lst (es.map ent)), some (.ref p), o2, o3] ∧ S' = sup S p (.dT (dk (a.map (·.1))) (a.map (·.2)))) ?_ ?_ _ _ _ ⟨[], es, none, none, rfl, rfl, rfl, rfl⟩
  · rintro env S' ⟨a, b, o2, o3, e, hb, rfl, rfl⟩
    refine ⟨trivial, ?_⟩
    obtain rfl : b = [] := by simpa using hb.symm
    rw [List.append_nil] at e
    subst e
    simp
    refine ⟨es.map (·.1), rfl, ?_⟩
    simp
    refine ⟨es.map (·.1), by rw [List.map_map], hn, fun fs pf hs => ?_⟩
    obtain ⟨gs, pg, rfl⟩ := perm_map _ pf
    simp
    have hgl : gs.length ≤ 5000 := by rw [pg.length_eq]; exact hl
    refine lcW_inv (fun ys acc S' => S' = sup S p (.dT (dk (es.map (·.1))) (es.map (·.2))) ∧ ∃ a b, gs = a ++ b ∧ ys = b.map (fun e => kyD e.1) ∧ acc = a.map ent) ?_ ?_ _ _ _ ⟨rfl, [], gs, rfl, by simp, rfl⟩
    · rintro acc S' ⟨rfl, a, b, e, hb, rfl⟩
      obtain rfl : b = [] := by simpa using hb.symm
      rw [List.append_nil] at e
      subst e
      refine ⟨trivial, ?_⟩
      simp [line2, sdel_sup hp]
      refine q gs pg ?_
      unfold Srt
      rw [List.pairwise_map] at hs
      exact hs
    · rintro y r acc S' N ⟨rfl, a, b, e, hb, rfl⟩ hN
      obtain ⟨⟨k, d⟩, b', rfl⟩ : ∃ x b', b = x :: b' := by
        cases b with
        | nil => simp at hb
        | cons x b' => exact ⟨x, b', rfl⟩
      simp only [List.map_cons, List.cons.injEq] at hb
      obtain ⟨rfl, rfl⟩ := hb
      have hlen := congrArg List.length e
      simp at hlen
      refine ⟨trivial, ?_⟩
      simp [t_map_of_e1]
      refine ⟨k, rfl, d, find_dk (pg.mem_iff.mp (by rw [e]; simp)) hn, ?_⟩
      simp [line2]
      exact ⟨by omega, hN _ _ ⟨rfl, a ++ [(k, d)], b', by simp [e], rfl, by simp⟩⟩
  · rintro y r env S' N ⟨a, b, o2, o3, e, hb, rfl, rfl⟩ hN
    obtain ⟨⟨k, d⟩, b', rfl⟩ : ∃ x b', b = x :: b' := by
      cases b with
      | nil => simp at hb
      | cons x b' => exact ⟨x, b', rfl⟩
    simp only [List.map_cons, List.cons.injEq] at hb
    obtain ⟨rfl, rfl⟩ := hb
    have hno : k ∉ a.map (·.1) := fun hk => by
      rw [e, List.map_append, List.map_cons, List.nodup_append] at hn
      exact hn.2.2 k hk k List.mem_cons_self rfl
    refine ⟨trivial, ?_⟩
    have hlen := congrArg List.length e
    simp at hlen
    simp [t_map_of_b1]
    have hk : hasK (dk (a.map (·.1))) (k.map Sum.inl) = false := by rw [hasK_dk]; exact decide_eq_false hno
    refine ⟨k, rfl, ?_⟩
    simp [hk]
    refine ⟨k, rfl, hk, by simp [dk, line2]; omega, ?_⟩
    refine hN _ _ ⟨a ++ [(k, d)], b', some (.tup (k.map D.int)), some d, by simp [e], rfl, rfl, ?_⟩
    simp [dk]
end K77

set_option Elab.async false
set_option linter.all false
set_option maxRecDepth 100000
set_option maxHeartbeats 4000000
/-! k76: a part put in. -/
namespace K77
open PySem PySem.Spec L2 L3
/-- made('list', rows), made('map', rows) -/
def sp_made : WSp := fun ds S Q _ => (∃ rows : List (D × D), ds = [.str "list", .lst (rows.map pairD)] ∧ rows.length ≤ 5000 ∧ Q (lsD (rows.map (·.2))) S) ∨
  ∃ es : List (List Int × D), ds = [.str "map", .lst (es.map ent)] ∧ (es.map (·.1)).Nodup ∧ es.length ≤ 5000 ∧ ∀ fs, List.Perm fs es → Srt fs → Q (mpD fs) S
theorem w_made (ds S Q E) (h : sp_made ds S Q E) : t_made sp_listof sp_mapof (dEnds Q E) (L3.start 3 ds) S := by
  rcases h with ⟨rows, rfl, hl, q⟩ | ⟨es, rfl, hn, hl, q⟩
  · simp [t_made]
    refine lcW_pure (fun d => match d with | .tup [_, v] => some v | _ => none) trivial _ _ (by simp [line2]; omega) (fun y hy A B hh => ?_) ?_
    · obtain ⟨x, _, rfl⟩ := List.mem_map.mp hy
      simpa [t_made_e1, pairD] using hh
    · have e1 : ∀ rows : List (D × D), (rows.map pairD).filterMap (fun d => match d with | .tup [_, v] => some v | _ => none) = rows.map (fun e => e.2) := fun rows => by
        induction rows with
        | nil => rfl
        | cons x rows ih => simp only [List.map_cons, pairD, List.filterMap_cons, ih]
      rw [List.nil_append, e1]
      simp
      exact ⟨_, rfl, q⟩
  · have hne := map_list
    simp [t_made, hne]
    exact ⟨es, by simp, hn, hl, q⟩
open Classical in
/-- a part of a list, of a map, is changed -/
noncomputable def updL (xs : List D) (s : D) (f : D → D) : List D := xs.zipIdx.map fun p => if D.int (p.2 : Int) = s then f p.1 else p.1
open Classical in
noncomputable def updM (es : List (List Int × D)) (s : D) (f : D → D) : List (List Int × D) := es.map fun e => if keyD e.1 = s then (e.1, f e.2) else e
/-- a list is worked at by f, a map by g -/
def onD (d : D) (f : List D → D) (g : List (List Int × D) → D) (z : D) : Prop := (∃ xs, d = lsD xs ∧ z = f xs) ∨ ∃ es, d = mpD es ∧ z = g es
open Classical in
/-- d with e at the path -/
noncomputable def putD (e : D) : List D → D → D
  | [], _ => e
  | s :: r, d => if h : ∃ xs, d = lsD xs then lsD (updL (Classical.choose h) s (putD e r)) else if h : ∃ es, d = mpD es then mpD (updM (Classical.choose h) s (putD e r)) else d
theorem lsD_inj {xs ys : List D} (h : lsD xs = lsD ys) : xs = ys := by
  simp only [lsD, D.tup.injEq, List.cons.injEq] at h
  exact h.2.1
theorem mpD_inj {es fs : List (List Int × D)} (h : mpD es = mpD fs) : es = fs := by
  simp only [mpD, D.tup.injEq, List.cons.injEq] at h
  exact ents_inj h.2.1
theorem putD_list {e s : D} {r xs : List D} : putD e (s :: r) (lsD xs) = lsD (updL xs s (putD e r)) := by
  have h : ∃ ys, lsD xs = lsD ys := ⟨xs, rfl⟩
  rw [putD, dif_pos h]
  have z := Classical.choose_spec h
  rw [← lsD_inj z]
theorem putD_map {e s : D} {r : List D} {es : List (List Int × D)} : putD e (s :: r) (mpD es) = mpD (updM es s (putD e r)) := by
  have h0 : ¬ ∃ ys, mpD es = lsD ys := fun ⟨ys, z⟩ => list_ne_map z.symm
  have h : ∃ fs, mpD es = mpD fs := ⟨es, rfl⟩
  rw [putD, dif_neg h0, dif_pos h]
  have z := Classical.choose_spec h
  rw [← mpD_inj z]
theorem updL_len {xs : List D} {s : D} {f : D → D} : (updL xs s f).length = xs.length := by simp [updL]
theorem updM_len {es : List (List Int × D)} {s : D} {f : D → D} : (updM es s f).length = es.length := by simp [updM]
open Classical in
theorem updM_fst {es : List (List Int × D)} {s : D} {f : D → D} : (updM es s f).map (·.1) = es.map (·.1) := by
  unfold updM
  rw [List.map_map]
  refine List.map_congr_left fun e _ => ?_
  show (if keyD e.1 = s then (e.1, f e.2) else e).1 = e.1
  split <;> rfl
theorem srt_fst {es fs : List (List Int × D)} (h : Srt es) (e : fs.map (·.1) = es.map (·.1)) : Srt fs := by
  have z : (es.map (·.1)).Pairwise (fun k l => HT.lexLt k l = true) := by rw [List.pairwise_map]; exact h
  rw [← e, List.pairwise_map] at z
  exact z
def sp_put (k : Nat) : WSp := fun ds S Q _ => ∃ (n : Nat) (d h part : D) (path : List D), path.length < k ∧ path.length ≤ 1000 ∧ ds = [d, .tup path, part] ∧ Vl n d ∧ Fol d path h ∧ Q (putD part path d) S
open Classical in
theorem w_put (k : Nat) (ds S Q E) (h : sp_put (k + 1) ds S Q E) : t_put_at sp_made (sp_put k) sp_osteps (dEnds Q E) (L3.start 6 ds) S := by
  obtain ⟨n, d, h, part, path, hk, hk2, rfl, hv, hf, q⟩ := h
  cases path with
  | nil =>
    simp [t_put_at]
    exact q
  | cons s r =>
    cases hf with
    | @cons _ _ c _ _ hs hf =>
    have hkey := hv.keys _ hs
    simp at hk hk2
    simp [t_put_at, line2]
    have hne : ¬ ((r.length : Int) + 1 = 0) := by omega
    simp [hne]
    intro p hp
    refine ⟨n, d, rfl, hv, fun p2 hp2 => ?_⟩
    simp [sdel_sup hp2]
    let g : D × D → D × D := fun x => if x.1 = s then (x.1, putD part r x.2) else x
    refine forW_inv (fun ys env S' => ∃ (a b : List (D × D)) (o4 o5 : Option D), steps d = a ++ b ∧ ys = b.map pairD ∧ env = [some d, some (.tup (s :: r)), some part, some (.ref p), o4, o5] ∧ S' = sup S p (.lst ((a.map g).map pairD))) ?_ ?_ _ _ _ ⟨[], steps d, none, none, rfl, rfl, rfl, rfl⟩
    · rintro env S' ⟨a, b, o4, o5, e, hb, rfl, rfl⟩
      refine ⟨trivial, ?_⟩
      obtain rfl : b = [] := by simpa using hb.symm
      rw [List.append_nil] at e
      subst e
      have hlen := hv.parts.1
      rcases hv.look with ⟨nm, w, rfl, _, _, hl⟩ | ⟨m', hm', ⟨xs, rfl, hl, hx⟩ | ⟨es, rfl, hl, hn, hx⟩⟩
      · rw [steps_leaf hl] at hs; cases hs
      · simp [sdel_sup hp]
        have e2 : ((steps (lsD xs)).map g).map (·.2) = updL xs s (putD part r) := by
          rw [steps_list, List.map_map, List.map_map]
          unfold updL
          refine List.map_congr_left fun z _ => ?_
          show (if D.int (z.2 : Int) = s then (D.int (z.2 : Int), putD part r z.1) else (D.int (z.2 : Int), z.1)).2 = _
          split <;> rfl
        refine .inl ⟨(steps (lsD xs)).map g, by rw [List.map_map], by rw [List.length_map]; exact Nat.le_trans hlen (by decide), ?_⟩
        rw [putD_list] at q
        rw [e2]
        exact q
      · simp [sdel_sup hp]
        rw [putD_map] at q
        refine .inr ⟨updM es s (putD part r), ?_, ?_, by rw [updM_len]; omega, fun fs pf hfs => ?_⟩
        · have e2 : (es.map ((pairD ∘ g) ∘ fun e => (keyD e.1, e.2))) = (updM es s (putD part r)).map ent := by
            unfold updM
            rw [List.map_map]
            refine List.map_congr_left fun z _ => ?_
            show pairD (if keyD z.1 = s then (keyD z.1, putD part r z.2) else (keyD z.1, z.2)) = ent (if keyD z.1 = s then (z.1, putD part r z.2) else z)
            split <;> rfl
          rw [steps_map, List.map_map, e2]
        · rw [updM_fst]; exact hn.nodup
        · rw [srt_uniq pf (srt_fst hn updM_fst) hfs]
          exact q
    · rintro y r' env S' N ⟨a, b, o4, o5, e, hb, rfl, rfl⟩ hN
      obtain ⟨x, b', rfl⟩ : ∃ x b', b = x :: b' := by
        cases b with
        | nil => simp at hb
        | cons x b' => exact ⟨x, b', rfl⟩
      simp only [List.map_cons, List.cons.injEq] at hb
      obtain ⟨rfl, rfl⟩ := hb
      have hx : x ∈ steps d := by rw [e]; simp
      have hlen := hv.parts.1
      rw [e] at hlen
      simp at hlen
      have fin : ∀ v, g x = (x.1, v) → N [some d, some (.tup (s :: r)), some part, some (.ref p), some x.1, some x.2] (sup S p (.lst ((a.map g).map pairD ++ [.tup [x.1, v]]))) := fun v hg => by
        refine hN _ _ ⟨a ++ [x], b', _, _, by simp [e], rfl, rfl, ?_⟩
        rw [List.map_append, List.map_append]
        simp [hg, pairD]
      refine ⟨trivial, ?_⟩
      simp [t_put_at_b1, pairD, -L3.rEq_eq]
      refine rEq_key (hv.keys _ hx) hkey fun t ht => ?_
      by_cases e2 : x.1 = s
      · rw [ht.mpr e2]
        have ec : x.2 = c := hv.uniq (s := s) (by rw [← e2]; exact hx) hs
        obtain ⟨m, hm, hc⟩ := hv.parts.2 _ hs
        simp [cut_tail]
        refine ⟨m, x.2, h, part, r, by omega, by omega, rfl, by rw [ec]; exact hc, by rw [ec]; exact hf, ?_⟩
        simp [line2]
        refine ⟨by omega, ?_⟩
        have z := fin (putD part r x.2) (by show (if x.1 = s then _ else _) = _; rw [if_pos e2])
        simpa using z
      · have : t = false := by
          cases t with
          | true => exact absurd (ht.mp rfl) e2
          | false => rfl
        rw [this]
        simp [line2]
        refine ⟨by omega, ?_⟩
        have z := fin x.2 (by show (if x.1 = s then _ else _) = _; rw [if_neg e2])
        simpa using z
end K77

set_option Elab.async false
set_option linter.all false
set_option maxRecDepth 100000
set_option maxHeartbeats 4000000
/-! k76: what an edit is, when it is refused; replaced, removed, inserted, edited. -/
namespace K77
open PySem PySem.Spec L2 L3
/-- a step at which a part may be put in -/
inductive Fits : D → D → Prop
  | lst {xs : List D} {i : Nat} : i ≤ xs.length → Fits (lsD xs) (.int i)
  | map {es : List (List Int × D)} {k : List Int} : k ∉ es.map (·.1) → Fits (mpD es) (keyD k)
inductive Bad
  | astray (p : List D) | mis (s : D) | deep (i : Int)
def more (way : Int) : Nat := if way = 2 then 1 else 0
/-- why an edit is refused, if it is -/
inductive Rf (way : Int) (d : D) (path : List D) (step part : D) : Option Bad → Prop
  | lost : (∀ e, ¬ Fol d path e) → Rf way d path step part (some (.astray path))
  | root : way = 1 → path = [] → Rf way d path step part (some (.astray []))
  | mis {h : D} : way = 2 → Fol d path h → ¬ Fits h step → Rf way d path step part (some (.mis step))
  | deep {h : D} {p : Nat} : (way = 0 ∨ way = 2 ∧ Fits h step) → Fol d path h → Mn part p → 24 < path.length + more way + p → Rf way d path step part (some (.deep ((path.length + more way + p : Nat) : Int)))
  | fine1 {h : D} : way = 1 → path ≠ [] → Fol d path h → Rf way d path step part none
  | fine {h : D} {p : Nat} : (way = 0 ∨ way = 2 ∧ Fits h step) → Fol d path h → Mn part p → path.length + more way + p ≤ 24 → Rf way d path step part none
/-- rows with one more, by their keys -/
def insE (es : List (List Int × D)) (k : List Int) (v : D) : List (List Int × D) := es.filter (fun e => HT.lexLt e.1 k) ++ ([(k, v)] ++ es.filter (fun e => HT.lexLt k e.1))
inductive Ins (part : D) : D → D → D → Prop
  | lst {xs : List D} {i : Nat} : i ≤ xs.length → Ins part (lsD xs) (.int i) (lsD (xs.take i ++ ([part] ++ xs.drop i)))
  | map {es : List (List Int × D)} {k : List Int} : k ∉ es.map (·.1) → Ins part (mpD es) (keyD k) (mpD (insE es k part))
inductive Rem : D → D → D → Prop
  | lst {xs : List D} {i : Nat} : i < xs.length → Rem (lsD xs) (.int i) (lsD (xs.take i ++ xs.drop (i + 1)))
  | map {es : List (List Int × D)} {k : List Int} : k ∈ es.map (·.1) → Rem (mpD es) (keyD k) (mpD (es.filter fun e => decide (e.1 ≠ k)))
/-- the value behind an edit -/
inductive Ed (way : Int) (d : D) (path : List D) (step part : D) : D → Prop
  | put {h : D} : way = 0 → Fol d path h → Ed way d path step part (putD part path d)
  | rem {h s w : D} {a : List D} : way = 1 → path = a ++ [s] → Fol d a h → Rem h s w → Ed way d path step part (putD w a d)
  | ins {h w : D} : way = 2 → Fol d path h → Ins part h step w → Ed way d path step part (putD w path d)
theorem stray_of : ∀ {path : List D} {d : D}, (∀ e, ¬ Fol d path e) → Stray d path
  | [], d, h => absurd .nil (h d)
  | s :: r, d, h => by
    by_cases c : ∃ e, (s, e) ∈ steps d
    · obtain ⟨e, he⟩ := c
      exact .there he (stray_of fun f hf => h f (.cons he hf))
    · exact .here fun q hq e => c ⟨q.2, by rw [← e]; exact hq⟩
theorem rNe_key {a b : D} {S : Sto} {Q : VQ} (ha : IsKey a) (hb : IsKey b) (h : ∀ t : Bool, (t = true ↔ a = b) → Q (.bl (!t)) S) : L3.rNe a b S Q := by
  have z : L3.rEq a b S (fun d S' => match d with | .bl t => Q (.bl (!t)) S' | _ => False) := rEq_key ha hb fun t ht => h t ht
  rcases ha with ⟨i, rfl⟩ | ⟨k, rfl, _⟩
  · rcases hb with ⟨j, rfl⟩ | ⟨l, rfl, _⟩
    · exact z
    · exact z
  · rcases hb with ⟨j, rfl⟩ | ⟨l, rfl, _⟩
    · exact z
    · exact z
def sp_levels (x : Addr) : WSp := fun ds S Q E => ∃ i : Int, ds = [.int i] ∧ ((24 < i ∧ E x (.int i) S) ∨ (i ≤ 24 ∧ Q .non S))
theorem w_levels (x : Addr) (ds S Q E) (h : sp_levels x ds S Q E) : t_check_levels x (dEnds Q E) (L3.start 1 ds) S := by
  obtain ⟨i, rfl, ⟨h1, q⟩ | ⟨h1, q⟩⟩ := h
  · simp [t_check_levels, h1]
    exact q
  · have h2 : ¬ 24 < i := by omega
    simp [t_check_levels, h2]
    exact q
def sp_step (x : Addr) : WSp := fun ds S Q E => ∃ (n : Nat) (d s : D), ds = [d, s] ∧ Vl n d ∧ IsKey s ∧ ((Fits d s ∧ Q .non S) ∨ (¬ Fits d s ∧ E x s S))
theorem fits_int {xs : List D} {i : Int} : Fits (lsD xs) (.int i) ↔ 0 ≤ i ∧ i ≤ xs.length := by
  constructor
  · intro h
    generalize hd : lsD xs = d at h
    generalize hs : D.int i = s at h
    cases h with
    | @lst ys j hj =>
      cases hs
      rw [lsD_inj hd]
      exact ⟨by omega, by omega⟩
    | map _ => exact absurd hd list_ne_map
  · intro ⟨h1, h2⟩
    have e : i = ((i.toNat : Nat) : Int) := by omega
    rw [e]
    exact .lst (by omega)
theorem fits_key {es : List (List Int × D)} {k : List Int} : Fits (mpD es) (keyD k) ↔ k ∉ es.map (·.1) := by
  constructor
  · intro h
    generalize hd : mpD es = d at h
    generalize hs : keyD k = s at h
    cases h with
    | lst _ => cases hs
    | map hk =>
      rw [mpD_inj hd, key_inj hs]
      exact hk
  · exact fun h => .map h
theorem fits_not1 {xs : List D} {k : List Int} : ¬ Fits (lsD xs) (keyD k) := fun h => by
  generalize hd : lsD xs = d at h
  generalize hs : keyD k = s at h
  cases h with
  | lst _ => cases hs
  | map _ => exact list_ne_map hd
theorem fits_not2 {es : List (List Int × D)} {i : Int} : ¬ Fits (mpD es) (.int i) := fun h => by
  generalize hd : mpD es = d at h
  generalize hs : D.int i = s at h
  cases h with
  | lst _ => exact list_ne_map hd.symm
  | map _ => cases hs
theorem fits_leaf {d s : D} (hl : IsLeaf d) : ¬ Fits d s := fun h => by
  cases h with
  | lst _ => exact not_leaf_list hl
  | map _ => exact not_leaf_map hl
theorem keys_of : ∀ es : List (List Int × D), (es.map ent).filterMap (fun d => match d with | .tup (x :: _) => some x | _ => none) = (es.map (·.1)).map keyD
  | [] => rfl
  | x :: es => by simp only [List.map_cons, ent, List.filterMap_cons, keys_of es, keyD]
theorem w_step (x : Addr) (ds S Q E) (h : sp_step x ds S Q E) : t_check_step x (dEnds Q E) (L3.start 3 ds) S := by
  obtain ⟨n, d, s, rfl, hv, hk, q⟩ := h
  have hne := map_list
  have hne2 : ("list" : Str) ≠ "map" := fun e => hne e.symm
  rcases hv.look with ⟨nm, w, rfl, h1, h2, hl⟩ | ⟨m', hm', ⟨xs, rfl, hl, hx⟩ | ⟨es, rfl, hl, hn, hx⟩⟩
  · rcases q with ⟨c, _⟩ | ⟨_, q⟩
    · exact absurd c (fits_leaf hl)
    · simp [t_check_step, h1, h2]
      exact q
  · rcases hk with ⟨i, rfl⟩ | ⟨k, rfl, _⟩
    · simp [t_check_step, tys, hne2]
      rw [fits_int] at q
      rcases q with ⟨⟨c1, c2⟩, q⟩ | ⟨c, q⟩
      · simp [c1, c2]
        exact q
      · by_cases c1 : 0 ≤ i
        · have c2 : ¬ i ≤ xs.length := fun z => c ⟨c1, z⟩
          simp [c1, c2]
          exact q
        · simp [c1]
          exact q
    · rcases q with ⟨c, _⟩ | ⟨_, q⟩
      · exact absurd c fits_not1
      · rw [keyD] at q ⊢
        simp [t_check_step, tys, hne2]
        exact q
  · rcases hk with ⟨i, rfl⟩ | ⟨k, rfl, _⟩
    · rcases q with ⟨c, _⟩ | ⟨_, q⟩
      · exact absurd c fits_not2
      · simp [t_check_step, tys, hne]
        exact q
    · rw [fits_key] at q
      rw [keyD] at q ⊢
      simp [t_check_step, tys, hne]
      refine lcW_pure (fun d => match d with | .tup (x :: _) => some x | _ => none) trivial _ _ (by simp [line2]; omega) (fun y hy A B hh => ?_) ?_
      · obtain ⟨z, _, rfl⟩ := List.mem_map.mp hy
        simpa [t_check_step_e1] using hh
      · rw [keys_of, List.nil_append]
        simp
        refine ⟨_, in_keys2 k es, ?_⟩
        simp
        rcases q with ⟨c, q⟩ | ⟨c, q⟩
        · have c' : decide (k ∈ es.map (·.1)) = false := decide_eq_false c
          rw [c']
          simp
          exact q
        · have c' : decide (k ∈ es.map (·.1)) = true := decide_eq_true (Classical.not_not.mp c)
          rw [c']
          simp
          exact q
end K77

set_option Elab.async false
set_option linter.all false
set_option maxRecDepth 100000
set_option maxHeartbeats 4000000
/-! k76: replaced, removed, inserted, edited. -/
namespace K77
open PySem PySem.Spec L2 L3
/-- what an edit brings about -/
def Outc (xA xM xO : Addr) (way : Int) (d : D) (path : List D) (step part : D) (Q : VQ) (E : EX) (S : Sto) : Prop := ∃ r, Rf way d path step part r ∧ match r with
  | none => ∃ z, Ed way d path step part z ∧ Q z S
  | some (.astray p) => E xA (.tup p) S
  | some (.mis s) => E xM s S
  | some (.deep i) => E xO (.int i) S
/-- what is handed in -/
structure Given (d : D) (path : List D) (part : D) : Prop where
  dv : Vl 60 d
  pv : Vl 60 part
  key : ∀ s ∈ path, IsKey s
  len : path.length ≤ 60
theorem use_part {x : Addr} {n : Nat} {d e : D} {path : List D} {S : Sto} {Q : VQ} {E : EX} {hh} (hv : Vl n d) (hk : ∀ s ∈ path, IsKey s) (hf : Fol d path e) (q : Q e S) : Call (sp_part x) [d, .tup path] S Q E hh := ⟨n, d, path, rfl, hv, hk, .inl ⟨e, hf, q⟩⟩
theorem use_lost {x : Addr} {n : Nat} {d : D} {path : List D} {S : Sto} {Q : VQ} {E : EX} {hh} (hv : Vl n d) (hk : ∀ s ∈ path, IsKey s) (hf : ∀ e, ¬ Fol d path e) (q : E x (.tup path) S) : Call (sp_part x) [d, .tup path] S Q E hh := ⟨n, d, path, rfl, hv, hk, .inr ⟨stray_of hf, q⟩⟩
theorem use_depth {d : D} {p : Nat} {S : Sto} {Q : VQ} {E : EX} {hh} (hv : Vl 60 d) (hp : Mn d p) (q : Q (.int p) S) : Call (sp_depth 61) [d] S Q E hh := ⟨60, d, by decide, rfl, hv, fun i hi => by rw [hi.one hp]; exact q⟩
theorem use_put {n : Nat} {d h part : D} {path : List D} {S : Sto} {Q : VQ} {E : EX} {hh} (hl : path.length ≤ 60) (hv : Vl n d) (hf : Fol d path h) (q : Q (putD part path d) S) : Call (sp_put 61) [d, .tup path, part] S Q E hh := ⟨n, d, h, part, path, by omega, by omega, rfl, hv, hf, q⟩
def sp_replaced (xA xM xO : Addr) : WSp := fun ds S Q E => ∃ (d step part : D) (path : List D), ds = [d, .tup path, part] ∧ Given d path part ∧ Outc xA xM xO 0 d path step part Q E S
theorem w_replaced (xA xM xO : Addr) (ds S Q E) (h : sp_replaced xA xM xO ds S Q E) : t_replaced (sp_levels xO) (sp_depth 61) (sp_part xA) (sp_put 61) (dEnds Q E) (L3.start 3 ds) S := by
  obtain ⟨d, step, part, path, rfl, g, r, hr, q⟩ := h
  simp [t_replaced]
  cases hr with
  | lost hf => exact use_lost g.dv g.key hf q
  | root h _ => exact absurd h (by decide)
  | mis h _ _ => exact absurd h (by decide)
  | fine1 h _ _ => exact absurd h (by decide)
  | @deep h p _ hf hp hlt =>
    refine use_part g.dv g.key hf ?_
    simp
    refine use_depth g.pv hp ?_
    simp
    simp [more] at hlt q
    exact ⟨_, rfl, .inl ⟨by omega, q⟩⟩
  | @fine h p _ hf hp hle =>
    refine use_part g.dv g.key hf ?_
    simp
    refine use_depth g.pv hp ?_
    simp
    simp [more] at hle
    refine ⟨_, rfl, .inr ⟨by omega, ?_⟩⟩
    simp
    refine use_put g.len g.dv hf ?_
    obtain ⟨z, hz, q⟩ := q
    cases hz with
    | put _ _ => exact q
    | rem h _ _ _ => exact absurd h (by decide)
    | ins h _ _ => exact absurd h (by decide)
theorem at_last {a : List D} {s : D} : atI (a ++ [s]) (-1) = some s := by
  unfold atI ixN
  simp
  rw [if_pos (by omega)]
  have e : (-1 + ((a.length : Int) + 1)).toNat = a.length := by omega
  simp [e]
theorem filter_idx : ∀ (xs : List D) (i off : Nat), ((xs.zipIdx off).filter fun p => decide (p.2 ≠ off + i)).map (·.1) = xs.take i ++ xs.drop (i + 1)
  | [], i, off => by simp
  | x :: xs, 0, off => by
    rw [List.zipIdx_cons, List.filter_cons]
    simp only [Nat.add_zero, ne_eq, not_true_eq_false, decide_false, Bool.false_eq_true, if_false, List.take_zero, List.nil_append, List.drop_succ_cons, List.drop_zero]
    have e : (xs.zipIdx (off + 1)).filter (fun p => decide ¬ p.2 = off) = xs.zipIdx (off + 1) := List.filter_eq_self.mpr fun p hp => by
      have := List.snd_lt_of_mem_zipIdx hp
      have := List.le_snd_of_mem_zipIdx hp
      simp; omega
    rw [e]
    exact List.zipIdx_map_fst _ xs
  | x :: xs, i + 1, off => by
    have ih := filter_idx xs i (off + 1)
    rw [List.zipIdx_cons, List.filter_cons]
    have e : decide ((x, off).2 ≠ off + (i + 1)) = true := by simp
    rw [if_pos e, List.map_cons, List.take_succ_cons, List.drop_succ_cons, List.cons_append]
    congr 1
    rw [← ih]
    congr 1
    refine List.filter_congr fun p _ => ?_
    congr 2
    rw [Nat.add_assoc, Nat.add_comm 1 i]
def sp_removed (xA xM xO : Addr) : WSp := fun ds S Q E => ∃ (d step part : D) (path : List D), ds = [d, .tup path] ∧ Given d path part ∧ Outc xA xM xO 1 d path step part Q E S
theorem fol_app {d h : D} {a b : List D} (hf : Fol d (a ++ b) h) : ∃ e, Fol d a e ∧ Fol e b h := by
  induction a generalizing d with
  | nil => exact ⟨d, .nil, hf⟩
  | cons s a ih =>
    cases hf with
    | cons hs hf =>
      obtain ⟨e, h1, h2⟩ := ih hf
      exact ⟨e, .cons hs h1, h2⟩
open Classical in
theorem rem_rows {n : Nat} {h s w : D} (hv : Vl n h) (hr : Rem h s w) :
    ∃ nm r, h = .tup (.str nm :: r) ∧ ∀ (S : Sto) (Q : VQ) (E : EX) (hh), Q w S → Call sp_made [.str nm, .lst (((steps h).filter fun x => decide (x.1 ≠ s)).map pairD)] S Q E hh := by
  cases hr with
  | @lst xs i hi =>
    refine ⟨"list", _, rfl, fun S Q E hh q => .inl ⟨_, rfl, Nat.le_trans (List.length_filter_le _ _) (Nat.le_trans hv.parts.1 (by decide)), ?_⟩⟩
    rw [steps_list, List.filter_map, List.map_map]
    have e : ((xs.zipIdx.filter ((fun x : D × D => decide (x.1 ≠ D.int (i : Int))) ∘ fun p : D × Nat => (D.int (p.2 : Int), p.1))).map ((fun x : D × D => x.2) ∘ fun p : D × Nat => (D.int (p.2 : Int), p.1))) = xs.take i ++ xs.drop (i + 1) := by
      rw [← filter_idx xs i 0]
      show ((xs.zipIdx.filter _).map fun p => p.1) = _
      congr 1
      refine List.filter_congr fun p _ => ?_
      show decide (D.int (p.2 : Int) ≠ D.int (i : Int)) = decide (p.2 ≠ 0 + i)
      rw [decide_eq_decide]
      simp only [ne_eq, D.int.injEq, Nat.zero_add]
      omega
    rw [e]
    exact q
  | @map es k hk =>
    obtain ⟨i, rfl, hl, hs, hx⟩ := vl_map.mp hv
    have hs' : Srt (es.filter fun e => decide (e.1 ≠ k)) := hs.filter _
    refine ⟨"map", _, rfl, fun S Q E hh q => .inr ⟨es.filter fun e => decide (e.1 ≠ k), ?_, hs'.nodup, Nat.le_trans (List.length_filter_le _ _) (by omega), fun fs pf hfs => ?_⟩⟩
    · rw [steps_map, List.filter_map, List.map_map]
      have e : es.filter ((fun x : D × D => decide (x.1 ≠ keyD k)) ∘ fun e : List Int × D => (keyD e.1, e.2)) = es.filter fun e => decide (e.1 ≠ k) := List.filter_congr fun e _ => by
        show decide (keyD e.1 ≠ keyD k) = decide (e.1 ≠ k)
        rw [decide_eq_decide]
        exact ⟨fun z c => z (by rw [c]), fun z c => z (key_inj c)⟩
      rw [e]
      rfl
    · rw [srt_uniq pf hs' hfs]
      exact q
open Classical in
theorem w_removed (xA xM xO : Addr) (ds S Q E) (h : sp_removed xA xM xO ds S Q E) : t_removed xA sp_made (sp_part xA) (sp_put 61) sp_osteps (dEnds Q E) (L3.start 5 ds) S := by
  obtain ⟨d, step, part, path, rfl, g, r, hr, q⟩ := h
  simp [t_removed]
  cases hr with
  | lost hf => exact use_lost g.dv g.key hf q
  | root _ h =>
    subst h
    refine use_part g.dv g.key .nil ?_
    simp [line2]
    exact q
  | mis h _ _ => exact absurd h (by decide)
  | @deep h p c _ _ _ => exact absurd c (by intro c; rcases c with c | ⟨c, _⟩ <;> exact absurd c (by decide))
  | @fine h p c _ _ _ => exact absurd c (by intro c; rcases c with c | ⟨c, _⟩ <;> exact absurd c (by decide))
  | @fine1 h _ hne hf =>
    refine use_part g.dv g.key hf ?_
    obtain ⟨z, hz, q⟩ := q
    cases hz with
    | put h _ => exact absurd h (by decide)
    | ins h _ _ => exact absurd h (by decide)
    | @rem h' s w a _ hp hfa hrm =>
      subst hp
      have hlen : ¬ (((a ++ [s]).length : Int) = 0) := by simp; omega
      have hka : ∀ x ∈ a, IsKey x := fun x hx => g.key x (by simp [hx])
      have hks : IsKey s := g.key s (by simp)
      have hla : a.length ≤ 60 := by have := g.len; simp at this; omega
      obtain ⟨m, _, hvm⟩ := hfa.vl g.dv
      have hlen' : ¬ ((a.length : Int) + 1 = 0) := by omega
      simp [hlen', cut_init]
      refine use_part g.dv hka hfa ?_
      simp
      refine ⟨m, h', rfl, hvm, fun p2 hp2 => ?_⟩
      simp [sdel_sup hp2]
      refine lcW_pure (fun y => match y with | .tup [k, v] => if k = s then none else some y | _ => none) trivial _ _ (by have := hvm.parts.1; simp [line2]; omega) (fun y hy A B hh => ?_) ?_
      · obtain ⟨z, hz, rfl⟩ := List.mem_map.mp hy
        simp [t_removed_c1, t_removed_e1, pairD, at_last, -L3.rNe_eq]
        refine rNe_key (hvm.keys z hz) hks fun t ht => ?_
        simp only [pairD] at hh
        by_cases e2 : z.1 = s
        · rw [if_pos e2] at hh
          rw [ht.mpr e2]
          simpa using hh
        · rw [if_neg e2] at hh
          have : t = false := by
            cases t with
            | true => exact absurd (ht.mp rfl) e2
            | false => rfl
          rw [this]
          simpa using hh
      · have e1 : ∀ rows : List (D × D), (rows.map pairD).filterMap (fun y => match y with | .tup [k, v] => if k = s then none else some y | _ => none) = (rows.filter fun x => decide (x.1 ≠ s)).map pairD := fun rows => by
          induction rows with
          | nil => rfl
          | cons x rows ih =>
            by_cases e2 : x.1 = s
            · rw [List.filter_cons, if_neg (by simp [e2])]
              rw [List.map_cons, List.filterMap_cons_none (by simp only [pairD]; rw [if_pos e2]), ih]
            · rw [List.filter_cons, if_pos (by simp [e2])]
              rw [List.map_cons, List.filterMap_cons_some (b := pairD x) (by simp only [pairD]; rw [if_neg e2]), ih, List.map_cons]
        rw [List.nil_append, e1]
        obtain ⟨nm, r, eh, hm⟩ := rem_rows hvm hrm
        subst eh
        generalize (((steps (.tup (.str nm :: r))).filter fun x => decide (x.1 ≠ s)).map pairD) = rows at hm
        simp
        refine hm _ _ _ _ ?_
        simp [cut_init]
        exact use_put hla g.dv hfa q
end K77

set_option Elab.async false
set_option linter.all false
set_option maxRecDepth 100000
set_option maxHeartbeats 4000000
/-! k76: inserted, edited. -/
namespace K77
open PySem PySem.Spec L2 L3
theorem lex_lt_trans {a b c : List Int} (h1 : HT.lexLt a b = true) (h2 : HT.lexLt b c = true) : HT.lexLt a c = true := by
  cases z : HT.lexLt a c with
  | true => rfl
  | false =>
    have := NtL.lex_tr c a b z (NtL.lex_asym _ _ h1)
    rw [this] at h2
    cases h2
theorem insE_srt {es : List (List Int × D)} {k : List Int} {v : D} (h : Srt es) : Srt (insE es k v) := by
  unfold insE Srt
  rw [List.pairwise_append, List.pairwise_append]
  refine ⟨h.filter _, ⟨List.pairwise_singleton _ _, h.filter _, fun e he f hf => ?_⟩, fun e he f hf => ?_⟩
  · rw [List.mem_singleton.mp he]
    exact (List.mem_filter.mp hf).2
  · have h1 := (List.mem_filter.mp he).2
    rcases List.mem_append.mp hf with hf | hf
    · rw [List.mem_singleton.mp hf]
      exact h1
    · exact lex_lt_trans h1 (List.mem_filter.mp hf).2
theorem insE_perm {es : List (List Int × D)} {k : List Int} {v : D} (hk : k ∉ es.map (·.1)) : List.Perm (insE es k v) (es ++ [(k, v)]) := by
  have e : es.filter (fun e => HT.lexLt k e.1) = es.filter fun e => !HT.lexLt e.1 k := List.filter_congr fun e he => by
    have hne : e.1 ≠ k := fun z => hk (List.mem_map.mpr ⟨e, he, z⟩)
    cases c : HT.lexLt e.1 k with
    | true => rw [NtL.lex_asym _ _ c]; rfl
    | false =>
      cases c2 : HT.lexLt k e.1 with
      | true => rfl
      | false => exact absurd (lex_tot _ _ c c2) hne
  unfold insE
  rw [e]
  have p := List.filter_append_perm (fun e : List Int × D => HT.lexLt e.1 k) es
  refine List.Perm.trans ?_ (p.append_right [(k, v)])
  rw [List.append_assoc]
  exact List.Perm.append_left _ List.perm_append_comm
theorem insE_len {es : List (List Int × D)} {k : List Int} {v : D} (hk : k ∉ es.map (·.1)) : (insE es k v).length = es.length + 1 := by
  rw [(insE_perm hk).length_eq]; simp
def sp_inserted (xA xM xO : Addr) : WSp := fun ds S Q E => ∃ (d step part : D) (path : List D), ds = [d, .tup path, step, part] ∧ Given d path part ∧ IsKey step ∧ Outc xA xM xO 2 d path step part Q E S
theorem w_inserted (xA xM xO : Addr) (ds S Q E) (h : sp_inserted xA xM xO ds S Q E) : t_inserted (sp_levels xO) (sp_step xM) (sp_depth 61) sp_made (sp_part xA) (sp_put 61) sp_osteps (dEnds Q E) (L3.start 6 ds) S := by
  obtain ⟨d, step, part, path, rfl, g, hks, r, hr, q⟩ := h
  have off : ∀ {h : D}, ((2 : Int) = 0 ∨ (2 : Int) = 2 ∧ Fits h step) → Fits h step := fun c => c.elim (fun z => absurd z (by decide)) fun z => z.2
  simp [t_inserted]
  cases hr with
  | lost hf => exact use_lost g.dv g.key hf q
  | root h _ => exact absurd h (by decide)
  | fine1 h _ _ => exact absurd h (by decide)
  | @mis h _ hf hn =>
    obtain ⟨m, _, hvm⟩ := hf.vl g.dv
    refine use_part g.dv g.key hf ?_
    simp
    exact ⟨m, h, step, rfl, hvm, hks, .inr ⟨hn, q⟩⟩
  | @deep h p hc hf hp hlt =>
    obtain ⟨m, _, hvm⟩ := hf.vl g.dv
    refine use_part g.dv g.key hf ?_
    simp
    refine ⟨m, h, step, rfl, hvm, hks, .inl ⟨off hc, ?_⟩⟩
    simp
    refine use_depth g.pv hp ?_
    simp
    simp [more] at hlt q
    exact ⟨_, rfl, .inl ⟨by omega, q⟩⟩
  | @fine h p hc hf hp hle =>
    obtain ⟨m, _, hvm⟩ := hf.vl g.dv
    obtain ⟨z, hz, q⟩ := q
    cases hz with
    | put h _ => exact absurd h (by decide)
    | rem h _ _ _ => exact absurd h (by decide)
    | @ins h' w _ hf' hi =>
      obtain ⟨m', _, hvm'⟩ := hf'.vl g.dv
      have hst : Fits h' step := by
        cases hi with
        | lst h => exact .lst h
        | map h => exact .map h
      refine use_part g.dv g.key hf' ?_
      simp
      refine ⟨m', h', step, rfl, hvm', hks, .inl ⟨hst, ?_⟩⟩
      simp
      refine use_depth g.pv hp ?_
      simp
      simp [more] at hle
      refine ⟨_, rfl, .inr ⟨by omega, ?_⟩⟩
      simp
      refine ⟨m', h', rfl, hvm', fun p2 hp2 => ?_⟩
      have hlen := hvm'.parts.1
      cases hi with
      | @lst xs i hi =>
        have hi' : i ≤ 2000 := Nat.le_trans hi (by have := hlen; rw [steps_list] at this; simpa using this)
        have hl2 : (steps (lsD xs)).length = xs.length := by rw [steps_list]; simp
        simp [line2]
        refine ⟨⟨by omega, by omega⟩, ?_⟩
        simp [sdel_sup hp2]
        refine .inl ⟨(steps (lsD xs)).take i ++ [(.int i, part)] ++ (steps (lsD xs)).drop i, ?_, by simp; omega, ?_⟩
        · simp [pairD, List.map_take, List.map_drop]
        · have e : (((steps (lsD xs)).take i ++ [(D.int i, part)] ++ (steps (lsD xs)).drop i).map (·.2)) = xs.take i ++ ([part] ++ xs.drop i) := by
            have e0 : (steps (lsD xs)).map (·.2) = xs := by
              rw [steps_list, List.map_map]
              show xs.zipIdx.map (fun p => p.1) = xs
              exact List.zipIdx_map_fst 0 xs
            rw [List.map_append, List.map_append, List.map_take, List.map_drop, e0]
            simp
          rw [e]
          simp
          exact use_put g.len g.dv hf' q
      | @map es k hk =>
        obtain ⟨i, rfl, hl, hs, hx⟩ := vl_map.mp hvm'
        have hne := map_list
        have hl2 : (steps (mpD es)).length = es.length := by rw [steps_map]; simp
        simp [line2, hne]
        refine ⟨by omega, ?_⟩
        simp [sdel_sup hp2]
        refine .inr ⟨es ++ [(k, part)], ?_, ?_, by simp; omega, fun fs pf hfs => ?_⟩
        · rw [steps_map, List.map_map]
          simp [keyD]
          intro a b _
          rfl
        · rw [List.map_append, List.nodup_append]
          refine ⟨hs.nodup, by simp, fun a ha b hb => ?_⟩
          have hb' : b = k := by simpa using hb
          rw [hb']
          exact fun z => hk (z ▸ ha)
        · rw [srt_uniq (pf.trans (insE_perm hk).symm) (insE_srt hs) hfs]
          simp
          exact use_put g.len g.dv hf' q
def sp_edited (xA xM xO : Addr) : WSp := fun ds S Q E => ∃ (d step part : D) (path : List D), Given d path part ∧ IsKey step ∧
  ((ds = [d, .tup [.str "replace", .tup path, part]] ∧ Outc xA xM xO 0 d path step part Q E S) ∨ (ds = [d, .tup [.str "remove", .tup path]] ∧ Outc xA xM xO 1 d path step part Q E S) ∨
   (ds = [d, .tup [.str "insert", .tup path, step, part]] ∧ Outc xA xM xO 2 d path step part Q E S))
theorem w_edited (xA xM xO : Addr) (ds S Q E) (h : sp_edited xA xM xO ds S Q E) : t_edited (sp_inserted xA xM xO) (sp_removed xA xM xO) (sp_replaced xA xM xO) (dEnds Q E) (L3.start 2 ds) S := by
  obtain ⟨d, step, part, path, g, hk, h⟩ := h
  have e1 : ("remove" : Str) ≠ "replace" := by decide
  have e2 : ("insert" : Str) ≠ "replace" := by decide
  have e3 : ("insert" : Str) ≠ "remove" := by decide
  rcases h with ⟨rfl, q⟩ | ⟨rfl, q⟩ | ⟨rfl, q⟩
  · simp [t_edited, MtC, mtW]
    exact ⟨d, step, part, path, rfl, g, q⟩
  · simp [t_edited, MtC, mtW, e1]
    exact ⟨d, step, part, path, rfl, g, q⟩
  · simp [t_edited, MtC, mtW, e2, e3]
    exact ⟨d, step, part, path, rfl, g, hk, q⟩
end K77

set_option Elab.async false
set_option linter.all false
set_option maxRecDepth 100000
set_option maxHeartbeats 4000000
/-! k76: the law's own edits, tries and refusals. -/
namespace K77
open PySem PySem.Spec L2 L3
def Way (w : Int) : Prop := w = 0 ∨ w = 1 ∨ w = 2
def badD2 : Bad → D
  | .astray p => .tup [.str "astray", .tup p]
  | .mis s => .tup [.str "misplaced", s]
  | .deep i => .tup [.str "overdeep", .int i]
/-! paths among the ways -/
theorem kd_eqv {a b : D} (ha : IsKey a) (hb : IsKey b) : ∃ x y, toPy a = some x ∧ toPy b = some y ∧ x.canLay0 = true ∧ y.canLay0 = true ∧ x.depth ≤ 1 ∧ y.depth ≤ 1 ∧ (PyData.eqv x y = true ↔ a = b) := by
  rcases ha with ⟨i, rfl⟩ | ⟨k, rfl, _⟩
  · rcases hb with ⟨j, rfl⟩ | ⟨l, rfl, _⟩
    · exact ⟨_, _, rfl, rfl, by simp [PyData.canLay0], by simp [PyData.canLay0], by simp [PyData.depth], by simp [PyData.depth], by simp [PyData.eqv]⟩
    · exact ⟨_, _, rfl, py_key l, by simp [PyData.canLay0], by simp [PyData.canLay0, lay_ints], by simp [PyData.depth], by simp [PyData.depth, plain_ints], by simp [PyData.eqv, keyD]⟩
  · rcases hb with ⟨j, rfl⟩ | ⟨l, rfl, _⟩
    · exact ⟨_, _, py_key k, rfl, by simp [PyData.canLay0, lay_ints], by simp [PyData.canLay0], by simp [PyData.depth, plain_ints], by simp [PyData.depth], by simp [PyData.eqv, keyD]⟩
    · refine ⟨_, _, py_key k, py_key l, by simp [PyData.canLay0, lay_ints], by simp [PyData.canLay0, lay_ints], by simp [PyData.depth, plain_ints], by simp [PyData.depth, plain_ints], ?_⟩
      simp only [PyData.eqv, eqvAll_ints, decide_eq_true_eq]
      exact ⟨fun e => by rw [e], key_inj⟩
theorem kds_eqv : ∀ {a b : List D}, (∀ x ∈ a, IsKey x) → (∀ x ∈ b, IsKey x) → ∃ xs ys, toPys a = some xs ∧ toPys b = some ys ∧ PyData.canLayAll0 xs = true ∧ PyData.canLayAll0 ys = true ∧ PyData.depthAll xs ≤ 1 ∧ PyData.depthAll ys ≤ 1 ∧ (PyData.eqvAll xs ys = true ↔ a = b)
  | [], [], _, _ => ⟨[], [], by simp [toPys], by simp [toPys], by simp [PyData.canLayAll0], by simp [PyData.canLayAll0], by simp [PyData.depthAll], by simp [PyData.depthAll], by simp [PyData.eqvAll]⟩
  | [], y :: b, ha, hb => by
    obtain ⟨x, y', _, h2, _, h4, _, h6, _⟩ := kd_eqv (key_int 0) (hb y List.mem_cons_self)
    obtain ⟨xs, ys, _, g2, _, g4, _, g6, _⟩ := kds_eqv (a := []) ha fun z hz => hb z (List.mem_cons_of_mem _ hz)
    exact ⟨[], y' :: ys, by simp [toPys], by simp [toPys, h2, g2], by simp [PyData.canLayAll0], by simp [PyData.canLayAll0, h4, g4], by simp [PyData.depthAll], by simp [PyData.depthAll]; omega, by simp [PyData.eqvAll]⟩
  | x :: a, [], ha, hb => by
    obtain ⟨x', y', h1, _, h3, _, h5, _, _⟩ := kd_eqv (ha x List.mem_cons_self) (key_int 0)
    obtain ⟨xs, ys, g1, _, g3, _, g5, _, _⟩ := kds_eqv (b := []) (fun z hz => ha z (List.mem_cons_of_mem _ hz)) hb
    exact ⟨x' :: xs, [], by simp [toPys, h1, g1], by simp [toPys], by simp [PyData.canLayAll0, h3, g3], by simp [PyData.canLayAll0], by simp [PyData.depthAll]; omega, by simp [PyData.depthAll], by simp [PyData.eqvAll]⟩
  | x :: a, y :: b, ha, hb => by
    obtain ⟨x', y', h1, h2, h3, h4, h5, h6, h7⟩ := kd_eqv (ha x List.mem_cons_self) (hb y List.mem_cons_self)
    obtain ⟨xs, ys, g1, g2, g3, g4, g5, g6, g7⟩ := kds_eqv (fun z hz => ha z (List.mem_cons_of_mem _ hz)) fun z hz => hb z (List.mem_cons_of_mem _ hz)
    refine ⟨x' :: xs, y' :: ys, by simp [toPys, h1, g1], by simp [toPys, h2, g2], by simp [PyData.canLayAll0, h3, g3], by simp [PyData.canLayAll0, h4, g4], by simp [PyData.depthAll]; omega, by simp [PyData.depthAll]; omega, ?_⟩
    simp only [PyData.eqvAll, Bool.and_eq_true, h7, g7, List.cons.injEq]
where
  key_int (i : Int) : IsKey (.int i) := .inl ⟨i, rfl⟩
end K77

set_option Elab.async false
set_option linter.all false
set_option maxRecDepth 100000
set_option maxHeartbeats 4000000
/-! k76: when the law refuses. -/
namespace K77
open PySem PySem.Spec L2 L3
theorem exPath {a b : List D} {Q : Bool → Prop} {hh} (ha : ∀ x ∈ a, IsKey x) (hb : ∀ x ∈ b, IsKey x) (h : ∀ t : Bool, (t = true ↔ a = b) → Q t) : ExC (Deep (.tup a) (.tup b)) Q hh := by
  obtain ⟨xs, ys, h1, h2, h3, h4, h5, h6, h7⟩ := kds_eqv ha hb
  refine ⟨PyData.eqvAll xs ys, ⟨.tuple xs, .tuple ys, by simp [toPy, h1], by simp [toPy, h2], by simp [PyData.canLay0, h3], by simp [PyData.canLay0, h4], by simp [PyData.depth]; omega, by simp [PyData.eqv]⟩, h _ h7⟩
theorem inWays {path : List D} : ∀ {ws : List (List D)}, (∀ x ∈ path, IsKey x) → (∀ w ∈ ws, ∀ x ∈ w, IsKey x) → ∃ t, InD (.tup path) (ws.map D.tup) t ∧ (t = true ↔ path ∈ ws) := by
  intro ws hp hw
  obtain ⟨ps, _, p1, _, p3, _, p5, _, _⟩ := kds_eqv hp hp
  have key : ∀ ws : List (List D), (∀ w ∈ ws, ∀ x ∈ w, IsKey x) → ∃ ys, toPys (ws.map D.tup) = some ys ∧ PyData.canLayAll0 ys = true ∧ PyData.depthAll ys ≤ 2 ∧ ((ys.any fun z => PyData.eqv z (.tuple ps)) = true ↔ path ∈ ws) := by
    intro ws
    induction ws with
    | nil => exact fun _ => ⟨[], by simp [toPys], by simp [PyData.canLayAll0], by simp [PyData.depthAll], by simp⟩
    | cons w ws ih =>
      intro h
      obtain ⟨ys, g1, g2, g3, g4⟩ := ih fun z hz => h z (List.mem_cons_of_mem _ hz)
      obtain ⟨xs, ps', h1, h2, h3, h4, h5, h6, h7⟩ := kds_eqv (h w List.mem_cons_self) hp
      rw [p1] at h2; cases h2
      refine ⟨.tuple xs :: ys, by simp [toPys, toPy, h1, g1], by simp [PyData.canLayAll0, PyData.canLay0, h3, g2], by simp [PyData.depthAll, PyData.depth]; omega, ?_⟩
      rw [List.any_cons, Bool.or_eq_true, g4]
      simp only [PyData.eqv, h7, List.mem_cons]
      exact ⟨fun z => z.elim (fun a => .inl a.symm) .inr, fun z => z.elim (fun a => .inl a.symm) .inr⟩
  obtain ⟨ys, g1, g2, g3, g4⟩ := key ws hw
  refine ⟨_, .inr ⟨.tuple ps, ys, by simp [toPy, p1], g1, ?_, ?_, rfl⟩, g4⟩
  · simp [SeqAt.shaped, PyData.canLay0, PyData.depth, p3]; omega
  · simp [SeqAt.shaped, PyData.canLay0, PyData.depth, g2]; omega
theorem fol_ways {d e : D} {path : List D} (h : Fol d path e) : ∀ {B n f : Nat}, VB B n d → n ≤ f → path ∈ ways f d := by
  induction h with
  | nil =>
    intro B n f _ _
    cases f with
    | zero => simp [ways]
    | succ f => simp [ways]
  | @cons d s e g r hs _ ih =>
    intro B n f hv le
    obtain ⟨m, rfl, hc⟩ := hv.parts.2 _ hs
    obtain ⟨f, rfl⟩ : ∃ f', f = f' + 1 := ⟨f - 1, by omega⟩
    simp only [ways, List.mem_cons, List.mem_flatMap, List.mem_map]
    exact .inr ⟨(s, e), hs, r, ih hc (by omega), rfl⟩
theorem ways_keys {B n f : Nat} {d : D} (hv : VB B n d) : ∀ w ∈ ways f d, ∀ x ∈ w, IsKey x := fun w hw => by
  obtain ⟨e, he⟩ := ways_fol w hw
  exact he.key hv
/-- a value whose ways can be told -/
structure Told (d : D) : Prop where
  v : Vl 24 d
  w : (ways 24 d).length ≤ 6000000
theorem use_ways {d : D} (h : Told d) {S : Sto} {Q : VQ} {E : EX} {hh} (q : ∀ p, S p = none → Q (.ref p) (sup S p (.lst ((ways 24 d).map D.tup)))) : Call (sp_ways 25) [d] S Q E hh := ⟨24, 24, d, by decide, by decide, by decide, rfl, h.v, h.w, q⟩
theorem in_ways {d : D} (h : Told d) {path : List D} : path ∈ ways 24 d ↔ ∃ e, Fol d path e := ⟨fun z => ways_fol path z, fun ⟨_, z⟩ => fol_ways z h.v (by decide)⟩
theorem use_lpart {n : Nat} {d e : D} {path : List D} {S : Sto} {Q : VQ} {E : EX} {hh} (hv : Vl n d) (hf : Fol d path e) (q : Q e S) : Call sp_lpart [d, .tup path] S Q E hh := ⟨n, d, e, path, rfl, hv, hf, q⟩
def rfD : Option Bad → D
  | none => .non
  | some c => badD2 c
open Classical in
/-- of a row: the row itself, if its key is s -/
noncomputable def pickK (s : D) : D → Option D
  | .tup [k, v] => if k = s then some (.tup [k, v]) else none
  | _ => none
def sp_refusal : WSp := fun ds S Q _ => ∃ (way : Int) (d step part : D) (path : List D), ds = [d, .int way, .tup path, step, part] ∧ Way way ∧ Given d path part ∧ Told d ∧ IsKey step ∧ ∀ r, Rf way d path step part r → Q (rfD r) S
theorem w_refusal (ds S Q E) (h : sp_refusal ds S Q E) : t__law_refusal (sp_depth 61) sp_lpart (sp_ways 25) (dEnds Q E) (L3.start 9 ds) S := by
  obtain ⟨way, d, step, part, path, rfl, hw, g, ht, hk, q⟩ := h
  simp [t__law_refusal]
  refine use_ways ht fun p hp => ?_
  simp
  rw [sdel_sup hp]
  obtain ⟨t, hin, htt⟩ := inWays g.key (ways_keys (f := 24) ht.v)
  refine ⟨t, hin, ?_⟩
  cases t with
  | false =>
    simp [line2]
    refine q (some (.astray path)) (.lost fun e he => ?_)
    have := htt.mpr ((in_ways ht).mpr ⟨e, he⟩)
    cases this
  | true =>
    obtain ⟨h, hf⟩ := (in_ways ht).mp (htt.mp rfl)
    obtain ⟨m, _, hvm⟩ := hf.vl ht.v
    simp
    rcases hw with rfl | rfl | rfl
    · simp
      refine use_lpart ht.v hf ?_
      simp
      refine ⟨60, part, by decide, rfl, g.pv, fun p hp => ?_⟩
      simp [line2]
      split
      · rename_i hlt
        have e : ((path.length : Int) + (p : Int)) = ((path.length + more 0 + p : Nat) : Int) := by simp [more]
        have z := q (some (.deep ((path.length + more 0 + p : Nat) : Int))) (.deep (.inl rfl) hf hp (by simp [more]; omega))
        rw [← e] at z
        exact z
      · rename_i hlt
        exact q none (.fine (.inl rfl) hf hp (by simp [more]; omega))
    · simp
      refine exPath g.key (fun x hx => (by cases hx)) fun t2 ht2 => ?_
      cases t2 with
      | true =>
        have e := ht2.mp rfl
        subst e
        simp [line2]
        exact q (some (.astray [])) (.root rfl rfl)
      | false =>
        have hne : path ≠ [] := fun e => by have := ht2.mpr e; cases this
        simp
        refine use_lpart ht.v hf ?_
        simp
        refine ⟨60, part, by decide, rfl, g.pv, fun p hp => ?_⟩
        simp
        exact q none (.fine1 rfl hne hf)
    · simp
      refine use_lpart ht.v hf ?_
      simp
      have hne := map_list
      have hne2 : ("list" : Str) ≠ "map" := fun e => hne e.symm
      have bad : ¬ Fits h step → Q (.tup [.str "misplaced", step]) S := fun c => q (some (.mis step)) (.mis rfl hf c)
      have tail : Fits h step → ∀ p, Mn part p → ((24 : Int) < path.length + 1 + p → Q (.tup [.str "overdeep", .int (path.length + 1 + p)]) S) ∧ (¬ (24 : Int) < path.length + 1 + p → Q .non S) := fun c p hp => by
        refine ⟨fun hlt => ?_, fun hle => ?_⟩
        · have e : ((path.length : Int) + 1 + (p : Int)) = ((path.length + more 2 + p : Nat) : Int) := by simp [more]
          have z := q (some (.deep ((path.length + more 2 + p : Nat) : Int))) (.deep (.inr ⟨rfl, c⟩) hf hp (by simp [more]; omega))
          rw [← e] at z
          exact z
        · exact q none (.fine (.inr ⟨rfl, c⟩) hf hp (by simp [more]; omega))
      rcases hvm.look with ⟨nm, w, rfl, h1, h2, hl⟩ | ⟨m', hm', ⟨xs, rfl, hl, hx⟩ | ⟨es, rfl, hl, hn, hx⟩⟩
      · have nf : ¬ Fits _ step := fits_leaf hl
        rcases hk with ⟨i, rfl⟩ | ⟨k, rfl, _⟩
        · simp [tys, h1, h2, line2]
          exact bad nf
        · rw [keyD] at bad nf ⊢
          simp [tys, h1, h2, line2]
          exact bad nf
      · rcases hk with ⟨i, rfl⟩ | ⟨k, rfl, _⟩
        · by_cases c : 0 ≤ i ∧ i ≤ xs.length
          · simp [tys, hne2, c.1, c.2]
            refine ⟨60, part, by decide, rfl, g.pv, fun p hp => ?_⟩
            have tl := tail (fits_int.mpr c) p hp
            simp [line2]
            split
            · rename_i hlt; exact tl.1 hlt
            · rename_i hlt; exact tl.2 hlt
          · have nf : ¬ Fits (lsD xs) (.int i) := fun z => c (fits_int.mp z)
            by_cases c1 : 0 ≤ i
            · have c2 : ¬ i ≤ xs.length := fun z => c ⟨c1, z⟩
              simp [tys, hne2, c1, c2, line2]
              exact bad nf
            · simp [tys, hne2, c1, line2]
              exact bad nf
        · have nf : ¬ Fits (lsD xs) (keyD k) := fits_not1
          rw [keyD] at bad nf ⊢
          simp [tys, hne2, line2]
          exact bad nf
      · rcases hk with ⟨i, rfl⟩ | ⟨k, rfl, hkl⟩
        · have nf : ¬ Fits (mpD es) (.int i) := fits_not2
          simp [tys, hne, line2]
          exact bad nf
        · rw [keyD] at bad tail ⊢
          simp [tys, hne]
          refine lcW_pure (pickK (kyD k)) trivial _ _ (by simp [line2]; omega) (fun y hy A B hh => ?_) ?_
          · obtain ⟨z, hz, rfl⟩ := List.mem_map.mp hy
            simp [t__law_refusal_c1, t__law_refusal_e1]
            refine exKey (.inr ⟨k, rfl, hkl⟩) fun t ht => ?_
            simp only [ent, pickK] at hh
            by_cases e2 : D.tup (z.1.map D.int) = kyD k
            · rw [if_pos e2] at hh
              rw [ht.mpr e2]
              simpa using hh
            · rw [if_neg e2] at hh
              have : t = false := by
                cases t with
                | true => exact absurd (ht.mp rfl) e2
                | false => rfl
              rw [this]
              simpa using hh
          · rw [List.nil_append]
            have hpl : ∀ x ∈ (es.map ent).filterMap (pickK (kyD k)), Pl x := fun x hx' => by
              obtain ⟨y, hy, e⟩ := List.mem_filterMap.mp hx'
              obtain ⟨z, hz, rfl⟩ := List.mem_map.mp hy
              simp only [ent, pickK] at e
              split at e
              · cases e
                exact pl_tup fun x hx2 => by
                  have hx3 : x = .tup (z.1.map D.int) ∨ x = z.2 := by simpa using hx2
                  rcases hx3 with rfl | rfl
                  · exact pl_key z.1
                  · exact (hx z hz).2.pl
              · cases e
            have hnil : (es.map ent).filterMap (pickK (kyD k)) = [] ↔ k ∉ es.map (·.1) := by
              rw [List.filterMap_eq_nil_iff]
              constructor
              · intro h0 hm
                obtain ⟨z, hz, rfl⟩ := List.mem_map.mp hm
                have := h0 (ent z) (List.mem_map.mpr ⟨z, hz, rfl⟩)
                simp only [ent, pickK] at this
                rw [if_pos (show D.tup (z.1.map D.int) = kyD z.1 from rfl)] at this
                cases this
              · intro h0 y hy
                obtain ⟨z, hz, rfl⟩ := List.mem_map.mp hy
                simp only [ent, pickK]
                rw [if_neg (show ¬ D.tup (z.1.map D.int) = kyD k from fun e => h0 (List.mem_map.mpr ⟨z, hz, key_inj e⟩))]
            generalize (es.map ent).filterMap (pickK (kyD k)) = fm at hpl hnil
            simp [line2]
            refine exNil hpl ?_
            by_cases c : k ∈ es.map (·.1)
            · have nf : ¬ Fits (mpD es) (.tup (k.map D.int)) := fun z => (fits_key.mp z) c
              have hfm : decide (fm = []) = false := decide_eq_false fun z => hnil.mp z c
              rw [hfm]
              simp [line2]
              exact bad nf
            · have hfm : decide (fm = []) = true := decide_eq_true (hnil.mpr c)
              rw [hfm]
              simp
              refine ⟨60, part, by decide, rfl, g.pv, fun p hp => ?_⟩
              have tl := tail (fits_key.mpr c) p hp
              simp [line2]
              split
              · rename_i hlt; exact tl.1 hlt
              · rename_i hlt; exact tl.2 hlt
end K77

set_option Elab.async false
set_option linter.all false
set_option maxRecDepth 100000
set_option maxHeartbeats 4000000
/-! k76: the value that the law puts together. -/
namespace K77
open PySem PySem.Spec L2 L3
/-- the rows behind an edit: a row is dropped, or its value changed -/
inductive Turn (way : Int) (d s : D) (r : List D) (step part : D) : D → Prop
  | drop {z : D} : way = 1 → r = [] → Rem d s z → Turn way d s r step part z
  | deep {c zc : D} : (s, c) ∈ steps d → (way ≠ 1 ∨ r ≠ []) → Ed way c r step part zc → Turn way d s r step part (putD zc [s] d)
theorem putD_step {n : Nat} {d s c e : D} {r : List D} (hv : Vl n d) (hs : (s, c) ∈ steps d) : putD e (s :: r) d = putD (putD e r c) [s] d := by
  rcases hv.look with ⟨nm, w, rfl, _, _, hl⟩ | ⟨m', rfl, ⟨xs, rfl, hl, hx⟩ | ⟨es, rfl, hl, hn, hx⟩⟩
  · rw [steps_leaf hl] at hs; cases hs
  · rw [putD_list, putD_list]
    unfold updL
    congr 1
    refine List.map_congr_left fun p hp => ?_
    by_cases e : D.int (p.2 : Int) = s
    · rw [if_pos e, if_pos e]
      have hc : p.1 = c := hv.uniq (s := s) (by rw [steps_list]; exact List.mem_map.mpr ⟨p, hp, by rw [← e]⟩) hs
      rw [hc]; rfl
    · rw [if_neg e, if_neg e]
  · rw [putD_map, putD_map]
    unfold updM
    congr 1
    refine List.map_congr_left fun p hp => ?_
    by_cases e : keyD p.1 = s
    · rw [if_pos e, if_pos e]
      have hc : p.2 = c := hv.uniq (s := s) (by rw [steps_map]; exact List.mem_map.mpr ⟨p, hp, by rw [← e]⟩) hs
      rw [hc]; rfl
    · rw [if_neg e, if_neg e]
theorem Ed.turn {n : Nat} {way : Int} {d s step part z : D} {r : List D} (hv : Vl n d) (h : Ed way d (s :: r) step part z) : Turn way d s r step part z := by
  cases h with
  | put hw hf =>
    cases hf with
    | cons hs hf =>
      rw [putD_step hv hs]
      exact .deep hs (.inl (by omega)) (.put hw hf)
  | @rem h s' w a hw hp hf hr =>
    cases a with
    | nil =>
      cases hf
      simp only [List.nil_append, List.cons.injEq] at hp
      obtain ⟨rfl, rfl⟩ := hp
      exact .drop hw rfl hr
    | cons x a =>
      simp only [List.cons_append, List.cons.injEq] at hp
      obtain ⟨rfl, rfl⟩ := hp
      cases hf with
      | cons hs hf =>
        rw [putD_step hv hs]
        exact .deep hs (.inr (by simp)) (.rem hw rfl hf hr)
  | ins hw hf hi =>
    cases hf with
    | cons hs hf =>
      rw [putD_step hv hs]
      exact .deep hs (.inl (by omega)) (.ins hw hf hi)
def sp_ledit (k : Nat) : WSp := fun ds S Q _ => ∃ (n : Nat) (way : Int) (d step part z : D) (path : List D), path.length < k ∧ ds = [d, .int way, .tup path, step, part] ∧ Vl n d ∧ (∀ x ∈ path, IsKey x) ∧ (way = 2 → IsKey step) ∧ Way way ∧ Ed way d path step part z ∧ Q z S
open Classical in
/-- the rows that stay -/
noncomputable def stay (s : D) (zc : Option D) (q : D × D) : Option (D × D) := if q.1 = s then zc.map fun v => (q.1, v) else some q
theorem stay_len {s : D} {zc : Option D} {rows : List (D × D)} : (rows.filterMap (stay s zc)).length ≤ rows.length := List.length_filterMap_le _ _
theorem stay_some {s v : D} {rows : List (D × D)} : rows.filterMap (stay s (some v)) = rows.map fun q => (q.1, (open Classical in if q.1 = s then v else q.2)) := by
  induction rows with
  | nil => rfl
  | cons x rows ih =>
    by_cases e : x.1 = s
    · rw [List.filterMap_cons_some (b := (x.1, v)) (by unfold stay; rw [if_pos e]; rfl), ih, List.map_cons, if_pos e]
    · rw [List.filterMap_cons_some (b := x) (by unfold stay; rw [if_neg e]), ih, List.map_cons, if_neg e]
theorem stay_none {s : D} {rows : List (D × D)} : rows.filterMap (stay s none) = rows.filter fun q => (open Classical in decide (q.1 ≠ s)) := by
  induction rows with
  | nil => rfl
  | cons x rows ih =>
    by_cases e : x.1 = s
    · rw [List.filterMap_cons_none (by unfold stay; rw [if_pos e]; rfl), ih, List.filter_cons, if_neg (by simp [e])]
    · rw [List.filterMap_cons_some (b := x) (by unfold stay; rw [if_neg e]), ih, List.filter_cons, if_pos (by simp [e])]
/-- what the rows that stay make up -/
def Whole (d : D) (rows : List (D × D)) (z : D) : Prop := (∃ xs, d = lsD xs ∧ z = lsD (rows.map (·.2))) ∨ ∃ es, d = mpD es ∧ z = .tup [.str "map", .tup (rows.map pairD)]
open Classical in
theorem whole_of {n : Nat} {way : Int} {d s step part z : D} {r : List D} (hv : Vl n d) (h : Turn way d s r step part z) : (way = 1 ∧ r = [] ∧ Whole d ((steps d).filterMap (stay s none)) z) ∨
    ∃ c zc, (s, c) ∈ steps d ∧ (way ≠ 1 ∨ r ≠ []) ∧ Ed way c r step part zc ∧ Whole d ((steps d).filterMap (stay s (some zc))) z := by
  cases h with
  | drop hw hr hrm =>
    refine .inl ⟨hw, hr, ?_⟩
    rw [stay_none]
    cases hrm with
    | @lst xs i hi =>
      refine .inl ⟨xs, rfl, ?_⟩
      rw [steps_list, List.filter_map, List.map_map]
      congr 4
      rw [← filter_idx xs i 0]
      show _ = ((xs.zipIdx.filter _).map fun p => p.1)
      congr 1
      refine List.filter_congr fun p _ => ?_
      show decide (p.2 ≠ 0 + i) = decide (D.int (p.2 : Int) ≠ D.int (i : Int))
      rw [decide_eq_decide]
      simp only [ne_eq, D.int.injEq, Nat.zero_add]
      omega
    | @map es k hk =>
      refine .inr ⟨es, rfl, ?_⟩
      rw [steps_map, List.filter_map, List.map_map]
      have e : es.filter ((fun x : D × D => (open Classical in decide (x.1 ≠ keyD k))) ∘ fun e : List Int × D => (keyD e.1, e.2)) = es.filter fun e => decide (e.1 ≠ k) := List.filter_congr fun e _ => by
        show decide (keyD e.1 ≠ keyD k) = decide (e.1 ≠ k)
        rw [decide_eq_decide]
        exact ⟨fun z c => z (by rw [c]), fun z c => z (key_inj c)⟩
      rw [e]
      rfl
  | @deep c zc hs hw he =>
    refine .inr ⟨c, zc, hs, hw, he, ?_⟩
    rw [stay_some]
    rcases hv.look with ⟨nm, w, rfl, _, _, hl⟩ | ⟨m', rfl, ⟨xs, rfl, hl, hx⟩ | ⟨es, rfl, hl, hn, hx⟩⟩
    · rw [steps_leaf hl] at hs; cases hs
    · refine .inl ⟨xs, rfl, ?_⟩
      rw [putD_list, steps_list, List.map_map, List.map_map]
      unfold updL
      congr 4
    · refine .inr ⟨es, rfl, ?_⟩
      rw [putD_map, steps_map, List.map_map, List.map_map]
      unfold updM mpD
      rw [List.map_map]
      congr 4
      refine List.map_congr_left fun e _ => ?_
      show ent (if keyD e.1 = s then (e.1, zc) else e) = pairD (keyD e.1, if keyD e.1 = s then zc else e.2)
      split <;> rfl
end K77

set_option Elab.async false
set_option linter.all false
set_option maxRecDepth 100000
set_option maxHeartbeats 4000000
/-! k76: _law_edited. -/
namespace K77
open PySem PySem.Spec L2 L3
open Classical in
/-- of the rows es: y, if its key stands as p says -/
noncomputable def keyIf (es : List (List Int × D)) (p : List Int → Bool) (y : D) : Option D := if ∃ e : List Int × D, y = ent e ∧ p e.1 = true then some y else none
theorem ent_inj1 {e f : List Int × D} (h : ent e = ent f) : e = f := by
  have := ents_inj (es := [e]) (fs := [f]) (by simp only [List.map_cons, List.map_nil]; rw [h])
  exact (List.cons.inj this).1
theorem keyIf_eq {es : List (List Int × D)} {p : List Int → Bool} (e : List Int × D) : keyIf es p (ent e) = if p e.1 = true then some (ent e) else none := by
  unfold keyIf
  by_cases c : p e.1 = true
  · rw [if_pos ⟨e, rfl, c⟩, if_pos c]
  · rw [if_neg (fun ⟨f, h, hf⟩ => c (by rw [ent_inj1 h]; exact hf)), if_neg c]
theorem keyIf_all {es : List (List Int × D)} {p : List Int → Bool} : ∀ fs : List (List Int × D), (fs.map ent).filterMap (keyIf es p) = (fs.filter fun e => p e.1).map ent
  | [] => rfl
  | e :: fs => by
    have ih := keyIf_all (es := es) (p := p) fs
    by_cases c : p e.1 = true
    · rw [List.map_cons, List.filterMap_cons_some (b := ent e) (by rw [keyIf_eq, if_pos c]), ih, List.filter_cons, if_pos c, List.map_cons]
    · rw [List.map_cons, List.filterMap_cons_none (by rw [keyIf_eq, if_neg c]), ih, List.filter_cons, if_neg c]
theorem w_ledit (k : Nat) (ds S Q E) (h : sp_ledit (k + 1) ds S Q E) : t__law_edited (sp_ledit k) sp_steps (dEnds Q E) (L3.start 11 ds) S := by
  obtain ⟨n, way, d, step, part, z, path, hlen, rfl, hv, hkey, hks, hw, he, q⟩ := h
  have hne := map_list
  have hne2 : ("list" : Str) ≠ "map" := fun e => hne e.symm
  simp [t__law_edited]
  refine exPath hkey (fun x hx => (by cases hx)) fun t ht => ?_
  cases path with
  | nil =>
    rw [ht.mpr rfl]
    simp
    cases he with
    | put hw0 hf =>
      subst hw0
      simp
      exact q
    | rem _ hp _ _ => exact absurd hp (by simp)
    | @ins h w hw2 hf hi =>
      subst hw2
      cases hf
      have q' : Q w S := q
      cases hi with
      | @lst xs i hi =>
        obtain ⟨m, rfl, hl, hx⟩ := vl_list.mp hv
        simp [cut_to hi, cut_from hi, line2]
        refine ⟨by omega, by omega, ?_⟩
        simpa using q'
      | @map es k hk =>
        obtain ⟨m, rfl, hl, hs, hx⟩ := vl_map.mp hv
        simp [hne]
        refine lcW_pure (keyIf es fun x => HT.lexLt x k) trivial _ _ (by simp [line2]; omega) (fun y hy A B hh => ?_) ?_
        · obtain ⟨e, he, rfl⟩ := List.mem_map.mp hy
          rw [keyIf_eq] at hh
          simp [t__law_edited_c2, t__law_edited_e3]
          refine ⟨e.1, k, rfl, rfl, ?_⟩
          cases c : HT.lexLt e.1 k with
          | true => rw [c] at hh; simpa [c] using hh
          | false => rw [c] at hh; simpa [c] using hh
        · rw [keyIf_all, List.nil_append]
          have l1 := List.length_filter_le (fun e : List Int × D => HT.lexLt e.1 k) es
          simp [line2]
          refine ⟨by omega, ?_⟩
          refine lcW_pure (keyIf es fun x => HT.lexLt k x) trivial _ _ (by simp [line2]; omega) (fun y hy A B hh => ?_) ?_
          · obtain ⟨e, he, rfl⟩ := List.mem_map.mp hy
            rw [keyIf_eq] at hh
            simp [t__law_edited_c1, t__law_edited_e2]
            refine ⟨e.1, k, rfl, rfl, ?_⟩
            cases c : HT.lexLt k e.1 with
            | true => rw [c] at hh; simpa [c] using hh
            | false => rw [c] at hh; simpa [c] using hh
          · rw [keyIf_all, List.nil_append]
            have l2 := List.length_filter_le (fun e : List Int × D => HT.lexLt k e.1) es
            have e : mpD (insE es k part) = .tup [.str "map", .tup ((es.filter fun e => HT.lexLt e.1 k).map ent ++ (D.tup [keyD k, part] :: (es.filter fun e => HT.lexLt k e.1).map ent))] := by
              unfold insE mpD
              rw [List.map_append, List.map_append]
              rfl
            rw [e] at q'
            have b1 : (es.filter fun e => HT.lexLt e.1 k).length + 1 + (es.filter fun e => HT.lexLt k e.1).length ≤ 16777215 := by omega
            simp [line2]
            first
            | exact q'
            | (refine ⟨by omega, ?_⟩; exact q')
            | (refine ⟨by omega, by omega, ?_⟩; exact q')
  | cons s r =>
    have htf : t = false := by
      cases t with
      | true => exact absurd (ht.mp rfl) (by simp)
      | false => rfl
    subst htf
    simp [line2]
    intro p hp
    refine ⟨n, d, rfl, hv, ?_⟩
    simp
    have hks1 : IsKey s := hkey s List.mem_cons_self
    have hkr : ∀ x ∈ r, IsKey x := fun x hx => hkey x (List.mem_cons_of_mem _ hx)
    have hplen := hv.parts.1
    have core : ∀ zc : Option D, Whole d ((steps d).filterMap (stay s zc)) z →
        ((zc = none ∧ way = 1 ∧ r = []) ∨ ∃ c v, zc = some v ∧ (s, c) ∈ steps d ∧ (way ≠ 1 ∨ r ≠ []) ∧ Ed way c r step part v) →
        ForC (gTupD 2 (gThen (gNm 7) (gThen (gNm 8) gEnd))) (t__law_edited_b1 (sp_ledit k) sp_steps)
          { nx := vSeq (vIf (vTst (vOp L3.rEq (vOp L3.rIx (vVar 0) (vC (.int 0))) (vC (.str "list")))) (vRet (vTup (vCons (vC (.str "list")) (vCons (vCB rTuple (vCons (vLcF (iLst (vFrz (vVar 6))) (gNm 10) vYes (t__law_edited_e1 (sp_ledit k) sp_steps) [10]) vNil)) vNil)))) vNext)
              (vRet (vTup (vCons (vC (.str "map")) (vCons (vCB rTuple (vCons (vFrz (vVar 6)) vNil)) vNil)))) (dEnds Q E), rt := Q, bk := fun x x_1 => False, ct := fun x x_1 => False, ex := fun x => E } Always ((steps d).map pairD)
          [some d, some (.int way), some (.tup (s :: r)), some step, some part, none, some (.ref p), none, none, none, none] (sup S p (.lst [])) .mk := fun zc hz hc => by
      refine forW_inv (fun ys env S' => ∃ (a b : List (D × D)) (o7 o8 : Option D), steps d = a ++ b ∧ ys = b.map pairD ∧ env = [some d, some (.int way), some (.tup (s :: r)), some step, some part, none, some (.ref p), o7, o8, none, none] ∧ S' = sup S p (.lst ((a.filterMap (stay s zc)).map pairD))) ?_ ?_ _ _ _ ⟨[], steps d, none, none, rfl, rfl, rfl, rfl⟩
      · rintro env S' ⟨a, b, o7, o8, e, hb, rfl, rfl⟩
        refine ⟨trivial, ?_⟩
        obtain rfl : b = [] := by simpa using hb.symm
        rw [List.append_nil] at e
        subst e
        have hfl : ((steps d).filterMap (stay s zc)).length ≤ 2000 := Nat.le_trans stay_len hplen
        generalize (steps d).filterMap (stay s zc) = rows at hz hfl
        rcases hz with ⟨xs, rfl, rfl⟩ | ⟨es, rfl, rfl⟩
        · simp [sdel_sup hp]
          refine lcW_pure (fun d => match d with | .tup [_, v] => some v | _ => none) trivial _ _ (by simp [line2]; omega) (fun y hy A B hh => ?_) ?_
          · obtain ⟨x, _, rfl⟩ := List.mem_map.mp hy
            simpa [t__law_edited_e1, pairD] using hh
          · have e1 : ∀ rows : List (D × D), (rows.map pairD).filterMap (fun d => match d with | .tup [_, v] => some v | _ => none) = rows.map (fun e => e.2) := fun rows => by
              induction rows with
              | nil => rfl
              | cons x rows ih => simp only [List.map_cons, pairD, List.filterMap_cons, ih]
            rw [List.nil_append, e1]
            simp [line2]
            exact q
        · simp [sdel_sup hp, hne, line2]
          exact q
      · rintro y r' env S' N ⟨a, b, o7, o8, e, hb, rfl, rfl⟩ hN
        obtain ⟨x, b', rfl⟩ : ∃ x b', b = x :: b' := by
          cases b with
          | nil => simp at hb
          | cons x b' => exact ⟨x, b', rfl⟩
        simp only [List.map_cons, List.cons.injEq] at hb
        obtain ⟨rfl, rfl⟩ := hb
        have hx : x ∈ steps d := by rw [e]; simp
        have hal : (a.filterMap (stay s zc)).length < 2000 := by
          have := stay_len (s := s) (zc := zc) (rows := a)
          have := congrArg List.length e
          simp at this
          omega
        have next : ∀ o, stay s zc x = o → N [some d, some (.int way), some (.tup (s :: r)), some step, some part, none, some (.ref p), some x.1, some x.2, none, none] (sup S p (.lst ((a.filterMap (stay s zc)).map pairD ++ (match o with | some v => [pairD v] | none => [])))) := fun o ho => by
          refine hN _ _ ⟨a ++ [x], b', _, _, by simp [e], rfl, rfl, ?_⟩
          rw [List.filterMap_append, List.map_append]
          cases o with
          | some v => rw [List.filterMap_cons_some ho]; rfl
          | none => rw [List.filterMap_cons_none ho]; rfl
        refine ⟨trivial, ?_⟩
        simp [t__law_edited_b1, pairD, -L3.rNe_eq]
        refine rNe_key (hv.keys _ hx) hks1 fun t ht => ?_
        by_cases e2 : x.1 = s
        · rw [ht.mpr e2]
          simp
          rcases hc with ⟨rfl, hw1, hr⟩ | ⟨c, v, rfl, hs, hcond, hed⟩
          · have z := next none (by unfold stay; rw [if_pos e2]; rfl)
            simp [hw1, hr]
            simpa [hw1, hr] using z
          · have z := next (some (x.1, v)) (by unfold stay; rw [if_pos e2]; rfl)
            have ec : x.2 = c := hv.uniq (s := s) (by rw [← e2]; exact hx) hs
            obtain ⟨m, hm, hcv⟩ := hv.parts.2 _ hs
            have ecut : cutD (s :: r) (some 1) none = r := by
              have := cut_from (xs := s :: r) (i := 1) (by simp)
              simpa using this
            rw [ecut]
            by_cases hw1 : way = 1
            · have hr : r ≠ [] := by rcases hcond with h | h; exact absurd hw1 h; exact h
              have hr1 : 1 < (r.length : Int) + 1 := by
                cases r with
                | nil => exact absurd rfl hr
                | cons a b => simp only [List.length_cons]; omega
              simp [hw1, hr1]
              refine ⟨m, way, x.2, step, part, v, r, by simp at hlen; omega, by simp [hw1], by rw [ec]; exact hcv, hkr, hks, hw, by rw [ec]; exact hed, ?_⟩
              simp [line2]
              refine ⟨by omega, ?_⟩
              simpa [pairD, hw1] using z
            · simp [hw1]
              refine ⟨m, way, x.2, step, part, v, r, by simp at hlen; omega, rfl, by rw [ec]; exact hcv, hkr, hks, hw, by rw [ec]; exact hed, ?_⟩
              simp [line2]
              refine ⟨by omega, ?_⟩
              simpa [pairD] using z
        · have : t = false := by
            cases t with
            | true => exact absurd (ht.mp rfl) e2
            | false => rfl
          rw [this]
          have z := next (some x) (by unfold stay; rw [if_neg e2])
          simp [line2]
          refine ⟨by omega, ?_⟩
          simpa [pairD] using z
    rcases whole_of hv (he.turn hv) with ⟨hw1, hr, hz⟩ | ⟨c, zc, hs, hcond, hed, hz⟩
    · exact core none hz (.inl ⟨rfl, hw1, hr⟩)
    · exact core (some zc) hz (.inr ⟨c, zc, rfl, hs, hcond, hed⟩)
end K77

set_option Elab.async false
set_option linter.all false
set_option maxRecDepth 100000
set_option maxHeartbeats 4000000
/-! k76: _law_small, _law_path, _law_step. -/
namespace K77
open PySem PySem.Spec L2 L3
def sp_small : WSp := fun ds S Q _ => ∃ (p : Addr) (s : Sta), ds = [.ref p] ∧ S p = some s.so ∧ After (VB 49 2) S p Q
theorem w_small (ds S Q E) (h : sp_small ds S Q E) : t__law_small sp_next (sp_value 5) (dEnds Q E) (L3.start 1 ds) S := by
  obtain ⟨p, s, rfl, hp, q⟩ := h
  simp [t__law_small]
  refine nx s (by simp [hp]) (by decide) fun i s2 g0 g1 => ?_
  obtain ⟨n2, a2, l2, c2, k2, o2⟩ := s2
  simp [Sta.so, ixN, line2]
  exact ⟨p, ⟨n2, a2, 1 + i, c2, k2, o2⟩, 2, ["null", "truth", "number", "bytes", "text"], true, by decide, rfl, by simp [Sta.so], by decide, fun v s3 hv => by simpa using q v s3 hv⟩
/-- a path: keys, at most 25 of them -/
def IsPath (d : D) : Prop := ∃ path : List D, d = .tup path ∧ (∀ x ∈ path, IsKey x) ∧ path.length ≤ 25
def sp_path : WSp := fun ds S Q _ => ∃ (p : Addr) (s : Sta) (d : D), ds = [.ref p, d] ∧ S p = some s.so ∧ Told d ∧ After IsPath S p Q
theorem w_path (ds S Q E) (h : sp_path ds S Q E) : t__law_path sp_next sp_points (sp_ways 25) (dEnds Q E) (L3.start 6 ds) S := by
  obtain ⟨p, s, d, rfl, hp, ht, q⟩ := h
  simp [t__law_path]
  refine use_ways ht fun w hw => ?_
  simp
  rw [sdel_sup hw]
  refine nx s hp (by decide) fun i s2 g0 g1 => ?_
  simp
  refine nx s2 (by simp) (by decide) fun j s3 g2 g3 => ?_
  simp [line2]
  have hlen : 0 < (ways 24 d).length := by rw [ways_eq ht.v (by decide)]; simp
  have hl0 : (0 : Int) < (ways 24 d).length := by omega
  refine ⟨by simp [CMul], hlen, at_use (Int.emod_nonneg _ (by omega)) (by simpa using Int.emod_lt_of_pos _ hl0) fun x hx => ?_⟩
  obtain ⟨path, hpath, rfl⟩ := List.mem_map.mp hx
  simp
  refine nx s3 (by simp) (by decide) fun i s4 g4 g5 => ?_
  have good : ∀ w ∈ ways 24 d, (∀ x ∈ w, IsKey x) ∧ w.length ≤ 24 := fun w hw => ⟨ways_keys ht.v w hw, ways_depth w hw⟩
  simp
  split
  · have fm : ∀ ws : List (List D), (ws.map D.tup).filterMap (fun x => match x with | .tup w => some (.int w.length) | _ => none) = (ws.map fun w => (w.length : Int)).map D.int := fun ws => by
      induction ws with
      | nil => rfl
      | cons w ws ih => simp only [List.map_cons, List.filterMap_cons, ih]
    have hw6 := ht.w
    refine lcW_pure (fun x => match x with | .tup w => some (.int w.length) | _ => none) trivial _ _ (by simp [line2]; omega) (fun y hy A B hh => ?_) ?_
    · obtain ⟨z, hz, rfl⟩ := List.mem_map.mp hy
      simpa [t__law_path_e1] using hh
    · rw [fm, List.nil_append]
      simp
      refine lcW_pure (fun x => match x with | .tup w => some (.int w.length) | _ => none) trivial _ _ (by simp [line2]; omega) (fun y hy A B hh => ?_) ?_
      · obtain ⟨z, hz, rfl⟩ := List.mem_map.mp hy
        simpa [t__law_path_e2] using hh
      · rw [fm, List.nil_append]
        simp
        refine ⟨(ways 24 d).map fun w => (w.length : Int), by simp, by simpa using hlen, fun m hm _ => ?_⟩
        simp
        obtain ⟨wm, hwm, hme⟩ := List.mem_map.mp hm
        obtain ⟨jm, hjm⟩ := List.getElem?_of_mem hwm
        refine ⟨rfl, ?_, ⟨jm, .int m, by rw [List.getElem?_map, hjm]; simp [← hme], by simp [toV, eqV]⟩, fun jj ⟨z, hz, _⟩ _ => ?_⟩
        · rw [List.all_map]
          exact List.all_eq_true.mpr fun x _ => rfl
        have hjj : jj < (ways 24 d).length := by
          have := (List.getElem?_eq_some_iff.mp hz).1
          simpa using this
        simp
        refine at_use (by omega) (by simpa using hjj) fun x hx => ?_
        obtain ⟨w2, hw2, rfl⟩ := List.mem_map.mp hx
        simp
        refine nx s4 (by simp) (by decide) fun pick s5 g6 g7 => ?_
        obtain ⟨hk, hl⟩ := good _ hw2
        simp
        split
        · refine nx s5 (by simp) (by decide) fun i5 s6 _ _ => ?_
          simp
          refine pt s6 (by simp) fun ns s7 hns => ?_
          simp [line2]
          refine nx s7 (by simp) (by decide) fun i6 s8 g8 g9 => ?_
          simp
          refine at_use g8 (by simpa using g9) fun x hx => ?_
          have hkx : IsKey x := by
            simp at hx
            rcases hx with rfl | rfl
            · exact .inl ⟨_, rfl⟩
            · exact .inr ⟨ns, rfl, by omega⟩
          simp [line2]
          refine ⟨by omega, q _ s8 ⟨w2 ++ [x], rfl, fun y hy => ?_, by simp; omega⟩⟩
          rcases List.mem_append.mp hy with h | h
          · exact hk _ h
          · rw [List.mem_singleton.mp h]; exact hkx
        · skip
          · split
            · refine exPath hk (fun x hx => (by cases hx)) fun t ht => ?_
              cases t with
              | true => simp; exact q _ s5 ⟨w2, rfl, hk, by omega⟩
              | false =>
                simp
                rw [cut_init]
                refine pt s5 (by simp) fun ns s6 hns => ?_
                simp [line2]
                refine nx s6 (by simp) (by decide) fun i6 s7 g8 g9 => ?_
                simp
                refine at_use g8 (by simpa using g9) fun x hx => ?_
                have hkx : IsKey x := by
                  simp at hx
                  rcases hx with rfl | rfl
                  · exact .inr ⟨ns, rfl, by omega⟩
                  · exact .inl ⟨_, rfl⟩
                have hd : w2.dropLast.length ≤ 24 := by rw [List.length_dropLast]; omega
                simp [line2]
                refine ⟨by omega, q _ s7 ⟨w2.dropLast ++ [x], rfl, fun y hy => ?_, by simp; omega⟩⟩
                rcases List.mem_append.mp hy with h | h
                · exact hk _ (List.dropLast_subset _ h)
                · rw [List.mem_singleton.mp h]; exact hkx
            · exact q _ s5 ⟨w2, rfl, hk, by omega⟩
  · refine nx s4 (by simp) (by decide) fun pick s5 g6 g7 => ?_
    obtain ⟨hk, hl⟩ := good _ hpath
    simp
    split
    · refine nx s5 (by simp) (by decide) fun i5 s6 _ _ => ?_
      simp
      refine pt s6 (by simp) fun ns s7 hns => ?_
      simp [line2]
      refine nx s7 (by simp) (by decide) fun i6 s8 g8 g9 => ?_
      simp
      refine at_use g8 (by simpa using g9) fun x hx => ?_
      have hkx : IsKey x := by
        simp at hx
        rcases hx with rfl | rfl
        · exact .inl ⟨_, rfl⟩
        · exact .inr ⟨ns, rfl, by omega⟩
      simp [line2]
      refine ⟨by omega, q _ s8 ⟨path ++ [x], rfl, fun y hy => ?_, by simp; omega⟩⟩
      rcases List.mem_append.mp hy with h | h
      · exact hk _ h
      · rw [List.mem_singleton.mp h]; exact hkx
    · skip
      · split
        · refine exPath hk (fun x hx => (by cases hx)) fun t ht => ?_
          cases t with
          | true => simp; exact q _ s5 ⟨path, rfl, hk, by omega⟩
          | false =>
            simp
            rw [cut_init]
            refine pt s5 (by simp) fun ns s6 hns => ?_
            simp [line2]
            refine nx s6 (by simp) (by decide) fun i6 s7 g8 g9 => ?_
            simp
            refine at_use g8 (by simpa using g9) fun x hx => ?_
            have hkx : IsKey x := by
              simp at hx
              rcases hx with rfl | rfl
              · exact .inr ⟨ns, rfl, by omega⟩
              · exact .inl ⟨_, rfl⟩
            have hd : path.dropLast.length ≤ 24 := by rw [List.length_dropLast]; omega
            simp [line2]
            refine ⟨by omega, q _ s7 ⟨path.dropLast ++ [x], rfl, fun y hy => ?_, by simp; omega⟩⟩
            rcases List.mem_append.mp hy with h | h
            · exact hk _ (List.dropLast_subset _ h)
            · rw [List.mem_singleton.mp h]; exact hkx
        · exact q _ s5 ⟨path, rfl, hk, by omega⟩
/-- a step drawn -/
def IsStep (d : D) : Prop := (∃ i, d = .int i) ∨ ∃ ns : List Int, d = keyD ns ∧ ns.length < 1000
def sp_lstep : WSp := fun ds S Q _ => ∃ (p : Addr) (s : Sta) (d : D) (path : List D), ds = [.ref p, d, .tup path] ∧ S p = some s.so ∧ Told d ∧ (∀ x ∈ path, IsKey x) ∧ After IsStep S p Q
theorem w_lstep (ds S Q E) (h : sp_lstep ds S Q E) : t__law_step sp_next sp_lpart sp_points (sp_ways 25) (dEnds Q E) (L3.start 5 ds) S := by
  obtain ⟨p, s, d, path, rfl, hp, ht, hk, q⟩ := h
  simp [t__law_step, line2]
  refine use_ways ht fun w hw => ?_
  simp
  rw [sdel_sup hw]
  obtain ⟨t, hin, htt⟩ := inWays hk (ways_keys (f := 24) ht.v)
  refine ⟨t, hin, ?_⟩
  cases t with
  | false =>
    simp
    refine nx s hp (by decide) fun pick s5 g6 g7 => ?_
    simp
    split
    · refine nx s5 (by simp) (by decide) fun i s6 _ _ => ?_
      simpa using q _ s6 (.inl ⟨i, rfl⟩)
    · split
      · refine pt s5 (by simp) fun ns s7 hns => ?_
        simp
        exact q _ s7 (.inr ⟨ns, rfl, hns⟩)
      · have n1 : Str.ofString "null" ≠ Str.ofString "list" := by decide
        have n2 : Str.ofString "null" ≠ Str.ofString "map" := by decide
        simp [n1, n2]
        refine pt s5 (by simp) fun ns s7 hns => ?_
        simp
        exact q _ s7 (.inr ⟨ns, rfl, hns⟩)
  | true =>
    simp
    obtain ⟨e, he⟩ := (in_ways ht).mp (htt.mp rfl)
    refine use_lpart ht.v he ?_
    simp
    refine nx s hp (by decide) fun pick s5 g6 g7 => ?_
    simp
    split
    · refine nx s5 (by simp) (by decide) fun i s6 _ _ => ?_
      simpa using q _ s6 (.inl ⟨i, rfl⟩)
    split
    · refine pt s5 (by simp) fun ns s7 hns => ?_
      simp
      exact q _ s7 (.inr ⟨ns, rfl, hns⟩)
    obtain ⟨m0, _, hve⟩ := he.vl ht.v
    have points : Call sp_points [.ref p] (sup S p s5.so) Q E .mk := by
      refine pt s5 (by simp) fun ns s7 hns => ?_
      simp
      exact q _ s7 (.inr ⟨ns, rfl, hns⟩)
    have hne : Str.ofString "map" ≠ Str.ofString "list" := by decide
    rcases hve.look with ⟨nm, w, rfl, h1, h2, hl⟩ | ⟨m', hm', ⟨xs, rfl, hl, hx⟩ | ⟨es, rfl, hl, hn, hx⟩⟩
    · simp [h1, h2]
      exact points
    · simp
      refine nx s5 (by simp) (by decide) fun i s6 _ _ => ?_
      simp [line2]
      refine nx s6 (by simp) (by decide) fun j s7 g8 g9 => ?_
      simp
      refine at_use g8 (by simpa using g9) fun x hx => ?_
      have hx' : x = .int 0 ∨ x = .int 1 ∨ x = .int 2 := by simpa using hx
      have fin : ∀ r ∈ [D.int (i % (↑xs.length + 1)), D.int ↑xs.length, D.int (↑xs.length + 1)], Q r (sup S p s7.so) := fun r hr => by
        simp at hr
        rcases hr with rfl | rfl | rfl
        · exact q _ s7 (.inl ⟨_, rfl⟩)
        · exact q _ s7 (.inl ⟨_, rfl⟩)
        · exact q _ s7 (.inl ⟨_, rfl⟩)
      rcases hx' with rfl | rfl | rfl
      · simp
        first
        | exact fin _ (by simp)
        | (refine at_use ?_ ?_ fin <;> simp)
      · simp
        first
        | exact fin _ (by simp)
        | (refine at_use ?_ ?_ fin <;> simp)
      · simp
        first
        | exact fin _ (by simp)
        | (refine at_use ?_ ?_ fin <;> simp)
    · simp [hne]
      split
      · rename_i h0
        split
        · refine nx s5 (by simp) (by decide) fun i s6 _ _ => ?_
          have hl0 : (0 : Int) < es.length := by omega
          simp [line2, h0]
          refine at_use (Int.emod_nonneg _ (by omega)) (by simpa using Int.emod_lt_of_pos _ hl0) fun x hx2 => ?_
          obtain ⟨z, hz, rfl⟩ := List.mem_map.mp hx2
          simp [ent]
          exact q _ s6 (.inr ⟨z.1, rfl, (hx z hz).1⟩)
        · exact points
      · exact points
end K77

set_option Elab.async false
set_option linter.all false
set_option maxRecDepth 100000
set_option maxHeartbeats 4000000
/-! k76: an edit that is not refused has a value. -/
namespace K77
open PySem PySem.Spec L2 L3
theorem Fits.ins {h step part : D} (f : Fits h step) : ∃ w, Ins part h step w := by
  cases f with
  | lst hi => exact ⟨_, .lst hi⟩
  | map hk => exact ⟨_, .map hk⟩
theorem rem_ex {n : Nat} {e s h : D} (hv : Vl n e) (hs : (s, h) ∈ steps e) : ∃ w, Rem e s w := by
  rcases hv.look with ⟨nm, w, rfl, _, _, hl⟩ | ⟨m', hm', ⟨xs, rfl, hl, hx⟩ | ⟨es, rfl, hl, hn, hx⟩⟩
  · rw [steps_leaf hl] at hs; cases hs
  · have hs : (s, h) ∈ steps (lsD xs) := hs
    rw [steps_list] at hs
    obtain ⟨⟨x, i⟩, hx', e1⟩ := List.mem_map.mp hs
    simp only [Prod.mk.injEq] at e1
    obtain ⟨rfl, rfl⟩ := e1
    have a := List.mem_zipIdx_iff_getElem?.mp hx'
    obtain ⟨hi, _⟩ := List.getElem?_eq_some_iff.mp a
    exact ⟨_, .lst hi⟩
  · have hs : (s, h) ∈ steps (mpD es) := hs
    rw [steps_map] at hs
    obtain ⟨z, hz, e1⟩ := List.mem_map.mp hs
    simp only [Prod.mk.injEq] at e1
    obtain ⟨rfl, rfl⟩ := e1
    exact ⟨_, .map (List.mem_map.mpr ⟨z, hz, rfl⟩)⟩
theorem fol_last {d h : D} {path : List D} (hp : path ≠ []) (hf : Fol d path h) : ∃ (a : List D) (s e : D), path = a ++ [s] ∧ Fol d a e ∧ (s, h) ∈ steps e := by
  induction hf with
  | nil => exact absurd rfl hp
  | @cons d s c h r hs hf ih =>
    cases r with
    | nil => cases hf; exact ⟨[], s, d, rfl, .nil, hs⟩
    | cons s2 r2 =>
      obtain ⟨a, t, e, h1, h2, h3⟩ := ih (by simp)
      exact ⟨s :: a, t, e, by rw [h1]; rfl, .cons hs h2, h3⟩
theorem Rf.ed {way : Int} {n : Nat} {d step part : D} {path : List D} (hv : Vl n d) (f : Rf way d path step part none) : ∃ z, Ed way d path step part z := by
  cases f with
  | fine1 hw hp hf =>
    obtain ⟨a, s, e, h1, h2, h3⟩ := fol_last hp hf
    obtain ⟨m, _, hve⟩ := h2.vl hv
    obtain ⟨w, hw2⟩ := rem_ex hve h3
    exact ⟨_, .rem hw h1 h2 hw2⟩
  | fine hw hf hm hl =>
    rcases hw with h0 | ⟨h2, hfit⟩
    · exact ⟨_, .put h0 hf⟩
    · obtain ⟨w, hw2⟩ := hfit.ins (part := part)
      exact ⟨_, .ins h2 hf hw2⟩
end K77

set_option Elab.async false
set_option linter.all false
set_option maxRecDepth 100000
set_option maxHeartbeats 4000000
/-! k76: a part put in, put back, read again. -/
namespace K77
open PySem PySem.Spec L2 L3
theorem updL_at {xs : List D} {s : D} {f : D → D} {i : Nat} : (updL xs s f)[i]? = xs[i]?.map fun x => (open Classical in if D.int (i : Int) = s then f x else x) := by
  unfold updL
  rw [List.getElem?_map, List.getElem?_zipIdx]
  cases xs[i]? <;> simp
theorem updL_comp {xs : List D} {s : D} {f g : D → D} : updL (updL xs s f) s g = updL xs s fun x => g (f x) := by
  refine List.ext_getElem? fun i => ?_
  rw [updL_at, updL_at, updL_at]
  cases xs[i]? with
  | none => rfl
  | some x =>
    simp only [Option.map_some]
    split <;> rfl
theorem updM_comp {es : List (List Int × D)} {s : D} {f g : D → D} : updM (updM es s f) s g = updM es s fun x => g (f x) := by
  unfold updM
  rw [List.map_map]
  refine List.map_congr_left fun e _ => ?_
  by_cases c : keyD e.1 = s
  · simp [c]
  · simp [c]
theorem updL_congr {n : Nat} {xs : List D} {s c : D} {f g : D → D} (hv : Vl n (lsD xs)) (hs : (s, c) ∈ steps (lsD xs)) (h : f c = g c) : updL xs s f = updL xs s g := by
  unfold updL
  refine List.map_congr_left fun p hp => ?_
  by_cases e : D.int (p.2 : Int) = s
  · have hc : p.1 = c := hv.uniq (s := s) (by rw [steps_list]; exact List.mem_map.mpr ⟨p, hp, by rw [← e]⟩) hs
    rw [if_pos e, if_pos e, hc, h]
  · rw [if_neg e, if_neg e]
theorem updM_congr {n : Nat} {es : List (List Int × D)} {s c : D} {f g : D → D} (hv : Vl n (mpD es)) (hs : (s, c) ∈ steps (mpD es)) (h : f c = g c) : updM es s f = updM es s g := by
  unfold updM
  refine List.map_congr_left fun p hp => ?_
  by_cases e : keyD p.1 = s
  · have hc : p.2 = c := hv.uniq (s := s) (by rw [steps_map]; exact List.mem_map.mpr ⟨p, hp, by rw [← e]⟩) hs
    rw [if_pos e, if_pos e, hc, h]
  · rw [if_neg e, if_neg e]
theorem updL_id {xs : List D} {s : D} : updL xs s (fun x => x) = xs := by
  refine List.ext_getElem? fun i => ?_
  rw [updL_at]
  cases xs[i]? <;> simp
theorem updM_id {es : List (List Int × D)} {s : D} : updM es s (fun x => x) = es := by
  unfold updM
  have : ∀ e : List Int × D, (open Classical in if keyD e.1 = s then (e.1, e.2) else e) = e := fun e => by split <;> rfl
  simp [this]
theorem put_put {d h u e : D} {path : List D} (hf : Fol d path h) : ∀ {n : Nat}, Vl n d → putD u path (putD e path d) = putD u path d := by
  induction hf with
  | nil => exact fun _ => rfl
  | @cons d s c h r hs hf ih =>
    intro n hv
    obtain ⟨m, hm, hc⟩ := hv.parts.2 _ hs
    have hi := ih hc
    rcases hv.look with ⟨nm, w, rfl, _, _, hl⟩ | ⟨m', hm', ⟨xs, rfl, hl, hx⟩ | ⟨es, rfl, hl, hn, hx⟩⟩
    · rw [steps_leaf hl] at hs; cases hs
    · show putD u (s :: r) (putD e (s :: r) (lsD xs)) = putD u (s :: r) (lsD xs)
      rw [putD_list, putD_list, putD_list, updL_comp]
      rw [updL_congr (f := fun x => putD u r (putD e r x)) (g := putD u r) hv hs hi]
    · show putD u (s :: r) (putD e (s :: r) (mpD es)) = putD u (s :: r) (mpD es)
      rw [putD_map, putD_map, putD_map, updM_comp]
      rw [updM_congr (f := fun x => putD u r (putD e r x)) (g := putD u r) hv hs hi]
theorem put_back {d h : D} {path : List D} (hf : Fol d path h) : ∀ {n : Nat}, Vl n d → putD h path d = d := by
  induction hf with
  | nil => exact fun _ => rfl
  | @cons d s c h r hs hf ih =>
    intro n hv
    obtain ⟨m, hm, hc⟩ := hv.parts.2 _ hs
    have hi := ih hc
    rcases hv.look with ⟨nm, w, rfl, _, _, hl⟩ | ⟨m', hm', ⟨xs, rfl, hl, hx⟩ | ⟨es, rfl, hl, hn, hx⟩⟩
    · rw [steps_leaf hl] at hs; cases hs
    · show putD h (s :: r) (lsD xs) = lsD xs
      rw [putD_list, updL_congr (g := fun x => x) hv hs hi, updL_id]
    · show putD h (s :: r) (mpD es) = mpD es
      rw [putD_map, updM_congr (g := fun x => x) hv hs hi, updM_id]
theorem fol_put {d h e : D} {path : List D} (hf : Fol d path h) : ∀ {n : Nat}, Vl n d → Fol (putD e path d) path e := by
  induction hf with
  | nil => exact fun _ => .nil
  | @cons d s c h r hs hf ih =>
    intro n hv
    obtain ⟨m, hm, hc⟩ := hv.parts.2 _ hs
    refine .cons (e := putD e r c) ?_ (ih hc)
    rcases hv.look with ⟨nm, w, rfl, _, _, hl⟩ | ⟨m', hm', ⟨xs, rfl, hl, hx⟩ | ⟨es, rfl, hl, hn, hx⟩⟩
    · rw [steps_leaf hl] at hs; cases hs
    · have hs : (s, c) ∈ steps (lsD xs) := hs
      show (s, putD e r c) ∈ steps (putD e (s :: r) (lsD xs))
      rw [putD_list, steps_list]
      rw [steps_list] at hs
      obtain ⟨⟨x, i⟩, hx', e1⟩ := List.mem_map.mp hs
      simp only [Prod.mk.injEq] at e1
      obtain ⟨rfl, rfl⟩ := e1
      have a := List.mem_zipIdx_iff_getElem?.mp hx'
      refine List.mem_map.mpr ⟨(putD e r x, i), List.mem_zipIdx_iff_getElem?.mpr ?_, rfl⟩
      rw [updL_at]
      simp only at a
      rw [a]
      simp
    · have hs : (s, c) ∈ steps (mpD es) := hs
      show (s, putD e r c) ∈ steps (putD e (s :: r) (mpD es))
      rw [putD_map, steps_map]
      rw [steps_map] at hs
      obtain ⟨z, hz, e1⟩ := List.mem_map.mp hs
      simp only [Prod.mk.injEq] at e1
      obtain ⟨rfl, rfl⟩ := e1
      exact List.mem_map.mpr ⟨(z.1, putD e r z.2), List.mem_map.mpr ⟨z, hz, by simp⟩, rfl⟩
end K77

set_option Elab.async false
set_option linter.all false
set_option maxRecDepth 100000
set_option maxHeartbeats 4000000
/-! k76: what was put in, taken out again. -/
namespace K77
open PySem PySem.Spec L2 L3
theorem ins_step {part h step w : D} (hi : Ins part h step w) : (step, part) ∈ steps w := by
  cases hi with
  | @lst xs i hi =>
    rw [steps_list]
    refine List.mem_map.mpr ⟨(part, i), List.mem_zipIdx_iff_getElem?.mpr ?_, rfl⟩
    have hl : (xs.take i).length = i := by simp; omega
    show (xs.take i ++ ([part] ++ xs.drop i))[i]? = some part
    rw [List.getElem?_append_right (by omega), hl]
    simp
  | @map es k hk =>
    rw [steps_map]
    refine List.mem_map.mpr ⟨(k, part), ?_, rfl⟩
    unfold insE
    simp
theorem ins_rem_list {part : D} {xs : List D} {i : Nat} (hi : i ≤ xs.length) : Rem (lsD (xs.take i ++ ([part] ++ xs.drop i))) (.int i) (lsD xs) := by
  have z := Rem.lst (xs := xs.take i ++ ([part] ++ xs.drop i)) (i := i) (by simp; omega)
  have hl : (xs.take i).length = i := by simp; omega
  have e : (xs.take i ++ ([part] ++ xs.drop i)).take i ++ (xs.take i ++ ([part] ++ xs.drop i)).drop (i + 1) = xs := by
    rw [List.take_append_of_le_length (by omega), List.take_of_length_le (by omega)]
    rw [show i + 1 = (xs.take i).length + 1 by omega, List.drop_append]
    simp
    rw [List.drop_of_length_le (by rw [List.length_take]; omega), List.nil_append, List.take_append_drop]
  rw [e] at z
  exact z
theorem ins_rem_map {part : D} {es : List (List Int × D)} {k : List Int} (hs : Srt es) (hk : k ∉ es.map (·.1)) : Rem (mpD (insE es k part)) (keyD k) (mpD es) := by
  have z := Rem.map (es := insE es k part) (k := k) (by unfold insE; simp)
  have e : ((insE es k part).filter fun e => decide (e.1 ≠ k)) = es := by
    refine srt_uniq ?_ hs (List.Pairwise.filter _ (insE_srt hs))
    refine ((insE_perm hk).filter _).trans ?_
    rw [List.filter_append]
    have h1 : (es.filter fun e => decide (e.1 ≠ k)) = es := List.filter_eq_self.mpr fun e he => by
      have : e.1 ≠ k := fun h => hk (by rw [← h]; exact List.mem_map.mpr ⟨e, he, rfl⟩)
      simp [this]
    rw [h1]
    simp
  rw [e] at z
  exact z
end K77

set_option Elab.async false
set_option linter.all false
set_option maxRecDepth 100000
set_option maxHeartbeats 4000000
/-! k76: how large an edited value is. -/
namespace K77
open PySem PySem.Spec L2 L3
theorem put_vb {B m : Nat} {d h e : D} {path : List D} (hf : Fol d path h) (he : VB B m e) : ∀ {n : Nat}, VB B n d → ∀ {k : Nat}, n ≤ k → path.length + m ≤ k → VB B k (putD e path d) := by
  induction hf with
  | nil => exact fun _ _ _ hk => he.mono (by simpa using hk)
  | @cons d s c h r hs hf ih =>
    intro n hv k hn hk
    obtain ⟨m1, hm1, hc⟩ := hv.parts.2 _ hs
    simp only [List.length_cons] at hk
    obtain ⟨k, rfl⟩ : ∃ j, k = j + 1 := ⟨k - 1, by omega⟩
    have hi : VB B k (putD e r c) := ih hc (by omega) (by omega)
    rcases hv.look with ⟨nm, w, rfl, _, _, hl⟩ | ⟨m', hm', ⟨xs, rfl, hl, hx⟩ | ⟨es, rfl, hl, hn, hx⟩⟩
    · rw [steps_leaf hl] at hs; cases hs
    · show VB B (k + 1) (putD e (s :: r) (lsD xs))
      rw [putD_list]
      refine .inr (.inl ⟨_, rfl, by rw [updL_len]; exact hl, fun y hy => ?_⟩)
      unfold updL at hy
      obtain ⟨p, hp, rfl⟩ := List.mem_map.mp hy
      by_cases e2 : D.int (p.2 : Int) = s
      · have hc' : p.1 = c := hv.uniq (s := s) (by show _ ∈ steps (lsD xs); rw [steps_list]; exact List.mem_map.mpr ⟨p, hp, by rw [← e2]⟩) hs
        rw [if_pos e2, hc']
        exact hi
      · rw [if_neg e2]
        have : p.1 ∈ xs := by
          have a := List.mem_zipIdx_iff_getElem?.mp hp
          exact List.mem_of_getElem? a
        exact (hx _ this).mono (by omega)
    · show VB B (k + 1) (putD e (s :: r) (mpD es))
      rw [putD_map]
      refine .inr (.inr ⟨_, rfl, by rw [updM_len]; exact hl, srt_fst hn updM_fst, fun y hy => ?_⟩)
      unfold updM at hy
      obtain ⟨p, hp, rfl⟩ := List.mem_map.mp hy
      by_cases e2 : keyD p.1 = s
      · have hc' : p.2 = c := hv.uniq (s := s) (by show _ ∈ steps (mpD es); rw [steps_map]; exact List.mem_map.mpr ⟨p, hp, by rw [← e2]⟩) hs
        rw [if_pos e2]
        refine ⟨(hx _ hp).1, ?_⟩
        show VB B k (putD e r p.2)
        rw [hc']
        exact hi
      · rw [if_neg e2]
        exact ⟨(hx _ hp).1, (hx _ hp).2.mono (by omega)⟩
end K77

set_option Elab.async false
set_option linter.all false
set_option maxRecDepth 100000
set_option maxHeartbeats 4000000
/-! k76: how large a value with one more part is. -/
namespace K77
open PySem PySem.Spec L2 L3
theorem keyD_inj {a b : List Int} (h : keyD a = keyD b) : a = b := by
  unfold keyD at h
  simp only [D.tup.injEq] at h
  exact (List.map_inj_right (fun x y e => by simpa using e)).mp h
theorem ins_vb {B n m k : Nat} {part h step w : D} (hi : Ins part h step w) (hh : VB B n h) (hp : VB B m part) (hs : IsStep step) (hn : n ≤ k) (hm : m + 1 ≤ k) : VB (B + 1) k w := by
  obtain ⟨k, rfl⟩ : ∃ j, k = j + 1 := ⟨k - 1, by omega⟩
  cases hi with
  | @lst xs i hi =>
    rcases hh.look with ⟨nm, w, e, h1, _, _⟩ | ⟨m', hm', ⟨ys, e, hl, hx⟩ | ⟨es, e, hl, hn, hx⟩⟩
    · simp [lsD] at e; exact absurd e.1.symm h1
    · obtain rfl := lsD_inj (show lsD xs = lsD ys from e)
      refine .inr (.inl ⟨_, rfl, by simp; omega, fun y hy => ?_⟩)
      rcases List.mem_append.mp hy with h | h
      · exact ((hx _ (List.mem_of_mem_take h)).wide (Nat.le_succ B)).mono (by omega)
      · rcases List.mem_append.mp h with h | h
        · rw [List.mem_singleton.mp h]; exact (hp.wide (Nat.le_succ B)).mono (by omega)
        · exact ((hx _ (List.mem_of_mem_drop h)).wide (Nat.le_succ B)).mono (by omega)
    · exact absurd (show lsD xs = mpD es from e) list_ne_map
  | @map es key hk =>
    rcases hh.look with ⟨nm, w, e, _, h1, _⟩ | ⟨m', hm', ⟨ys, e, hl, hx⟩ | ⟨fs, e, hl, hn, hx⟩⟩
    · simp [mpD] at e; exact absurd e.1.symm h1
    · exact absurd (show lsD ys = mpD es from e.symm) list_ne_map
    · obtain rfl := mpD_inj (show mpD es = mpD fs from e)
      refine .inr (.inr ⟨_, rfl, by rw [insE_len hk]; omega, insE_srt hn, fun y hy => ?_⟩)
      rcases List.mem_append.mp ((insE_perm hk).mem_iff.mp hy) with h | h
      · exact ⟨(hx _ h).1, ((hx _ h).2.wide (Nat.le_succ B)).mono (by omega)⟩
      · rw [List.mem_singleton.mp h]
        refine ⟨?_, (hp.wide (Nat.le_succ B)).mono (by omega)⟩
        rcases hs with ⟨i, e⟩ | ⟨ns, e, hl2⟩
        · simp [keyD] at e
        · rw [keyD_inj e]; exact hl2
end K77

set_option Elab.async false
set_option linter.all false
set_option maxRecDepth 100000
set_option maxHeartbeats 4000000
/-! k76: what can be compared. -/
namespace K77
open PySem PySem.Spec L2 L3
theorem Sm.up : ∀ {n : Nat} {d : D}, Sm n d → Sm (n + 1) d
  | 0, d, h => .inl h
  | n + 1, d, h => by
    rcases h with h | ⟨xs, e, hl, hx⟩
    · exact .inl h
    · exact .inr ⟨xs, e, hl, fun x hx' => (hx x hx').up⟩
theorem Sm.mono {n m : Nat} {d : D} (h : Sm n d) (le : n ≤ m) : Sm m d := by
  induction le with
  | refl => exact h
  | step _ ih => exact ih.up
theorem sm_str {n : Nat} {x : Str} (h : (PyData.str x).canLay0 = true) : Sm n (.str x) := Sm.mono (n := 0) (.inr (.inr (.inr ⟨x, rfl, h⟩))) (Nat.zero_le _)
theorem sm_int {n : Nat} (i : Int) : Sm n (.int i) := Sm.mono (n := 0) (.inr (.inr (.inl ⟨i, rfl⟩))) (Nat.zero_le _)
theorem sm_bl {n : Nat} (b : Bool) : Sm n (.bl b) := Sm.mono (n := 0) (.inr (.inl ⟨b, rfl⟩)) (Nat.zero_le _)
theorem sm_tup {n : Nat} {xs : List D} (hl : xs.length ≤ 16000000) (h : ∀ x ∈ xs, Sm n x) : Sm (n + 1) (.tup xs) := .inr ⟨xs, .inl rfl, hl, h⟩
theorem sm_lst {n : Nat} {xs : List D} (hl : xs.length ≤ 16000000) (h : ∀ x ∈ xs, Sm n x) : Sm (n + 1) (.lst xs) := .inr ⟨xs, .inr rfl, hl, h⟩
theorem sm_ints {n : Nat} {ns : List Int} (hl : ns.length ≤ 16000000) : Sm (n + 1) (.tup (ns.map D.int)) := sm_tup (by simpa using hl) fun x hx => by
  obtain ⟨i, _, rfl⟩ := List.mem_map.mp hx
  exact sm_int i
theorem sm_key {n : Nat} {d : D} (h : IsKey d) : Sm (n + 1) d := by
  rcases h with ⟨i, rfl⟩ | ⟨ns, rfl, hl⟩
  · exact sm_int i
  · exact sm_ints (by omega)
theorem sm_two {n : Nat} {x : Str} {d : D} (h : (PyData.str x).canLay0 = true) (hd : Sm n d) : Sm (n + 1) (.tup [.str x, d]) := sm_tup (by simp) fun y hy => by
  have hy' : y = .str x ∨ y = d := by simpa using hy
  rcases hy' with rfl | rfl
  · exact sm_str h
  · exact hd
theorem sm_three {n : Nat} {x : Str} {d e : D} (h : (PyData.str x).canLay0 = true) (hd : Sm n d) (he : Sm n e) : Sm (n + 1) (.tup [.str x, d, e]) := sm_tup (by simp) fun y hy => by
  have hy' : y = .str x ∨ y = d ∨ y = e := by simpa using hy
  rcases hy' with rfl | rfl | rfl
  · exact sm_str h
  · exact hd
  · exact he
theorem sm_leaf {d : D} (h : IsLeaf d) : Sm 2 d := by
  cases h with
  | null => exact sm_tup (by simp) fun y hy => by rw [List.mem_singleton.mp hy]; exact sm_str lay_null
  | truth b => exact sm_two lay_truth (sm_bl b)
  | num m e => exact sm_three lay_number (sm_int m) (sm_int e)
  | bytes ns h => exact sm_two lay_bytes (sm_ints (by omega))
  | text ns h => exact sm_two lay_text (sm_ints (by omega))
theorem Vl.sm : ∀ {n : Nat} {d : D}, Vl n d → Sm (3 * n + 3) d
  | n, d, h => by
    rcases h.look with ⟨nm, w, rfl, _, _, hl⟩ | ⟨m, rfl, ⟨xs, rfl, hl, hx⟩ | ⟨es, rfl, hl, hn, hx⟩⟩
    · exact (sm_leaf hl).mono (by omega)
    · exact sm_two lay_list (sm_tup (by omega) fun x hx' => (Vl.sm (hx x hx')).mono (by omega))
    · refine sm_two lay_map (sm_tup (by simp; omega) fun x hx' => ?_)
      obtain ⟨e, he, rfl⟩ := List.mem_map.mp hx'
      refine sm_tup (by simp) fun x hx' => ?_
      have hx3 : x = .tup (e.1.map D.int) ∨ x = e.2 := by simpa using hx'
      rcases hx3 with rfl | rfl
      · exact sm_ints (by have := (hx e he).1; omega)
      · exact Vl.sm (hx e he).2
theorem cell0 {scr : List Int} {S : Sto} {Q : VQ} {E : EX} {hh} (k : ∀ i, Q (.int i) S) : Call sp_cell [.fix (scr.map D.int), .int 0] S Q E hh := ⟨scr, 0, rfl, by decide, k⟩
theorem same_use {d e : D} {n : Nat} {S : Sto} {Q : VQ} {E : EX} {hh} (h1 : Sm n d) (h2 : Sm n e) (hn : n < 100) (q : ∀ t : Bool, (t = true ↔ d = e) → Q (.bl t) S) : Call (sp_same 100) [d, e] S Q E hh := ⟨n, d, e, hn, rfl, h2, h1, q⟩
end K77

set_option Elab.async false
set_option linter.all false
set_option maxRecDepth 100000
set_option maxHeartbeats 4000000
/-! k76: what the law's own checks rest on. -/
namespace K77
open PySem PySem.Spec L2 L3
theorem sm_pair {n : Nat} {x y : D} (hx : Sm n x) (hy : Sm n y) : Sm (n + 1) (.lst [x, y]) := sm_lst (by simp) fun z hz => by
  have hz' : z = x ∨ z = y := by simpa using hz
  rcases hz' with rfl | rfl
  · exact hx
  · exact hy
theorem rem_vb {B n : Nat} {h s w : D} (hr : Rem h s w) (hh : VB B n h) : VB B n w := by
  cases hr with
  | @lst xs i hi =>
    rcases hh.look with ⟨nm, w, e, h1, _, _⟩ | ⟨m', rfl, ⟨ys, e, hl, hx⟩ | ⟨es, e, hl, hn, hx⟩⟩
    · simp [lsD] at e; exact absurd e.1.symm h1
    · obtain rfl := lsD_inj (show lsD xs = lsD ys from e)
      refine .inr (.inl ⟨_, rfl, by simp; omega, fun y hy => ?_⟩)
      rcases List.mem_append.mp hy with h | h
      · exact hx _ (List.mem_of_mem_take h)
      · exact hx _ (List.mem_of_mem_drop h)
    · exact absurd (show lsD xs = mpD es from e) list_ne_map
  | @map es key hk =>
    rcases hh.look with ⟨nm, w, e, _, h1, _⟩ | ⟨m', rfl, ⟨ys, e, hl, hx⟩ | ⟨fs, e, hl, hn, hx⟩⟩
    · simp [mpD] at e; exact absurd e.1.symm h1
    · exact absurd (show lsD ys = mpD es from e.symm) list_ne_map
    · obtain rfl := mpD_inj (show mpD es = mpD fs from e)
      exact .inr (.inr ⟨_, rfl, Nat.le_trans (List.length_filter_le _ _) hl, List.Pairwise.filter _ hn, fun y hy => hx _ (List.mem_filter.mp hy).1⟩)
theorem least_nat {p : Nat → Prop} : ∀ n, p n → ∃ j, p j ∧ ∀ m, p m → j ≤ m := fun n hn => by
  obtain ⟨j, h1, h2⟩ := least_of (p := p) n hn
  exact ⟨j, h1, fun m hm => Nat.le_of_not_lt fun c => h2 m c hm⟩
theorem mn_ex {n : Nat} {d : D} (h : Vl n d) : ∃ p, p ≤ n ∧ Mn d p := by
  obtain ⟨j, h1, h2⟩ := least_nat (p := fun j => Vl j d) n h
  exact ⟨j, h2 n h, h1, h2⟩
theorem fol_snoc {d h e s : D} {a : List D} (hf : Fol d a h) (hs : (s, e) ∈ steps h) : Fol d (a ++ [s]) e := by
  induction hf with
  | nil => exact .cons hs .nil
  | cons h1 _ ih => exact .cons h1 (ih hs)
theorem ins_rem {n B : Nat} {part h step w : D} (hi : Ins part h step w) (hh : VB B n h) : Rem w step h := by
  cases hi with
  | @lst xs i hi => exact ins_rem_list hi
  | @map es key hk =>
    rcases hh.look with ⟨nm, w, e, _, h1, _⟩ | ⟨m', rfl, ⟨ys, e, hl, hx⟩ | ⟨fs, e, hl, hn, hx⟩⟩
    · simp [mpD] at e; exact absurd e.1.symm h1
    · exact absurd (show lsD ys = mpD es from e.symm) list_ne_map
    · obtain rfl := mpD_inj (show mpD es = mpD fs from e)
      exact ins_rem_map hn hk
theorem Ed.vb {way : Int} {B p : Nat} {v step part z : D} {path : List D} (hz : Ed way v path step part z) (hv : VB B 24 v) (hp : way ≠ 1 → VB B p part ∧ path.length + more way + p ≤ 24) (hs : way = 2 → IsStep step) : VB (B + 1) 24 z := by
  cases hz with
  | put h0 hf =>
    subst h0
    obtain ⟨h1, h2⟩ := hp (by decide)
    simp [more] at h2
    exact (put_vb hf h1 hv (Nat.le_refl _) h2).wide (Nat.le_succ B)
  | @rem h s w a _ e hf hr =>
    obtain ⟨m, hm, hh⟩ := hf.vl hv
    exact (put_vb hf (rem_vb hr hh) hv (Nat.le_refl _) (by omega)).wide (Nat.le_succ B)
  | @ins h w h0 hf hi =>
    subst h0
    obtain ⟨h1, h2⟩ := hp (by decide)
    simp [more] at h2
    obtain ⟨m, hm, hh⟩ := hf.vl hv
    exact put_vb hf (ins_vb (k := 24 - path.length) hi hh h1 (hs rfl) (by omega) (by omega)) (hv.wide (Nat.le_succ B)) (Nat.le_refl _) (by omega)
/-- how many values are in it, its parts to f levels -/
def wl (f : Nat) (d : D) : Nat := (ways f d).length
theorem wl_zero (d : D) : wl 0 d = 1 := rfl
theorem wl_succ (f : Nat) (d : D) : wl (f + 1) d = 1 + ((steps d).map fun p => wl f p.2).sum := ways_len f d
theorem wl_pos (f : Nat) (d : D) : 1 ≤ wl f d := by
  cases f with
  | zero => exact Nat.le_refl _
  | succ f => rw [wl_succ]; omega
theorem sum_one {α : Type} {g h : α → Nat} {M : Nat} : ∀ {l : List α} {P : α → Prop}, (∀ x ∈ l, ¬ P x → g x = h x) → (∀ x ∈ l, P x → g x ≤ h x + M) → l.Pairwise (fun a b => ¬ (P a ∧ P b)) → (l.map g).sum ≤ (l.map h).sum + M
  | [], _, _, _, _ => by simp
  | x :: l, P, h1, h2, h3 => by
    rw [List.pairwise_cons] at h3
    by_cases c : P x
    · have hx := h2 x List.mem_cons_self c
      have rest : ∀ y ∈ l, g y = h y := fun y hy => h1 y (List.mem_cons_of_mem _ hy) fun z => h3.1 y hy ⟨c, z⟩
      have e : l.map g = l.map h := List.map_congr_left rest
      simp only [List.map_cons, List.sum_cons, e]
      omega
    · have hx := h1 x List.mem_cons_self c
      have r := sum_one (P := P) (fun y hy => h1 y (List.mem_cons_of_mem _ hy)) (fun y hy => h2 y (List.mem_cons_of_mem _ hy)) h3.2
      simp only [List.map_cons, List.sum_cons, hx]
      omega
theorem steps_nodup {B n : Nat} {d : D} (h : VB B n d) : ((steps d).map (·.1)).Nodup := by
  rcases h.look with ⟨nm, r, rfl, _, _, hl⟩ | ⟨m, rfl, ⟨xs, rfl, hl, hv⟩ | ⟨es, rfl, hl, hn, hv⟩⟩
  · rw [steps_leaf hl]; exact List.nodup_nil
  · show ((steps (lsD xs)).map (·.1)).Nodup
    rw [steps_list, List.map_map]
    have e : xs.zipIdx.map ((fun x : D × D => x.1) ∘ fun p => (D.int (p.2 : Int), p.1)) = (List.range xs.length).map fun i : Nat => D.int (i : Int) := by
      rw [List.range_eq_range', ← List.zipIdx_map_snd 0 xs, List.map_map]
      rfl
    rw [e]
    refine List.Pairwise.map _ (fun a b c z => ?_) List.nodup_range
    simp at z
    exact c (by omega)
  · show ((steps (mpD es)).map (·.1)).Nodup
    rw [steps_map, List.map_map]
    have := hn.nodup
    unfold List.Nodup at this ⊢
    rw [List.pairwise_map] at this ⊢
    exact this.imp fun {a b} c z => c (key_inj z)
theorem wl_put {B M : Nat} {d h w : D} {path : List D} (hf : Fol d path h) (hw : ∀ f, wl f w ≤ wl f h + M) : ∀ {n : Nat}, VB B n d → ∀ f, wl f (putD w path d) ≤ wl f d + M := by
  induction hf with
  | nil => exact fun _ f => hw f
  | @cons d s c h r hs hf ih =>
    intro n hv f
    obtain ⟨m1, hm1, hc⟩ := hv.parts.2 _ hs
    cases f with
    | zero => rw [wl_zero, wl_zero]; omega
    | succ f =>
      have hi := ih hw hc f
      rw [wl_succ, wl_succ]
      have nd := steps_nodup hv
      have pw : (steps d).Pairwise fun a b => ¬ (a.1 = s ∧ b.1 = s) := by
        unfold List.Nodup at nd
        rw [List.pairwise_map] at nd
        exact nd.imp fun {a b} c z => c (z.1.trans z.2.symm)
      have key : (steps (putD w (s :: r) d)).map (fun p => wl f p.2) = (steps d).map fun p => (open Classical in if p.1 = s then wl f (putD w r p.2) else wl f p.2) := by
        rcases hv.look with ⟨nm, w', rfl, _, _, hl⟩ | ⟨m', hm', ⟨xs, rfl, hl, hx⟩ | ⟨es, rfl, hl, hn, hx⟩⟩
        · rw [steps_leaf hl] at hs; cases hs
        · show (steps (putD w (s :: r) (lsD xs))).map _ = (steps (lsD xs)).map _
          rw [putD_list, steps_list, steps_list, List.map_map, List.map_map]
          refine List.ext_getElem? fun i => ?_
          rw [List.getElem?_map, List.getElem?_map, List.getElem?_zipIdx, List.getElem?_zipIdx, updL_at]
          cases xs[i]? with
          | none => rfl
          | some x =>
            simp
            split <;> rfl
        · show (steps (putD w (s :: r) (mpD es))).map _ = (steps (mpD es)).map _
          rw [putD_map, steps_map, steps_map, List.map_map, List.map_map]
          unfold updM
          rw [List.map_map]
          refine List.map_congr_left fun e he => ?_
          simp
          split <;> rfl
      rw [key]
      have := sum_one (M := M) (g := fun p : D × D => (open Classical in if p.1 = s then wl f (putD w r p.2) else wl f p.2)) (h := fun p => wl f p.2) (P := fun p => p.1 = s) (l := steps d) (fun x hx np => by simp [np]) (fun x hx px => by
        have : x.2 = c := hv.uniq (s := s) (by rw [← px]; exact hx) hs
        simp [px, this, hi]) pw
      omega
theorem wl_rem {h s w : D} (hr : Rem h s w) : ∀ f, wl f w ≤ wl f h := fun f => by
  cases f with
  | zero => exact Nat.le_refl _
  | succ f =>
    rw [wl_succ, wl_succ]
    cases hr with
    | @lst xs i hi =>
      rw [steps_list, steps_list, List.map_map, List.map_map]
      have e : ∀ ys : List D, ys.zipIdx.map ((fun p : D × D => wl f p.2) ∘ fun p => (D.int (p.2 : Int), p.1)) = ys.map fun y => wl f y := fun ys => by
        have e0 := List.zipIdx_map_fst 0 ys
        rw [← e0, List.map_map, e0]
        rfl
      rw [e, e]
      rw [List.map_append, List.sum_append]
      have e1 : xs.map (fun y => wl f y) = (xs.take i ++ xs.drop i).map fun y => wl f y := by rw [List.take_append_drop]
      rw [e1, List.map_append, List.sum_append]
      have e2 : xs.drop i = xs[i] :: xs.drop (i + 1) := List.drop_eq_getElem_cons hi
      rw [e2, List.map_cons, List.sum_cons]
      omega
    | @map es k hk =>
      rw [steps_map, steps_map, List.map_map, List.map_map]
      have : ∀ l : List (List Int × D), ((l.filter fun e => decide (e.1 ≠ k)).map ((fun p : D × D => wl f p.2) ∘ fun e => (keyD e.1, e.2))).sum ≤ (l.map ((fun p : D × D => wl f p.2) ∘ fun e => (keyD e.1, e.2))).sum := fun l => by
        induction l with
        | nil => simp
        | cons x l ih =>
          rw [List.filter_cons]
          split
          · simp only [List.map_cons, List.sum_cons]; omega
          · simp only [List.map_cons, List.sum_cons]; omega
      have := this es
      omega
theorem wl_ins {M : Nat} {part h s w : D} (hi : Ins part h s w) (hp : ∀ f, wl f part ≤ M) : ∀ f, wl f w ≤ wl f h + M := fun f => by
  cases f with
  | zero => rw [wl_zero, wl_zero]; omega
  | succ f =>
    have hpf := hp f
    rw [wl_succ, wl_succ]
    cases hi with
    | @lst xs i hi =>
      rw [steps_list, steps_list, List.map_map, List.map_map]
      have e : ∀ ys : List D, ys.zipIdx.map ((fun p : D × D => wl f p.2) ∘ fun p => (D.int (p.2 : Int), p.1)) = ys.map fun y => wl f y := fun ys => by
        have e0 := List.zipIdx_map_fst 0 ys
        rw [← e0, List.map_map, e0]
        rfl
      rw [e, e, List.map_append, List.map_append, List.sum_append, List.sum_append]
      have e1 : xs.map (fun y => wl f y) = (xs.take i ++ xs.drop i).map fun y => wl f y := by rw [List.take_append_drop]
      rw [e1, List.map_append, List.sum_append]
      simp
      omega
    | @map es k hk =>
      rw [steps_map, steps_map, List.map_map, List.map_map]
      have := ((insE_perm (v := part) hk).map ((fun p : D × D => wl f p.2) ∘ fun e : List Int × D => (keyD e.1, e.2))).sum_nat
      rw [this, List.map_append, List.sum_append]
      simp
      omega
theorem Ed.wl {way : Int} {B M : Nat} {v step part z : D} {path : List D} (hz : Ed way v path step part z) {n : Nat} (hv : VB B n v) (hp : way ≠ 1 → ∀ f, wl f part ≤ M) : ∀ f, K77.wl f z ≤ K77.wl f v + M := by
  cases hz with
  | put h0 hf => exact wl_put hf (fun f => by have := hp (by rw [h0]; decide) f; omega) hv
  | rem h0 e hf hr => exact fun f => wl_put hf (fun f => by have := wl_rem hr f; omega) hv f
  | ins h0 hf hi => exact wl_put hf (wl_ins hi (hp (by rw [h0]; decide))) hv
/-- a drawn value behind k edits -/
def Stir (k : Nat) (d : D) : Prop := VB (49 + k) 24 d ∧ ∀ f, (ways f d).length ≤ 5890000 + 2451 * k
theorem Stir.told {k : Nat} {d : D} (h : Stir k d) (hk : k ≤ 5) : Told d := ⟨h.1.wide (by omega), by have := h.2 24; omega⟩
theorem Stir.next {way : Int} {k : Nat} {v step part z : D} {path : List D} (h : Stir k v) (hp : VB 49 2 part) (hs : IsStep step) (hr : Rf way v path step part none) (hz : Ed way v path step part z) : Stir (k + 1) z := by
  refine ⟨?_, fun f => ?_⟩
  · have hb : way ≠ 1 → ∃ p, VB (49 + k) p part ∧ path.length + more way + p ≤ 24 := fun hw => by
      cases hr with
      | fine1 h1 _ _ => exact absurd h1 hw
      | @fine h p _ _ hm hl => exact ⟨p, (hp.both hm.1).wide (by omega), hl⟩
    by_cases hw : way = 1
    · exact hz.vb (p := 0) h.1 (fun z => absurd hw z) fun _ => hs
    · obtain ⟨p, h1, h2⟩ := hb hw
      exact hz.vb (p := p) h.1 (fun _ => ⟨h1, h2⟩) fun _ => hs
  · have h1 := h.2 f
    have h2 := hz.wl (M := 2451) h.1 (fun _ f => ways_le hp f) f
    unfold K77.wl at h2
    omega
end K77

set_option Elab.async false
set_option linter.all false
set_option maxRecDepth 100000
set_option maxHeartbeats 4000000
/-! k77: _law_stirred. -/
namespace K77
open PySem PySem.Spec L2 L3
def sp_stirred : WSp := fun ds S Q _ => ∃ (p : Addr) (s : Sta) (d : D), ds = [.ref p, d] ∧ S p = some s.so ∧ Stir 0 d ∧ After (fun z => ∃ k, k ≤ 5 ∧ Stir k z) S p Q
theorem w_stirred (ds S Q E) (h : sp_stirred ds S Q E) : t__law_stirred (sp_ledit 26) sp_next sp_path sp_refusal sp_small sp_lstep (dEnds Q E) (L3.start 7 ds) S := by
  obtain ⟨p, s, d, rfl, hp, hd, q⟩ := h
  simp [t__law_stirred]
  refine nx s hp (by decide) fun i s2 g0 g1 => ?_
  simp
  refine ⟨⟨by omega, by omega⟩, ?_⟩
  refine forW_inv (fun ys env S' => ∃ (k : Nat) (v : D) (s : Sta) (o2 o3 o4 o5 o6 : Option D), env = [some (.ref p), some v, o2, o3, o4, o5, o6] ∧ S' = sup S p s.so ∧ Stir k v ∧ k + ys.length ≤ 5) ?_ ?_ _ _ _ ⟨0, d, s2, none, none, none, none, none, rfl, rfl, hd, by simp [rng_len]; omega⟩
  · rintro env S' ⟨k, v, s, o2, o3, o4, o5, o6, rfl, rfl, hv, hk⟩
    refine ⟨trivial, ?_⟩
    simp
    exact q v s ⟨k, by simpa using hk, hv⟩
  · rintro y r env S' N ⟨k, v, s, o2, o3, o4, o5, o6, rfl, rfl, hv, hk⟩ hN
    refine ⟨trivial, ?_⟩
    simp at hk
    have told := hv.told (by omega)
    simp [t__law_stirred_b1]
    refine ⟨p, s, rfl, by simp, fun part s3 hpart => ?_⟩
    simp
    refine ⟨p, s3, v, rfl, by simp, told, fun pd s4 hpath => ?_⟩
    obtain ⟨path, rfl, hkey, hlen⟩ := hpath
    simp
    refine ⟨p, s4, v, path, rfl, by simp, told, hkey, fun step s5 hstep => ?_⟩
    have hks : IsKey step := by
      rcases hstep with h | ⟨ns, h1, h2⟩
      · exact .inl h
      · exact .inr ⟨ns, h1, by omega⟩
    simp
    refine nx s5 (by simp) (by decide) fun way s6 w0 w1 => ?_
    have hw : Way way := by unfold Way; omega
    have hpart2 : Vl 2 part := hpart.wide (by decide)
    have g : Given v path part := ⟨told.v.mono (by decide), hpart2.mono (by decide), hkey, by omega⟩
    simp
    refine ⟨way, v, step, part, path, rfl, hw, g, told, hks, fun rf hrf => ?_⟩
    cases rf with
    | some c =>
      cases c <;> (simp [rfD, badD2]; exact hN _ _ ⟨k, v, s6, _, _, _, _, _, rfl, rfl, hv, by omega⟩)
    | none =>
      obtain ⟨z, hz⟩ := hrf.ed told.v
      simp [rfD]
      refine ⟨24, way, v, step, part, z, path, by omega, rfl, told.v, hkey, fun _ => hks, hw, hz, ?_⟩
      exact hN _ _ ⟨k + 1, z, s6, _, _, _, _, _, rfl, rfl, hv.next hpart hstep hrf hz, by omega⟩
end K77

set_option Elab.async false
set_option linter.all false
set_option maxRecDepth 100000
set_option maxHeartbeats 4000000
/-! k77: the edits from one value to another, made one after another. -/
namespace K77
open PySem PySem.Spec L2 L3
/-- an edit below a value -/
inductive RE
  | rep (rel : List D) (part : D) | rem (rel : List D) | ins (rel : List D) (step part : D)
def RE.pre (s : D) : RE → RE
  | .rep r p => .rep (s :: r) p
  | .rem r => .rem (s :: r)
  | .ins r t p => .ins (s :: r) t p
/-- as it is told, the value being at path -/
def RE.enc (path : List D) : RE → D
  | .rep r p => .tup [.str "replace", .tup (path ++ r), p]
  | .rem r => .tup [.str "remove", .tup (path ++ r)]
  | .ins r t p => .tup [.str "insert", .tup (path ++ r), t, p]
theorem enc_pre (path : List D) (s : D) (e : RE) : (e.pre s).enc path = e.enc (path ++ [s]) := by
  cases e <;> simp [RE.pre, RE.enc]
/-- one edit leads from a to c; k: how deep it may get -/
def Stp (k : Nat) (a : D) (e : RE) (c : D) : Prop := match e with
  | .rep r p => (∀ s, Ed 0 a r s p c) ∧ (∀ x ∈ r, IsKey x) ∧ r.length ≤ k ∧ Vl (k - r.length) p
  | .rem r => (∀ s q, Ed 1 a r s q c) ∧ (∀ x ∈ r, IsKey x) ∧ r ≠ [] ∧ r.length ≤ k
  | .ins r t p => Ed 2 a r t p c ∧ (∀ x ∈ r, IsKey x) ∧ IsKey t ∧ r.length + 1 ≤ k ∧ Vl (k - r.length - 1) p
inductive Run (k : Nat) : D → List RE → D → Prop
  | nil {a : D} : Vl k a → Run k a [] a
  | cons {a c b : D} {e : RE} {es : List RE} : Vl k a → Stp k a e c → Run k c es b → Run k a (e :: es) b
theorem Run.append {k : Nat} {a b c : D} {es fs : List RE} (h : Run k a es b) (h' : Run k b fs c) : Run k a (es ++ fs) c := by
  induction h with
  | nil _ => exact h'
  | cons v s _ ih => exact .cons v s (ih h')
theorem Run.start {k : Nat} {a b : D} {es : List RE} (h : Run k a es b) : Vl k a := by cases h <;> assumption
theorem Run.end {k : Nat} {a b : D} {es : List RE} (h : Run k a es b) : Vl k b := by
  induction h with
  | nil v => exact v
  | cons _ _ _ ih => exact ih
theorem Run.one {k : Nat} {a b : D} {e : RE} (ha : Vl k a) (hb : Vl k b) (s : Stp k a e b) : Run k a [e] b := .cons ha s (.nil hb)
theorem Run.empty {k : Nat} {a b : D} (h : Run k a [] b) : a = b := by cases h; rfl
/-! in a list -/
theorem updL_mid {pre post : List D} {a : D} {f : D → D} : updL (pre ++ a :: post) (.int (pre.length : Int)) f = pre ++ f a :: post := by
  refine List.ext_getElem? fun j => ?_
  rw [updL_at]
  rcases Nat.lt_trichotomy j pre.length with h | h | h
  · rw [List.getElem?_append_left h, List.getElem?_append_left h]
    cases pre[j]? with
    | none => rfl
    | some x =>
      have : ¬ ((j : Int) = (pre.length : Int)) := by omega
      simp [this]
  · subst h
    rw [List.getElem?_append_right (Nat.le_refl _), List.getElem?_append_right (Nat.le_refl _)]
    simp
  · rw [List.getElem?_append_right (by omega), List.getElem?_append_right (by omega)]
    obtain ⟨i, hi⟩ : ∃ i, j - pre.length = i + 1 := ⟨j - pre.length - 1, by omega⟩
    rw [hi]
    simp only [List.getElem?_cons_succ]
    cases post[i]? with
    | none => rfl
    | some x =>
      have : ¬ ((j : Int) = (pre.length : Int)) := by omega
      simp [this]
theorem step_mid {pre post : List D} {a : D} : (D.int (pre.length : Int), a) ∈ steps (lsD (pre ++ a :: post)) := by
  rw [steps_list]
  refine List.mem_map.mpr ⟨(a, pre.length), List.mem_zipIdx_iff_getElem?.mpr ?_, rfl⟩
  simp
theorem ed_list {way : Int} {pre post r : List D} {a c s p : D} (h : Ed way a r s p c) : Ed way (lsD (pre ++ a :: post)) (.int (pre.length : Int) :: r) s p (lsD (pre ++ c :: post)) := by
  cases h with
  | put h0 hf =>
    have z := Ed.put (way := way) (step := s) (part := p) h0 (Fol.cons (step_mid (pre := pre) (post := post)) hf)
    rw [putD_list, updL_mid] at z
    exact z
  | @rem h s' w a' h0 e hf hr =>
    subst e
    have z := Ed.rem (way := way) (step := s) (part := p) h0 (path := .int (pre.length : Int) :: (a' ++ [s'])) (a := .int (pre.length : Int) :: a') rfl (Fol.cons (step_mid (pre := pre) (post := post)) hf) hr
    rw [putD_list, updL_mid] at z
    exact z
  | ins h0 hf hi =>
    have z := Ed.ins (way := way) (step := s) (part := p) h0 (Fol.cons (step_mid (pre := pre) (post := post)) hf) hi
    rw [putD_list, updL_mid] at z
    exact z
theorem key_cons {s : D} {r : List D} (hs : IsKey s) (hr : ∀ x ∈ r, IsKey x) : ∀ x ∈ s :: r, IsKey x := fun x hx => by
  rcases List.mem_cons.mp hx with rfl | hx
  · exact hs
  · exact hr x hx
theorem stp_list {k : Nat} {pre post : List D} {a c : D} {e : RE} (h : Stp k a e c) : Stp (k + 1) (lsD (pre ++ a :: post)) (e.pre (.int (pre.length : Int))) (lsD (pre ++ c :: post)) := by
  cases e with
  | rep r p =>
    obtain ⟨h1, h2, h3, h4⟩ := h
    exact ⟨fun s => ed_list (h1 s), key_cons (.inl ⟨_, rfl⟩) h2, by simp; omega, by simpa using h4⟩
  | rem r =>
    obtain ⟨h1, h2, h3, h4⟩ := h
    exact ⟨fun s q => ed_list (h1 s q), key_cons (.inl ⟨_, rfl⟩) h2, by simp, by simp; omega⟩
  | ins r t p =>
    obtain ⟨h1, h2, h3, h4, h5⟩ := h
    exact ⟨ed_list h1, key_cons (.inl ⟨_, rfl⟩) h2, h3, by simp; omega, by simpa using h5⟩
theorem vl_ls {k : Nat} {xs : List D} (h1 : xs.length ≤ 2000) (h2 : ∀ x ∈ xs, Vl k x) : Vl (k + 1) (lsD xs) := .inr (.inl ⟨xs, rfl, h1, h2⟩)
theorem mem_mid {pre post : List D} {a : D} {P : D → Prop} (h1 : ∀ x ∈ pre, P x) (h2 : P a) (h3 : ∀ x ∈ post, P x) : ∀ x ∈ pre ++ a :: post, P x := fun x hx => by
  rcases List.mem_append.mp hx with h | h
  · exact h1 x h
  · rcases List.mem_cons.mp h with rfl | h
    · exact h2
    · exact h3 x h
theorem Run.list {k : Nat} {pre post : List D} (h1 : ∀ x ∈ pre, Vl k x) (h3 : ∀ x ∈ post, Vl k x) (hl : pre.length + post.length < 2000) {a b : D} {es : List RE} (h : Run k a es b) :
    Run (k + 1) (lsD (pre ++ a :: post)) (es.map (RE.pre (.int (pre.length : Int)))) (lsD (pre ++ b :: post)) := by
  induction h with
  | nil v => exact .nil (vl_ls (by simp; omega) (mem_mid h1 v h3))
  | cons v s _ ih => exact .cons (vl_ls (by simp; omega) (mem_mid h1 v h3)) (stp_list s) ih
theorem run_lrem {k : Nat} {pre post : List D} {x : D} (h1 : ∀ y ∈ pre, Vl k y) (h2 : Vl k x) (h3 : ∀ y ∈ post, Vl k y) (hl : pre.length + post.length < 2000) : Run (k + 1) (lsD (pre ++ x :: post)) [.rem [.int (pre.length : Int)]] (lsD (pre ++ post)) := by
  refine .one (vl_ls (by simp; omega) (mem_mid h1 h2 h3)) (vl_ls (by simp; omega) fun y hy => (List.mem_append.mp hy).elim (h1 y) (h3 y)) ⟨fun s q => ?_, key_cons (.inl ⟨_, rfl⟩) (fun _ h => by cases h), by simp, by simp⟩
  have z := Ed.rem (way := 1) (step := s) (part := q) rfl (path := [.int (pre.length : Int)]) (a := []) rfl Fol.nil (Rem.lst (xs := pre ++ x :: post) (i := pre.length) (by simp))
  have e : (pre ++ x :: post).take pre.length ++ (pre ++ x :: post).drop (pre.length + 1) = pre ++ post := by
    rw [List.take_left', List.drop_append]
    · simp
    · rfl
  rw [e] at z
  exact z
theorem run_lins {k : Nat} {pre post : List D} {x : D} (h1 : ∀ y ∈ pre, Vl k y) (h2 : Vl k x) (h3 : ∀ y ∈ post, Vl k y) (hl : pre.length + post.length < 2000) : Run (k + 1) (lsD (pre ++ post)) [.ins [] (.int (pre.length : Int)) x] (lsD (pre ++ x :: post)) := by
  refine .one (vl_ls (by simp; omega) fun y hy => (List.mem_append.mp hy).elim (h1 y) (h3 y)) (vl_ls (by simp; omega) (mem_mid h1 h2 h3)) ⟨?_, (fun _ h => by cases h), .inl ⟨_, rfl⟩, by simp, by simpa using h2⟩
  have z := Ed.ins (way := 2) rfl (Fol.nil (d := lsD (pre ++ post))) (Ins.lst (part := x) (xs := pre ++ post) (i := pre.length) (by simp))
  have e : (pre ++ post).take pre.length ++ ([x] ++ (pre ++ post).drop pre.length) = pre ++ x :: post := by
    rw [List.take_left' rfl, List.drop_left' rfl]; rfl
  rw [e] at z
  exact z
/-! in a map -/
theorem updM_mid {pre post : List (List Int × D)} {k : List Int} {a : D} {f : D → D} (hs : Srt (pre ++ (k, a) :: post)) : updM (pre ++ (k, a) :: post) (keyD k) f = pre ++ (k, f a) :: post := by
  have nd := hs.nodup
  rw [List.map_append, List.map_cons, List.nodup_append] at nd
  obtain ⟨_, n2, n3⟩ := nd
  rw [List.nodup_cons] at n2
  unfold updM
  rw [List.map_append, List.map_cons]
  congr 1
  · conv => rhs; rw [← List.map_id pre]
    refine List.map_congr_left fun e he => ?_
    have : ¬ keyD e.1 = keyD k := fun z => n3 e.1 (List.mem_map.mpr ⟨e, he, rfl⟩) k List.mem_cons_self (key_inj z)
    rw [if_neg this]; rfl
  · congr 1
    · simp
    · conv => rhs; rw [← List.map_id post]
      refine List.map_congr_left fun e he => ?_
      have : ¬ keyD e.1 = keyD k := fun z => n2.1 (List.mem_map.mpr ⟨e, he, key_inj z⟩)
      rw [if_neg this]; rfl
theorem step_midM {pre post : List (List Int × D)} {k : List Int} {a : D} : (keyD k, a) ∈ steps (mpD (pre ++ (k, a) :: post)) := by
  rw [steps_map]
  exact List.mem_map.mpr ⟨(k, a), by simp, rfl⟩
theorem srt_mid {pre post : List (List Int × D)} {k : List Int} {a b : D} (hs : Srt (pre ++ (k, a) :: post)) : Srt (pre ++ (k, b) :: post) := srt_fst hs (by simp)
theorem ed_map {way : Int} {pre post : List (List Int × D)} {key : List Int} {r : List D} {a c s p : D} (hs : Srt (pre ++ (key, a) :: post)) (h : Ed way a r s p c) : Ed way (mpD (pre ++ (key, a) :: post)) (keyD key :: r) s p (mpD (pre ++ (key, c) :: post)) := by
  cases h with
  | put h0 hf =>
    have z := Ed.put (way := way) (step := s) (part := p) h0 (Fol.cons (step_midM (k := key) (pre := pre) (post := post)) hf)
    rw [putD_map, updM_mid hs] at z
    exact z
  | @rem h s' w a' h0 e hf hr =>
    subst e
    have z := Ed.rem (way := way) (step := s) (part := p) h0 (path := keyD key :: (a' ++ [s'])) (a := keyD key :: a') rfl (Fol.cons (step_midM (k := key) (pre := pre) (post := post)) hf) hr
    rw [putD_map, updM_mid hs] at z
    exact z
  | ins h0 hf hi =>
    have z := Ed.ins (way := way) (step := s) (part := p) h0 (Fol.cons (step_midM (k := key) (pre := pre) (post := post)) hf) hi
    rw [putD_map, updM_mid hs] at z
    exact z
theorem keyK {key : List Int} (h : key.length < 1000) : IsKey (keyD key) := .inr ⟨key, rfl, by omega⟩
theorem stp_map {k : Nat} {pre post : List (List Int × D)} {key : List Int} {a c : D} {e : RE} (hk : key.length < 1000) (hs : Srt (pre ++ (key, a) :: post)) (h : Stp k a e c) : Stp (k + 1) (mpD (pre ++ (key, a) :: post)) (e.pre (keyD key)) (mpD (pre ++ (key, c) :: post)) := by
  cases e with
  | rep r p =>
    obtain ⟨h1, h2, h3, h4⟩ := h
    exact ⟨fun s => ed_map hs (h1 s), key_cons (keyK hk) h2, by simp; omega, by simpa using h4⟩
  | rem r =>
    obtain ⟨h1, h2, h3, h4⟩ := h
    exact ⟨fun s q => ed_map hs (h1 s q), key_cons (keyK hk) h2, by simp, by simp; omega⟩
  | ins r t p =>
    obtain ⟨h1, h2, h3, h4, h5⟩ := h
    exact ⟨ed_map hs h1, key_cons (keyK hk) h2, h3, by simp; omega, by simpa using h5⟩
def Rows (k : Nat) (es : List (List Int × D)) : Prop := ∀ e ∈ es, e.1.length < 1000 ∧ Vl k e.2
theorem vl_mp {k : Nat} {es : List (List Int × D)} (h1 : es.length ≤ 2000) (h2 : Srt es) (h3 : Rows k es) : Vl (k + 1) (mpD es) := .inr (.inr ⟨es, rfl, h1, h2, h3⟩)
theorem rows_mid {k : Nat} {pre post : List (List Int × D)} {key : List Int} {a : D} (h1 : Rows k pre) (h0 : key.length < 1000) (h2 : Vl k a) (h3 : Rows k post) : Rows k (pre ++ (key, a) :: post) := fun x hx => by
  rcases List.mem_append.mp hx with h | h
  · exact h1 x h
  · rcases List.mem_cons.mp h with rfl | h
    · exact ⟨h0, h2⟩
    · exact h3 x h
theorem Run.map {k : Nat} {pre post : List (List Int × D)} {key : List Int} (h0 : key.length < 1000) (h1 : Rows k pre) (h3 : Rows k post) (hl : pre.length + post.length < 2000) {a b : D} {es : List RE} (h : Run k a es b) (hs : Srt (pre ++ (key, a) :: post)) :
    Run (k + 1) (mpD (pre ++ (key, a) :: post)) (es.map (RE.pre (keyD key))) (mpD (pre ++ (key, b) :: post)) := by
  induction h with
  | nil v => exact .nil (vl_mp (by simp; omega) hs (rows_mid h1 h0 v h3))
  | cons v s _ ih => exact .cons (vl_mp (by simp; omega) hs (rows_mid h1 h0 v h3)) (stp_map h0 hs s) (ih (srt_mid hs))
theorem run_mrem {k : Nat} {es : List (List Int × D)} {key : List Int} (hl : es.length ≤ 2000) (hs : Srt es) (hr : Rows k es) (hk : key ∈ es.map (·.1)) : Run (k + 1) (mpD es) [.rem [keyD key]] (mpD (es.filter fun e => decide (e.1 ≠ key))) := by
  have hk2 : key.length < 1000 := by
    obtain ⟨e, he, rfl⟩ := List.mem_map.mp hk
    exact (hr e he).1
  refine .one (vl_mp hl hs hr) (vl_mp (Nat.le_trans (List.length_filter_le _ _) hl) (hs.filter _) fun e he => hr e (List.mem_filter.mp he).1) ⟨fun s q => ?_, key_cons (keyK hk2) (fun _ h => by cases h), by simp, by simp⟩
  exact Ed.rem (way := 1) (step := s) (part := q) rfl (path := [keyD key]) (a := []) rfl Fol.nil (Rem.map hk)
theorem run_mins {k : Nat} {pre post : List (List Int × D)} {key : List Int} {x : D} (h0 : key.length < 1000) (h1 : Rows k pre) (h2 : Vl k x) (h3 : Rows k post) (hl : pre.length + post.length < 2000) (hs : Srt (pre ++ (key, x) :: post)) : Run (k + 1) (mpD (pre ++ post)) [.ins [] (keyD key) x] (mpD (pre ++ (key, x) :: post)) := by
  have hs' : Srt (pre ++ post) := List.Pairwise.sublist (List.Sublist.append_left (List.sublist_cons_self _ _) pre) hs
  have hn : key ∉ (pre ++ post).map (·.1) := fun c => by
    have nd := hs.nodup
    rw [List.map_append, List.map_cons, List.nodup_append] at nd
    obtain ⟨_, n2, n3⟩ := nd
    rw [List.nodup_cons] at n2
    rw [List.map_append] at c
    rcases List.mem_append.mp c with c | c
    · exact n3 key c key List.mem_cons_self rfl
    · exact n2.1 c
  refine .one (vl_mp (by simp; omega) hs' fun e he => (List.mem_append.mp he).elim (h1 e) (h3 e)) (vl_mp (by simp; omega) hs (rows_mid h1 h0 h2 h3)) ⟨?_, (fun _ h => by cases h), keyK h0, by simp, by simpa using h2⟩
  have z := Ed.ins (way := 2) rfl (Fol.nil (d := mpD (pre ++ post))) (Ins.map (part := x) hn)
  have e : insE (pre ++ post) key x = pre ++ (key, x) :: post := by
    refine srt_uniq ?_ hs (insE_srt hs')
    refine (insE_perm hn).trans ?_
    rw [List.append_assoc]
    exact List.Perm.append_left pre (List.perm_append_singleton _ _)
  rw [e] at z
  exact z
end K77

set_option Elab.async false
set_option linter.all false
set_option maxRecDepth 100000
set_option maxHeartbeats 4000000
/-! k77: the edits of a difference. -/
namespace K77
open PySem PySem.Spec L2 L3
open Classical in
/-- how many are the same at the beginning -/
noncomputable def com : List D → List D → Nat
  | x :: xs, y :: ys => if x = y then com xs ys + 1 else 0
  | _, _ => 0
theorem com_le : ∀ (xs ys : List D), com xs ys ≤ xs.length ∧ com xs ys ≤ ys.length ∧ xs.take (com xs ys) = ys.take (com xs ys)
  | [], ys => by simp [com]
  | x :: xs, [] => by simp [com]
  | x :: xs, y :: ys => by
    obtain ⟨h1, h2, h3⟩ := com_le xs ys
    by_cases e : x = y
    · simp [com, e]; exact ⟨h1, h2, h3⟩
    · simp [com, e]
/-- the items of a list, the rows of a map -/
def asL : D → Option (List D)
  | .tup [.str n, .tup xs] => if n = "list" then some xs else none
  | _ => none
def unI : D → Int
  | .int i => i
  | _ => 0
def unE : D → List Int × D
  | .tup [.tup ks, v] => (ks.map unI, v)
  | d => ([], d)
def asM : D → Option (List (List Int × D))
  | .tup [.str n, .tup xs] => if n = "map" then some (xs.map unE) else none
  | _ => none
theorem asL_ls {xs : List D} : asL (lsD xs) = some xs := by simp [lsD, asL]
theorem unE_ent (e : List Int × D) : unE (ent e) = e := by
  obtain ⟨k, v⟩ := e
  have : (k.map D.int).map unI = k := by
    rw [List.map_map]
    exact (List.map_congr_left fun x _ => rfl).trans (List.map_id k)
  simp only [ent, unE, this]
theorem asM_mp {es : List (List Int × D)} : asM (mpD es) = some es := by
  have : (es.map ent).map unE = es := by
    rw [List.map_map]
    exact (List.map_congr_left fun x _ => unE_ent x).trans (List.map_id es)
  simp [mpD, asM, -ent, this]
theorem asL_mp {es : List (List Int × D)} : asL (mpD es) = none := by
  simp [mpD, asL, map_list]
theorem asM_ls {xs : List D} : asM (lsD xs) = none := by
  have : ("list" : Str) ≠ "map" := by decide
  simp [lsD, asM, this]
theorem asL_leaf {d : D} (h : IsLeaf d) : asL d = none ∧ asM d = none := by
  cases h <;> simp [asL, asM] <;> decide
/-- what comes at a key -/
def look (es : List (List Int × D)) (k : List Int) : Option D := (es.find? fun e => decide (e.1 = k)).map (·.2)
noncomputable section
def first (xs ys : List D) : Nat := com xs ys
def last (xs ys : List D) : Nat := com (xs.drop (first xs ys)).reverse (ys.drop (first xs ys)).reverse
def gone (xs ys : List D) : Nat := xs.length - first xs ys - last xs ys
def come (xs ys : List D) : Nat := ys.length - first xs ys - last xs ys
def both (f : D → D → List RE) (xs ys : List D) (k : Nat) : List RE := (f (xs.getD (first xs ys + k) .non) (ys.getD (first xs ys + k) .non)).map (RE.pre (.int ((first xs ys + k : Nat) : Int)))
def added (xs ys : List D) (j : Nat) : RE := .ins [] (.int ((first xs ys + gone xs ys + j : Nat) : Int)) (ys.getD (first xs ys + gone xs ys + j) .non)
def listE (f : D → D → List RE) (xs ys : List D) : List RE :=
  (List.range (min (gone xs ys) (come xs ys))).flatMap (both f xs ys) ++ (List.replicate (gone xs ys - come xs ys) (RE.rem [.int ((first xs ys + come xs ys : Nat) : Int)]) ++ (List.range (come xs ys - gone xs ys)).map (added xs ys))
def lostE (es fs : List (List Int × D)) : List RE := (es.filter fun e => decide (e.1 ∉ fs.map (·.1))).map fun e => RE.rem [keyD e.1]
def rowE (f : D → D → List RE) (es : List (List Int × D)) (e : List Int × D) : List RE := match look es e.1 with
  | some v => (f v e.2).map (RE.pre (keyD e.1))
  | none => [.ins [] (keyD e.1) e.2]
def mapE (f : D → D → List RE) (es fs : List (List Int × D)) : List RE := lostE es fs ++ fs.flatMap (rowE f es)
open Classical in
/-- the edits that lead from a to b -/
def diffs : Nat → D → D → List RE
  | 0, a, b => if a = b then [] else [.rep [] b]
  | n + 1, a, b => if a = b then [] else match asL a, asL b, asM a, asM b with
    | some xs, some ys, _, _ => listE (diffs n) xs ys
    | _, _, some es, some fs => mapE (diffs n) es fs
    | _, _, _, _ => [.rep [] b]
end
theorem run_rep {k : Nat} {a b : D} (ha : Vl k a) (hb : Vl k b) : Run k a [.rep [] b] b := .one ha hb ⟨fun s => Ed.put rfl Fol.nil, (fun _ h => by cases h), by simp, by simpa using hb⟩
/-- the same items ahead, behind; what is between -/
theorem cut3 (xs ys : List D) : ∃ P X Y T, xs = P ++ (X ++ T) ∧ ys = P ++ (Y ++ T) ∧ P.length = first xs ys ∧ X.length = gone xs ys ∧ Y.length = come xs ys ∧ first xs ys + last xs ys ≤ xs.length ∧ first xs ys + last xs ys ≤ ys.length := by
  obtain ⟨h1, h2, h3⟩ := com_le xs ys
  obtain ⟨g1, g2, g3⟩ := com_le (xs.drop (first xs ys)).reverse (ys.drop (first xs ys)).reverse
  have h1' : first xs ys ≤ xs.length := h1
  have h2' : first xs ys ≤ ys.length := h2
  have g1' : last xs ys ≤ xs.length - first xs ys := by simpa [last] using g1
  have g2' : last xs ys ≤ ys.length - first xs ys := by simpa [last] using g2
  have g4 : (xs.drop (first xs ys)).reverse.take (last xs ys) = (ys.drop (first xs ys)).reverse.take (last xs ys) := g3
  rw [List.take_reverse, List.take_reverse, List.reverse_inj, List.length_drop, List.length_drop] at g4
  refine ⟨xs.take (first xs ys), (xs.drop (first xs ys)).take (gone xs ys), (ys.drop (first xs ys)).take (come xs ys), (xs.drop (first xs ys)).drop (gone xs ys), ?_, ?_, by simp; omega, by simp [gone] <;> omega, by simp [come] <;> omega, by omega, by omega⟩
  · rw [List.take_append_drop, List.take_append_drop]
  · have e1 : xs.take (first xs ys) = ys.take (first xs ys) := h3
    have e2 : (xs.drop (first xs ys)).drop (gone xs ys) = (ys.drop (first xs ys)).drop (come xs ys) := g4
    rw [e1, e2, List.take_append_drop, List.take_append_drop]
theorem getD_mid {P Y : List D} {n : Nat} (h : P.length = n) (j : Nat) : (P ++ Y).getD (n + j) .non = Y.getD j .non := by
  subst h
  simp [List.getD, List.getElem?_append_right]
theorem list_run {k : Nat} {f : D → D → List RE} {xs ys : List D} (hx : ∀ x ∈ xs, Vl k x) (hy : ∀ y ∈ ys, Vl k y) (lx : xs.length ≤ 900) (ly : ys.length ≤ 900) (hf : ∀ x ∈ xs, ∀ y ∈ ys, Run k x (f x y) y) : Run (k + 1) (lsD xs) (listE f xs ys) (lsD ys) := by
  obtain ⟨P, X, Y, T, ex, ey, hP, hX, hY, hfx, hfy⟩ := cut3 xs ys
  have vP : ∀ x ∈ P, Vl k x := fun x h => hx x (by rw [ex]; simp [h])
  have vX : ∀ x ∈ X, Vl k x := fun x h => hx x (by rw [ex]; simp [h])
  have vY : ∀ x ∈ Y, Vl k x := fun x h => hy x (by rw [ey]; simp [h])
  have vT : ∀ x ∈ T, Vl k x := fun x h => hx x (by rw [ex]; simp [h])
  have l1 : P.length + X.length + T.length ≤ 900 := by have := congrArg List.length ex; simp at this; omega
  have l2 : P.length + Y.length + T.length ≤ 900 := by have := congrArg List.length ey; simp at this; omega
  have tk : ∀ {A : List D} (n : Nat), (∀ x ∈ A, Vl k x) → ∀ x ∈ A.take n, Vl k x := fun n h x hx => h x (List.mem_of_mem_take hx)
  have dp : ∀ {A : List D} (n : Nat), (∀ x ∈ A, Vl k x) → ∀ x ∈ A.drop n, Vl k x := fun n h x hx => h x (List.mem_of_mem_drop hx)
  have ap : ∀ {A B : List D}, (∀ x ∈ A, Vl k x) → (∀ x ∈ B, Vl k x) → ∀ x ∈ A ++ B, Vl k x := fun h1 h2 x hx => (List.mem_append.mp hx).elim (h1 x) (h2 x)
  have start : Vl (k + 1) (lsD xs) := vl_ls (by omega) hx
  -- the items that are changed
  have ph1 : ∀ j, j ≤ min (gone xs ys) (come xs ys) → Run (k + 1) (lsD xs) ((List.range j).flatMap (both f xs ys)) (lsD (P ++ (Y.take j ++ (X.drop j ++ T)))) := by
    intro j
    induction j with
    | zero =>
      intro _
      simp only [List.range_zero, List.flatMap_nil, List.take_zero, List.nil_append, List.drop_zero]
      rw [← ex]
      exact .nil start
    | succ j ih =>
      intro hj
      have jX : j < X.length := by omega
      have jY : j < Y.length := by omega
      rw [List.range_succ, List.flatMap_append]
      refine (ih (by omega)).append ?_
      simp only [List.flatMap_cons, List.flatMap_nil, List.append_nil]
      have e1 : X.drop j = X[j] :: X.drop (j + 1) := List.drop_eq_getElem_cons jX
      have e2 : Y.take (j + 1) = Y.take j ++ [Y[j]] := by rw [List.take_succ_eq_append_getElem jY]
      have c1 : xs.getD (first xs ys + j) .non = X[j] := by
        rw [← hP, ex, getD_mid rfl]
        simp [List.getD, List.getElem?_append_left jX, jX]
      have c2 : ys.getD (first xs ys + j) .non = Y[j] := by
        rw [← hP, ey, getD_mid rfl]
        simp [List.getD, List.getElem?_append_left jY, jY]
      have mx : X[j] ∈ xs := by rw [ex]; simp
      have my : Y[j] ∈ ys := by rw [ey]; simp
      have r := Run.list (pre := P ++ Y.take j) (post := X.drop (j + 1) ++ T) (ap vP (tk j vY)) (ap (dp _ vX) vT) (by simp; omega) (hf _ mx _ my)
      have hl : (P ++ Y.take j).length = first xs ys + j := by simp; omega
      rw [hl] at r
      unfold both
      rw [c1, c2, e1, e2]
      simp only [List.append_assoc, List.cons_append, List.nil_append] at r ⊢
      exact r
  have R1 := ph1 _ (Nat.le_refl _)
  unfold listE
  refine R1.append ?_
  rcases Nat.le_total (come xs ys) (gone xs ys) with c | c
  · -- some are taken out
    rw [Nat.min_eq_right c]
    have e0 : come xs ys - gone xs ys = 0 := by omega
    rw [e0]
    simp only [List.range_zero, List.map_nil, List.append_nil]
    have eY : Y.take (come xs ys) = Y := List.take_of_length_le (by omega)
    rw [eY]
    have ph2 : ∀ t, t ≤ gone xs ys - come xs ys → Run (k + 1) (lsD (P ++ (Y ++ (X.drop (come xs ys) ++ T)))) (List.replicate t (RE.rem [.int ((first xs ys + come xs ys : Nat) : Int)])) (lsD (P ++ (Y ++ (X.drop (come xs ys + t) ++ T)))) := by
      intro t
      induction t with
      | zero => exact fun _ => .nil (vl_ls (by simp; omega) (ap vP (ap vY (ap (dp _ vX) vT))))
      | succ t ih =>
        intro ht
        have jX : come xs ys + t < X.length := by omega
        rw [List.replicate_succ']
        refine (ih (by omega)).append ?_
        have e1 : X.drop (come xs ys + t) = X[come xs ys + t] :: X.drop (come xs ys + t + 1) := List.drop_eq_getElem_cons jX
        have r := run_lrem (pre := P ++ Y) (post := X.drop (come xs ys + t + 1) ++ T) (x := X[come xs ys + t]) (ap vP vY) (vX _ (List.getElem_mem jX)) (ap (dp _ vX) vT) (by simp; omega)
        have hl : (P ++ Y).length = first xs ys + come xs ys := by simp; omega
        rw [hl] at r
        rw [e1]
        simp only [List.append_assoc, List.cons_append, List.nil_append, Nat.add_assoc] at r ⊢
        exact r
    have r := ph2 _ (Nat.le_refl _)
    have eX : X.drop (come xs ys + (gone xs ys - come xs ys)) = [] := List.drop_of_length_le (by omega)
    rw [eX, List.nil_append, ← ey] at r
    exact r
  · rw [Nat.min_eq_left c]
    have e0 : gone xs ys - come xs ys = 0 := by omega
    rw [e0]
    simp only [List.replicate_zero, List.nil_append]
    have eX : X.drop (gone xs ys) = [] := List.drop_of_length_le (by omega)
    rw [eX, List.nil_append]
    have ph3 : ∀ t, t ≤ come xs ys - gone xs ys → Run (k + 1) (lsD (P ++ (Y.take (gone xs ys) ++ T))) ((List.range t).map (added xs ys)) (lsD (P ++ (Y.take (gone xs ys + t) ++ T))) := by
      intro t
      induction t with
      | zero => exact fun _ => .nil (vl_ls (by simp; omega) (ap vP (ap (tk _ vY) vT)))
      | succ t ih =>
        intro ht
        have jY : gone xs ys + t < Y.length := by omega
        rw [List.range_succ, List.map_append]
        refine (ih (by omega)).append ?_
        have e2 : Y.take (gone xs ys + t + 1) = Y.take (gone xs ys + t) ++ [Y[gone xs ys + t]] := by rw [List.take_succ_eq_append_getElem jY]
        have r := run_lins (pre := P ++ Y.take (gone xs ys + t)) (post := T) (x := Y[gone xs ys + t]) (ap vP (tk _ vY)) (vY _ (List.getElem_mem jY)) vT (by simp; omega)
        have hl : (P ++ Y.take (gone xs ys + t)).length = first xs ys + gone xs ys + t := by simp; omega
        rw [hl] at r
        have c2 : ys.getD (first xs ys + gone xs ys + t) .non = Y[gone xs ys + t] := by
          have z : ∀ g (hg : g + t < Y.length), ys.getD (P.length + (g + t)) .non = Y[g + t] := fun g hg => by
            rw [ey, getD_mid rfl]
            simp [List.getD, List.getElem?_append_left hg, hg]
          rw [Nat.add_assoc, ← hP]
          exact z _ jY
        rw [← Nat.add_assoc, e2]
        simp only [List.map_cons, List.map_nil, added, c2, List.append_assoc, List.cons_append, List.nil_append] at r ⊢
        exact r
    have r := ph3 _ (Nat.le_refl _)
    have eY : Y.take (gone xs ys + (come xs ys - gone xs ys)) = Y := List.take_of_length_le (by omega)
    rw [eY, ← ey] at r
    exact r
theorem look_mem {es : List (List Int × D)} (hs : Srt es) {k : List Int} {v : D} : look es k = some v ↔ (k, v) ∈ es := by
  unfold look
  constructor
  · intro h
    cases c : es.find? fun e => decide (e.1 = k) with
    | none => rw [c] at h; cases h
    | some e =>
      rw [c] at h
      have h1 := List.mem_of_find?_eq_some c
      have h2 := List.find?_some c
      simp at h h2
      rw [← h, ← h2]
      exact h1
  · intro h
    cases c : es.find? fun e => decide (e.1 = k) with
    | none =>
      rw [List.find?_eq_none] at c
      exact absurd (by simp) (c (k, v) h)
    | some e =>
      have h1 := List.mem_of_find?_eq_some c
      have h2 := List.find?_some c
      simp at h2
      have : e = (k, v) := nodup_inj hs.nodup e h1 (k, v) h h2
      rw [this]; rfl
theorem look_none {es : List (List Int × D)} {k : List Int} : look es k = none ↔ k ∉ es.map (·.1) := by
  unfold look
  rw [Option.map_eq_none_iff, List.find?_eq_none]
  simp
  exact ⟨fun h x hx => h k x hx rfl, fun h a b hb e => h b (e ▸ hb)⟩
/-- the old row of a new one -/
def had (es : List (List Int × D)) (e : List Int × D) : Option (List Int × D) := (look es e.1).map fun v => (e.1, v)
theorem had_sub {es : List (List Int × D)} : ∀ fs : List (List Int × D), List.Sublist ((fs.filterMap (had es)).map (·.1)) (fs.map (·.1))
  | [] => .slnil
  | e :: fs => by
    unfold had
    cases c : look es e.1 with
    | none =>
      rw [List.filterMap_cons_none (by rw [c]; rfl), List.map_cons]
      exact (had_sub fs).cons _
    | some v =>
      rw [List.filterMap_cons_some (b := (e.1, v)) (by rw [c]; rfl), List.map_cons, List.map_cons]
      exact (had_sub fs).cons₂ _
theorem srt_of_keys {es : List (List Int × D)} : Srt es ↔ (es.map (·.1)).Pairwise fun a b => HT.lexLt a b = true := by
  unfold Srt; rw [List.pairwise_map]
theorem srt_sub {es : List (List Int × D)} {fs : List (List Int × D)} (h : Srt fs) (s : List.Sublist (es.map (·.1)) (fs.map (·.1))) : Srt es := by
  rw [srt_of_keys] at h ⊢
  exact h.sublist s
theorem map_run {k : Nat} {f : D → D → List RE} {es fs : List (List Int × D)} (he : Rows k es) (hf0 : Rows k fs) (le : es.length ≤ 900) (lf : fs.length ≤ 900) (se : Srt es) (sf : Srt fs)
    (hf : ∀ x ∈ es, ∀ y ∈ fs, Run k x.2 (f x.2 y.2) y.2) : Run (k + 1) (mpD es) (mapE f es fs) (mpD fs) := by
  unfold mapE
  -- what goes
  have ph1 : ∀ (R : List (List Int)) (gs : List (List Int × D)), Rows k gs → Srt gs → gs.length ≤ 900 → (∀ key ∈ R, key ∈ gs.map (·.1)) → R.Nodup → Run (k + 1) (mpD gs) (R.map fun key => RE.rem [keyD key]) (mpD (gs.filter fun e => decide (e.1 ∉ R))) := by
    intro R
    induction R with
    | nil =>
      intro gs h1 h2 h3 _ _
      have : gs.filter (fun e => decide (e.1 ∉ ([] : List (List Int)))) = gs := List.filter_eq_self.mpr fun e _ => by simp
      rw [this]
      exact .nil (vl_mp (by omega) h2 h1)
    | cons key R ih =>
      intro gs h1 h2 h3 h4 h5
      rw [List.nodup_cons] at h5
      have r1 := run_mrem (k := k) (key := key) (by omega) h2 h1 (h4 key List.mem_cons_self)
      have r2 := ih (gs.filter fun e => decide (e.1 ≠ key)) (fun e h => h1 e (List.mem_filter.mp h).1) (h2.filter _) (Nat.le_trans (List.length_filter_le _ _) h3) (fun c hc => by
        obtain ⟨e, h6, h7⟩ := List.mem_map.mp (h4 c (List.mem_cons_of_mem _ hc))
        refine List.mem_map.mpr ⟨e, List.mem_filter.mpr ⟨h6, ?_⟩, h7⟩
        rw [decide_eq_true_iff, h7]
        exact fun z => h5.1 (z ▸ hc)) h5.2
      have r := r1.append r2
      rw [List.filter_filter] at r
      have e1 : gs.filter (fun e => decide (e.1 ∉ key :: R)) = gs.filter fun a => decide (a.1 ∉ R) && decide (a.1 ≠ key) := List.filter_congr fun e _ => by
        by_cases c : e.1 = key <;> by_cases c2 : e.1 ∈ R <;> simp [c, c2]
      rw [e1]
      exact r
  have r1 := ph1 ((es.filter fun e => decide (e.1 ∉ fs.map (·.1))).map (·.1)) es he se le (fun key hk => by
    obtain ⟨e, h1, h2⟩ := List.mem_map.mp hk
    exact List.mem_map.mpr ⟨e, (List.mem_filter.mp h1).1, h2⟩) (List.Sublist.nodup (List.Sublist.map _ List.filter_sublist) se.nodup)
  rw [List.map_map] at r1
  have e1 : lostE es fs = (es.filter fun e => decide (e.1 ∉ fs.map (·.1))).map ((fun key => RE.rem [keyD key]) ∘ fun x => x.1) := rfl
  rw [← e1] at r1
  have sh : Srt (fs.filterMap (had es)) := srt_sub sf (had_sub fs)
  have e2 : (es.filter fun e => decide (e.1 ∉ (es.filter fun e => decide (e.1 ∉ fs.map (·.1))).map (·.1))) = fs.filterMap (had es) := by
    have sl : Srt (es.filter fun e => decide (e.1 ∉ (es.filter fun e => decide (e.1 ∉ fs.map (·.1))).map (·.1))) := se.filter _
    refine srt_uniq ?_ sh sl
    have nd : ∀ {l : List (List Int × D)}, Srt l → l.Nodup := fun {l} h => by
      have := h.nodup
      unfold List.Nodup at this ⊢
      rw [List.pairwise_map] at this
      exact this.imp fun {a b} c z => c (by rw [z])
    rw [List.perm_ext_iff_of_nodup (nd sl) (nd sh)]
    rintro ⟨key, v⟩
    rw [List.mem_filter, List.mem_filterMap]
    constructor
    · rintro ⟨h1, h2⟩
      have hk : key ∈ fs.map (·.1) := by
        apply Classical.byContradiction
        intro c
        refine of_decide_eq_true h2 (List.mem_map.mpr ⟨(key, v), List.mem_filter.mpr ⟨h1, decide_eq_true c⟩, rfl⟩)
      obtain ⟨e, h3, h4⟩ := List.mem_map.mp hk
      refine ⟨e, h3, ?_⟩
      unfold had
      rw [h4, (look_mem se).mpr h1]
      rfl
    · rintro ⟨e, h3, h4⟩
      unfold had at h4
      cases c : look es e.1 with
      | none => rw [c] at h4; cases h4
      | some w =>
        rw [c] at h4
        simp at h4
        obtain ⟨h5, h6⟩ := h4
        have h1 := (look_mem se).mp c
        rw [h5, h6] at h1
        refine ⟨h1, decide_eq_true fun c2 => ?_⟩
        obtain ⟨e', h7, h8⟩ := List.mem_map.mp c2
        have h9 := of_decide_eq_true (List.mem_filter.mp h7).2
        rw [h8] at h9
        exact h9 (List.mem_map.mpr ⟨e, h3, h5⟩)
  rw [e2] at r1
  refine r1.append ?_
  -- row by row
  have lh : ∀ l : List (List Int × D), (l.filterMap (had es)).length ≤ l.length := fun l => List.length_filterMap_le _ _
  have vh : ∀ l : List (List Int × D), (∀ e ∈ l, e ∈ fs) → Rows k (l.filterMap (had es)) := fun l hl e h => by
    obtain ⟨e', h1, h2⟩ := List.mem_filterMap.mp h
    unfold had at h2
    cases c : look es e'.1 with
    | none => rw [c] at h2; cases h2
    | some w =>
      rw [c] at h2
      simp at h2
      subst h2
      exact he _ ((look_mem se).mp c)
  have ph2 : ∀ (post pre : List (List Int × D)), fs = pre ++ post → Run (k + 1) (mpD (pre ++ post.filterMap (had es))) (post.flatMap (rowE f es)) (mpD fs) := by
    intro post
    induction post with
    | nil =>
      intro pre h
      rw [List.append_nil] at h
      simp only [List.filterMap_nil, List.flatMap_nil, List.append_nil]
      rw [← h]
      exact .nil (vl_mp (by omega) sf hf0)
    | cons e post ih =>
      intro pre h
      have mem : e ∈ fs := by rw [h]; simp
      have vpre : Rows k pre := fun x hx => hf0 x (by rw [h]; simp [hx])
      have vpost := vh post fun x hx => by rw [h]; simp [hx]
      have hl := congrArg List.length h
      simp at hl
      have hlp := lh post
      have sm : Srt (pre ++ e :: post.filterMap (had es)) := by
        refine srt_sub sf ?_
        rw [h, List.map_append, List.map_append, List.map_cons, List.map_cons]
        exact List.Sublist.append_left ((had_sub post).cons₂ _) _
      have r2 := ih (pre ++ [e]) (by rw [h]; simp)
      rw [List.append_assoc] at r2
      rw [List.flatMap_cons]
      refine Run.append ?_ r2
      cases c : look es e.1 with
      | none =>
        rw [List.filterMap_cons_none (by unfold had; rw [c]; rfl)]
        unfold rowE
        rw [c]
        exact run_mins (key := e.1) (x := e.2) (hf0 e mem).1 vpre (hf0 e mem).2 vpost (by omega) sm
      | some v =>
        rw [List.filterMap_cons_some (b := (e.1, v)) (by unfold had; rw [c]; rfl)]
        unfold rowE
        rw [c]
        exact Run.map (key := e.1) (hf0 e mem).1 vpre vpost (by omega) (hf _ ((look_mem se).mp c) e mem) (srt_mid (k := e.1) sm)
  have := ph2 fs [] rfl
  simpa using this
theorem diffs_run : ∀ {k : Nat} {a b : D}, VB 900 k a → VB 900 k b → Run k a (diffs k a b) b
  | 0, a, b, ha, hb => by
    unfold diffs
    split
    · rename_i e; subst e; exact .nil (ha.wide (by decide))
    · exact run_rep (ha.wide (by decide)) (hb.wide (by decide))
  | k + 1, a, b, ha, hb => by
    unfold diffs
    split
    · rename_i e; subst e; exact .nil (ha.wide (by decide))
    · have rep : Run (k + 1) a [.rep [] b] b := run_rep (ha.wide (by decide)) (hb.wide (by decide))
      rcases ha.look with ⟨nm, w, ea, _, _, hl⟩ | ⟨m, hm, ⟨xs, rfl, hl, hx⟩ | ⟨es, rfl, hl, hs, hx⟩⟩
      · obtain ⟨z1, z2⟩ := asL_leaf hl
        rw [z1, z2]
        exact rep
      · obtain rfl : k = m := by omega
        rcases hb.look with ⟨nm, w, eb, _, _, hl2⟩ | ⟨m, hm, ⟨ys, rfl, hl2, hy⟩ | ⟨fs, rfl, hl2, hs, hy⟩⟩
        · obtain ⟨z1, z2⟩ := asL_leaf hl2
          rw [z1, z2, show asL (.tup [.str "list", .tup xs]) = some xs from asL_ls, show asM (.tup [.str "list", .tup xs]) = none from asM_ls]
          exact rep
        · obtain rfl : k = m := by omega
          rw [show asL (.tup [.str "list", .tup xs]) = some xs from asL_ls, show asL (.tup [.str "list", .tup ys]) = some ys from asL_ls]
          exact list_run (fun x h => (hx x h).wide (by decide)) (fun y h => (hy y h).wide (by decide)) hl hl2 fun x h y h' => diffs_run (hx x h) (hy y h')
        · rw [show asL (.tup [.str "list", .tup xs]) = some xs from asL_ls, show asM (.tup [.str "list", .tup xs]) = none from asM_ls, show asL (.tup [.str "map", .tup (fs.map ent)]) = none from asL_mp]
          exact rep
      · obtain rfl : k = m := by omega
        rcases hb.look with ⟨nm, w, eb, _, _, hl2⟩ | ⟨m, hm, ⟨ys, rfl, hl2, hy⟩ | ⟨fs, rfl, hl2, hs2, hy⟩⟩
        · obtain ⟨z1, z2⟩ := asL_leaf hl2
          rw [z1, z2, show asL (.tup [.str "map", .tup (es.map ent)]) = none from asL_mp, show asM (.tup [.str "map", .tup (es.map ent)]) = some es from asM_mp]
          exact rep
        · rw [show asL (.tup [.str "list", .tup ys]) = some ys from asL_ls, show asM (.tup [.str "list", .tup ys]) = none from asM_ls, show asL (.tup [.str "map", .tup (es.map ent)]) = none from asL_mp, show asM (.tup [.str "map", .tup (es.map ent)]) = some es from asM_mp]
          exact rep
        · obtain rfl : k = m := by omega
          rw [show asL (.tup [.str "map", .tup (es.map ent)]) = none from asL_mp, show asM (.tup [.str "map", .tup (es.map ent)]) = some es from asM_mp, show asM (.tup [.str "map", .tup (fs.map ent)]) = some fs from asM_mp]
          exact map_run (fun x h => ⟨(hx x h).1, (hx x h).2.wide (by decide)⟩) (fun x h => ⟨(hy x h).1, (hy x h).2.wide (by decide)⟩) hl hl2 hs hs2 fun x h y h' => diffs_run (hx x h).2 (hy y h').2
end K77

set_option Elab.async false
set_option linter.all false
set_option maxRecDepth 100000
set_option maxHeartbeats 4000000
/-! k77: == of values. -/
namespace K77
open PySem PySem.Spec L2 L3
theorem toPys_cons {d : D} {ds : List D} {ps : List PyData} (h : toPys (d :: ds) = some ps) : ∃ x xs, toPy d = some x ∧ toPys ds = some xs ∧ ps = x :: xs := by
  rw [toPys] at h
  cases h1 : toPy d with
  | none => rw [h1] at h; cases h
  | some x =>
    cases h2 : toPys ds with
    | none => rw [h1, h2] at h; cases h
    | some xs => rw [h1, h2] at h; cases h; exact ⟨x, xs, rfl, rfl, rfl⟩
theorem toPy_tup {xs : List D} {p : PyData} (h : toPy (.tup xs) = some p) : ∃ ps, toPys xs = some ps ∧ p = .tuple ps := by
  rw [toPy] at h
  cases h1 : toPys xs with
  | none => rw [h1] at h; cases h
  | some ps => rw [h1] at h; cases h; exact ⟨ps, rfl, rfl⟩
def EqOk (x y : D) : Prop := ∀ p q, toPy x = some p → toPy y = some q → (PyData.eqv p q = true ↔ x = y)
theorem pys_eq : ∀ {xs ys : List D} {ps qs : List PyData}, toPys xs = some ps → toPys ys = some qs → (∀ x ∈ xs, ∀ y ∈ ys, EqOk x y) → (PyData.eqvAll ps qs = true ↔ xs = ys)
  | [], [], ps, qs, h1, h2, _ => by rw [toPys] at h1 h2; cases h1; cases h2; simp [PyData.eqvAll]
  | [], y :: ys, ps, qs, h1, h2, _ => by
    obtain ⟨y', ys', _, _, rfl⟩ := toPys_cons h2
    rw [toPys] at h1; cases h1; simp [PyData.eqvAll]
  | x :: xs, [], ps, qs, h1, h2, _ => by
    obtain ⟨x', xs', _, _, rfl⟩ := toPys_cons h1
    rw [toPys] at h2; cases h2; simp [PyData.eqvAll]
  | x :: xs, y :: ys, ps, qs, h1, h2, h => by
    obtain ⟨x', xs', a1, a2, rfl⟩ := toPys_cons h1
    obtain ⟨y', ys', b1, b2, rfl⟩ := toPys_cons h2
    have e1 := h x List.mem_cons_self y List.mem_cons_self x' y' a1 b1
    have e2 := pys_eq a2 b2 fun u hu v hv => h u (List.mem_cons_of_mem _ hu) v (List.mem_cons_of_mem _ hv)
    simp only [PyData.eqvAll, Bool.and_eq_true, e1, e2, List.cons.injEq]
theorem eq_tup {xs ys : List D} (h : ∀ x ∈ xs, ∀ y ∈ ys, EqOk x y) : EqOk (.tup xs) (.tup ys) := fun p q h1 h2 => by
  obtain ⟨ps, a1, rfl⟩ := toPy_tup h1
  obtain ⟨qs, b1, rfl⟩ := toPy_tup h2
  simp only [PyData.eqv, pys_eq a1 b1 h, D.tup.injEq]
theorem eq_ints {a b : List Int} : EqOk (.tup (a.map D.int)) (.tup (b.map D.int)) := fun p q h1 h2 => by
  obtain ⟨ps, a1, rfl⟩ := toPy_tup h1
  obtain ⟨qs, b1, rfl⟩ := toPy_tup h2
  rw [toPy_ints] at a1 b1
  cases a1; cases b1
  simp only [PyData.eqv, eqvAll_ints, decide_eq_true_iff, D.tup.injEq]
  exact ⟨fun e => by rw [e], fun e => ints_inj e⟩
/-- tuples whose first items are unlike texts -/
theorem eq_apart {x y : Str} {xs ys : List D} (h : x ≠ y) : EqOk (.tup (.str x :: xs)) (.tup (.str y :: ys)) := fun p q h1 h2 => by
  obtain ⟨ps, a1, rfl⟩ := toPy_tup h1
  obtain ⟨qs, b1, rfl⟩ := toPy_tup h2
  obtain ⟨x', xs', c1, c2, rfl⟩ := toPys_cons a1
  obtain ⟨y', ys', d1, d2, rfl⟩ := toPys_cons b1
  rw [toPy] at c1 d1; cases c1; cases d1
  simp [PyData.eqv, PyData.eqvAll, h]
theorem eq_str {x : Str} : EqOk (.str x) (.str x) := fun p q h1 h2 => by
  rw [toPy] at h1 h2; cases h1; cases h2; simp [PyData.eqv]
theorem eq_flat {x y : D} (h : (∃ b c, x = .bl b ∧ y = .bl c) ∨ ∃ i j, x = .int i ∧ y = .int j) : EqOk x y := fun p q h1 h2 => by
  rcases h with ⟨b, c, rfl, rfl⟩ | ⟨i, j, rfl, rfl⟩
  · rw [toPy] at h1 h2; cases h1; cases h2; simp [PyData.eqv]
  · rw [toPy] at h1 h2; cases h1; cases h2; simp [PyData.eqv]
/-- tuples whose first items are the same text -/
theorem eq_same {x : Str} {xs ys : List D} (h : ∀ ps qs, toPys xs = some ps → toPys ys = some qs → (PyData.eqvAll ps qs = true ↔ xs = ys)) : EqOk (.tup (.str x :: xs)) (.tup (.str x :: ys)) := fun p q h1 h2 => by
  obtain ⟨ps, a1, rfl⟩ := toPy_tup h1
  obtain ⟨qs, b1, rfl⟩ := toPy_tup h2
  obtain ⟨x', xs', c1, c2, rfl⟩ := toPys_cons a1
  obtain ⟨y', ys', d1, d2, rfl⟩ := toPys_cons b1
  rw [toPy] at c1 d1; cases c1; cases d1
  have := h _ _ c2 d2
  simp [PyData.eqv, PyData.eqvAll, this]
theorem eq_one {x : Str} {d e : D} (h : EqOk d e) : EqOk (.tup [.str x, d]) (.tup [.str x, e]) := eq_same fun ps qs h1 h2 => pys_eq h1 h2 fun u hu v hv => by
  rw [List.mem_singleton.mp hu, List.mem_singleton.mp hv]; exact h
theorem nmN : ("null" : Str) ≠ "truth" ∧ ("null" : Str) ≠ "number" ∧ ("null" : Str) ≠ "bytes" ∧ ("null" : Str) ≠ "text" ∧ ("truth" : Str) ≠ "number" ∧ ("truth" : Str) ≠ "bytes" ∧ ("truth" : Str) ≠ "text" ∧ ("number" : Str) ≠ "bytes" ∧ ("number" : Str) ≠ "text" ∧ ("bytes" : Str) ≠ "text" := by decide +kernel
theorem eq_two {x : Str} {a b m e : Int} : EqOk (.tup [.str x, .int a, .int b]) (.tup [.str x, .int m, .int e]) := eq_same fun ps qs h1 h2 => pys_eq h1 h2 fun u hu v hv => by
  have hu' : u = .int a ∨ u = .int b := by simpa using hu
  have hv' : v = .int m ∨ v = .int e := by simpa using hv
  rcases hu' with rfl | rfl <;> rcases hv' with rfl | rfl <;> exact eq_flat (.inr ⟨_, _, rfl, rfl⟩)
theorem eq_leaf {d e : D} (hd : IsLeaf d) (he : IsLeaf e) : EqOk d e := by
  obtain ⟨n1, n2, n3, n4, n5, n6, n7, n8, n9, n10⟩ := nmN
  cases hd with
  | null =>
    cases he with
    | null => exact eq_same fun ps qs h1 h2 => by rw [toPys] at h1 h2; cases h1; cases h2; simp [PyData.eqvAll]
    | truth b => exact eq_apart n1
    | num m e => exact eq_apart n2
    | bytes ns h => exact eq_apart n3
    | text ns h => exact eq_apart n4
  | truth a =>
    cases he with
    | null => exact eq_apart (Ne.symm n1)
    | truth b => exact eq_one (eq_flat (.inl ⟨_, _, rfl, rfl⟩))
    | num m e => exact eq_apart n5
    | bytes ns h => exact eq_apart n6
    | text ns h => exact eq_apart n7
  | num a b =>
    cases he with
    | null => exact eq_apart (Ne.symm n2)
    | truth b => exact eq_apart (Ne.symm n5)
    | num m e => exact eq_two
    | bytes ns h => exact eq_apart n8
    | text ns h => exact eq_apart n9
  | bytes a h =>
    cases he with
    | null => exact eq_apart (Ne.symm n3)
    | truth b => exact eq_apart (Ne.symm n6)
    | num m e => exact eq_apart (Ne.symm n8)
    | bytes ns h => exact eq_one eq_ints
    | text ns h => exact eq_apart n10
  | text a h =>
    cases he with
    | null => exact eq_apart (Ne.symm n4)
    | truth b => exact eq_apart (Ne.symm n7)
    | num m e => exact eq_apart (Ne.symm n9)
    | bytes ns h => exact eq_apart (Ne.symm n10)
    | text ns h => exact eq_one eq_ints
theorem eq_row {a b : List Int × D} (h : EqOk a.2 b.2) : EqOk (ent a) (ent b) := fun p q h1 h2 => by
  obtain ⟨ps, a1, rfl⟩ := toPy_tup h1
  obtain ⟨qs, b1, rfl⟩ := toPy_tup h2
  obtain ⟨x', xs', c1, c2, rfl⟩ := toPys_cons a1
  obtain ⟨y', ys', d1, d2, rfl⟩ := toPys_cons b1
  have e1 := eq_ints _ _ c1 d1
  have e2 := pys_eq c2 d2 fun u hu v hv => by
    rw [List.mem_singleton.mp hu, List.mem_singleton.mp hv]; exact h
  simp only [PyData.eqv, PyData.eqvAll, Bool.and_eq_true, e1, e2, ent, D.tup.injEq, List.cons.injEq]
theorem val_eq : ∀ {n : Nat} {B B' : Nat} {m : Nat} {d e : D}, VB B n d → VB B' m e → EqOk d e
  | n, B, B', m, d, e, hd, he => by
    have ml := map_list
    rcases hd.look with ⟨nm, w, rfl, h1, h2, hl⟩ | ⟨k, rfl, ⟨xs, rfl, hl, hx⟩ | ⟨es, rfl, hl, hs, hx⟩⟩
    · rcases he.look with ⟨nm', w', rfl, g1, g2, gl⟩ | ⟨k', rfl, ⟨ys, rfl, gl, hy⟩ | ⟨fs, rfl, gl, gs, hy⟩⟩
      · exact eq_leaf hl gl
      · exact eq_apart h1
      · exact eq_apart h2
    · rcases he.look with ⟨nm', w', rfl, g1, g2, gl⟩ | ⟨k', rfl, ⟨ys, rfl, gl, hy⟩ | ⟨fs, rfl, gl, gs, hy⟩⟩
      · exact eq_apart (Ne.symm g1)
      · exact eq_one (eq_tup fun x h y h' => val_eq (hx x h) (hy y h'))
      · exact eq_apart (Ne.symm ml)
    · rcases he.look with ⟨nm', w', rfl, g1, g2, gl⟩ | ⟨k', rfl, ⟨ys, rfl, gl, hy⟩ | ⟨fs, rfl, gl, gs, hy⟩⟩
      · exact eq_apart (Ne.symm g2)
      · exact eq_apart ml
      · refine eq_one (eq_tup fun x h y h' => ?_)
        obtain ⟨a, ha, rfl⟩ := List.mem_map.mp h
        obtain ⟨b, hb, rfl⟩ := List.mem_map.mp h'
        exact eq_row (val_eq (hx a ha).2 (hy b hb).2)
theorem dep_all {K : Nat} : ∀ {xs : List D} {ps : List PyData}, toPys xs = some ps → (∀ x ∈ xs, ∀ p, toPy x = some p → p.depth ≤ K) → PyData.depthAll ps ≤ K
  | [], ps, h, _ => by rw [toPys] at h; cases h; simp [PyData.depthAll]
  | x :: xs, ps, h, hx => by
    obtain ⟨x', xs', c1, c2, rfl⟩ := toPys_cons h
    have h1 := hx x List.mem_cons_self x' c1
    have h2 := dep_all c2 fun y hy => hx y (List.mem_cons_of_mem _ hy)
    simp only [PyData.depthAll]
    omega
theorem dep_tup {K : Nat} {xs : List D} (h : ∀ x ∈ xs, ∀ p, toPy x = some p → p.depth ≤ K) : ∀ p, toPy (.tup xs) = some p → p.depth ≤ K + 1 := fun p hp => by
  obtain ⟨ps, a1, rfl⟩ := toPy_tup hp
  have := dep_all a1 h
  simp only [PyData.depth]
  omega
theorem dep_ints {a : List Int} : ∀ p, toPy (.tup (a.map D.int)) = some p → p.depth ≤ 1 := dep_tup (K := 0) fun x hx p hp => by
  obtain ⟨i, _, rfl⟩ := List.mem_map.mp hx
  rw [toPy] at hp; cases hp; simp [PyData.depth]
theorem dep_pair {K : Nat} {x : Str} {d : D} (h : ∀ p, toPy d = some p → p.depth ≤ K) : ∀ p, toPy (.tup [.str x, d]) = some p → p.depth ≤ K + 1 := dep_tup fun u hu p hp => by
  have hu' : u = .str x ∨ u = d := by simpa using hu
  rcases hu' with rfl | rfl
  · rw [toPy] at hp; cases hp; simp [PyData.depth]
  · exact h p hp
theorem dep_leaf {d : D} (h : IsLeaf d) : ∀ p, toPy d = some p → p.depth ≤ 2 := fun p hp => by
  cases h with
  | null => simp [toPy, toPys] at hp; subst hp; simp [PyData.depth, PyData.depthAll]
  | truth b => simp [toPy, toPys] at hp; subst hp; simp [PyData.depth, PyData.depthAll]
  | num m e => simp [toPy, toPys] at hp; subst hp; simp [PyData.depth, PyData.depthAll]
  | bytes ns h => exact dep_pair dep_ints p hp
  | text ns h => exact dep_pair dep_ints p hp
theorem val_dep : ∀ {n B : Nat} {d : D}, VB B n d → ∀ p, toPy d = some p → p.depth ≤ 3 * n + 2
  | n, B, d, hd => by
    rcases hd.look with ⟨nm, w, rfl, h1, h2, hl⟩ | ⟨k, rfl, ⟨xs, rfl, hl, hx⟩ | ⟨es, rfl, hl, hs, hx⟩⟩
    · exact fun p hp => Nat.le_trans (dep_leaf hl p hp) (by omega)
    · exact fun p hp => Nat.le_trans (dep_pair (dep_tup fun x h => val_dep (hx x h)) p hp) (by omega)
    · refine fun p hp => Nat.le_trans (dep_pair (dep_tup (K := 3 * k + 3) fun x h => ?_) p hp) (by omega)
      obtain ⟨a, ha, rfl⟩ := List.mem_map.mp h
      refine dep_tup (K := 3 * k + 2) fun u hu p hp => ?_
      have hu' : u = .tup (a.1.map D.int) ∨ u = a.2 := by simpa using hu
      rcases hu' with rfl | rfl
      · exact Nat.le_trans (dep_ints p hp) (by omega)
      · exact val_dep (hx a ha).2 p hp
theorem val_deep {n m B B' : Nat} {d e : D} (hd : VB B n d) (he : VB B' m e) (hn : n ≤ 60) {Q : Bool → Prop} {hh} (q : ∀ t : Bool, (t = true ↔ d = e) → Q t) : ExC (Deep d e) Q hh := by
  obtain ⟨x, x1, x2⟩ := hd.pl
  obtain ⟨y, y1, y2⟩ := he.pl
  have z := val_eq hd he x y x1 y1
  have dd := val_dep hd x x1
  exact ⟨_, ⟨x, y, x1, y1, x2, y2, by omega, rfl⟩, q _ z⟩
theorem rEq_val {n m B B' : Nat} {d e : D} {S : Sto} {Q : VQ} (hd : VB B n d) (he : VB B' m e) (hn : n ≤ 60) (q : ∀ t : Bool, (t = true ↔ d = e) → Q (.bl t) S) : L3.rEq d e S Q := by
  have z := val_deep hd he hn (Q := fun b => Q (.bl b) S) (hh := .mk) q
  have ht : ∃ xs, d = .tup xs := by
    rcases hd.look with ⟨nm, w, rfl, _⟩ | ⟨k, rfl, ⟨xs, rfl, _⟩ | ⟨es, rfl, _⟩⟩ <;> exact ⟨_, rfl⟩
  obtain ⟨xs, rfl⟩ := ht
  exact z
end K77

set_option Elab.async false
set_option linter.all false
set_option maxRecDepth 100000
set_option maxHeartbeats 4000000
/-! k77: common, _law_common. -/
namespace L3
open PySem PySem.Spec PyProof.Rows L2
theorem whW_inv {c : WT} {b : WS} {E : VEnds} (I : Nat → Env → Sto → Prop)
    (hc : ∀ m env S (N : Env → Sto → Prop), I m env S → (∀ e S', (∃ m', m = m' + 1 ∧ I m' e S') → N e S') → c env S (fun t S1 => if t = true then b { E with nx := N, ct := N, bk := E.nx } env S1 else E.nx env S1) (E.ex env)) :
    ∀ m env S, I m env S → whW c b E (m + 1) env S
  | 0, env, S, h => hc 0 env S _ h fun e S' ⟨m', z, _⟩ => by omega
  | m + 1, env, S, h => hc (m + 1) env S _ h fun e S' ⟨m', z, q⟩ => by
    obtain rfl : m = m' := by omega
    exact whW_inv I hc m e S' q
end L3
namespace K77
open PySem PySem.Spec L2 L3
theorem com_step {xs ys : List D} {i : Nat} (h1 : i < xs.length) (h2 : i < ys.length) (e : xs[i] = ys[i]) : com (xs.drop i) (ys.drop i) = com (xs.drop (i + 1)) (ys.drop (i + 1)) + 1 := by
  rw [List.drop_eq_getElem_cons h1, List.drop_eq_getElem_cons h2]
  simp [com, e]
theorem com_stop {xs ys : List D} {i : Nat} (h : ∀ (h1 : i < xs.length) (h2 : i < ys.length), xs[i] ≠ ys[i]) : com (xs.drop i) (ys.drop i) = 0 := by
  by_cases h1 : i < xs.length
  · by_cases h2 : i < ys.length
    · rw [List.drop_eq_getElem_cons h1, List.drop_eq_getElem_cons h2]
      simp [com, h h1 h2]
    · rw [show ys.drop i = [] from List.drop_of_length_le (by omega)]
      cases xs.drop i <;> simp [com]
  · rw [show xs.drop i = [] from List.drop_of_length_le (by omega)]
    simp [com]
def Vs (k : Nat) (xs : List D) : Prop := xs.length ≤ 900 ∧ ∀ x ∈ xs, VB 900 k x
def sp_common : WSp := fun ds S Q _ => ∃ (k : Nat) (xs ys : List D), ds = [.tup xs, .tup ys] ∧ k ≤ 60 ∧ Vs k xs ∧ Vs k ys ∧ Q (.int (com xs ys)) S
theorem w_common (ds S Q E) (h : sp_common ds S Q E) : t_common (dEnds Q E) (L3.start 3 ds) S := by
  obtain ⟨k, xs, ys, rfl, hk, hx, hy, q⟩ := h
  simp [t_common]
  refine ⟨com xs ys + 1, whW_inv (fun m env S' => ∃ i : Nat, env = [some (.tup xs), some (.tup ys), some (.int i)] ∧ S' = S ∧ i + m = com xs ys ∧ com (xs.drop i) (ys.drop i) = m) ?_ _ _ _ ⟨0, rfl, rfl, by omega, by simp⟩⟩
  rintro m env S' N ⟨i, rfl, rfl, him, hc⟩ hN
  have stop : com (xs.drop i) (ys.drop i) = 0 → Q (.int (i : Nat)) S' := fun h0 => by
    rw [h0] at hc
    have e : i = com xs ys := by omega
    rw [e]; exact q
  simp [t_common_w1, -L3.rEq_eq]
  by_cases h1 : i < xs.length
  · by_cases h2 : i < ys.length
    · obtain ⟨x, a1, a2⟩ := at_lt (xs := xs) (i := (i : Int)) (by omega) (by omega)
      obtain ⟨y, b1, b2⟩ := at_lt (xs := ys) (i := (i : Int)) (by omega) (by omega)
      simp at a1 b1
      simp [h1, h2, a2, b2, -L3.rEq_eq]
      refine rEq_val (hx.2 x (List.mem_of_getElem? a1)) (hy.2 y (List.mem_of_getElem? b1)) hk fun t ht => ?_
      have ex : xs[i] = x := (List.getElem?_eq_some_iff.mp a1).2
      have ey : ys[i] = y := (List.getElem?_eq_some_iff.mp b1).2
      cases t with
      | true =>
        have exy := ht.mp rfl
        have st := com_step h1 h2 (by rw [ex, ey, exy])
        simp [t_common_b1]
        exact hN _ _ ⟨m - 1, by omega, i + 1, by simp, rfl, by omega, by omega⟩
      | false =>
        simp
        refine stop (com_stop fun _ _ e => ?_)
        rw [ex, ey] at e
        exact absurd (ht.mpr e) (by simp)
    · simp [h1, h2]
      exact stop (com_stop fun _ z => absurd z h2)
  · simp [h1]
    exact stop (com_stop fun z _ => absurd z h1)
def sp_lcommon : WSp := fun ds S Q _ => ∃ (k : Nat) (xs ys : List D), ds = [.tup xs, .tup ys] ∧ k ≤ 24 ∧ Vs k xs ∧ Vs k ys ∧ Q (.int (com xs ys)) S
theorem w_lcommon (ds S Q E) (h : sp_lcommon ds S Q E) : t__law_common (sp_same 100) (dEnds Q E) (L3.start 4 ds) S := by
  obtain ⟨k, xs, ys, rfl, hk, hx, hy, q⟩ := h
  have lx := hx.1
  have ly := hy.1
  simp [t__law_common, line2]
  refine ⟨[(xs.length : Int), (ys.length : Int)], by simp, by simp, fun mm h1 h2 => ?_⟩
  have hm : mm = ((min xs.length ys.length : Nat) : Int) := by
    have h1' : mm = xs.length ∨ mm = ys.length := by simpa using h1
    have h3 := h2 (xs.length : Int) (by simp)
    have h4 := h2 (ys.length : Int) (by simp)
    omega
  subst hm
  simp
  refine ⟨by omega, ?_⟩
  have le := com_le xs ys
  refine forW_inv (fun r env S' => ∃ (i : Nat) (o3 : Option D), env = [some (.tup xs), some (.tup ys), some (.int (min i (com xs ys) : Nat)), o3] ∧ S' = S ∧ r = (rngD 0 (min xs.length ys.length)).drop i ∧ i ≤ min xs.length ys.length) ?_ ?_ _ _ _ ⟨0, none, by simp, rfl, by simp, Nat.zero_le _⟩
  · rintro env S' ⟨i, o3, rfl, rfl, hr, hi⟩
    refine ⟨trivial, ?_⟩
    have hil : min xs.length ys.length ≤ i := by
      have := congrArg List.length hr
      simp [rng_len] at this
      omega
    have e : min i (com xs ys) = com xs ys := by omega
    simp [e]
    simpa [e] using q
  · rintro y r env S' N ⟨i, o3, rfl, rfl, hr, hi⟩ hN
    refine ⟨trivial, ?_⟩
    obtain ⟨hi2, rfl, hr2⟩ := rng_cons hr
    have h1 : i < xs.length := by omega
    have h2 : i < ys.length := by omega
    obtain ⟨x, a1, a2⟩ := at_lt (xs := xs) (i := (i : Int)) (by omega) (by omega)
    obtain ⟨y, b1, b2⟩ := at_lt (xs := ys) (i := (i : Int)) (by omega) (by omega)
    simp at a1 b1
    have ex : xs[i] = x := (List.getElem?_eq_some_iff.mp a1).2
    have ey : ys[i] = y := (List.getElem?_eq_some_iff.mp b1).2
    simp only [t__law_common_b1]
    by_cases hc : i ≤ com xs ys
    · have e : min i (com xs ys) = i := by omega
      simp [e, a2, b2]
      have sx := (hx.2 x (List.mem_of_getElem? a1)).wide (B' := 2000) (by decide)
      have sy := (hy.2 y (List.mem_of_getElem? b1)).wide (B' := 2000) (by decide)
      refine same_use (n := 84) ((Vl.sm sx).mono (by omega)) ((Vl.sm sy).mono (by omega)) (by decide) fun t ht => ?_
      have hd : com xs ys = i + com (xs.drop i) (ys.drop i) := com_split i hc
      cases t with
      | true =>
        have exy := ht.mp rfl
        have st := com_step h1 h2 (by rw [ex, ey, exy])
        simp
        have e2 : min (i + 1) (com xs ys) = i + 1 := by omega
        refine hN _ _ ⟨i + 1, some (.int (i : Int)), ?_, rfl, hr2, hi2⟩
        rw [e2]; simp
      | false =>
        have st := com_stop (xs := xs) (ys := ys) (i := i) fun _ _ e => by
          rw [ex, ey] at e
          exact absurd (ht.mpr e) (by simp)
        simp
        have e2 : min (i + 1) (com xs ys) = i := by omega
        refine hN _ _ ⟨i + 1, some (.int (i : Int)), ?_, rfl, hr2, hi2⟩
        rw [e2, e]
    · have e : min i (com xs ys) = com xs ys := by omega
      have e2 : min (i + 1) (com xs ys) = com xs ys := by omega
      have ne : ¬ ((com xs ys : Nat) : Int) = (i : Int) := by omega
      simp [e, ne]
      exact hN _ _ ⟨i + 1, some (.int (i : Int)), by rw [e2], rfl, hr2, hi2⟩
where
  com_split {xs ys : List D} (i : Nat) (h : i ≤ com xs ys) : com xs ys = i + com (xs.drop i) (ys.drop i) := by
    induction i generalizing xs ys with
    | zero => simp
    | succ i ih =>
      match xs, ys with
      | x :: xs, y :: ys =>
        by_cases e : x = y
        · have e1 : com (x :: xs) (y :: ys) = com xs ys + 1 := by simp [com, e]
          rw [e1] at h ⊢
          have := ih (xs := xs) (ys := ys) (by omega)
          simp only [List.drop_succ_cons]
          omega
        · simp [com, e] at h
      | [], ys => simp [com] at h
      | x :: xs, [] => simp [com] at h
end K77

set_option Elab.async false
set_option linter.all false
set_option maxRecDepth 100000
set_option maxHeartbeats 4000000
/-! k77: the program's edits. -/
namespace K77
open PySem PySem.Spec L2 L3
theorem rng_cons2 {lo : Int} {n i : Nat} {y : D} {r : List D} (h : y :: r = (rngD lo n).drop i) : i + 1 ≤ n ∧ y = .int (lo + (i : Int)) ∧ r = (rngD lo n).drop (i + 1) := by
  have hl : i < (rngD lo n).length := by
    apply Classical.byContradiction
    intro c
    rw [List.drop_eq_nil_of_le (by omega)] at h
    cases h
  rw [List.drop_eq_getElem_cons hl] at h
  simp only [List.cons.injEq] at h
  rw [rng_len] at hl
  refine ⟨hl, ?_, h.2⟩
  rw [h.1]
  simp [rngD]
theorem rng_end {lo : Int} {n i : Nat} (h : [] = (rngD lo n).drop i) (hi : i ≤ n) : i = n := by
  have := congrArg List.length h
  simp [rng_len] at this
  omega
theorem at_get {xs : List D} {i : Nat} (h : i < xs.length) : atI xs (i : Int) = some (xs.getD i .non) ∧ xs.getD i .non ∈ xs := by
  obtain ⟨v, e1, e2⟩ := at_lt (xs := xs) (i := (i : Int)) (by omega) (by omega)
  simp at e1
  have : xs.getD i .non = v := by simp [List.getD, e1]
  rw [this]
  exact ⟨e2, List.mem_of_getElem? e1⟩
theorem at_get2 {xs : List D} {a b : Nat} (h : a + b < xs.length) : atI xs ((a : Int) + (b : Int)) = some (xs.getD (a + b) .non) ∧ xs.getD (a + b) .non ∈ xs := by
  have := at_get h
  rw [← Int.natCast_add]
  exact this
theorem flat_part {α β : Type} {g : α → List β} {x : α} : ∀ {l : List α}, x ∈ l → (g x).length ≤ (l.flatMap g).length
  | y :: l, h => by
    rw [List.flatMap_cons, List.length_append]
    rcases List.mem_cons.mp h with rfl | h
    · omega
    · have := flat_part (g := g) h; omega
theorem flat_pre {β : Type} {g : Nat → List β} {i n : Nat} (h : i + 1 ≤ n) : ((List.range i).flatMap g).length + (g i).length ≤ ((List.range n).flatMap g).length := by
  obtain ⟨m, rfl⟩ : ∃ m, n = i + 1 + m := ⟨n - (i + 1), by omega⟩
  rw [List.range_add, List.flatMap_append, List.length_append, List.range_succ, List.flatMap_append, List.length_append]
  simp
def sp_edits (k : Nat) : WSp := fun ds S Q _ => ∃ (f : Nat) (a b : D) (path : List D), f < k ∧ f ≤ 24 ∧ ds = [a, b, .tup path] ∧ VB 900 f a ∧ VB 900 f b ∧ path.length + f ≤ 100 ∧ (diffs f a b).length ≤ 16000000 ∧
  ∀ p, S p = none → Q (.ref p) (sup S p (.lst ((diffs f a b).map (RE.enc path))))
def sp_listE (k : Nat) : WSp := fun ds S Q _ => ∃ (f : Nat) (xs ys path : List D), f < k ∧ f ≤ 24 ∧ ds = [.tup xs, .tup ys, .tup path] ∧ Vs f xs ∧ Vs f ys ∧ path.length + f ≤ 99 ∧ (listE (diffs f) xs ys).length ≤ 16000000 ∧
  ∀ p, S p = none → Q (.ref p) (sup S p (.lst ((listE (diffs f) xs ys).map (RE.enc path))))
theorem w_listE (k : Nat) (ds S Q E) (h : sp_listE k ds S Q E) : t_list_edits sp_common (sp_edits k) (dEnds Q E) (L3.start 10 ds) S := by
  obtain ⟨f, xs, ys, path, hf, hf24, rfl, hx, hy, hp, hlen, q⟩ := h
  obtain ⟨P, X, Y, T, ex, ey, hP, hX, hY, hfx, hfy⟩ := cut3 xs ys
  have lx := hx.1
  have ly := hy.1
  have g1 : ((gone xs ys : Nat) : Int) = (xs.length : Int) - (first xs ys : Int) - (last xs ys : Int) := by unfold gone; omega
  have g2 : ((come xs ys : Nat) : Int) = (ys.length : Int) - (first xs ys : Int) - (last xs ys : Int) := by unfold come; omega
  simp [t_list_edits]
  refine ⟨f, xs, ys, rfl, by omega, hx, hy, ?_⟩
  have hfe : com xs ys = first xs ys := rfl
  rw [hfe]
  simp
  rw [cut_from (by omega), cut_from (by omega)]
  have dv : ∀ (zs : List D), Vs f zs → Vs f (zs.drop (first xs ys)).reverse := fun zs hz => ⟨by have := hz.1; simp; omega, fun z h => hz.2 z (List.mem_of_mem_drop (List.mem_reverse.mp h))⟩
  refine ⟨f, _, _, rfl, by omega, dv xs hx, dv ys hy, ?_⟩
  have hla : com (xs.drop (first xs ys)).reverse (ys.drop (first xs ys)).reverse = last xs ys := rfl
  rw [hla]
  simp [line2]
  intro p hp'
  rw [← g1, ← g2]
  have hmin : (if ys.length < xs.length then ((come xs ys : Nat) : Int) else ((gone xs ys : Nat) : Int)) = ((min (gone xs ys) (come xs ys) : Nat) : Int) := by
    split <;> omega
  rw [hmin]
  have lg : gone xs ys ≤ 900 := by unfold gone; omega
  have lc : come xs ys ≤ 900 := by unfold come; omega
  have lf : first xs ys ≤ 900 := by omega
  refine ⟨⟨by omega, by omega, by omega⟩, ?_⟩
  have n1 : (((first xs ys : Nat) : Int) + ((min (gone xs ys) (come xs ys) : Nat) : Int)).toNat - first xs ys = min (gone xs ys) (come xs ys) := by omega
  rw [n1]
  unfold listE at hlen q
  simp only [List.length_append] at hlen
  refine forW_inv (fun r env S' => ∃ (i : Nat) (o8 o9 : Option D), env = [some (.tup xs), some (.tup ys), some (.tup path), some (.int (first xs ys : Nat)), some (.int (last xs ys : Nat)), some (.int (gone xs ys : Nat)), some (.int (come xs ys : Nat)), some (.ref p), o8, o9] ∧ r = (rngD ((first xs ys : Nat) : Int) (min (gone xs ys) (come xs ys))).drop i ∧ i ≤ min (gone xs ys) (come xs ys) ∧
    S' = sup S p (.lst (((List.range i).flatMap (both (diffs f) xs ys)).map (RE.enc path)))) ?_ ?_ _ _ _ ⟨0, none, none, rfl, by simp, Nat.zero_le _, by simp⟩
  · rintro env S' ⟨i, o8, o9, rfl, hr, hi, rfl⟩
    refine ⟨trivial, ?_⟩
    obtain rfl := rng_end hr hi
    simp
    refine ⟨⟨by omega, by omega⟩, ?_⟩
    have n2 : (((gone xs ys : Nat) : Int) - ((come xs ys : Nat) : Int)).toNat = gone xs ys - come xs ys := by omega
    refine forW_inv (fun r env S' => ∃ (i : Nat) (o8 o9 : Option D), env = [some (.tup xs), some (.tup ys), some (.tup path), some (.int (first xs ys : Nat)), some (.int (last xs ys : Nat)), some (.int (gone xs ys : Nat)), some (.int (come xs ys : Nat)), some (.ref p), o8, o9] ∧ r = (rngD 0 (gone xs ys - come xs ys)).drop i ∧ i ≤ gone xs ys - come xs ys ∧
      S' = sup S p (.lst (((List.range (min (gone xs ys) (come xs ys))).flatMap (both (diffs f) xs ys) ++ List.replicate i (RE.rem [.int ((first xs ys + come xs ys : Nat) : Int)])).map (RE.enc path)))) ?_ ?_ _ _ _ ⟨0, o8, o9, rfl, by simp, Nat.zero_le _, by simp⟩
    · rintro env S' ⟨i, o8, o9, rfl, hr, hi, rfl⟩
      refine ⟨trivial, ?_⟩
      obtain rfl := rng_end hr hi
      simp
      refine ⟨⟨by omega, by omega, by omega, by omega⟩, ?_⟩
      have n3 : (((first xs ys : Nat) : Int) + ((come xs ys : Nat) : Int) - (((first xs ys : Nat) : Int) + ((gone xs ys : Nat) : Int))).toNat = come xs ys - gone xs ys := by omega
      rw [n3]
      refine forW_inv (fun r env S' => ∃ (i : Nat) (o8 o9 : Option D), env = [some (.tup xs), some (.tup ys), some (.tup path), some (.int (first xs ys : Nat)), some (.int (last xs ys : Nat)), some (.int (gone xs ys : Nat)), some (.int (come xs ys : Nat)), some (.ref p), o8, o9] ∧ r = (rngD (((first xs ys : Nat) : Int) + ((gone xs ys : Nat) : Int)) (come xs ys - gone xs ys)).drop i ∧ i ≤ come xs ys - gone xs ys ∧
        S' = sup S p (.lst (((List.range (min (gone xs ys) (come xs ys))).flatMap (both (diffs f) xs ys) ++ (List.replicate (gone xs ys - come xs ys) (RE.rem [.int ((first xs ys + come xs ys : Nat) : Int)]) ++ (List.range i).map (added xs ys))).map (RE.enc path)))) ?_ ?_ _ _ _ ⟨0, o8, o9, rfl, by simp, Nat.zero_le _, by simp⟩
      · rintro env S' ⟨i, o8, o9, rfl, hr, hi, rfl⟩
        refine ⟨trivial, ?_⟩
        obtain rfl := rng_end hr hi
        simp only [vRet_eq, vVar_eq, nth]
        exact q p hp'
      · rintro y r env S' N ⟨i, o8, o9, rfl, hr, hi, rfl⟩ hN
        refine ⟨trivial, ?_⟩
        obtain ⟨hi2, rfl, hr2⟩ := rng_cons2 hr
        have iy : first xs ys + gone xs ys + i < ys.length := by unfold come at hi2; omega
        obtain ⟨b1, b2⟩ := at_get iy
        simp only [Int.natCast_add] at b1
        simp [t_list_edits_b1, line2, b1]
        simp at hlen
        refine ⟨by omega, hN _ _ ⟨i + 1, _, o9, rfl, hr2, hi2, ?_⟩⟩
        rw [List.range_succ, List.map_append]
        simp [RE.enc, added]
    · rintro y r env S' N ⟨i, o8, o9, rfl, hr, hi, rfl⟩ hN
      refine ⟨trivial, ?_⟩
      obtain ⟨hi2, rfl, hr2⟩ := rng_cons2 hr
      simp [t_list_edits_b2, line2]
      simp at hlen
      refine ⟨by omega, by omega, hN _ _ ⟨i + 1, o8, some (.int (i : Int)), by simp, hr2, hi2, ?_⟩⟩
      rw [List.replicate_succ']
      simp [RE.enc]
  · rintro y r env S' N ⟨i, o8, o9, rfl, hr, hi, rfl⟩ hN
    refine ⟨trivial, ?_⟩
    obtain ⟨hi2, rfl, hr2⟩ := rng_cons2 hr
    have ix : first xs ys + i < xs.length := by unfold gone at hi2; omega
    have iy : first xs ys + i < ys.length := by unfold come at hi2; omega
    obtain ⟨a1, a2⟩ := at_get2 ix
    obtain ⟨b1, b2⟩ := at_get2 iy
    simp [t_list_edits_b3, line2, a1, b1]
    have sub : (both (diffs f) xs ys i).length ≤ ((List.range (min (gone xs ys) (come xs ys))).flatMap (both (diffs f) xs ys)).length := flat_part (List.mem_range.mpr hi2)
    have sub2 : ((List.range i).flatMap (both (diffs f) xs ys)).length + (both (diffs f) xs ys i).length ≤ ((List.range (min (gone xs ys) (come xs ys))).flatMap (both (diffs f) xs ys)).length := flat_pre hi2
    have e0 : (both (diffs f) xs ys i).length = (diffs f (xs.getD (first xs ys + i) .non) (ys.getD (first xs ys + i) .non)).length := by simp [both]
    refine ⟨by omega, f, _, _, path ++ [.int ((first xs ys : Int) + (i : Int))], hf, hf24, rfl, hx.2 _ a2, hy.2 _ b2, by simp; omega, by omega, fun p2 hp2 => ?_⟩
    have bnd : ((List.range i).flatMap (both (diffs f) xs ys)).length + (diffs f (xs.getD (first xs ys + i) .non) (ys.getD (first xs ys + i) .non)).length ≤ 16777216 := by omega
    simp
    rw [sdel_sup hp2]
    simp [line2]
    refine ⟨by simpa using bnd, hN _ _ ⟨i + 1, _, o9, rfl, hr2, hi2, ?_⟩⟩
    rw [List.range_succ, List.flatMap_append, List.map_append]
    simp [both, enc_pre, Function.comp_def]
end K77

set_option Elab.async false
set_option linter.all false
set_option maxRecDepth 100000
set_option maxHeartbeats 4000000
/-! k77: map_edits. -/
namespace K77
open PySem PySem.Spec L2 L3
/-- three objects of the store -/
abbrev sup3 (S : Sto) (p q r : Addr) (A B C : SO) : Sto := sup (sup (sup S p A) q B) r C
theorem sup3_1 {S : Sto} {p q r : Addr} {A A' B C : SO} (h1 : q ≠ p) (h2 : r ≠ p) : sup (sup3 S p q r A B C) p A' = sup3 S p q r A' B C := by
  rw [sup3, sup_comm h2, sup_comm h1, sup_sup]
theorem sup3_2 {S : Sto} {p q r : Addr} {A B B' C : SO} (h : r ≠ q) : sup (sup3 S p q r A B C) q B' = sup3 S p q r A B' C := by
  rw [sup3, sup_comm h, sup_sup]
theorem sup2_1 {S : Sto} {p q : Addr} {A A' B : SO} (h1 : q ≠ p) : sup (sup (sup S p A) q B) p A' = sup (sup S p A') q B := by
  rw [sup_comm h1, sup_sup]
theorem drop3 {S : Sto} {p q r : Addr} {A B C : SO} (h1 : q ≠ p) (h2 : r ≠ p) (h3 : r ≠ q) (hp : S p = none) (hq : S q = none) : sdel (sdel (sup3 S p q r A B C) p) q = sup S r C := by
  funext b
  unfold sdel sup3 sup
  by_cases e1 : b = q
  · subst e1
    simp [Ne.symm h3, hq]
  · by_cases e2 : b = p
    · subst e2
      simp [Ne.symm h2, hp, e1]
    · simp [e1, e2]
def rowD (e : List Int × D) : D := .tup [keyD e.1, e.2]
theorem dt_rows {o0 o1 o2 o3 o4 o5 o6 o7 : Option D} {Qd : List (List Int) → List D → Sto → Prop} {S : Sto} : ∀ (es : List (List Int × D)) (kk : List (List Int)) (xs : List D), (kk ++ es.map (·.1)).Nodup → kk.length + es.length ≤ sizeLine → Qd (kk ++ es.map (·.1)) (xs ++ es.map (·.2)) S →
    dtW (gTupD 2 (gThen (gNm 6) (gThen (gNm 7) gEnd))) (vVar 6) (vVar 7) Always [o0, o1, o2, o3, o4, o5, o6, o7] Qd (es.map rowD) kk xs S
  | [], kk, xs, _, _, q => ⟨trivial, by simpa using q⟩
  | e :: es, kk, xs, hn, hl, q => by
    refine ⟨trivial, ?_⟩
    simp [rowD, keyD]
    simp at hl
    refine ⟨e.1, rfl, ?_, by omega, dt_rows es _ _ (by simpa using hn) (by simp; omega) (by simpa using q)⟩
    rw [List.nodup_append] at hn
    exact fun c => hn.2.2 e.1 c e.1 List.mem_cons_self rfl
theorem get_look (es : List (List Int × D)) (k : List Int) : (((dk (es.map (·.1))).zip (es.map (·.2))).find? fun z => decide (z.1 = (k.map Sum.inl : List Key))).map (·.2) = look es k := by
  unfold look
  induction es with
  | nil => rfl
  | cons e es ih =>
    simp only [dk, List.map_cons, List.zip_cons_cons, List.find?_cons] at ih ⊢
    by_cases c : e.1 = k
    · simp [c]
    · have c' : ¬ (e.1.map Sum.inl : List Key) = k.map Sum.inl := fun z => c (inl_inj z)
      simp only [decide_eq_false c, decide_eq_false c']
      exact ih
theorem steps_rows (es : List (List Int × D)) : (steps (mpD es)).map pairD = es.map rowD := by
  rw [steps_map, List.map_map]
  rfl
open Classical in
/-- of a key: the edit that takes its row out, if the new rows lack it -/
noncomputable def lostO (fs : List (List Int × D)) (path : List D) : D → Option D
  | .tup ks => if (ks.map unI) ∈ fs.map (·.1) then none else some (.tup [.str "remove", .tup (path ++ [.tup ks])])
  | _ => none
theorem un_int (k : List Int) : (k.map D.int).map unI = k := by
  rw [List.map_map]
  exact (List.map_congr_left fun x _ => rfl).trans (List.map_id _)
theorem lostO_key (fs : List (List Int × D)) (path : List D) (k : List Int) : lostO fs path (kyD k) = (open Classical in if k ∈ fs.map (·.1) then none else some (.tup [.str "remove", .tup (path ++ [keyD k])])) := by
  simp only [lostO, kyD, un_int]
  rfl
theorem lost_all (fs : List (List Int × D)) (path : List D) : ∀ l : List (List Int × D), (l.map (kyD ∘ fun x => x.1)).filterMap (lostO fs path) = ((l.filter fun e => decide (e.1 ∉ fs.map (·.1))).map fun e => RE.rem [keyD e.1]).map (RE.enc path)
  | [] => rfl
  | e :: l => by
    simp only [List.map_cons]
    rw [List.filter_cons]
    by_cases c : e.1 ∈ fs.map (·.1)
    · rw [List.filterMap_cons_none (by rw [Function.comp_apply, lostO_key, if_pos c]), if_neg (by simpa using c)]
      exact lost_all fs path l
    · rw [List.filterMap_cons_some (b := .tup [.str "remove", .tup (path ++ [keyD e.1])]) (by rw [Function.comp_apply, lostO_key, if_neg c]), if_pos (by simpa using c), lost_all fs path l]
      simp only [List.map_cons, RE.enc]
def sp_mapE (k : Nat) : WSp := fun ds S Q _ => ∃ (f : Nat) (es fs : List (List Int × D)) (path : List D), f < k ∧ f ≤ 24 ∧ ds = [mpD es, mpD fs, .tup path] ∧ VB 900 (f + 1) (mpD es) ∧ VB 900 (f + 1) (mpD fs) ∧ path.length + f ≤ 99 ∧ (mapE (diffs f) es fs).length ≤ 16000000 ∧
  ∀ p, S p = none → Q (.ref p) (sup S p (.lst ((mapE (diffs f) es fs).map (RE.enc path))))
theorem w_mapE (k : Nat) (ds S Q E) (h : sp_mapE k ds S Q E) : t_map_edits (sp_edits k) sp_osteps (dEnds Q E) (L3.start 8 ds) S := by
  obtain ⟨f, es, fs, path, hf, hf24, rfl, he, hfv, hp, hlen, q⟩ := h
  obtain ⟨i1, hi1, le, se, re⟩ := vl_map.mp he
  obtain rfl : f = i1 := by omega
  obtain ⟨i2, hi2, lf, sf, rf⟩ := vl_map.mp hfv
  obtain rfl : f = i2 := by omega
  simp [t_map_edits]
  refine ⟨f + 1, mpD es, rfl, he.wide (by decide), fun a0 ha0 => ?_⟩
  simp [sdel_sup ha0]
  rw [steps_rows]
  refine dt_rows es [] [] (by simpa using se.nodup) (by simp [line2]; omega) fun p1 h1 => ?_
  simp
  refine ⟨f + 1, mpD fs, rfl, hfv.wide (by decide), fun a1 ha1 => ?_⟩
  simp [sdel_sup ha1]
  rw [steps_rows]
  refine dt_rows fs [] [] (by simpa using sf.nodup) (by simp [line2]; omega) fun p2 h2 => ?_
  have n21 : p2 ≠ p1 := fun z => by rw [z, sup_same] at h2; cases h2
  have h2' : S p2 = none := by rw [sup_ne n21] at h2; exact h2
  simp
  rw [sup_ne (Ne.symm n21), sup_same]
  simp
  intro od kvs hkvs
  refine ⟨es.map (·.1), hkvs, ?_⟩
  rw [sup2_1 n21]
  simp
  have L1 : sup (sup S p1 (.fT od kvs (es.map (·.2)))) p2 (.dT (dk (fs.map (·.1))) (fs.map (·.2))) p1 = some (.fT od kvs (es.map (·.2))) := by rw [sup_ne (Ne.symm n21), sup_same]
  refine lcW_pure (lostO fs path) L1 _ _ (by simp [line2]; omega) (fun y hy A B hh => ?_) ?_
  · obtain ⟨e0, hkx, rfl⟩ := List.mem_map.mp hy
    rw [Function.comp_apply] at hh ⊢
    generalize e0.1 = kx at hh ⊢
    rw [lostO_key] at hh
    simp [t_map_edits_c1, kyD]
    refine ⟨kx, rfl, ?_⟩
    simp only [hasK_dk]
    by_cases c : kx ∈ fs.map (·.1)
    · rw [if_pos c] at hh
      rw [decide_eq_true c]
      simpa using hh
    · rw [if_neg c] at hh
      rw [decide_eq_false c]
      simp [t_map_edits_e1, line2]
      exact ⟨by omega, by simpa [keyD] using hh⟩
  · rw [List.nil_append, show (es.map (kyD ∘ fun x => x.1)).filterMap (lostO fs path) = (lostE es fs).map (RE.enc path) from lost_all fs path es]
    generalize hL : lostE es fs = L0
    intro p3 h3
    have n31 : p3 ≠ p1 := fun z => by rw [z, L1] at h3; cases h3
    have n32 : p3 ≠ p2 := fun z => by rw [z, sup_same] at h3; cases h3
    have h3' : S p3 = none := by rw [sup_ne n32, sup_ne n31] at h3; exact h3
    simp
    refine ⟨by rw [sup_ne (Ne.symm n31)]; exact L1, ?_⟩
    rw [sup3_1 n21 n31]
    generalize hA : SO.dT (dk (es.map fun x => x.1)) (es.map fun x => x.2) = A
    rw [show sup3 S p1 p2 p3 A (.dT (dk (fs.map fun x => x.1)) (fs.map fun x => x.2)) (.lst (L0.map (RE.enc path))) p2 = some (.dT (dk (fs.map fun x => x.1)) (fs.map fun x => x.2)) by rw [sup3, sup_ne (Ne.symm n32), sup_same]]
    simp
    intro od2 kvs2 hk2
    refine ⟨fs.map (·.1), hk2, ?_⟩
    rw [sup3_2 n32]
    have hlen2 : (L0 ++ fs.flatMap (rowE (diffs f) es)).length ≤ 16000000 := by rw [← hL]; exact hlen
    refine forW_inv (fun r env S' => ∃ (pre post : List (List Int × D)) (o6 o7 : Option D), env = [some (mpD es), some (mpD fs), some (.tup path), some (.ref p1), some (.ref p2), some (.ref p3), o6, o7] ∧ fs = pre ++ post ∧ r = post.map (kyD ∘ fun x => x.1) ∧
      S' = sup3 S p1 p2 p3 A (.fT od2 kvs2 (fs.map fun x => x.2)) (.lst ((L0 ++ pre.flatMap (rowE (diffs f) es)).map (RE.enc path)))) ?_ ?_ _ _ _ ⟨[], fs, none, none, rfl, rfl, by simp, by simp⟩
    · rintro env S' ⟨pre, post, o6, o7, rfl, hfs, hr, rfl⟩
      have hpost : post = [] := by simpa using hr.symm
      subst hpost
      have G0 : sup3 S p1 p2 p3 A (.fT od2 kvs2 (fs.map fun x => x.2)) (.lst ((L0 ++ pre.flatMap (rowE (diffs f) es)).map (RE.enc path))) p2 = some (.fT od2 kvs2 (fs.map fun x => x.2)) := by rw [sup3, sup_ne (Ne.symm n32), sup_same]
      refine ⟨G0, ?_⟩
      simp only [lockE_nx]
      refine ⟨G0, ?_⟩
      rw [sup3_2 n32]
      simp
      rw [drop3 n21 n31 n32 h1 h2']
      have := q p3 h3'
      rw [List.append_nil] at hfs
      unfold mapE at this
      rw [hL, hfs] at this
      simpa using this
    · rintro y r env S' N ⟨pre, post, o6, o7, rfl, hfs, hr, rfl⟩ hN
      have G0 : sup3 S p1 p2 p3 A (.fT od2 kvs2 (fs.map fun x => x.2)) (.lst ((L0 ++ pre.flatMap (rowE (diffs f) es)).map (RE.enc path))) p2 = some (.fT od2 kvs2 (fs.map fun x => x.2)) := by rw [sup3, sup_ne (Ne.symm n32), sup_same]
      refine ⟨G0, ?_⟩
      cases post with
      | nil => simp at hr
      | cons e post =>
        simp only [List.map_cons, List.cons.injEq, Function.comp_apply] at hr
        obtain ⟨rfl, hr⟩ := hr
        have mem : e ∈ fs := by rw [hfs]; simp
        have l1 : (rowE (diffs f) es e).length + (pre.flatMap (rowE (diffs f) es)).length + L0.length ≤ 16000000 := by
          rw [hfs] at hlen2
          simp only [List.flatMap_append, List.flatMap_cons, List.length_append] at hlen2
          omega
        have next : ∀ (o6 o7 : Option D) (St : Sto), St = sup3 S p1 p2 p3 A (.fT od2 kvs2 (fs.map fun x => x.2)) (.lst ((L0 ++ pre.flatMap (rowE (diffs f) es)).map (RE.enc path) ++ (rowE (diffs f) es e).map (RE.enc path))) → N [some (mpD es), some (mpD fs), some (.tup path), some (.ref p1), some (.ref p2), some (.ref p3), o6, o7] St := fun o6 o7 St hSt => hN _ _ ⟨pre ++ [e], post, o6, o7, rfl, by rw [hfs]; simp, hr, by rw [hSt]; simp⟩
        obtain ⟨St, hSt⟩ : ∃ St, St = sup3 S p1 p2 p3 A (.fT od2 kvs2 (fs.map fun x => x.2)) (.lst ((L0 ++ pre.flatMap (rowE (diffs f) es)).map (RE.enc path))) := ⟨_, rfl⟩
        rw [← hSt]
        rw [← hSt] at G0
        have G1 : St p1 = some A := by rw [hSt, sup3, sup_ne (Ne.symm n31), sup_ne (Ne.symm n21), sup_same]
        have G3 : St p3 = some (.lst ((L0 ++ pre.flatMap (rowE (diffs f) es)).map (RE.enc path))) := by rw [hSt]; exact sup_same
        have up : ∀ c, sup St p3 c = sup3 S p1 p2 p3 A (.fT od2 kvs2 (fs.map fun x => x.2)) c := fun c => by rw [hSt, sup3, sup_sup]
        rw [← hA] at G1
        simp [t_map_edits_b1, kyD, G1, -List.map_append]
        refine ⟨e.1, rfl, ?_⟩
        simp only [hasK_dk]
        have getF : (((kvs2.map fun x => x.1).zip (fs.map fun x => x.2)).find? fun z => decide (z.1 = (e.1.map Sum.inl : List Key))).map (·.2) = some e.2 := by
          rw [hk2, get_look]
          exact (look_mem sf).mpr mem
        cases c : look es e.1 with
        | none =>
          have hnk := look_none.mp c
          rw [decide_eq_false hnk]
          simp [G3, line2, -List.map_append, G0]
          refine ⟨e.1, rfl, e.2, getF, ?_⟩
          simp [G3, line2, -List.map_append]
          have l2 : (rowE (diffs f) es e).length = 1 := by unfold rowE; rw [c]; rfl
          simp only [List.length_flatMap, l2] at l1
          refine ⟨by omega, next _ _ _ ?_⟩
          rw [up]
          unfold rowE
          rw [c]
          simp [RE.enc, keyD]
        | some v =>
          have hv := (look_mem se).mp c
          have hk1 : e.1 ∈ es.map (·.1) := List.mem_map.mpr ⟨_, hv, rfl⟩
          rw [decide_eq_true hk1]
          simp [G3, line2, -List.map_append, G1, G0]
          refine ⟨e.1, rfl, v, by rw [get_look]; exact c, ?_⟩
          simp [G0, -List.map_append]
          refine ⟨e.1, rfl, e.2, getF, ?_⟩
          simp [line2, -List.map_append]
          have l2 : (rowE (diffs f) es e).length = (diffs f v e.2).length := by unfold rowE; rw [c]; simp
          refine ⟨by omega, f, v, e.2, path ++ [.tup (e.1.map D.int)], hf, hf24, rfl, (re _ hv).2, (rf _ mem).2, by simp; omega, by omega, fun a2 ha2 => ?_⟩
          simp [-List.map_append]
          rw [sdel_sup ha2]
          simp [G3, line2, -List.map_append]
          rw [l2] at l1
          simp only [List.length_flatMap] at l1
          refine ⟨by omega, next _ _ _ ?_⟩
          rw [up]
          unfold rowE
          rw [c]
          simp [enc_pre, Function.comp_def, keyD]
end K77

set_option Elab.async false
set_option linter.all false
set_option maxRecDepth 100000
set_option maxHeartbeats 4000000
/-! k77: edits_at, difference. -/
namespace K77
open PySem PySem.Spec L2 L3
theorem diffs_same {f : Nat} {a : D} : diffs f a a = [] := by
  cases f <;> simp [diffs]
theorem diffs_rep {f : Nat} {a b : D} (h : a ≠ b) (h1 : asL a = none ∨ asL b = none) (h2 : asM a = none ∨ asM b = none) : diffs f a b = [.rep [] b] := by
  cases f with
  | zero => simp [diffs, h]
  | succ f =>
    unfold diffs
    rw [if_neg h]
    rcases h1 with h1 | h1 <;> rcases h2 with h2 | h2 <;> rw [h1, h2] <;> (split <;> simp_all)
theorem diffs_list {f : Nat} {xs ys : List D} (h : lsD xs ≠ lsD ys) : diffs (f + 1) (lsD xs) (lsD ys) = listE (diffs f) xs ys := by
  conv => lhs; unfold diffs
  rw [if_neg h, asL_ls, asL_ls]
theorem diffs_map {f : Nat} {es fs : List (List Int × D)} (h : mpD es ≠ mpD fs) : diffs (f + 1) (mpD es) (mpD fs) = mapE (diffs f) es fs := by
  conv => lhs; unfold diffs
  rw [if_neg h, asL_mp, asL_mp, asM_mp, asM_mp]
theorem w_edits (k : Nat) (ds S Q E) (h : sp_edits (k + 1) ds S Q E) : t_edits_at (sp_listE k) (sp_mapE k) (dEnds Q E) (L3.start 3 ds) S := by
  obtain ⟨f, a, b, path, hf, hf24, rfl, ha, hb, hp, hlen, q⟩ := h
  have ml := map_list
  have lm : ("list" : Str) ≠ "map" := fun e => ml e.symm
  simp [t_edits_at, -L3.rEq_eq]
  refine rEq_val ha hb (by omega) fun t ht => ?_
  cases t with
  | true =>
    obtain rfl := ht.mp rfl
    simp [line2]
    intro p hp'
    have := q p hp'
    rw [diffs_same] at this
    exact this
  | false =>
    have hne : a ≠ b := fun e => absurd (ht.mpr e) (by simp)
    simp
    have rep : diffs f a b = [.rep [] b] → ∀ p, S p = none → Q (.ref p) (sup S p (.lst [.tup [.str "replace", .tup path, b]])) := fun e p hp' => by
      have := q p hp'
      rw [e] at this
      simpa [RE.enc] using this
    rcases ha.look with ⟨nm, w, rfl, h1, h2, hl⟩ | ⟨m, rfl, ⟨xs, rfl, hl, hx⟩ | ⟨es, rfl, hl, hs, hx⟩⟩
    · obtain ⟨z1, z2⟩ := asL_leaf hl
      simp [h1, h2, line2]
      exact rep (diffs_rep hne (.inl z1) (.inl z2))
    · rcases hb.look with ⟨nm, w, rfl, h1, h2, hl2⟩ | ⟨m', hm, ⟨ys, rfl, hl2, hy⟩ | ⟨fs, rfl, hl2, hs, hy⟩⟩
      · obtain ⟨z1, z2⟩ := asL_leaf hl2
        simp [h1, h2, lm, line2]
        exact rep (diffs_rep hne (.inr z1) (.inr z2))
      · obtain rfl : m = m' := by omega
        have e := diffs_list (f := m) hne
        have e' : diffs (m + 1) (.tup [.str "list", .tup xs]) (.tup [.str "list", .tup ys]) = listE (diffs m) xs ys := e
        rw [e'] at hlen q
        simp
        exact ⟨m, xs, ys, path, by omega, by omega, rfl, ⟨hl, hx⟩, ⟨hl2, hy⟩, by omega, hlen, q⟩
      · simp [lm, ml, line2]
        exact rep (diffs_rep hne (.inr asL_mp) (.inl asM_ls))
    · rcases hb.look with ⟨nm, w, rfl, h1, h2, hl2⟩ | ⟨m', hm, ⟨ys, rfl, hl2, hy⟩ | ⟨fs, rfl, hl2, hs2, hy⟩⟩
      · obtain ⟨z1, z2⟩ := asL_leaf hl2
        simp [h1, h2, ml, line2]
        exact rep (diffs_rep hne (.inr z1) (.inr z2))
      · simp [lm, ml, line2]
        exact rep (diffs_rep hne (.inl asL_mp) (.inr asM_ls))
      · obtain rfl : m = m' := by omega
        have e' : diffs (m + 1) (.tup [.str "map", .tup (es.map ent)]) (.tup [.str "map", .tup (fs.map ent)]) = mapE (diffs m) es fs := diffs_map (f := m) hne
        rw [e'] at hlen q
        simp [ml]
        exact ⟨m, es, fs, path, by omega, by omega, rfl, ha, hb, by omega, hlen, q⟩
def sp_diff : WSp := fun ds S Q _ => ∃ a b : D, ds = [a, b] ∧ VB 900 24 a ∧ VB 900 24 b ∧ (diffs 24 a b).length ≤ 16000000 ∧ ∀ p, S p = none → Q (.ref p) (sup S p (.lst ((diffs 24 a b).map (RE.enc []))))
theorem w_diff (ds S Q E) (h : sp_diff ds S Q E) : t_difference (sp_edits 25) (dEnds Q E) (L3.start 2 ds) S := by
  obtain ⟨a, b, rfl, ha, hb, hl, q⟩ := h
  simp [t_difference, line2]
  exact ⟨24, a, b, [], by decide, by decide, rfl, ha, hb, by simp, hl, q⟩
end K77

set_option Elab.async false
set_option linter.all false
set_option maxRecDepth 100000
set_option maxHeartbeats 4000000
/-! k77: _law_edits, _law_between. -/
namespace K77
open PySem PySem.Spec L2 L3
def sp_ledits (k : Nat) : WSp := fun ds S Q _ => ∃ (f : Nat) (a b : D) (path : List D), f < k ∧ f ≤ 24 ∧ ds = [a, b, .tup path] ∧ VB 900 f a ∧ VB 900 f b ∧ path.length + f ≤ 100 ∧ (diffs f a b).length ≤ 16000000 ∧ Q (.lst ((diffs f a b).map (RE.enc path))) S
def sp_lbetween (k : Nat) : WSp := fun ds S Q _ => ∃ (f : Nat) (xs ys path : List D), f < k ∧ f ≤ 24 ∧ ds = [.tup xs, .tup ys, .tup path] ∧ Vs f xs ∧ Vs f ys ∧ path.length + f ≤ 99 ∧ (listE (diffs f) xs ys).length ≤ 16000000 ∧ Q (.lst ((listE (diffs f) xs ys).map (RE.enc path))) S
theorem rng_const {c : D} {lo : Int} {n : Nat} : (rngD lo n).filterMap (fun _ => some c) = List.replicate n c := by
  unfold rngD
  rw [List.filterMap_map]
  induction n with
  | zero => rfl
  | succ n ih => rw [List.range_succ, List.filterMap_append, ih, List.replicate_succ']; rfl
theorem w_lbetween (k : Nat) (ds S Q E) (h : sp_lbetween k ds S Q E) : t__law_between sp_lcommon (sp_ledits k) (dEnds Q E) (L3.start 9 ds) S := by
  obtain ⟨f, xs, ys, path, hf, hf24, rfl, hx, hy, hp, hlen, q⟩ := h
  obtain ⟨P, X, Y, T, ex, ey, hP, hX, hY, hfx, hfy⟩ := cut3 xs ys
  have lx := hx.1
  have ly := hy.1
  have g1 : ((gone xs ys : Nat) : Int) = (xs.length : Int) - (first xs ys : Int) - (last xs ys : Int) := by unfold gone; omega
  have g2 : ((come xs ys : Nat) : Int) = (ys.length : Int) - (first xs ys : Int) - (last xs ys : Int) := by unfold come; omega
  simp [t__law_between]
  refine ⟨f, xs, ys, rfl, by omega, hx, hy, ?_⟩
  have hfe : com xs ys = first xs ys := rfl
  rw [hfe]
  simp
  rw [cut_from (by omega), cut_from (by omega)]
  have dv : ∀ (zs : List D), Vs f zs → Vs f (zs.drop (first xs ys)).reverse := fun zs hz => ⟨by have := hz.1; simp; omega, fun z h => hz.2 z (List.mem_of_mem_drop (List.mem_reverse.mp h))⟩
  refine ⟨f, _, _, rfl, by omega, dv xs hx, dv ys hy, ?_⟩
  have hla : com (xs.drop (first xs ys)).reverse (ys.drop (first xs ys)).reverse = last xs ys := rfl
  rw [hla]
  simp [line2]
  intro p hp'
  rw [← g1, ← g2]
  have lg : gone xs ys ≤ 900 := by unfold gone; omega
  have lc : come xs ys ≤ 900 := by unfold come; omega
  have lf : first xs ys ≤ 900 := by omega
  refine ⟨[(gone xs ys : Int), (come xs ys : Int)], by simp, by simp, fun mm h1 h2 => ?_⟩
  have hm : mm = ((min (gone xs ys) (come xs ys) : Nat) : Int) := by
    have h1' : mm = gone xs ys ∨ mm = come xs ys := by simpa using h1
    have h3 := h2 (gone xs ys : Int) (by simp)
    have h4 := h2 (come xs ys : Int) (by simp)
    omega
  subst hm
  simp
  refine ⟨by omega, ?_⟩
  unfold listE at hlen q
  simp only [List.length_append] at hlen
  refine forW_inv (fun r env S' => ∃ (i : Nat) (o8 : Option D), env = [some (.tup xs), some (.tup ys), some (.tup path), some (.int (first xs ys : Nat)), some (.int (last xs ys : Nat)), some (.int (gone xs ys : Nat)), some (.int (come xs ys : Nat)), some (.ref p), o8] ∧ r = (rngD 0 (min (gone xs ys) (come xs ys))).drop i ∧ i ≤ min (gone xs ys) (come xs ys) ∧
    S' = sup S p (.lst (((List.range i).flatMap (both (diffs f) xs ys)).map (RE.enc path)))) ?_ ?_ _ _ _ ⟨0, none, rfl, by simp, Nat.zero_le _, by simp⟩
  · rintro env S' ⟨i, o8, rfl, hr, hi, rfl⟩
    refine ⟨trivial, ?_⟩
    obtain rfl := rng_end hr hi
    simp
    refine ⟨⟨by omega, by omega⟩, ?_⟩
    have n2 : gone xs ys - come xs ys ≤ 900 := by omega
    refine lcW_pure (fun _ => some (.tup [.str "remove", .tup (path ++ [.int ((first xs ys : Int) + (come xs ys : Int))])])) trivial _ _ (by simp [line2, rng_len]; omega) (fun y hy A B hh => ?_) ?_
    · simp [t__law_between_e2, line2]
      exact ⟨by omega, hh⟩
    · rw [List.nil_append, rng_const]
      simp only [List.length_flatMap, List.length_replicate] at hlen
      simp [line2]
      refine ⟨by omega, ?_⟩
      rw [sdel_sup hp']
      refine ⟨by omega, ?_⟩
      have n4 : come xs ys - gone xs ys ≤ 900 := by omega
      refine lcW_pure (fun d => match d with | .int j => some (.tup [.str "insert", .tup path, .int ((first xs ys : Int) + j), ys.getD (first xs ys + j.toNat) .non]) | _ => none) trivial _ _ (by simp [line2, rng_len]; omega) (fun y hy A B hh => ?_) ?_
      · obtain ⟨j, rfl, j1, j2⟩ := rng_mem y hy
        obtain ⟨i, rfl⟩ : ∃ i : Nat, j = (i : Int) := ⟨j.toNat, by omega⟩
        have iy : first xs ys + i < ys.length := by
          have : come xs ys ≤ ys.length - first xs ys := by unfold come; omega
          omega
        obtain ⟨b1, b2⟩ := at_get2 iy
        simp [t__law_between_e1, line2, b1]
        simpa using hh
      · rw [List.nil_append]
        have e1 : (rngD (gone xs ys : Int) (come xs ys - gone xs ys)).filterMap (fun d => match d with | .int j => some (.tup [.str "insert", .tup path, .int ((first xs ys : Int) + j), ys.getD (first xs ys + j.toNat) .non]) | _ => none) = ((List.range (come xs ys - gone xs ys)).map (added xs ys)).map (RE.enc path) := by
          unfold rngD
          rw [List.filterMap_map, List.map_map]
          rw [← List.filterMap_eq_map]
          congr 1
          funext i
          have : ((gone xs ys : Int) + (i : Int)).toNat = gone xs ys + i := by omega
          simp [added, RE.enc, this, Nat.add_assoc, Int.add_assoc]
        rw [e1]
        simp [line2]
        refine ⟨by omega, ?_⟩
        simpa [RE.enc] using q
  · rintro y r env S' N ⟨i, o8, rfl, hr, hi, rfl⟩ hN
    refine ⟨trivial, ?_⟩
    obtain ⟨hi2, rfl, hr2⟩ := rng_cons2 hr
    have ix : first xs ys + i < xs.length := by unfold gone at hi2; omega
    have iy : first xs ys + i < ys.length := by unfold come at hi2; omega
    obtain ⟨a1, a2⟩ := at_get2 ix
    obtain ⟨b1, b2⟩ := at_get2 iy
    simp [t__law_between_b1, line2, a1, b1]
    have sub2 : ((List.range i).flatMap (both (diffs f) xs ys)).length + (both (diffs f) xs ys i).length ≤ ((List.range (min (gone xs ys) (come xs ys))).flatMap (both (diffs f) xs ys)).length := flat_pre hi2
    have e0 : (both (diffs f) xs ys i).length = (diffs f (xs.getD (first xs ys + i) .non) (ys.getD (first xs ys + i) .non)).length := by simp [both]
    refine ⟨by omega, f, _, _, path ++ [.int ((first xs ys : Int) + (i : Int))], hf, hf24, rfl, hx.2 _ a2, hy.2 _ b2, by simp; omega, by omega, ?_⟩
    have bnd : ((List.range i).flatMap (both (diffs f) xs ys)).length + (diffs f (xs.getD (first xs ys + i) .non) (ys.getD (first xs ys + i) .non)).length ≤ 16777216 := by omega
    simp [line2]
    refine ⟨by simpa using bnd, hN _ _ ⟨i + 1, _, rfl, hr2, hi2, ?_⟩⟩
    rw [List.range_succ, List.flatMap_append, List.map_append]
    simp [both, enc_pre, Function.comp_def]
end K77

set_option Elab.async false
set_option linter.all false
set_option maxRecDepth 100000
set_option maxHeartbeats 4000000
/-! k77: _law_edits. -/
namespace K77
open PySem PySem.Spec L2 L3
theorem keys_fm : ∀ es : List (List Int × D), (es.map ent).filterMap (fun d => match d with | .tup (x :: _) => some x | _ => none) = (es.map (·.1)).map keyD
  | [] => rfl
  | x :: es => by simp only [List.map_cons, ent, List.filterMap_cons, keys_fm es, keyD]
open Classical in
noncomputable def lostR (fs : List (List Int × D)) (path : List D) : D → Option D
  | .tup [.tup ks, _] => if (ks.map unI) ∈ fs.map (·.1) then none else some (.tup [.str "remove", .tup (path ++ [.tup ks])])
  | _ => none
theorem lostR_ent (fs : List (List Int × D)) (path : List D) (e : List Int × D) : lostR fs path (ent e) = (open Classical in if e.1 ∈ fs.map (·.1) then none else some (.tup [.str "remove", .tup (path ++ [keyD e.1])])) := by
  simp only [lostR, ent, un_int]
  rfl
theorem lostR_all (fs : List (List Int × D)) (path : List D) (es : List (List Int × D)) : (es.map ent).filterMap (lostR fs path) = (lostE es fs).map (RE.enc path) := by
  unfold lostE
  induction es with
  | nil => rfl
  | cons e l ih =>
    rw [List.map_cons, List.filter_cons]
    by_cases c : e.1 ∈ fs.map (·.1)
    · rw [List.filterMap_cons_none (by rw [lostR_ent, if_pos c]), if_neg (by simpa using c)]
      exact ih
    · rw [List.filterMap_cons_some (b := .tup [.str "remove", .tup (path ++ [keyD e.1])]) (by rw [lostR_ent, if_neg c]), if_pos (by simpa using c), ih]
      simp only [List.map_cons, RE.enc]
open Classical in
noncomputable def atKey (k : List Int) : D → Option D
  | .tup [.tup ks, v] => if ks.map unI = k then some v else none
  | _ => none
theorem atKey_ent (k : List Int) (e : List Int × D) : atKey k (ent e) = (open Classical in if e.1 = k then some e.2 else none) := by
  simp only [atKey, ent, un_int]
theorem atKey_all {es : List (List Int × D)} (hs : Srt es) (k : List Int) : (es.map ent).filterMap (atKey k) = (look es k).toList := by
  have nd := hs.nodup
  clear hs
  unfold look
  induction es with
  | nil => rfl
  | cons e l ih =>
    rw [List.map_cons, List.nodup_cons] at nd
    rw [List.map_cons, List.find?_cons]
    by_cases c : e.1 = k
    · rw [List.filterMap_cons_some (b := e.2) (by rw [atKey_ent, if_pos c]), decide_eq_true c, ih nd.2]
      have : l.find? (fun e => decide (e.1 = k)) = none := by
        rw [List.find?_eq_none]
        intro x hx h
        exact nd.1 (List.mem_map.mpr ⟨x, hx, by rw [of_decide_eq_true h, c]⟩)
      rw [this]
      rfl
    · rw [List.filterMap_cons_none (by rw [atKey_ent, if_neg c]), decide_eq_false c, ih nd.2]
theorem w_ledits (k : Nat) (ds S Q E) (h : sp_ledits (k + 1) ds S Q E) : t__law_edits (sp_lbetween k) (sp_ledits k) (sp_same 100) (dEnds Q E) (L3.start 9 ds) S := by
  obtain ⟨f, a, b, path, hf, hf24, rfl, ha, hb, hp, hlen, q⟩ := h
  have ml := map_list
  have lm : ("list" : Str) ≠ "map" := fun e => ml e.symm
  have va : Sm 75 a := (Vl.sm (ha.wide (by decide) : Vl f a)).mono (by omega)
  have vb : Sm 75 b := (Vl.sm (hb.wide (by decide) : Vl f b)).mono (by omega)
  simp [t__law_edits]
  refine same_use va vb (by decide) fun t ht => ?_
  cases t with
  | true =>
    obtain rfl := ht.mp rfl
    rw [diffs_same] at q
    simp [line2]
    exact q
  | false =>
    have hne : a ≠ b := fun e => absurd (ht.mpr e) (by simp)
    simp
    have rep : diffs f a b = [.rep [] b] → Q (.lst [.tup [.str "replace", .tup path, b]]) S := fun e => by
      rw [e] at q
      simpa [RE.enc] using q
    have notin : ∀ {nm : Str} {R : Bool → Prop}, nm ≠ "list" → nm ≠ "map" → R false → ExC (InD (.str nm) [.str "list", .str "map"]) R .mk := fun {nm R} n1 n2 r => ⟨false, .inl ⟨rfl, rfl, by simp [toV, inV, eqV, Ne.symm n1, Ne.symm n2]⟩, r⟩
    have inL : ∀ {R : Bool → Prop}, R true → ExC (InD (.str "list") [.str "list", .str "map"]) R .mk := fun {R} r => ⟨true, .inl ⟨rfl, rfl, by simp [toV, inV, eqV]⟩, r⟩
    have inM : ∀ {R : Bool → Prop}, R true → ExC (InD (.str "map") [.str "list", .str "map"]) R .mk := fun {R} r => ⟨true, .inl ⟨rfl, rfl, by simp [toV, inV, eqV]⟩, r⟩
    rcases ha.look with ⟨nm, w, rfl, h1, h2, hl⟩ | ⟨m, rfl, ⟨xs, rfl, hl, hx⟩ | ⟨es, rfl, hl, hs, hx⟩⟩
    · obtain ⟨z1, z2⟩ := asL_leaf hl
      have r := rep (diffs_rep hne (.inl z1) (.inl z2))
      rcases hb.look with ⟨nm', w', rfl, g1, g2, hl2⟩ | ⟨m', rfl, ⟨ys, rfl, hl2, hy⟩ | ⟨fs, rfl, hl2, hs2, hy⟩⟩
      · by_cases c : nm = nm'
        · subst c
          simp [line2]
          refine notin h1 h2 ?_
          simp [line2]
          exact r
        · simp [c, line2]
          exact r
      · simp [h1, line2]
        exact r
      · simp [h2, line2]
        exact r
    · rcases hb.look with ⟨nm, w, rfl, h1, h2, hl2⟩ | ⟨m', hm, ⟨ys, rfl, hl2, hy⟩ | ⟨fs, rfl, hl2, hs, hy⟩⟩
      · obtain ⟨z1, z2⟩ := asL_leaf hl2
        simp [Ne.symm h1, line2]
        exact rep (diffs_rep hne (.inr z1) (.inr z2))
      · obtain rfl : m = m' := by omega
        have e' : diffs (m + 1) (.tup [.str "list", .tup xs]) (.tup [.str "list", .tup ys]) = listE (diffs m) xs ys := diffs_list (f := m) hne
        rw [e'] at hlen q
        simp [line2]
        refine inL ?_
        simp
        exact ⟨m, xs, ys, path, by omega, by omega, rfl, ⟨hl, hx⟩, ⟨hl2, hy⟩, by omega, hlen, q⟩
      · simp [lm, ml, line2]
        exact rep (diffs_rep hne (.inr asL_mp) (.inl asM_ls))
    · rcases hb.look with ⟨nm, w, rfl, h1, h2, hl2⟩ | ⟨m', hm, ⟨ys, rfl, hl2, hy⟩ | ⟨fs, rfl, hl2, hs2, hy⟩⟩
      · obtain ⟨z1, z2⟩ := asL_leaf hl2
        simp [Ne.symm h2, line2]
        exact rep (diffs_rep hne (.inr z1) (.inr z2))
      · simp [lm, ml, line2]
        exact rep (diffs_rep hne (.inl asL_mp) (.inr asM_ls))
      · obtain rfl : m = m' := by omega
        have e' : diffs (m + 1) (.tup [.str "map", .tup (es.map ent)]) (.tup [.str "map", .tup (fs.map ent)]) = mapE (diffs m) es fs := diffs_map (f := m) hne
        rw [e'] at hlen q
        simp [ml, line2, -ent]
        refine inM ?_
        simp [ml, -ent]
        refine lcW_pure (fun d => match d with | .tup (x :: _) => some x | _ => none) trivial _ _ (by simp [line2]; omega) (fun y hy A B hh => ?_) ?_
        · obtain ⟨z, hz, rfl⟩ := List.mem_map.mp hy
          simpa [t__law_edits_e3] using hh
        rw [List.nil_append, keys_fm]
        simp [-ent]
        refine lcW_pure (lostR fs path) trivial _ _ (by simp [line2]; omega) (fun y hy A B hh => ?_) ?_
        · obtain ⟨z, hz, rfl⟩ := List.mem_map.mp hy
          rw [lostR_ent] at hh
          simp [t__law_edits_c2]
          refine ⟨_, in_keys2 z.1 fs, ?_⟩
          by_cases c : z.1 ∈ fs.map (·.1)
          · rw [if_pos c] at hh
            rw [decide_eq_true c]
            simpa using hh
          · rw [if_neg c] at hh
            rw [decide_eq_false c]
            simp [t__law_edits_e2, line2]
            exact ⟨by omega, by simpa [keyD] using hh⟩
        rw [List.nil_append, lostR_all]
        unfold mapE at hlen q
        generalize hL : lostE es fs = L0 at hlen q ⊢
        intro p hp'
        simp [-ent]
        generalize hK : (fs.map (keyD ∘ fun x => x.1)) = K0
        refine forW_inv (fun r env S' => ∃ (pre post : List (List Int × D)) (o5 o6 o7 : Option D), env = [some (.tup [.str "map", .tup (es.map ent)]), some (.tup [.str "map", .tup (fs.map ent)]), some (.tup path), some (.lst K0), some (.ref p), o5, o6, o7, none] ∧ fs = pre ++ post ∧ r = post.map ent ∧
          S' = sup S p (.lst ((L0 ++ pre.flatMap (rowE (diffs m) es)).map (RE.enc path)))) ?_ ?_ _ _ _ ⟨[], fs, none, none, none, rfl, rfl, rfl, by simp⟩
        · rintro env S' ⟨pre, post, o5, o6, o7, rfl, hfs, hr, rfl⟩
          refine ⟨trivial, ?_⟩
          have hpost : post = [] := by simpa using hr.symm
          subst hpost
          rw [List.append_nil] at hfs
          subst hfs
          simp [-ent]
          rw [sdel_sup hp']
          simpa using q
        · rintro y r env S' N ⟨pre, post, o5, o6, o7, rfl, hfs, hr, rfl⟩ hN
          refine ⟨trivial, ?_⟩
          cases post with
          | nil => simp at hr
          | cons e post =>
            simp only [List.map_cons, List.cons.injEq] at hr
            obtain ⟨rfl, hr⟩ := hr
            have mem : e ∈ fs := by rw [hfs]; simp
            have l1 : (rowE (diffs m) es e).length + (pre.flatMap (rowE (diffs m) es)).length + L0.length ≤ 16000000 := by
              rw [hfs] at hlen
              simp only [List.flatMap_append, List.flatMap_cons, List.length_append] at hlen
              omega
            simp only [List.length_flatMap] at l1
            simp
            simp [t__law_edits_b1, -ent]
            have hyk := hy _ mem
            refine lcW_pure (atKey e.1) trivial _ _ (by simp [line2]; omega) (fun y hy A B hh => ?_) ?_
            · obtain ⟨z, hz, rfl⟩ := List.mem_map.mp hy
              rw [atKey_ent] at hh
              simp [t__law_edits_c1]
              refine exKey (b := keyD e.1) (.inr ⟨e.1, rfl, by have := hyk.1; omega⟩) fun t ht => ?_
              by_cases c : z.1 = e.1
              · rw [if_pos c] at hh
                rw [ht.mpr (by rw [c])]
                simpa [t__law_edits_e1] using hh
              · rw [if_neg c] at hh
                have : t = false := by
                  cases t with
                  | true => exact absurd (key_inj (ht.mp rfl)) c
                  | false => rfl
                rw [this]
                simpa [t__law_edits_e1] using hh
            rw [List.nil_append, atKey_all hs]
            cases c : look es e.1 with
            | none =>
              simp [line2, -ent]
              refine exNil (by simp) ?_
              have l2 : (rowE (diffs m) es e).length = 1 := by unfold rowE; rw [c]; rfl
              rw [l2] at l1
              simp [line2, -ent, -List.map_append]
              refine ⟨by omega, hN _ _ ⟨pre ++ [e], post, _, _, _, rfl, by rw [hfs]; simp, hr, ?_⟩⟩
              have e2 : rowE (diffs m) es e = [.ins [] (keyD e.1) e.2] := by unfold rowE; rw [c]
              rw [List.flatMap_append, List.flatMap_cons, e2]
              simp [RE.enc, keyD]
            | some v =>
              have hv := (look_mem hs).mp c
              simp [line2, -ent]
              refine exNil (fun x hx' => ?_) ?_
              · rw [List.mem_singleton.mp hx']; exact (hx _ hv).2.pl
              have l2 : (rowE (diffs m) es e).length = (diffs m v e.2).length := by unfold rowE; rw [c]; simp
              rw [l2] at l1
              simp [line2, -ent, -List.map_append]
              refine ⟨by omega, m, v, e.2, path ++ [.tup (e.1.map D.int)], by omega, by omega, rfl, (hx _ hv).2, hyk.2, by simp; omega, by omega, ?_⟩
              simp [line2, -ent, -List.map_append]
              refine ⟨by omega, hN _ _ ⟨pre ++ [e], post, _, _, _, rfl, by rw [hfs]; simp, hr, ?_⟩⟩
              have e2 : rowE (diffs m) es e = (diffs m v e.2).map (RE.pre (keyD e.1)) := by unfold rowE; rw [c]
              rw [List.flatMap_append, List.flatMap_cons, e2]
              simp [enc_pre, Function.comp_def, keyD]
end K77

set_option Elab.async false
set_option linter.all false
set_option maxRecDepth 100000
set_option maxHeartbeats 4000000
/-! k77: how many edits there are. -/
namespace K77
open PySem PySem.Spec L2 L3
def sumw (f : Nat) (xs : List D) : Nat := (xs.map (wl f)).sum
theorem sumw_app (f : Nat) (a b : List D) : sumw f (a ++ b) = sumw f a + sumw f b := by simp [sumw]
theorem sumw_len (f : Nat) : ∀ xs : List D, xs.length ≤ sumw f xs
  | [] => Nat.zero_le _
  | x :: xs => by
    have h1 := sumw_len f xs
    have h2 := wl_pos f x
    simp only [sumw, List.map_cons, List.sum_cons, List.length_cons] at h1 ⊢
    omega
theorem wl_list (f : Nat) (xs : List D) : wl (f + 1) (lsD xs) = 1 + sumw f xs := by
  rw [wl_succ, steps_list, List.map_map]
  have e0 := List.zipIdx_map_fst 0 xs
  unfold sumw
  conv => rhs; rw [← e0, List.map_map]
  rfl
theorem wl_map (f : Nat) (es : List (List Int × D)) : wl (f + 1) (mpD es) = 1 + sumw f (es.map (·.2)) := by
  rw [wl_succ, steps_map, List.map_map]
  unfold sumw
  rw [List.map_map]
  rfl
theorem list_len {f : Nat} {g : D → D → List RE} {xs ys : List D} (hg : ∀ x ∈ xs, ∀ y ∈ ys, (g x y).length ≤ wl f x + wl f y) : (listE g xs ys).length ≤ sumw f xs + sumw f ys := by
  obtain ⟨P, X, Y, T, ex, ey, hP, hX, hY, hfx, hfy⟩ := cut3 xs ys
  have key : ∀ j, j ≤ min (gone xs ys) (come xs ys) → ((List.range j).flatMap (both g xs ys)).length ≤ sumw f (X.take j) + sumw f (Y.take j) := by
    intro j
    induction j with
    | zero => intro _; simp
    | succ j ih =>
      intro hj
      have jX : j < X.length := by omega
      have jY : j < Y.length := by omega
      have c1 : xs.getD (first xs ys + j) .non = X[j] := by
        rw [← hP, ex, getD_mid rfl]
        simp [List.getD, List.getElem?_append_left jX, jX]
      have c2 : ys.getD (first xs ys + j) .non = Y[j] := by
        rw [← hP, ey, getD_mid rfl]
        simp [List.getD, List.getElem?_append_left jY, jY]
      have e1 : X.take (j + 1) = X.take j ++ [X[j]] := by rw [List.take_succ_eq_append_getElem jX]
      have e2 : Y.take (j + 1) = Y.take j ++ [Y[j]] := by rw [List.take_succ_eq_append_getElem jY]
      have hi := ih (by omega)
      have hb : (both g xs ys j).length ≤ wl f X[j] + wl f Y[j] := by
        unfold both
        rw [c1, c2, List.length_map]
        exact hg _ (by rw [ex]; simp) _ (by rw [ey]; simp)
      rw [List.range_succ, List.flatMap_append, List.length_append, e1, e2, sumw_app, sumw_app]
      have e3 : ([j].flatMap (both g xs ys)).length = (both g xs ys j).length := by simp
      have e4 : ∀ x : D, sumw f [x] = wl f x := fun x => by simp [sumw]
      rw [e3, e4, e4]
      omega
  have k := key _ (Nat.le_refl _)
  unfold listE
  rw [List.length_append, List.length_append, List.length_replicate, List.length_map, List.length_range]
  have sX : sumw f X = sumw f (X.take (min (gone xs ys) (come xs ys))) + sumw f (X.drop (min (gone xs ys) (come xs ys))) := by rw [← sumw_app, List.take_append_drop]
  have sY : sumw f Y = sumw f (Y.take (min (gone xs ys) (come xs ys))) + sumw f (Y.drop (min (gone xs ys) (come xs ys))) := by rw [← sumw_app, List.take_append_drop]
  have lX := sumw_len f (X.drop (min (gone xs ys) (come xs ys)))
  have lY := sumw_len f (Y.drop (min (gone xs ys) (come xs ys)))
  rw [List.length_drop] at lX lY
  have tX : sumw f xs = sumw f P + (sumw f X + sumw f T) := (congrArg (sumw f) ex).trans (by rw [sumw_app, sumw_app])
  have tY : sumw f ys = sumw f P + (sumw f Y + sumw f T) := (congrArg (sumw f) ey).trans (by rw [sumw_app, sumw_app])
  omega
theorem had_all {es fs : List (List Int × D)} (se : Srt es) (sf : Srt fs) : fs.filterMap (had es) = es.filter fun e => decide (e.1 ∈ fs.map (·.1)) := by
  have sh : Srt (fs.filterMap (had es)) := srt_sub sf (had_sub fs)
  have sl : Srt (es.filter fun e => decide (e.1 ∈ fs.map (·.1))) := se.filter _
  refine srt_uniq ?_ sl sh
  have nd : ∀ {l : List (List Int × D)}, Srt l → l.Nodup := fun {l} h => by
    have := h.nodup
    unfold List.Nodup at this ⊢
    rw [List.pairwise_map] at this
    exact this.imp fun {a b} c z => c (by rw [z])
  rw [List.perm_ext_iff_of_nodup (nd sh) (nd sl)]
  rintro ⟨key, v⟩
  rw [List.mem_filter, List.mem_filterMap]
  constructor
  · rintro ⟨e, h3, h4⟩
    unfold had at h4
    cases c : look es e.1 with
    | none => rw [c] at h4; cases h4
    | some w =>
      rw [c] at h4
      simp at h4
      obtain ⟨h5, h6⟩ := h4
      have h1 := (look_mem se).mp c
      rw [h5, h6] at h1
      exact ⟨h1, decide_eq_true (List.mem_map.mpr ⟨e, h3, h5⟩)⟩
  · rintro ⟨h1, h2⟩
    obtain ⟨e, h3, h4⟩ := List.mem_map.mp (of_decide_eq_true h2)
    refine ⟨e, h3, ?_⟩
    unfold had
    rw [h4, (look_mem se).mpr h1]
    rfl
theorem map_len {f : Nat} {g : D → D → List RE} {es fs : List (List Int × D)} (se : Srt es) (sf : Srt fs) (hg : ∀ x ∈ es, ∀ y ∈ fs, (g x.2 y.2).length ≤ wl f x.2 + wl f y.2) : (mapE g es fs).length ≤ sumw f (es.map (·.2)) + sumw f (fs.map (·.2)) := by
  unfold mapE
  rw [List.length_append]
  have rows : ∀ l : List (List Int × D), (∀ e ∈ l, e ∈ fs) → (l.flatMap (rowE g es)).length ≤ sumw f ((l.filterMap (had es)).map (·.2)) + sumw f (l.map (·.2)) := by
    intro l
    induction l with
    | nil => intro _; simp
    | cons e l ih =>
      intro h
      have hi := ih fun x hx => h x (List.mem_cons_of_mem _ hx)
      have mem := h e List.mem_cons_self
      rw [List.flatMap_cons, List.length_append, List.map_cons]
      have e4 : ∀ (x : D) (r : List D), sumw f (x :: r) = wl f x + sumw f r := fun x r => by simp [sumw]
      rw [e4]
      cases c : look es e.1 with
      | none =>
        have l2 : (rowE g es e).length = 1 := by unfold rowE; rw [c]; rfl
        have hp := wl_pos f e.2
        rw [List.filterMap_cons_none (by unfold had; rw [c]; rfl)]
        omega
      | some v =>
        have l2 : (rowE g es e).length = (g v e.2).length := by unfold rowE; rw [c]; simp
        have := hg _ ((look_mem se).mp c) e mem
        rw [List.filterMap_cons_some (b := (e.1, v)) (by unfold had; rw [c]; rfl), List.map_cons, e4]
        simp only at this ⊢
        omega
  have r := rows fs fun _ h => h
  rw [had_all se sf] at r
  have l1 : (lostE es fs).length ≤ sumw f ((es.filter fun e => decide (e.1 ∉ fs.map (·.1))).map (·.2)) := by
    unfold lostE
    rw [List.length_map]
    have := sumw_len f ((es.filter fun e => decide (e.1 ∉ fs.map (·.1))).map (·.2))
    rw [List.length_map] at this
    exact this
  have sp : ∀ l : List (List Int × D), sumw f (l.map (·.2)) = sumw f ((l.filter fun e => decide (e.1 ∈ fs.map (·.1))).map (·.2)) + sumw f ((l.filter fun e => decide (e.1 ∉ fs.map (·.1))).map (·.2)) := by
    intro l
    induction l with
    | nil => rfl
    | cons e l ih =>
      have e4 : ∀ (x : D) (r : List D), sumw f (x :: r) = wl f x + sumw f r := fun x r => by simp [sumw]
      rw [List.map_cons, e4, List.filter_cons, List.filter_cons]
      by_cases c : e.1 ∈ fs.map (·.1)
      · rw [if_pos (by simpa using c), if_neg (by simpa using c), List.map_cons, e4]; omega
      · rw [if_neg (by simpa using c), if_pos (by simpa using c), List.map_cons, e4]; omega
  have := sp es
  omega
theorem diffs_len : ∀ {f B : Nat} {a b : D}, VB B f a → VB B f b → (diffs f a b).length ≤ wl f a + wl f b
  | 0, B, a, b, ha, hb => by
    have h1 := wl_pos 0 a
    unfold diffs
    split
    · simp
    · simp; omega
  | f + 1, B, a, b, ha, hb => by
    have h1 := wl_pos (f + 1) a
    by_cases hne : a = b
    · subst hne; rw [diffs_same]; simp
    · have rep : diffs (f + 1) a b = [.rep [] b] → (diffs (f + 1) a b).length ≤ wl (f + 1) a + wl (f + 1) b := fun e => by rw [e]; simp; omega
      rcases ha.look with ⟨nm, w, ea, _, _, hl⟩ | ⟨m, hm, ⟨xs, rfl, hl, hx⟩ | ⟨es, rfl, hl, hs, hx⟩⟩
      · obtain ⟨z1, z2⟩ := asL_leaf hl
        exact rep (diffs_rep hne (.inl z1) (.inl z2))
      · obtain rfl : f = m := by omega
        rcases hb.look with ⟨nm, w, eb, _, _, hl2⟩ | ⟨m, hm, ⟨ys, rfl, hl2, hy⟩ | ⟨fs, rfl, hl2, hs, hy⟩⟩
        · obtain ⟨z1, z2⟩ := asL_leaf hl2
          exact rep (diffs_rep hne (.inr z1) (.inr z2))
        · obtain rfl : f = m := by omega
          have e : diffs (f + 1) (.tup [.str "list", .tup xs]) (.tup [.str "list", .tup ys]) = listE (diffs f) xs ys := diffs_list hne
          have w1 : wl (f + 1) (.tup [.str "list", .tup xs]) = 1 + sumw f xs := wl_list f xs
          have w2 : wl (f + 1) (.tup [.str "list", .tup ys]) = 1 + sumw f ys := wl_list f ys
          have := list_len (f := f) (g := diffs f) (xs := xs) (ys := ys) fun x h y h' => diffs_len (hx x h) (hy y h')
          rw [e, w1, w2]
          omega
        · exact rep (diffs_rep hne (.inr asL_mp) (.inl asM_ls))
      · obtain rfl : f = m := by omega
        rcases hb.look with ⟨nm, w, eb, _, _, hl2⟩ | ⟨m, hm, ⟨ys, rfl, hl2, hy⟩ | ⟨fs, rfl, hl2, hs2, hy⟩⟩
        · obtain ⟨z1, z2⟩ := asL_leaf hl2
          exact rep (diffs_rep hne (.inr z1) (.inr z2))
        · exact rep (diffs_rep hne (.inl asL_mp) (.inr asM_ls))
        · obtain rfl : f = m := by omega
          have e : diffs (f + 1) (.tup [.str "map", .tup (es.map ent)]) (.tup [.str "map", .tup (fs.map ent)]) = mapE (diffs f) es fs := diffs_map hne
          have w1 : wl (f + 1) (.tup [.str "map", .tup (es.map ent)]) = 1 + sumw f (es.map (·.2)) := wl_map f es
          have w2 : wl (f + 1) (.tup [.str "map", .tup (fs.map ent)]) = 1 + sumw f (fs.map (·.2)) := wl_map f fs
          have := map_len (f := f) (g := diffs f) hs hs2 fun x h y h' => diffs_len (hx x h).2 (hy y h').2
          rw [e, w1, w2]
          omega
end K77

set_option Elab.async false
set_option linter.all false
set_option maxRecDepth 100000
set_option maxHeartbeats 4000000
/-! k77: the law. -/
namespace K77
open PySem PySem.Spec L2 L3
theorem lay_rep : (PyData.str "replace").canLay0 = true ∧ (PyData.str "remove").canLay0 = true ∧ (PyData.str "insert").canLay0 = true := by decide +kernel
theorem sm_keys {r : List D} (h : ∀ x ∈ r, IsKey x) (hl : r.length ≤ 1000) : Sm 2 (.tup r) := sm_tup (by omega) fun x hx => sm_key (h x hx)
theorem stp_sm {k : Nat} {a c : D} {e : RE} (hk : k ≤ 24) (h : Stp k a e c) : Sm 84 (e.enc []) := by
  cases e with
  | rep r p =>
    obtain ⟨h1, h2, h3, h4⟩ := h
    exact sm_three lay_rep.1 ((sm_keys h2 (by omega)).mono (by decide)) ((Vl.sm h4).mono (by omega))
  | rem r =>
    obtain ⟨h1, h2, h3, h4⟩ := h
    exact sm_two lay_rep.2.1 ((sm_keys h2 (by omega)).mono (by decide))
  | ins r t p =>
    obtain ⟨h1, h2, h3, h4, h5⟩ := h
    refine sm_tup (by simp) fun y hy => ?_
    have hy' : y = .str "insert" ∨ y = .tup ([] ++ r) ∨ y = t ∨ y = p := by simpa using hy
    rcases hy' with rfl | rfl | rfl | rfl
    · exact sm_str lay_rep.2.2
    · exact (sm_keys h2 (by omega)).mono (by decide)
    · exact (sm_key (n := 0) h3).mono (by decide)
    · exact (Vl.sm h5).mono (by omega)
theorem run_sm {k : Nat} (hk : k ≤ 24) : ∀ {a b : D} {es : List RE}, Run k a es b → ∀ y ∈ es.map (RE.enc []), Sm 84 y := fun {a b es} h => by
  induction h with
  | nil _ => intro y hy; cases hy
  | cons _ s _ ih =>
    intro y hy
    rcases List.mem_cons.mp hy with rfl | hy
    · exact stp_sm hk s
    · exact ih y hy
theorem rem_step {h s w : D} (hr : Rem h s w) : ∃ e, (s, e) ∈ steps h := by
  cases hr with
  | @lst xs i hi =>
    rw [steps_list]
    exact ⟨xs[i], List.mem_map.mpr ⟨(xs[i], i), List.mem_zipIdx_iff_getElem?.mpr (by simp [hi]), rfl⟩⟩
  | @map es k hk =>
    rw [steps_map]
    obtain ⟨e, he, rfl⟩ := List.mem_map.mp hk
    exact ⟨e.2, List.mem_map.mpr ⟨e, he, rfl⟩⟩
theorem ins_fits {part h step w : D} (hi : Ins part h step w) : Fits h step := by
  cases hi with
  | lst h => exact .lst h
  | map h => exact .map h
/-- an edit, made by both -/
theorem use_stp {xA xM xO : Addr} {a c : D} {e : RE} {S : Sto} {Q : VQ} {E : EX} {hh} (ha : Vl 24 a) (h : Stp 24 a e c) (q : Q c S) : Call (sp_edited xA xM xO) [a, e.enc []] S Q E hh := by
  cases e with
  | rep r p =>
    obtain ⟨h1, h2, h3, h4⟩ := h
    have z := h1 (.int 0)
    have hf : ∃ h, Fol a r h := by cases z with
      | put _ hf => exact ⟨_, hf⟩
      | rem w _ _ _ => cases w
      | ins w _ _ => cases w
    obtain ⟨h, hf⟩ := hf
    obtain ⟨m, hm, hmn⟩ := mn_ex h4
    exact ⟨a, .int 0, p, r, ⟨ha.mono (by decide), h4.mono (by omega), h2, by omega⟩, .inl ⟨0, rfl⟩, .inl ⟨rfl, none, .fine (.inl rfl) hf hmn (by simp [more]; omega), c, z, q⟩⟩
  | rem r =>
    obtain ⟨h1, h2, h3, h4⟩ := h
    have z := h1 (.int 0) a
    have hf : ∃ h, Fol a r h := by cases z with
      | put w _ => cases w
      | rem _ e hf hr =>
        obtain ⟨x, hx⟩ := rem_step hr
        exact ⟨x, by rw [e]; exact fol_snoc hf hx⟩
      | ins w _ _ => cases w
    obtain ⟨h, hf⟩ := hf
    exact ⟨a, .int 0, a, r, ⟨ha.mono (by decide), ha.mono (by decide), h2, by omega⟩, .inl ⟨0, rfl⟩, .inr (.inl ⟨rfl, none, .fine1 rfl h3 hf, c, z, q⟩)⟩
  | ins r t p =>
    obtain ⟨h1, h2, h3, h4, h5⟩ := h
    have hf : ∃ h, Fol a r h ∧ Fits h t := by cases h1 with
      | put w _ => cases w
      | rem w _ _ _ => cases w
      | ins _ hf hi => exact ⟨_, hf, ins_fits hi⟩
    obtain ⟨h, hf, ht⟩ := hf
    obtain ⟨m, hm, hmn⟩ := mn_ex h5
    exact ⟨a, t, p, r, ⟨ha.mono (by decide), h5.mono (by omega), h2, by omega⟩, h3, .inr (.inr ⟨rfl, none, .fine (.inr ⟨rfl, ht⟩) hf hmn (by simp [more]; omega), c, h1, q⟩)⟩
end K77

set_option Elab.async false
set_option linter.all false
set_option maxRecDepth 100000
set_option maxHeartbeats 4000000
/-! k77: the law. -/
namespace K77
open PySem PySem.Spec L2 L3
/-- the law's text from «due = ..» on -/
def t_rest (q__law_cell : WSp) (q__law_drawn : WSp) (q__law_edited : WSp) (q__law_edits : WSp) (q__law_next : WSp) (q__law_same : WSp) (q__law_state : WSp) (q__law_stirred : WSp) (q_difference : WSp) (q_edited : WSp) : WS :=
  (vSeq (vAsg (vCall q__law_edits (vCons (vVar 2) (vCons (vVar 4) (vCons (vTup vNil) vNil)))) (gNm 5))
  (vSeq (vAsg (vCall q_difference (vCons (vVar 2) (vCons (vVar 4) vNil))) (gNm 6))
  (vSeq (vIf (vOr (vNot (vTst (vCallR q__law_same (vCons (vVar 6) (vCons (vVar 5) vNil))))) (vTst (vOp rNe (vOp rEq (vVar 5) (vLstF vNil)) (vCallR q__law_same (vCons (vVar 2) (vCons (vVar 4) vNil)))))) (vRet (vC (.bl false))) vNext)
  (vSeq (vAsg (vVar 2) (gNm 7))
  (vSeq (vAsg (vVar 2) (gNm 8))
  (vSeq (vFor (iLst (vVar 5)) (gNm 9)
  (t_law_b1 q__law_cell q__law_drawn q__law_edited q__law_edits q__law_next q__law_same q__law_state q__law_stirred q_difference q_edited))
  (vSeq (vExpr (vMt rAppend (vVar 6) (vCons (vTup (vCons (vC (.str "remove")) (vCons (vTup (vCons (vC (.int 0)) vNil)) vNil))) vNil)))
  (vRet (vCallR q__law_same (vCons (vLstF (vCons (vVar 7) (vCons (vFrz (vCall q_difference (vCons (vVar 2) (vCons (vVar 4) vNil)))) vNil))) (vCons (vLstF (vCons (vVar 4) (vCons (vVar 5) vNil))) vNil)))))))))))
abbrev rest (xA xM xO : Addr) : WS := t_rest sp_cell sp_drawn (sp_ledit 26) (sp_ledits 25) sp_next (sp_same 100) sp_state sp_stirred sp_diff (sp_edited xA xM xO)
theorem names_ix {nm : Str} {j : Nat} {Q : Nat → Prop} {hh} (h : (nm = "replace" ∧ j = 0) ∨ (nm = "remove" ∧ j = 1) ∨ (nm = "insert" ∧ j = 2)) (q : Q j) : IdxC [.str "replace", .str "remove", .str "insert"] (.str nm) Q hh := by
  have n1 : ("replace" : Str) ≠ "remove" := by decide
  have n2 : ("replace" : Str) ≠ "insert" := by decide
  have n3 : ("remove" : Str) ≠ "insert" := by decide
  refine ⟨rfl, rfl, ?_, fun i hi hm => ?_⟩
  · rcases h with ⟨rfl, rfl⟩ | ⟨rfl, rfl⟩ | ⟨rfl, rfl⟩
    · exact ⟨0, _, rfl, by simp [toV, eqV]⟩
    · exact ⟨1, _, rfl, by simp [toV, eqV]⟩
    · exact ⟨2, _, rfl, by simp [toV, eqV]⟩
  · obtain ⟨z, hz, he⟩ := hi
    have hij : i = j := by
      rcases i with _ | _ | _ | i
      · cases hz
        simp [toV, eqV] at he
        rcases h with ⟨rfl, rfl⟩ | ⟨rfl, rfl⟩ | ⟨rfl, rfl⟩
        · rfl
        · exact absurd he n1
        · exact absurd he n2
      · cases hz
        simp [toV, eqV] at he
        rcases h with ⟨rfl, rfl⟩ | ⟨rfl, rfl⟩ | ⟨rfl, rfl⟩
        · exact absurd he (Ne.symm n1)
        · rfl
        · exact absurd he n3
      · cases hz
        simp [toV, eqV] at he
        rcases h with ⟨rfl, rfl⟩ | ⟨rfl, rfl⟩ | ⟨rfl, rfl⟩
        · exact absurd he (Ne.symm n2)
        · exact absurd he (Ne.symm n3)
        · rfl
      · simp at hz
    rw [hij]; exact q
theorem at_back {x : D} {xs : List D} : atI (xs ++ [x]) (-1) = some x := by
  unfold atI ixN
  have e : (-1 + ((xs.length : Int) + 1)).toNat = xs.length := by omega
  simp
  rw [if_pos (by omega), e]
  simp
theorem atm2 {a b : D} : atI [a, b] (-1) = some b := at_back (xs := [a])
theorem atm3 {a b c : D} : atI [a, b, c] (-1) = some c := at_back (xs := [a, b])
theorem atm4 {a b c d : D} : atI [a, b, c, d] (-1) = some d := at_back (xs := [a, b, c])
theorem seen_vb {B n : Nat} {d : D} (h : VB B n d) (S : Sto) : seen S d = d := by
  rcases h.look with ⟨nm, w, rfl, _⟩ | ⟨m, hm, ⟨xs, rfl, _⟩ | ⟨es, rfl, _⟩⟩ <;> rfl
theorem w_rest (xA xM xO : Addr) {scr : List Int} {p : Addr} {s : Sta} {v w o3 : D} {k : Nat} {Q : VQ} {E : EX} (hv : Stir 0 v) (hw : Stir k w) (hk : k ≤ 5) (q : ∀ S, Q (.bl true) S) :
    rest xA xM xO (dEnds Q E) [some (.fix (scr.map D.int)), some (.ref p), some v, some o3, some w, none, none, none, none, none, none] (sup (fun _ => none) p s.so) := by
  have hv9 : VB 900 24 v := hv.1.wide (by decide)
  have hw9 : VB 900 24 w := hw.1.wide (by omega)
  have hlen : (diffs 24 v w).length ≤ 16000000 := by
    have h1 := diffs_len (f := 24) hv9 hw9
    have h2 := hv.2 24
    have h3 := hw.2 24
    unfold wl at h1
    omega
  have run := diffs_run hv9 hw9
  generalize hes : diffs 24 v w = es at hlen run
  simp [rest, t_rest, line2]
  refine ⟨24, v, w, [], by decide, by decide, rfl, hv9, hw9, by simp, by rw [hes]; exact hlen, ?_⟩
  simp
  refine ⟨v, w, rfl, hv9, hw9, by rw [hes]; exact hlen, fun a ha => ?_⟩
  rw [hes]
  simp
  have smE : Sm 85 (.lst (es.map (RE.enc []))) := sm_lst (by simpa using hlen) (run_sm (by decide) run)
  have smv : Sm 85 v := (Vl.sm (hv9.wide (by decide) : Vl 24 v)).mono (by decide)
  have smw : Sm 85 w := (Vl.sm (hw9.wide (by decide) : Vl 24 w)).mono (by decide)
  have hvw : es = [] ↔ v = w := ⟨fun e => by rw [e] at run; exact run.empty, fun e => by rw [← hes, e]; exact diffs_same⟩
  have hpa : a ≠ p := fun z => by rw [z, sup_same] at ha; cases ha
  have plE : ∀ x ∈ es.map (RE.enc []), Pl x := fun x hx => (run_sm (by decide) run x hx).pl
  refine same_use smE smE (by decide) fun t ht => ?_
  obtain rfl : t = true := ht.mpr rfl
  simp
  refine exNil (by simpa using plE) ?_
  simp [-seen, seen_vb hv9, seen_vb hw9]
  refine same_use smv smw (by decide) fun t ht => ?_
  have hb : decide (es.map (RE.enc []) = []) = t := by
    rw [Bool.eq_iff_iff, decide_eq_true_iff, ht, List.map_eq_nil_iff]
    exact hvw
  simp only [List.map_eq_nil_iff] at hb
  simp [hb]
  refine forW_inv (fun r env S' => ∃ (h : D) (es' : List RE) (o9 o10 : Option D), env = [some (.fix (scr.map D.int)), some (.ref p), some v, some o3, some w, some (.lst (es.map (RE.enc []))), some (.ref a), some h, some h, o9, o10] ∧ S' = sup (sup (fun _ => none) p s.so) a (.lst (es.map (RE.enc []))) ∧ r = es'.map (RE.enc []) ∧ Run 24 h es' w) ?_ ?_ _ _ _ ⟨v, es, none, none, rfl, rfl, rfl, run⟩
  · rintro env S' ⟨h, es', o9, o10, rfl, rfl, hr, hrun⟩
    refine ⟨trivial, ?_⟩
    have he : es' = [] := by simpa using hr.symm
    subst he
    obtain rfl := hrun.empty
    simp [line2]
    refine ⟨by omega, v, h, rfl, hv9, hw9, by rw [hes]; exact hlen, fun b hb2 => ?_⟩
    rw [hes]
    simp
    rw [sdel_sup (by simpa using hb2)]
    simp [line2]
    refine same_use (sm_pair smw smE) (sm_pair smw smE) (by decide) fun t ht => ?_
    obtain rfl : t = true := ht.mpr rfl
    simp
    exact q _
  · rintro y r env S' N ⟨h, es', o9, o10, rfl, rfl, hr, hrun⟩ hN
    refine ⟨trivial, ?_⟩
    cases hrun with
    | nil _ => simp at hr
    | @cons _ c _ e es' vh st hrun =>
      simp only [List.map_cons, List.cons.injEq] at hr
      obtain ⟨rfl, hr⟩ := hr
      have vc : Vl 24 c := hrun.start
      have smc : Sm 85 c := (Vl.sm vc).mono (by decide)
      have fin : ∀ o10, N [some (.fix (scr.map D.int)), some (.ref p), some v, some o3, some w, some (.lst (es.map (RE.enc []))), some (.ref a), some c, some c, some (e.enc []), o10] (sup (sup (fun _ => none) p s.so) a (.lst (es.map (RE.enc [])))) := fun o10 => hN _ _ ⟨c, es', _, _, rfl, rfl, hr, hrun⟩
      have after : ∀ (o10 : Option D) (Ed : VEnds), Ed.nx = N → vIf (vNot (vTst (vCallR (sp_same 100) (vCons (vVar 8) (vCons (vVar 7) vNil))))) (vRet (vC (D.bl false))) vNext Ed [some (.fix (scr.map D.int)), some (.ref p), some v, some o3, some w, some (.lst (es.map (RE.enc []))), some (.ref a), some c, some c, some (e.enc []), o10] (sup (sup (fun _ => none) p s.so) a (.lst (es.map (RE.enc [])))) := fun o10 Ed hEd => by
        simp [-seen, seen_vb vc]
        refine same_use smc smc (by decide) fun t ht => ?_
        obtain rfl : t = true := ht.mpr rfl
        simp [hEd]
        exact fin o10
      cases e with
      | rep rr pp =>
        obtain ⟨h1, h2, h3, h4⟩ := id st
        simp [t_law_b1, RE.enc, line2]
        refine names_ix (j := 0) (.inl ⟨rfl, rfl⟩) ?_
        simp [atm3, line2]
        refine ⟨24, 0, h, pp, pp, c, rr, by omega, rfl, vh, h2, fun z => absurd z (by decide), .inl rfl, h1 pp, ?_⟩
        simp
        refine use_stp vh st ?_
        exact after _ _ rfl
      | rem rr =>
        obtain ⟨h1, h2, h3, h4⟩ := id st
        simp [t_law_b1, RE.enc, line2]
        refine names_ix (j := 1) (.inr (.inl ⟨rfl, rfl⟩)) ?_
        simp [atm2, line2]
        refine ⟨24, 1, h, .int 0, .tup rr, c, rr, by omega, rfl, vh, h2, fun z => absurd z (by decide), .inr (.inl rfl), h1 _ _, ?_⟩
        simp
        refine use_stp vh st ?_
        exact after _ _ rfl
      | ins rr tt pp =>
        obtain ⟨h1, h2, h3, h4, h5⟩ := id st
        simp [t_law_b1, RE.enc, line2]
        refine names_ix (j := 2) (.inr (.inr ⟨rfl, rfl⟩)) ?_
        simp [atm4, line2]
        refine ⟨24, 2, h, tt, pp, c, rr, by omega, rfl, vh, h2, fun _ => h3, .inr (.inr rfl), h1, ?_⟩
        simp
        refine use_stp vh st ?_
        exact after _ _ rfl
theorem w_law (xA xM xO : Addr) (ds S Q E) (h : spTrue ds S Q E) : t_law sp_cell sp_drawn (sp_ledit 26) (sp_ledits 25) sp_next (sp_same 100) sp_state sp_stirred sp_diff (sp_edited xA xM xO) (dEnds Q E) (L3.start 11 ds) S := by
  obtain ⟨scr, rfl, hl, rfl, q⟩ := h
  simp [t_law]
  refine cell0 fun c => ?_
  simp [line2]
  refine ⟨scr, _, rfl, fun p s hp => ?_⟩
  simp
  refine ⟨p, s, rfl, by simp, fun v s1 hv => ?_⟩
  simp
  refine nx s1 (by simp) (by decide) fun pick s2 p0 p1 => ?_
  simp [line2]
  have hv0 : Stir 0 v := ⟨hv.1, fun f => by have := hv.2 f; omega⟩
  by_cases c1 : pick = 1
  · simp [c1]
    refine nx s2 (by simp) (by decide) fun i s3 g0 g1 => ?_
    obtain ⟨n3, a3, l3, sc3, k3, o3⟩ := s3
    simp [Sta.so, ixN, line2]
    refine ⟨p, ⟨n3, a3, 6 + i, sc3, k3, o3⟩, rfl, by simp [Sta.so], fun w s4 hw => ?_⟩
    simp
    have r := w_rest xA xM xO (scr := scr) (p := p) (s := s4) (o3 := .int pick) (E := E) hv0 (⟨hw.1, fun f => by have := hw.2 f; omega⟩ : Stir 0 w) (by decide) q
    simp [rest, t_rest, line2] at r
    exact r
  · simp [c1]
    by_cases c2 : 2 < pick
    · simp [c2]
      refine ⟨p, s2, v, rfl, by simp, hv0, fun w s3 hw => ?_⟩
      obtain ⟨k, hk, hw⟩ := hw
      simp
      have r := w_rest xA xM xO (scr := scr) (p := p) (s := s3) (o3 := .int pick) (E := E) hv0 hw hk q
      simp [rest, t_rest, line2] at r
      exact r
    · simp [c2]
      have r := w_rest xA xM xO (scr := scr) (p := p) (s := s2) (o3 := .int pick) (E := E) hv0 hv0 (by decide) q
      simp [rest, t_rest, line2] at r
      exact r
end K77

set_option Elab.async false
set_option linter.all false
set_option maxRecDepth 100000
set_option maxHeartbeats 0
/-! Printed by head.py: the head of the row. -/
namespace K77
open PySem PySem.Spec L2 L3
def h_fa_0 : List He.Fa := [.glo "list_of", .glo "map_of", .glo "parts", .glo "depth", .glo "steps_of", .glo "part_at", .glo "made", .glo "put_at", .glo "check_levels", .glo "check_step", .glo "replaced", .glo "removed", .glo "inserted", .glo "edited", .glo "common", .glo "list_edits", .glo "map_edits", .glo "edits_at", .glo "difference", .glo "_law_cell", .glo "_law_numbers", .glo "_law_state", .glo "_law_next", .glo "_law_same", .glo "_law_many", .glo "_law_big", .glo "_law_normal", .glo "_law_number", .glo "_law_points", .glo "_law_octets"]
def h_fa_1 : List He.Fa := [.glo "_law_leaf", .glo "_law_value", .glo "_law_part", .glo "_law_steps", .glo "_law_ways", .glo "_law_drawn", .glo "_law_small", .glo "_law_edited", .glo "_law_depth", .glo "_law_refusal", .glo "_law_path", .glo "_law_step", .glo "_law_common", .glo "_law_between", .glo "_law_edits", .glo "_law_stirred", .glo "law", .free "len", .free "range", .free "int", .free "abs", .free "isinstance", .free "list", .free "tuple", .free "enumerate", .free "sorted", .free "max", .free "bool", .free "str", .free "min"]
def h_fa_2 : List He.Fa := [.int "MOST_DEPTH" 24]
def h_fa : List He.Fa := h_fa_0 ++ h_fa_1 ++ h_fa_2
abbrev s_init_AlikeError : Stmt := inClass (PySem.Challenge.pw_formsbrief_k77_differences.main.body.getD 1 (.Pass ⟨0, 0, 0, 0⟩)) 0
abbrev s_init_Doubled : Stmt := inClass (PySem.Challenge.pw_formsbrief_k77_differences.main.body.getD 1 (.Pass ⟨0, 0, 0, 0⟩)) 0
abbrev s_init_Astray : Stmt := inClass (PySem.Challenge.pw_formsbrief_k77_differences.main.body.getD 1 (.Pass ⟨0, 0, 0, 0⟩)) 0
abbrev s_init_Misplaced : Stmt := inClass (PySem.Challenge.pw_formsbrief_k77_differences.main.body.getD 1 (.Pass ⟨0, 0, 0, 0⟩)) 0
abbrev s_init_Overdeep : Stmt := inClass (PySem.Challenge.pw_formsbrief_k77_differences.main.body.getD 1 (.Pass ⟨0, 0, 0, 0⟩)) 0
def h_fn_0 : List He.DefD := [⟨("list_of", none), "list_of", "list_of", defArgs s_list_of, defBody s_list_of, defScope s_list_of, [], []⟩, ⟨("map_of", none), "map_of", "map_of", defArgs s_map_of, defBody s_map_of, defScope s_map_of, [], []⟩, ⟨("parts", none), "parts", "parts", defArgs s_parts, defBody s_parts, defScope s_parts, [], []⟩, ⟨("depth", none), "depth", "depth", defArgs s_depth, defBody s_depth, defScope s_depth, [], []⟩, ⟨("steps_of", none), "steps_of", "steps_of", defArgs s_steps_of, defBody s_steps_of, defScope s_steps_of, [], []⟩, ⟨("part_at", none), "part_at", "part_at", defArgs s_part_at, defBody s_part_at, defScope s_part_at, [], []⟩, ⟨("made", none), "made", "made", defArgs s_made, defBody s_made, defScope s_made, [], []⟩, ⟨("put_at", none), "put_at", "put_at", defArgs s_put_at, defBody s_put_at, defScope s_put_at, [], []⟩, ⟨("check_levels", none), "check_levels", "check_levels", defArgs s_check_levels, defBody s_check_levels, defScope s_check_levels, [], []⟩, ⟨("check_step", none), "check_step", "check_step", defArgs s_check_step, defBody s_check_step, defScope s_check_step, [], []⟩, ⟨("replaced", none), "replaced", "replaced", defArgs s_replaced, defBody s_replaced, defScope s_replaced, [], []⟩, ⟨("removed", none), "removed", "removed", defArgs s_removed, defBody s_removed, defScope s_removed, [], []⟩, ⟨("inserted", none), "inserted", "inserted", defArgs s_inserted, defBody s_inserted, defScope s_inserted, [], []⟩, ⟨("edited", none), "edited", "edited", defArgs s_edited, defBody s_edited, defScope s_edited, [], []⟩, ⟨("common", none), "common", "common", defArgs s_common, defBody s_common, defScope s_common, [], []⟩, ⟨("list_edits", none), "list_edits", "list_edits", defArgs s_list_edits, defBody s_list_edits, defScope s_list_edits, [], []⟩, ⟨("map_edits", none), "map_edits", "map_edits", defArgs s_map_edits, defBody s_map_edits, defScope s_map_edits, [], []⟩, ⟨("edits_at", none), "edits_at", "edits_at", defArgs s_edits_at, defBody s_edits_at, defScope s_edits_at, [], []⟩, ⟨("difference", none), "difference", "difference", defArgs s_difference, defBody s_difference, defScope s_difference, [], []⟩, ⟨("_law_cell", none), "_law_cell", "_law_cell", defArgs s__law_cell, defBody s__law_cell, defScope s__law_cell, [], []⟩, ⟨("_law_numbers", none), "_law_numbers", "_law_numbers", defArgs s__law_numbers, defBody s__law_numbers, defScope s__law_numbers, [], []⟩, ⟨("_law_state", none), "_law_state", "_law_state", defArgs s__law_state, defBody s__law_state, defScope s__law_state, [], []⟩, ⟨("_law_next", none), "_law_next", "_law_next", defArgs s__law_next, defBody s__law_next, defScope s__law_next, [], []⟩, ⟨("_law_same", none), "_law_same", "_law_same", defArgs s__law_same, defBody s__law_same, defScope s__law_same, [], []⟩, ⟨("_law_many", none), "_law_many", "_law_many", defArgs s__law_many, defBody s__law_many, defScope s__law_many, [], []⟩, ⟨("_law_big", none), "_law_big", "_law_big", defArgs s__law_big, defBody s__law_big, defScope s__law_big, [], []⟩, ⟨("_law_normal", none), "_law_normal", "_law_normal", defArgs s__law_normal, defBody s__law_normal, defScope s__law_normal, [], []⟩, ⟨("_law_number", none), "_law_number", "_law_number", defArgs s__law_number, defBody s__law_number, defScope s__law_number, [], []⟩, ⟨("_law_points", none), "_law_points", "_law_points", defArgs s__law_points, defBody s__law_points, defScope s__law_points, [], []⟩, ⟨("_law_octets", none), "_law_octets", "_law_octets", defArgs s__law_octets, defBody s__law_octets, defScope s__law_octets, [], []⟩]
def h_fn_1 : List He.DefD := [⟨("_law_leaf", none), "_law_leaf", "_law_leaf", defArgs s__law_leaf, defBody s__law_leaf, defScope s__law_leaf, [], []⟩, ⟨("_law_value", none), "_law_value", "_law_value", defArgs s__law_value, defBody s__law_value, defScope s__law_value, [], []⟩, ⟨("_law_part", none), "_law_part", "_law_part", defArgs s__law_part, defBody s__law_part, defScope s__law_part, [], []⟩, ⟨("_law_steps", none), "_law_steps", "_law_steps", defArgs s__law_steps, defBody s__law_steps, defScope s__law_steps, [], []⟩, ⟨("_law_ways", none), "_law_ways", "_law_ways", defArgs s__law_ways, defBody s__law_ways, defScope s__law_ways, [], []⟩, ⟨("_law_drawn", none), "_law_drawn", "_law_drawn", defArgs s__law_drawn, defBody s__law_drawn, defScope s__law_drawn, [], []⟩, ⟨("_law_small", none), "_law_small", "_law_small", defArgs s__law_small, defBody s__law_small, defScope s__law_small, [], []⟩, ⟨("_law_edited", none), "_law_edited", "_law_edited", defArgs s__law_edited, defBody s__law_edited, defScope s__law_edited, [], []⟩, ⟨("_law_depth", none), "_law_depth", "_law_depth", defArgs s__law_depth, defBody s__law_depth, defScope s__law_depth, [], []⟩, ⟨("_law_refusal", none), "_law_refusal", "_law_refusal", defArgs s__law_refusal, defBody s__law_refusal, defScope s__law_refusal, [], []⟩, ⟨("_law_path", none), "_law_path", "_law_path", defArgs s__law_path, defBody s__law_path, defScope s__law_path, [], []⟩, ⟨("_law_step", none), "_law_step", "_law_step", defArgs s__law_step, defBody s__law_step, defScope s__law_step, [], []⟩, ⟨("_law_common", none), "_law_common", "_law_common", defArgs s__law_common, defBody s__law_common, defScope s__law_common, [], []⟩, ⟨("_law_between", none), "_law_between", "_law_between", defArgs s__law_between, defBody s__law_between, defScope s__law_between, [], []⟩, ⟨("_law_edits", none), "_law_edits", "_law_edits", defArgs s__law_edits, defBody s__law_edits, defScope s__law_edits, [], []⟩, ⟨("_law_stirred", none), "_law_stirred", "_law_stirred", defArgs s__law_stirred, defBody s__law_stirred, defScope s__law_stirred, [], []⟩, ⟨("law", none), "law", "law", defArgs s_law, defBody s_law, defScope s_law, [], []⟩, ⟨("AlikeError", some "__init__"), "__init__", "AlikeError.__init__", defArgs s_init_AlikeError, defBody s_init_AlikeError, defScope s_init_AlikeError, [.non], []⟩, ⟨("Doubled", some "__init__"), "__init__", "AlikeError.__init__", defArgs s_init_Doubled, defBody s_init_Doubled, defScope s_init_Doubled, [.non], []⟩, ⟨("Astray", some "__init__"), "__init__", "AlikeError.__init__", defArgs s_init_Astray, defBody s_init_Astray, defScope s_init_Astray, [.non], []⟩, ⟨("Misplaced", some "__init__"), "__init__", "AlikeError.__init__", defArgs s_init_Misplaced, defBody s_init_Misplaced, defScope s_init_Misplaced, [.non], []⟩, ⟨("Overdeep", some "__init__"), "__init__", "AlikeError.__init__", defArgs s_init_Overdeep, defBody s_init_Overdeep, defScope s_init_Overdeep, [.non], []⟩]
def h_fn : List He.DefD := h_fn_0 ++ h_fn_1
def h_ex (K : PySem.W.Frag) : Bool := (excB "AlikeError" K) && (excB "Doubled" K) && (excB "Astray" K) && (excB "Misplaced" K) && (excB "Overdeep" K)
def h_names_0 : List Str := ["AlikeError", "Doubled", "Astray", "Misplaced", "Overdeep", "MOST_DEPTH", "list_of", "map_of", "parts", "depth", "steps_of", "part_at", "made", "put_at", "check_levels", "check_step", "replaced", "removed", "inserted", "edited", "common", "list_edits", "map_edits", "edits_at", "difference", "_law_cell", "_law_numbers", "_law_state", "_law_next", "_law_same"]
def h_names_1 : List Str := ["_law_many", "_law_big", "_law_normal", "_law_number", "_law_points", "_law_octets", "_law_leaf", "_law_value", "_law_part", "_law_steps", "_law_ways", "_law_drawn", "_law_small", "_law_edited", "_law_depth", "_law_refusal", "_law_path", "_law_step", "_law_common", "_law_between", "_law_edits", "_law_stirred"]
def h_names : List Str := h_names_0 ++ h_names_1
abbrev h_R : PySem.W.OpenRow := PySem.W.OpenLaw.row PySem.Challenge.rw_formsbrief_k77_differences
abbrev h_hk : PySem.W.Hook := hookV 5 h_fa h_fn h_ex
def h_ob (s : PySem.W.SharedT) : AlV := obsV 5 h_fa h_fn h_ex (HandSHeadRun.getT s)
theorem h_ob_eq (s : PySem.W.SharedT) : h_ob s = h_hk.obs s.abs := obsV_eq (HandSHeadRun.getT_eq s)
theorem h_run (w : World) : HandSHeadRun.RunEq h_R (PySem.W.view h_R.prog [57]) h_hk h_ob 4000 h_names w := by
  intro os
  kernel_rfl
end K77

set_option Elab.async false
set_option linter.all false
set_option maxRecDepth 100000
set_option maxHeartbeats 0
/-! Printed by fin2.py: the row holds. -/
namespace K77
open PySem PySem.Spec PyProof.Rows L2 L3
theorem z_abs {C : Cmn} {h : Heap} (X : C.K.In h) (G : h.Ns mainGlobals C.mg) (c : SaysV h_fa h_fn h_ex C.K) : C.mg "abs" = none := free_mk X G c.d (List.mem_of_getElem? (i := 50) rfl)
theorem z_bool {C : Cmn} {h : Heap} (X : C.K.In h) (G : h.Ns mainGlobals C.mg) (c : SaysV h_fa h_fn h_ex C.K) : C.mg "bool" = none := free_mk X G c.d (List.mem_of_getElem? (i := 57) rfl)
theorem z_enumerate {C : Cmn} {h : Heap} (X : C.K.In h) (G : h.Ns mainGlobals C.mg) (c : SaysV h_fa h_fn h_ex C.K) : C.mg "enumerate" = none := free_mk X G c.d (List.mem_of_getElem? (i := 54) rfl)
theorem z_int {C : Cmn} {h : Heap} (X : C.K.In h) (G : h.Ns mainGlobals C.mg) (c : SaysV h_fa h_fn h_ex C.K) : C.mg "int" = none := free_mk X G c.d (List.mem_of_getElem? (i := 49) rfl)
theorem z_isinstance {C : Cmn} {h : Heap} (X : C.K.In h) (G : h.Ns mainGlobals C.mg) (c : SaysV h_fa h_fn h_ex C.K) : C.mg "isinstance" = none := free_mk X G c.d (List.mem_of_getElem? (i := 51) rfl)
theorem z_len {C : Cmn} {h : Heap} (X : C.K.In h) (G : h.Ns mainGlobals C.mg) (c : SaysV h_fa h_fn h_ex C.K) : C.mg "len" = none := free_mk X G c.d (List.mem_of_getElem? (i := 47) rfl)
theorem z_list {C : Cmn} {h : Heap} (X : C.K.In h) (G : h.Ns mainGlobals C.mg) (c : SaysV h_fa h_fn h_ex C.K) : C.mg "list" = none := free_mk X G c.d (List.mem_of_getElem? (i := 52) rfl)
theorem z_max {C : Cmn} {h : Heap} (X : C.K.In h) (G : h.Ns mainGlobals C.mg) (c : SaysV h_fa h_fn h_ex C.K) : C.mg "max" = none := free_mk X G c.d (List.mem_of_getElem? (i := 56) rfl)
theorem z_min {C : Cmn} {h : Heap} (X : C.K.In h) (G : h.Ns mainGlobals C.mg) (c : SaysV h_fa h_fn h_ex C.K) : C.mg "min" = none := free_mk X G c.d (List.mem_of_getElem? (i := 59) rfl)
theorem z_range {C : Cmn} {h : Heap} (X : C.K.In h) (G : h.Ns mainGlobals C.mg) (c : SaysV h_fa h_fn h_ex C.K) : C.mg "range" = none := free_mk X G c.d (List.mem_of_getElem? (i := 48) rfl)
theorem z_sorted {C : Cmn} {h : Heap} (X : C.K.In h) (G : h.Ns mainGlobals C.mg) (c : SaysV h_fa h_fn h_ex C.K) : C.mg "sorted" = none := free_mk X G c.d (List.mem_of_getElem? (i := 55) rfl)
theorem z_str {C : Cmn} {h : Heap} (X : C.K.In h) (G : h.Ns mainGlobals C.mg) (c : SaysV h_fa h_fn h_ex C.K) : C.mg "str" = none := free_mk X G c.d (List.mem_of_getElem? (i := 58) rfl)
theorem z_tuple {C : Cmn} {h : Heap} (X : C.K.In h) (G : h.Ns mainGlobals C.mg) (c : SaysV h_fa h_fn h_ex C.K) : C.mg "tuple" = none := free_mk X G c.d (List.mem_of_getElem? (i := 53) rfl)
theorem z_MOST_DEPTH {C : Cmn} {h : Heap} (X : C.K.In h) (G : h.Ns mainGlobals C.mg) (c : SaysV h_fa h_fn h_ex C.K) : GlobV C "MOST_DEPTH" (.int 24) := by
  obtain ⟨t, e⟩ := He.int_ok X G (c.d.fact 60 (f := .int "MOST_DEPTH" 24) rfl)
  exact ⟨.int 24, _, e, ⟨_, rfl⟩, fun _ => rfl⟩
theorem st_list_of {C : Cmn} {h : Heap} (X : C.K.In h) (G : h.Ns mainGlobals C.mg) (c : SaysV h_fa h_fn h_ex C.K) : Stands C "list_of" s_list_of ["items"] := stands_mk X G c.d 0 rfl (List.mem_of_getElem? (i := 0) rfl) fun _ _ _ _ _ _ us hl => match us, hl with | [_], _ => rfl
theorem st_map_of {C : Cmn} {h : Heap} (X : C.K.In h) (G : h.Ns mainGlobals C.mg) (c : SaysV h_fa h_fn h_ex C.K) : Stands C "map_of" s_map_of ["entries"] := stands_mk X G c.d 1 rfl (List.mem_of_getElem? (i := 1) rfl) fun _ _ _ _ _ _ us hl => match us, hl with | [_], _ => rfl
theorem st_parts {C : Cmn} {h : Heap} (X : C.K.In h) (G : h.Ns mainGlobals C.mg) (c : SaysV h_fa h_fn h_ex C.K) : Stands C "parts" s_parts ["value"] := stands_mk X G c.d 2 rfl (List.mem_of_getElem? (i := 2) rfl) fun _ _ _ _ _ _ us hl => match us, hl with | [_], _ => rfl
theorem st_depth {C : Cmn} {h : Heap} (X : C.K.In h) (G : h.Ns mainGlobals C.mg) (c : SaysV h_fa h_fn h_ex C.K) : Stands C "depth" s_depth ["value"] := stands_mk X G c.d 3 rfl (List.mem_of_getElem? (i := 3) rfl) fun _ _ _ _ _ _ us hl => match us, hl with | [_], _ => rfl
theorem st_steps_of {C : Cmn} {h : Heap} (X : C.K.In h) (G : h.Ns mainGlobals C.mg) (c : SaysV h_fa h_fn h_ex C.K) : Stands C "steps_of" s_steps_of ["value"] := stands_mk X G c.d 4 rfl (List.mem_of_getElem? (i := 4) rfl) fun _ _ _ _ _ _ us hl => match us, hl with | [_], _ => rfl
theorem st_part_at {C : Cmn} {h : Heap} (X : C.K.In h) (G : h.Ns mainGlobals C.mg) (c : SaysV h_fa h_fn h_ex C.K) : Stands C "part_at" s_part_at ["value", "path"] := stands_mk X G c.d 5 rfl (List.mem_of_getElem? (i := 5) rfl) fun _ _ _ _ _ _ us hl => match us, hl with | [_, _], _ => rfl
theorem st_made {C : Cmn} {h : Heap} (X : C.K.In h) (G : h.Ns mainGlobals C.mg) (c : SaysV h_fa h_fn h_ex C.K) : Stands C "made" s_made ["kind", "rows"] := stands_mk X G c.d 6 rfl (List.mem_of_getElem? (i := 6) rfl) fun _ _ _ _ _ _ us hl => match us, hl with | [_, _], _ => rfl
theorem st_put_at {C : Cmn} {h : Heap} (X : C.K.In h) (G : h.Ns mainGlobals C.mg) (c : SaysV h_fa h_fn h_ex C.K) : Stands C "put_at" s_put_at ["value", "path", "part"] := stands_mk X G c.d 7 rfl (List.mem_of_getElem? (i := 7) rfl) fun _ _ _ _ _ _ us hl => match us, hl with | [_, _, _], _ => rfl
theorem st_check_levels {C : Cmn} {h : Heap} (X : C.K.In h) (G : h.Ns mainGlobals C.mg) (c : SaysV h_fa h_fn h_ex C.K) : Stands C "check_levels" s_check_levels ["levels"] := stands_mk X G c.d 8 rfl (List.mem_of_getElem? (i := 8) rfl) fun _ _ _ _ _ _ us hl => match us, hl with | [_], _ => rfl
theorem st_check_step {C : Cmn} {h : Heap} (X : C.K.In h) (G : h.Ns mainGlobals C.mg) (c : SaysV h_fa h_fn h_ex C.K) : Stands C "check_step" s_check_step ["holder", "step"] := stands_mk X G c.d 9 rfl (List.mem_of_getElem? (i := 9) rfl) fun _ _ _ _ _ _ us hl => match us, hl with | [_, _], _ => rfl
theorem st_replaced {C : Cmn} {h : Heap} (X : C.K.In h) (G : h.Ns mainGlobals C.mg) (c : SaysV h_fa h_fn h_ex C.K) : Stands C "replaced" s_replaced ["value", "path", "part"] := stands_mk X G c.d 10 rfl (List.mem_of_getElem? (i := 10) rfl) fun _ _ _ _ _ _ us hl => match us, hl with | [_, _, _], _ => rfl
theorem st_removed {C : Cmn} {h : Heap} (X : C.K.In h) (G : h.Ns mainGlobals C.mg) (c : SaysV h_fa h_fn h_ex C.K) : Stands C "removed" s_removed ["value", "path"] := stands_mk X G c.d 11 rfl (List.mem_of_getElem? (i := 11) rfl) fun _ _ _ _ _ _ us hl => match us, hl with | [_, _], _ => rfl
theorem st_inserted {C : Cmn} {h : Heap} (X : C.K.In h) (G : h.Ns mainGlobals C.mg) (c : SaysV h_fa h_fn h_ex C.K) : Stands C "inserted" s_inserted ["value", "path", "step", "part"] := stands_mk X G c.d 12 rfl (List.mem_of_getElem? (i := 12) rfl) fun _ _ _ _ _ _ us hl => match us, hl with | [_, _, _, _], _ => rfl
theorem st_edited {C : Cmn} {h : Heap} (X : C.K.In h) (G : h.Ns mainGlobals C.mg) (c : SaysV h_fa h_fn h_ex C.K) : Stands C "edited" s_edited ["value", "edit"] := stands_mk X G c.d 13 rfl (List.mem_of_getElem? (i := 13) rfl) fun _ _ _ _ _ _ us hl => match us, hl with | [_, _], _ => rfl
theorem st_common {C : Cmn} {h : Heap} (X : C.K.In h) (G : h.Ns mainGlobals C.mg) (c : SaysV h_fa h_fn h_ex C.K) : Stands C "common" s_common ["old", "new"] := stands_mk X G c.d 14 rfl (List.mem_of_getElem? (i := 14) rfl) fun _ _ _ _ _ _ us hl => match us, hl with | [_, _], _ => rfl
theorem st_list_edits {C : Cmn} {h : Heap} (X : C.K.In h) (G : h.Ns mainGlobals C.mg) (c : SaysV h_fa h_fn h_ex C.K) : Stands C "list_edits" s_list_edits ["old", "new", "path"] := stands_mk X G c.d 15 rfl (List.mem_of_getElem? (i := 15) rfl) fun _ _ _ _ _ _ us hl => match us, hl with | [_, _, _], _ => rfl
theorem st_map_edits {C : Cmn} {h : Heap} (X : C.K.In h) (G : h.Ns mainGlobals C.mg) (c : SaysV h_fa h_fn h_ex C.K) : Stands C "map_edits" s_map_edits ["old", "new", "path"] := stands_mk X G c.d 16 rfl (List.mem_of_getElem? (i := 16) rfl) fun _ _ _ _ _ _ us hl => match us, hl with | [_, _, _], _ => rfl
theorem st_edits_at {C : Cmn} {h : Heap} (X : C.K.In h) (G : h.Ns mainGlobals C.mg) (c : SaysV h_fa h_fn h_ex C.K) : Stands C "edits_at" s_edits_at ["old", "new", "path"] := stands_mk X G c.d 17 rfl (List.mem_of_getElem? (i := 17) rfl) fun _ _ _ _ _ _ us hl => match us, hl with | [_, _, _], _ => rfl
theorem st_difference {C : Cmn} {h : Heap} (X : C.K.In h) (G : h.Ns mainGlobals C.mg) (c : SaysV h_fa h_fn h_ex C.K) : Stands C "difference" s_difference ["old", "new"] := stands_mk X G c.d 18 rfl (List.mem_of_getElem? (i := 18) rfl) fun _ _ _ _ _ _ us hl => match us, hl with | [_, _], _ => rfl
theorem st__law_cell {C : Cmn} {h : Heap} (X : C.K.In h) (G : h.Ns mainGlobals C.mg) (c : SaysV h_fa h_fn h_ex C.K) : Stands C "_law_cell" s__law_cell ["script", "k"] := stands_mk X G c.d 19 rfl (List.mem_of_getElem? (i := 19) rfl) fun _ _ _ _ _ _ us hl => match us, hl with | [_, _], _ => rfl
theorem st__law_numbers {C : Cmn} {h : Heap} (X : C.K.In h) (G : h.Ns mainGlobals C.mg) (c : SaysV h_fa h_fn h_ex C.K) : Stands C "_law_numbers" s__law_numbers ["cell", "many"] := stands_mk X G c.d 20 rfl (List.mem_of_getElem? (i := 20) rfl) fun _ _ _ _ _ _ us hl => match us, hl with | [_, _], _ => rfl
theorem st__law_state {C : Cmn} {h : Heap} (X : C.K.In h) (G : h.Ns mainGlobals C.mg) (c : SaysV h_fa h_fn h_ex C.K) : Stands C "_law_state" s__law_state ["script", "left"] := stands_mk X G c.d 21 rfl (List.mem_of_getElem? (i := 21) rfl) fun _ _ _ _ _ _ us hl => match us, hl with | [_, _], _ => rfl
theorem st__law_next {C : Cmn} {h : Heap} (X : C.K.In h) (G : h.Ns mainGlobals C.mg) (c : SaysV h_fa h_fn h_ex C.K) : Stands C "_law_next" s__law_next ["state", "many"] := stands_mk X G c.d 22 rfl (List.mem_of_getElem? (i := 22) rfl) fun _ _ _ _ _ _ us hl => match us, hl with | [_, _], _ => rfl
theorem st__law_same {C : Cmn} {h : Heap} (X : C.K.In h) (G : h.Ns mainGlobals C.mg) (c : SaysV h_fa h_fn h_ex C.K) : Stands C "_law_same" s__law_same ["told", "due"] := stands_mk X G c.d 23 rfl (List.mem_of_getElem? (i := 23) rfl) fun _ _ _ _ _ _ us hl => match us, hl with | [_, _], _ => rfl
theorem st__law_many {C : Cmn} {h : Heap} (X : C.K.In h) (G : h.Ns mainGlobals C.mg) (c : SaysV h_fa h_fn h_ex C.K) : Stands C "_law_many" s__law_many ["state", "wide"] := stands_mk X G c.d 24 rfl (List.mem_of_getElem? (i := 24) rfl) fun _ _ _ _ _ _ us hl => match us, hl with | [_, _], _ => rfl
theorem st__law_big {C : Cmn} {h : Heap} (X : C.K.In h) (G : h.Ns mainGlobals C.mg) (c : SaysV h_fa h_fn h_ex C.K) : Stands C "_law_big" s__law_big ["state", "many"] := stands_mk X G c.d 25 rfl (List.mem_of_getElem? (i := 25) rfl) fun _ _ _ _ _ _ us hl => match us, hl with | [_, _], _ => rfl
theorem st__law_normal {C : Cmn} {h : Heap} (X : C.K.In h) (G : h.Ns mainGlobals C.mg) (c : SaysV h_fa h_fn h_ex C.K) : Stands C "_law_normal" s__law_normal ["m", "e"] := stands_mk X G c.d 26 rfl (List.mem_of_getElem? (i := 26) rfl) fun _ _ _ _ _ _ us hl => match us, hl with | [_, _], _ => rfl
theorem st__law_number {C : Cmn} {h : Heap} (X : C.K.In h) (G : h.Ns mainGlobals C.mg) (c : SaysV h_fa h_fn h_ex C.K) : Stands C "_law_number" s__law_number ["state"] := stands_mk X G c.d 27 rfl (List.mem_of_getElem? (i := 27) rfl) fun _ _ _ _ _ _ us hl => match us, hl with | [_], _ => rfl
theorem st__law_points {C : Cmn} {h : Heap} (X : C.K.In h) (G : h.Ns mainGlobals C.mg) (c : SaysV h_fa h_fn h_ex C.K) : Stands C "_law_points" s__law_points ["state"] := stands_mk X G c.d 28 rfl (List.mem_of_getElem? (i := 28) rfl) fun _ _ _ _ _ _ us hl => match us, hl with | [_], _ => rfl
theorem st__law_octets {C : Cmn} {h : Heap} (X : C.K.In h) (G : h.Ns mainGlobals C.mg) (c : SaysV h_fa h_fn h_ex C.K) : Stands C "_law_octets" s__law_octets ["state"] := stands_mk X G c.d 29 rfl (List.mem_of_getElem? (i := 29) rfl) fun _ _ _ _ _ _ us hl => match us, hl with | [_], _ => rfl
theorem st__law_leaf {C : Cmn} {h : Heap} (X : C.K.In h) (G : h.Ns mainGlobals C.mg) (c : SaysV h_fa h_fn h_ex C.K) : Stands C "_law_leaf" s__law_leaf ["state", "kinds"] := stands_mk X G c.d 30 rfl (List.mem_of_getElem? (i := 30) rfl) fun _ _ _ _ _ _ us hl => match us, hl with | [_, _], _ => rfl
theorem st__law_value {C : Cmn} {h : Heap} (X : C.K.In h) (G : h.Ns mainGlobals C.mg) (c : SaysV h_fa h_fn h_ex C.K) : Stands C "_law_value" s__law_value ["state", "deep", "kinds", "has_maps"] := stands_mk X G c.d 31 rfl (List.mem_of_getElem? (i := 31) rfl) fun _ _ _ _ _ _ us hl => match us, hl with | [_, _, _, _], _ => rfl
theorem st__law_part {C : Cmn} {h : Heap} (X : C.K.In h) (G : h.Ns mainGlobals C.mg) (c : SaysV h_fa h_fn h_ex C.K) : Stands C "_law_part" s__law_part ["value", "path"] := stands_mk X G c.d 32 rfl (List.mem_of_getElem? (i := 32) rfl) fun _ _ _ _ _ _ us hl => match us, hl with | [_, _], _ => rfl
theorem st__law_steps {C : Cmn} {h : Heap} (X : C.K.In h) (G : h.Ns mainGlobals C.mg) (c : SaysV h_fa h_fn h_ex C.K) : Stands C "_law_steps" s__law_steps ["value"] := stands_mk X G c.d 33 rfl (List.mem_of_getElem? (i := 33) rfl) fun _ _ _ _ _ _ us hl => match us, hl with | [_], _ => rfl
theorem st__law_ways {C : Cmn} {h : Heap} (X : C.K.In h) (G : h.Ns mainGlobals C.mg) (c : SaysV h_fa h_fn h_ex C.K) : Stands C "_law_ways" s__law_ways ["value"] := stands_mk X G c.d 34 rfl (List.mem_of_getElem? (i := 34) rfl) fun _ _ _ _ _ _ us hl => match us, hl with | [_], _ => rfl
theorem st__law_drawn {C : Cmn} {h : Heap} (X : C.K.In h) (G : h.Ns mainGlobals C.mg) (c : SaysV h_fa h_fn h_ex C.K) : Stands C "_law_drawn" s__law_drawn ["state"] := stands_mk X G c.d 35 rfl (List.mem_of_getElem? (i := 35) rfl) fun _ _ _ _ _ _ us hl => match us, hl with | [_], _ => rfl
theorem st__law_small {C : Cmn} {h : Heap} (X : C.K.In h) (G : h.Ns mainGlobals C.mg) (c : SaysV h_fa h_fn h_ex C.K) : Stands C "_law_small" s__law_small ["state"] := stands_mk X G c.d 36 rfl (List.mem_of_getElem? (i := 36) rfl) fun _ _ _ _ _ _ us hl => match us, hl with | [_], _ => rfl
theorem st__law_edited {C : Cmn} {h : Heap} (X : C.K.In h) (G : h.Ns mainGlobals C.mg) (c : SaysV h_fa h_fn h_ex C.K) : Stands C "_law_edited" s__law_edited ["value", "way", "path", "step", "part"] := stands_mk X G c.d 37 rfl (List.mem_of_getElem? (i := 37) rfl) fun _ _ _ _ _ _ us hl => match us, hl with | [_, _, _, _, _], _ => rfl
theorem st__law_depth {C : Cmn} {h : Heap} (X : C.K.In h) (G : h.Ns mainGlobals C.mg) (c : SaysV h_fa h_fn h_ex C.K) : Stands C "_law_depth" s__law_depth ["value"] := stands_mk X G c.d 38 rfl (List.mem_of_getElem? (i := 38) rfl) fun _ _ _ _ _ _ us hl => match us, hl with | [_], _ => rfl
theorem st__law_refusal {C : Cmn} {h : Heap} (X : C.K.In h) (G : h.Ns mainGlobals C.mg) (c : SaysV h_fa h_fn h_ex C.K) : Stands C "_law_refusal" s__law_refusal ["value", "way", "path", "step", "part"] := stands_mk X G c.d 39 rfl (List.mem_of_getElem? (i := 39) rfl) fun _ _ _ _ _ _ us hl => match us, hl with | [_, _, _, _, _], _ => rfl
theorem st__law_path {C : Cmn} {h : Heap} (X : C.K.In h) (G : h.Ns mainGlobals C.mg) (c : SaysV h_fa h_fn h_ex C.K) : Stands C "_law_path" s__law_path ["state", "value"] := stands_mk X G c.d 40 rfl (List.mem_of_getElem? (i := 40) rfl) fun _ _ _ _ _ _ us hl => match us, hl with | [_, _], _ => rfl
theorem st__law_step {C : Cmn} {h : Heap} (X : C.K.In h) (G : h.Ns mainGlobals C.mg) (c : SaysV h_fa h_fn h_ex C.K) : Stands C "_law_step" s__law_step ["state", "value", "path"] := stands_mk X G c.d 41 rfl (List.mem_of_getElem? (i := 41) rfl) fun _ _ _ _ _ _ us hl => match us, hl with | [_, _, _], _ => rfl
theorem st__law_common {C : Cmn} {h : Heap} (X : C.K.In h) (G : h.Ns mainGlobals C.mg) (c : SaysV h_fa h_fn h_ex C.K) : Stands C "_law_common" s__law_common ["old", "new"] := stands_mk X G c.d 42 rfl (List.mem_of_getElem? (i := 42) rfl) fun _ _ _ _ _ _ us hl => match us, hl with | [_, _], _ => rfl
theorem st__law_between {C : Cmn} {h : Heap} (X : C.K.In h) (G : h.Ns mainGlobals C.mg) (c : SaysV h_fa h_fn h_ex C.K) : Stands C "_law_between" s__law_between ["old", "new", "path"] := stands_mk X G c.d 43 rfl (List.mem_of_getElem? (i := 43) rfl) fun _ _ _ _ _ _ us hl => match us, hl with | [_, _, _], _ => rfl
theorem st__law_edits {C : Cmn} {h : Heap} (X : C.K.In h) (G : h.Ns mainGlobals C.mg) (c : SaysV h_fa h_fn h_ex C.K) : Stands C "_law_edits" s__law_edits ["old", "new", "path"] := stands_mk X G c.d 44 rfl (List.mem_of_getElem? (i := 44) rfl) fun _ _ _ _ _ _ us hl => match us, hl with | [_, _, _], _ => rfl
theorem st__law_stirred {C : Cmn} {h : Heap} (X : C.K.In h) (G : h.Ns mainGlobals C.mg) (c : SaysV h_fa h_fn h_ex C.K) : Stands C "_law_stirred" s__law_stirred ["state", "value"] := stands_mk X G c.d 45 rfl (List.mem_of_getElem? (i := 45) rfl) fun _ _ _ _ _ _ us hl => match us, hl with | [_, _], _ => rfl
theorem st_law {C : Cmn} {h : Heap} (X : C.K.In h) (G : h.Ns mainGlobals C.mg) (c : SaysV h_fa h_fn h_ex C.K) : Stands C "law" s_law ["script"] := stands_mk X G c.d 46 rfl (List.mem_of_getElem? (i := 46) rfl) fun _ _ _ _ _ _ us hl => match us, hl with | [_], _ => rfl
theorem ex_Astray {C : Cmn} {h : Heap} (X : C.K.In h) (G : h.Ns mainGlobals C.mg) (c : SaysV h_fa h_fn h_ex C.K) : ExcT C "Astray" (He.ga C.K "Astray") := by
  obtain ⟨fd, F⟩ := c.d.def_ 49 (d := ⟨("Astray", some "__init__"), "__init__", "AlikeError.__init__", defArgs s_init_Astray, defBody s_init_Astray, defScope s_init_Astray, [.non], []⟩) rfl
  have Sc : FnScope ["self", "what"] ["self", "what"] (defScope s_init_Astray) := ⟨rfl, rfl, rfl, by decide +kernel, rfl, by decide +kernel, by decide +kernel⟩
  obtain ⟨ds, hv, hb⟩ := FunD.binds1 (ps := ["self", "what"]) F 2 1 (fun z => by cases z) rfl (fun T kV doc pm an cdv ct us its hu hi => match us, hu, its, hi with | [_, _], _, [_], _ => ⟨_, rfl, rfl⟩)
  have e0 : ds = [] := by cases hv; rfl
  subst e0
  have m := c.more
  simp only [h_ex, Bool.and_eq_true] at m
  exact excT_mk X G (by simp only [m]) rfl (init_ok F Sc (by decide +kernel) (by decide +kernel)) hb
theorem ex_Doubled {C : Cmn} {h : Heap} (X : C.K.In h) (G : h.Ns mainGlobals C.mg) (c : SaysV h_fa h_fn h_ex C.K) : ExcT C "Doubled" (He.ga C.K "Doubled") := by
  obtain ⟨fd, F⟩ := c.d.def_ 48 (d := ⟨("Doubled", some "__init__"), "__init__", "AlikeError.__init__", defArgs s_init_Doubled, defBody s_init_Doubled, defScope s_init_Doubled, [.non], []⟩) rfl
  have Sc : FnScope ["self", "what"] ["self", "what"] (defScope s_init_Doubled) := ⟨rfl, rfl, rfl, by decide +kernel, rfl, by decide +kernel, by decide +kernel⟩
  obtain ⟨ds, hv, hb⟩ := FunD.binds1 (ps := ["self", "what"]) F 2 1 (fun z => by cases z) rfl (fun T kV doc pm an cdv ct us its hu hi => match us, hu, its, hi with | [_, _], _, [_], _ => ⟨_, rfl, rfl⟩)
  have e0 : ds = [] := by cases hv; rfl
  subst e0
  have m := c.more
  simp only [h_ex, Bool.and_eq_true] at m
  exact excT_mk X G (by simp only [m]) rfl (init_ok F Sc (by decide +kernel) (by decide +kernel)) hb
theorem ex_Misplaced {C : Cmn} {h : Heap} (X : C.K.In h) (G : h.Ns mainGlobals C.mg) (c : SaysV h_fa h_fn h_ex C.K) : ExcT C "Misplaced" (He.ga C.K "Misplaced") := by
  obtain ⟨fd, F⟩ := c.d.def_ 50 (d := ⟨("Misplaced", some "__init__"), "__init__", "AlikeError.__init__", defArgs s_init_Misplaced, defBody s_init_Misplaced, defScope s_init_Misplaced, [.non], []⟩) rfl
  have Sc : FnScope ["self", "what"] ["self", "what"] (defScope s_init_Misplaced) := ⟨rfl, rfl, rfl, by decide +kernel, rfl, by decide +kernel, by decide +kernel⟩
  obtain ⟨ds, hv, hb⟩ := FunD.binds1 (ps := ["self", "what"]) F 2 1 (fun z => by cases z) rfl (fun T kV doc pm an cdv ct us its hu hi => match us, hu, its, hi with | [_, _], _, [_], _ => ⟨_, rfl, rfl⟩)
  have e0 : ds = [] := by cases hv; rfl
  subst e0
  have m := c.more
  simp only [h_ex, Bool.and_eq_true] at m
  exact excT_mk X G (by simp only [m]) rfl (init_ok F Sc (by decide +kernel) (by decide +kernel)) hb
theorem ex_Overdeep {C : Cmn} {h : Heap} (X : C.K.In h) (G : h.Ns mainGlobals C.mg) (c : SaysV h_fa h_fn h_ex C.K) : ExcT C "Overdeep" (He.ga C.K "Overdeep") := by
  obtain ⟨fd, F⟩ := c.d.def_ 51 (d := ⟨("Overdeep", some "__init__"), "__init__", "AlikeError.__init__", defArgs s_init_Overdeep, defBody s_init_Overdeep, defScope s_init_Overdeep, [.non], []⟩) rfl
  have Sc : FnScope ["self", "what"] ["self", "what"] (defScope s_init_Overdeep) := ⟨rfl, rfl, rfl, by decide +kernel, rfl, by decide +kernel, by decide +kernel⟩
  obtain ⟨ds, hv, hb⟩ := FunD.binds1 (ps := ["self", "what"]) F 2 1 (fun z => by cases z) rfl (fun T kV doc pm an cdv ct us its hu hi => match us, hu, its, hi with | [_, _], _, [_], _ => ⟨_, rfl, rfl⟩)
  have e0 : ds = [] := by cases hv; rfl
  subst e0
  have m := c.more
  simp only [h_ex, Bool.and_eq_true] at m
  exact excT_mk X G (by simp only [m]) rfl (init_ok F Sc (by decide +kernel) (by decide +kernel)) hb
theorem ok_list_of {C : Cmn} {h : Heap} (X : C.K.In h) (G : h.Ns mainGlobals C.mg) (c : SaysV h_fa h_fn h_ex C.K) : DefOk C 1 "list_of" sp_listof := (st_list_of X G c).ok sc_list_of (fun ds S Q E z => by first | (obtain ⟨rfl, _⟩ := z; rfl) | (obtain ⟨_, rfl, _⟩ := z; rfl) | (obtain ⟨_, _, rfl, _⟩ := z; rfl) | (obtain ⟨_, _, _, rfl, _⟩ := z; rfl) | (obtain ⟨_, _, _, _, rfl, _⟩ := z; rfl) | (obtain ⟨_, _, _, _, _, rfl, _⟩ := z; rfl) | (obtain ⟨_, _, _, _, _, _, rfl, _⟩ := z; rfl) | (obtain ⟨_, _, _, _, _, _, _, rfl, _⟩ := z; rfl) | (obtain ⟨_, _, _, _, _, _, _, _, rfl, _⟩ := z; rfl) | (obtain ⟨_, _, _, _, _, _, _, _, _, rfl, _⟩ := z; rfl) | (obtain ⟨_, _, _, _, _, _, _, _, _, _, rfl, _⟩ := z; rfl) | (obtain ⟨_, _, _, _, _, _, _, _, _, _, _, rfl, _⟩ := z; rfl) | (obtain ⟨_, _, _, _, _, _, _, _, _, _, _, _, rfl, _⟩ := z; rfl) | (obtain ⟨_, _, _, _, _, _, _, _, _, _, _, _, _, rfl, _⟩ := z; rfl)) (dv_list_of (k := 0) (z_tuple X G c)) (w_listof)
theorem ok_map_of {C : Cmn} {h : Heap} (X : C.K.In h) (G : h.Ns mainGlobals C.mg) (c : SaysV h_fa h_fn h_ex C.K) : DefOk C 3 "map_of" sp_mapof := (st_map_of X G c).ok sc_map_of (fun ds S Q E z => by first | (obtain ⟨rfl, _⟩ := z; rfl) | (obtain ⟨_, rfl, _⟩ := z; rfl) | (obtain ⟨_, _, rfl, _⟩ := z; rfl) | (obtain ⟨_, _, _, rfl, _⟩ := z; rfl) | (obtain ⟨_, _, _, _, rfl, _⟩ := z; rfl) | (obtain ⟨_, _, _, _, _, rfl, _⟩ := z; rfl) | (obtain ⟨_, _, _, _, _, _, rfl, _⟩ := z; rfl) | (obtain ⟨_, _, _, _, _, _, _, rfl, _⟩ := z; rfl) | (obtain ⟨_, _, _, _, _, _, _, _, rfl, _⟩ := z; rfl) | (obtain ⟨_, _, _, _, _, _, _, _, _, rfl, _⟩ := z; rfl) | (obtain ⟨_, _, _, _, _, _, _, _, _, _, rfl, _⟩ := z; rfl) | (obtain ⟨_, _, _, _, _, _, _, _, _, _, _, rfl, _⟩ := z; rfl) | (obtain ⟨_, _, _, _, _, _, _, _, _, _, _, _, rfl, _⟩ := z; rfl) | (obtain ⟨_, _, _, _, _, _, _, _, _, _, _, _, _, rfl, _⟩ := z; rfl)) (dv_map_of (k := 0) (z_list X G c) (z_sorted X G c) (z_tuple X G c) (ex_Doubled X G c)) (w_mapof (He.ga C.K "Doubled"))
theorem ok_parts {C : Cmn} {h : Heap} (X : C.K.In h) (G : h.Ns mainGlobals C.mg) (c : SaysV h_fa h_fn h_ex C.K) : DefOk C 1 "parts" sp_parts := (st_parts X G c).ok sc_parts (fun ds S Q E z => by first | (obtain ⟨rfl, _⟩ := z; rfl) | (obtain ⟨_, rfl, _⟩ := z; rfl) | (obtain ⟨_, _, rfl, _⟩ := z; rfl) | (obtain ⟨_, _, _, rfl, _⟩ := z; rfl) | (obtain ⟨_, _, _, _, rfl, _⟩ := z; rfl) | (obtain ⟨_, _, _, _, _, rfl, _⟩ := z; rfl) | (obtain ⟨_, _, _, _, _, _, rfl, _⟩ := z; rfl) | (obtain ⟨_, _, _, _, _, _, _, rfl, _⟩ := z; rfl) | (obtain ⟨_, _, _, _, _, _, _, _, rfl, _⟩ := z; rfl) | (obtain ⟨_, _, _, _, _, _, _, _, _, rfl, _⟩ := z; rfl) | (obtain ⟨_, _, _, _, _, _, _, _, _, _, rfl, _⟩ := z; rfl) | (obtain ⟨_, _, _, _, _, _, _, _, _, _, _, rfl, _⟩ := z; rfl) | (obtain ⟨_, _, _, _, _, _, _, _, _, _, _, _, rfl, _⟩ := z; rfl) | (obtain ⟨_, _, _, _, _, _, _, _, _, _, _, _, _, rfl, _⟩ := z; rfl)) (dv_parts (k := 0) (z_tuple X G c)) (w_parts)
theorem rec_depth {C : Cmn} {h : Heap} (X : C.K.In h) (G : h.Ns mainGlobals C.mg) (c : SaysV h_fa h_fn h_ex C.K) : ∀ n, DefOk C (n + 1) "depth" (sp_depth n)
  | 0 => ((st_depth X G c).none (fun ds S Q E z => by first | (obtain ⟨_, hz, _⟩ := z; exact absurd hz (Nat.not_lt_zero _)) | (obtain ⟨_, _, hz, _⟩ := z; exact absurd hz (Nat.not_lt_zero _)) | (obtain ⟨_, _, _, hz, _⟩ := z; exact absurd hz (Nat.not_lt_zero _)) | (obtain ⟨_, _, _, _, hz, _⟩ := z; exact absurd hz (Nat.not_lt_zero _)) | (obtain ⟨_, _, _, _, _, hz, _⟩ := z; exact absurd hz (Nat.not_lt_zero _)) | (obtain ⟨_, _, _, _, _, _, hz, _⟩ := z; exact absurd hz (Nat.not_lt_zero _)) | (obtain ⟨_, _, _, _, _, _, _, hz, _⟩ := z; exact absurd hz (Nat.not_lt_zero _)) | (obtain ⟨_, _, _, _, _, _, _, _, hz, _⟩ := z; exact absurd hz (Nat.not_lt_zero _)) | (obtain ⟨_, _, _, _, _, _, _, _, _, hz, _⟩ := z; exact absurd hz (Nat.not_lt_zero _)) | (obtain ⟨_, _, _, _, _, _, _, _, _, _, hz, _⟩ := z; exact absurd hz (Nat.not_lt_zero _)) | (obtain ⟨_, _, _, _, _, _, _, _, _, _, _, hz, _⟩ := z; exact absurd hz (Nat.not_lt_zero _)))).mono (Nat.zero_le _)
  | n + 1 => (st_depth X G c).ok sc_depth (fun ds S Q E z => by first | (obtain ⟨rfl, _⟩ := z; rfl) | (obtain ⟨_, rfl, _⟩ := z; rfl) | (obtain ⟨_, _, rfl, _⟩ := z; rfl) | (obtain ⟨_, _, _, rfl, _⟩ := z; rfl) | (obtain ⟨_, _, _, _, rfl, _⟩ := z; rfl) | (obtain ⟨_, _, _, _, _, rfl, _⟩ := z; rfl) | (obtain ⟨_, _, _, _, _, _, rfl, _⟩ := z; rfl) | (obtain ⟨_, _, _, _, _, _, _, rfl, _⟩ := z; rfl) | (obtain ⟨_, _, _, _, _, _, _, _, rfl, _⟩ := z; rfl) | (obtain ⟨_, _, _, _, _, _, _, _, _, rfl, _⟩ := z; rfl) | (obtain ⟨_, _, _, _, _, _, _, _, _, _, rfl, _⟩ := z; rfl) | (obtain ⟨_, _, _, _, _, _, _, _, _, _, _, rfl, _⟩ := z; rfl) | (obtain ⟨_, _, _, _, _, _, _, _, _, _, _, _, rfl, _⟩ := z; rfl) | (obtain ⟨_, _, _, _, _, _, _, _, _, _, _, _, _, rfl, _⟩ := z; rfl)) (dv_depth (k := n + 1) (z_max X G c) (rec_depth X G c n) ((ok_parts X G c).mono (by omega))) (w_pdepth n)
theorem ok_depth {C : Cmn} {h : Heap} (X : C.K.In h) (G : h.Ns mainGlobals C.mg) (c : SaysV h_fa h_fn h_ex C.K) : DefOk C 62 "depth" (sp_depth 61) := rec_depth X G c 61
theorem ok_steps_of {C : Cmn} {h : Heap} (X : C.K.In h) (G : h.Ns mainGlobals C.mg) (c : SaysV h_fa h_fn h_ex C.K) : DefOk C 1 "steps_of" sp_osteps := (st_steps_of X G c).ok sc_steps_of (fun ds S Q E z => by first | (obtain ⟨rfl, _⟩ := z; rfl) | (obtain ⟨_, rfl, _⟩ := z; rfl) | (obtain ⟨_, _, rfl, _⟩ := z; rfl) | (obtain ⟨_, _, _, rfl, _⟩ := z; rfl) | (obtain ⟨_, _, _, _, rfl, _⟩ := z; rfl) | (obtain ⟨_, _, _, _, _, rfl, _⟩ := z; rfl) | (obtain ⟨_, _, _, _, _, _, rfl, _⟩ := z; rfl) | (obtain ⟨_, _, _, _, _, _, _, rfl, _⟩ := z; rfl) | (obtain ⟨_, _, _, _, _, _, _, _, rfl, _⟩ := z; rfl) | (obtain ⟨_, _, _, _, _, _, _, _, _, rfl, _⟩ := z; rfl) | (obtain ⟨_, _, _, _, _, _, _, _, _, _, rfl, _⟩ := z; rfl) | (obtain ⟨_, _, _, _, _, _, _, _, _, _, _, rfl, _⟩ := z; rfl) | (obtain ⟨_, _, _, _, _, _, _, _, _, _, _, _, rfl, _⟩ := z; rfl) | (obtain ⟨_, _, _, _, _, _, _, _, _, _, _, _, _, rfl, _⟩ := z; rfl)) (dv_steps_of (k := 0) (z_enumerate X G c) (z_list X G c)) (w_steps)
theorem ok_part_at {C : Cmn} {h : Heap} (X : C.K.In h) (G : h.Ns mainGlobals C.mg) (c : SaysV h_fa h_fn h_ex C.K) : DefOk C 3 "part_at" (sp_part (He.ga C.K "Astray")) := (st_part_at X G c).ok sc_part_at (fun ds S Q E z => by first | (obtain ⟨rfl, _⟩ := z; rfl) | (obtain ⟨_, rfl, _⟩ := z; rfl) | (obtain ⟨_, _, rfl, _⟩ := z; rfl) | (obtain ⟨_, _, _, rfl, _⟩ := z; rfl) | (obtain ⟨_, _, _, _, rfl, _⟩ := z; rfl) | (obtain ⟨_, _, _, _, _, rfl, _⟩ := z; rfl) | (obtain ⟨_, _, _, _, _, _, rfl, _⟩ := z; rfl) | (obtain ⟨_, _, _, _, _, _, _, rfl, _⟩ := z; rfl) | (obtain ⟨_, _, _, _, _, _, _, _, rfl, _⟩ := z; rfl) | (obtain ⟨_, _, _, _, _, _, _, _, _, rfl, _⟩ := z; rfl) | (obtain ⟨_, _, _, _, _, _, _, _, _, _, rfl, _⟩ := z; rfl) | (obtain ⟨_, _, _, _, _, _, _, _, _, _, _, rfl, _⟩ := z; rfl) | (obtain ⟨_, _, _, _, _, _, _, _, _, _, _, _, rfl, _⟩ := z; rfl) | (obtain ⟨_, _, _, _, _, _, _, _, _, _, _, _, _, rfl, _⟩ := z; rfl)) (dv_part_at (k := 0) (z_tuple X G c) (ex_Astray X G c) ((ok_steps_of X G c).mono (by omega))) (w_part (He.ga C.K "Astray"))
theorem ok_made {C : Cmn} {h : Heap} (X : C.K.In h) (G : h.Ns mainGlobals C.mg) (c : SaysV h_fa h_fn h_ex C.K) : DefOk C 4 "made" sp_made := (st_made X G c).ok sc_made (fun ds S Q E z => by rcases z with ⟨_, rfl, _⟩ | ⟨_, rfl, _⟩ <;> rfl) (dv_made (k := 3) ((ok_list_of X G c).mono (by omega)) ((ok_map_of X G c).mono (by omega))) (w_made)
theorem rec_put_at {C : Cmn} {h : Heap} (X : C.K.In h) (G : h.Ns mainGlobals C.mg) (c : SaysV h_fa h_fn h_ex C.K) : ∀ n, DefOk C (n + 4) "put_at" (sp_put n)
  | 0 => ((st_put_at X G c).none (fun ds S Q E z => by first | (obtain ⟨_, hz, _⟩ := z; exact absurd hz (Nat.not_lt_zero _)) | (obtain ⟨_, _, hz, _⟩ := z; exact absurd hz (Nat.not_lt_zero _)) | (obtain ⟨_, _, _, hz, _⟩ := z; exact absurd hz (Nat.not_lt_zero _)) | (obtain ⟨_, _, _, _, hz, _⟩ := z; exact absurd hz (Nat.not_lt_zero _)) | (obtain ⟨_, _, _, _, _, hz, _⟩ := z; exact absurd hz (Nat.not_lt_zero _)) | (obtain ⟨_, _, _, _, _, _, hz, _⟩ := z; exact absurd hz (Nat.not_lt_zero _)) | (obtain ⟨_, _, _, _, _, _, _, hz, _⟩ := z; exact absurd hz (Nat.not_lt_zero _)) | (obtain ⟨_, _, _, _, _, _, _, _, hz, _⟩ := z; exact absurd hz (Nat.not_lt_zero _)) | (obtain ⟨_, _, _, _, _, _, _, _, _, hz, _⟩ := z; exact absurd hz (Nat.not_lt_zero _)) | (obtain ⟨_, _, _, _, _, _, _, _, _, _, hz, _⟩ := z; exact absurd hz (Nat.not_lt_zero _)) | (obtain ⟨_, _, _, _, _, _, _, _, _, _, _, hz, _⟩ := z; exact absurd hz (Nat.not_lt_zero _)))).mono (Nat.zero_le _)
  | n + 1 => (st_put_at X G c).ok sc_put_at (fun ds S Q E z => by first | (obtain ⟨rfl, _⟩ := z; rfl) | (obtain ⟨_, rfl, _⟩ := z; rfl) | (obtain ⟨_, _, rfl, _⟩ := z; rfl) | (obtain ⟨_, _, _, rfl, _⟩ := z; rfl) | (obtain ⟨_, _, _, _, rfl, _⟩ := z; rfl) | (obtain ⟨_, _, _, _, _, rfl, _⟩ := z; rfl) | (obtain ⟨_, _, _, _, _, _, rfl, _⟩ := z; rfl) | (obtain ⟨_, _, _, _, _, _, _, rfl, _⟩ := z; rfl) | (obtain ⟨_, _, _, _, _, _, _, _, rfl, _⟩ := z; rfl) | (obtain ⟨_, _, _, _, _, _, _, _, _, rfl, _⟩ := z; rfl) | (obtain ⟨_, _, _, _, _, _, _, _, _, _, rfl, _⟩ := z; rfl) | (obtain ⟨_, _, _, _, _, _, _, _, _, _, _, rfl, _⟩ := z; rfl) | (obtain ⟨_, _, _, _, _, _, _, _, _, _, _, _, rfl, _⟩ := z; rfl) | (obtain ⟨_, _, _, _, _, _, _, _, _, _, _, _, _, rfl, _⟩ := z; rfl)) (dv_put_at (k := n + 4) (z_len X G c) ((ok_made X G c).mono (by omega)) (rec_put_at X G c n) ((ok_steps_of X G c).mono (by omega))) (w_put n)
theorem ok_put_at {C : Cmn} {h : Heap} (X : C.K.In h) (G : h.Ns mainGlobals C.mg) (c : SaysV h_fa h_fn h_ex C.K) : DefOk C 65 "put_at" (sp_put 61) := rec_put_at X G c 61
theorem ok_check_levels {C : Cmn} {h : Heap} (X : C.K.In h) (G : h.Ns mainGlobals C.mg) (c : SaysV h_fa h_fn h_ex C.K) : DefOk C 3 "check_levels" (sp_levels (He.ga C.K "Overdeep")) := (st_check_levels X G c).ok sc_check_levels (fun ds S Q E z => by first | (obtain ⟨rfl, _⟩ := z; rfl) | (obtain ⟨_, rfl, _⟩ := z; rfl) | (obtain ⟨_, _, rfl, _⟩ := z; rfl) | (obtain ⟨_, _, _, rfl, _⟩ := z; rfl) | (obtain ⟨_, _, _, _, rfl, _⟩ := z; rfl) | (obtain ⟨_, _, _, _, _, rfl, _⟩ := z; rfl) | (obtain ⟨_, _, _, _, _, _, rfl, _⟩ := z; rfl) | (obtain ⟨_, _, _, _, _, _, _, rfl, _⟩ := z; rfl) | (obtain ⟨_, _, _, _, _, _, _, _, rfl, _⟩ := z; rfl) | (obtain ⟨_, _, _, _, _, _, _, _, _, rfl, _⟩ := z; rfl) | (obtain ⟨_, _, _, _, _, _, _, _, _, _, rfl, _⟩ := z; rfl) | (obtain ⟨_, _, _, _, _, _, _, _, _, _, _, rfl, _⟩ := z; rfl) | (obtain ⟨_, _, _, _, _, _, _, _, _, _, _, _, rfl, _⟩ := z; rfl) | (obtain ⟨_, _, _, _, _, _, _, _, _, _, _, _, _, rfl, _⟩ := z; rfl)) (dv_check_levels (k := 0) (ex_Overdeep X G c) (z_MOST_DEPTH X G c)) (w_levels (He.ga C.K "Overdeep"))
theorem ok_check_step {C : Cmn} {h : Heap} (X : C.K.In h) (G : h.Ns mainGlobals C.mg) (c : SaysV h_fa h_fn h_ex C.K) : DefOk C 3 "check_step" (sp_step (He.ga C.K "Misplaced")) := (st_check_step X G c).ok sc_check_step (fun ds S Q E z => by first | (obtain ⟨rfl, _⟩ := z; rfl) | (obtain ⟨_, rfl, _⟩ := z; rfl) | (obtain ⟨_, _, rfl, _⟩ := z; rfl) | (obtain ⟨_, _, _, rfl, _⟩ := z; rfl) | (obtain ⟨_, _, _, _, rfl, _⟩ := z; rfl) | (obtain ⟨_, _, _, _, _, rfl, _⟩ := z; rfl) | (obtain ⟨_, _, _, _, _, _, rfl, _⟩ := z; rfl) | (obtain ⟨_, _, _, _, _, _, _, rfl, _⟩ := z; rfl) | (obtain ⟨_, _, _, _, _, _, _, _, rfl, _⟩ := z; rfl) | (obtain ⟨_, _, _, _, _, _, _, _, _, rfl, _⟩ := z; rfl) | (obtain ⟨_, _, _, _, _, _, _, _, _, _, rfl, _⟩ := z; rfl) | (obtain ⟨_, _, _, _, _, _, _, _, _, _, _, rfl, _⟩ := z; rfl) | (obtain ⟨_, _, _, _, _, _, _, _, _, _, _, _, rfl, _⟩ := z; rfl) | (obtain ⟨_, _, _, _, _, _, _, _, _, _, _, _, _, rfl, _⟩ := z; rfl)) (dv_check_step (k := 0) (z_int X G c) (z_isinstance X G c) (z_len X G c) (z_tuple X G c) (ex_Misplaced X G c)) (w_step (He.ga C.K "Misplaced"))
theorem ok_replaced {C : Cmn} {h : Heap} (X : C.K.In h) (G : h.Ns mainGlobals C.mg) (c : SaysV h_fa h_fn h_ex C.K) : DefOk C 66 "replaced" (sp_replaced (He.ga C.K "Astray") (He.ga C.K "Misplaced") (He.ga C.K "Overdeep")) := (st_replaced X G c).ok sc_replaced (fun ds S Q E z => by first | (obtain ⟨rfl, _⟩ := z; rfl) | (obtain ⟨_, rfl, _⟩ := z; rfl) | (obtain ⟨_, _, rfl, _⟩ := z; rfl) | (obtain ⟨_, _, _, rfl, _⟩ := z; rfl) | (obtain ⟨_, _, _, _, rfl, _⟩ := z; rfl) | (obtain ⟨_, _, _, _, _, rfl, _⟩ := z; rfl) | (obtain ⟨_, _, _, _, _, _, rfl, _⟩ := z; rfl) | (obtain ⟨_, _, _, _, _, _, _, rfl, _⟩ := z; rfl) | (obtain ⟨_, _, _, _, _, _, _, _, rfl, _⟩ := z; rfl) | (obtain ⟨_, _, _, _, _, _, _, _, _, rfl, _⟩ := z; rfl) | (obtain ⟨_, _, _, _, _, _, _, _, _, _, rfl, _⟩ := z; rfl) | (obtain ⟨_, _, _, _, _, _, _, _, _, _, _, rfl, _⟩ := z; rfl) | (obtain ⟨_, _, _, _, _, _, _, _, _, _, _, _, rfl, _⟩ := z; rfl) | (obtain ⟨_, _, _, _, _, _, _, _, _, _, _, _, _, rfl, _⟩ := z; rfl)) (dv_replaced (k := 65) (z_len X G c) ((ok_check_levels X G c).mono (by omega)) ((ok_depth X G c).mono (by omega)) ((ok_part_at X G c).mono (by omega)) ((ok_put_at X G c).mono (by omega))) (w_replaced (He.ga C.K "Astray") (He.ga C.K "Misplaced") (He.ga C.K "Overdeep"))
theorem ok_removed {C : Cmn} {h : Heap} (X : C.K.In h) (G : h.Ns mainGlobals C.mg) (c : SaysV h_fa h_fn h_ex C.K) : DefOk C 66 "removed" (sp_removed (He.ga C.K "Astray") (He.ga C.K "Misplaced") (He.ga C.K "Overdeep")) := (st_removed X G c).ok sc_removed (fun ds S Q E z => by first | (obtain ⟨rfl, _⟩ := z; rfl) | (obtain ⟨_, rfl, _⟩ := z; rfl) | (obtain ⟨_, _, rfl, _⟩ := z; rfl) | (obtain ⟨_, _, _, rfl, _⟩ := z; rfl) | (obtain ⟨_, _, _, _, rfl, _⟩ := z; rfl) | (obtain ⟨_, _, _, _, _, rfl, _⟩ := z; rfl) | (obtain ⟨_, _, _, _, _, _, rfl, _⟩ := z; rfl) | (obtain ⟨_, _, _, _, _, _, _, rfl, _⟩ := z; rfl) | (obtain ⟨_, _, _, _, _, _, _, _, rfl, _⟩ := z; rfl) | (obtain ⟨_, _, _, _, _, _, _, _, _, rfl, _⟩ := z; rfl) | (obtain ⟨_, _, _, _, _, _, _, _, _, _, rfl, _⟩ := z; rfl) | (obtain ⟨_, _, _, _, _, _, _, _, _, _, _, rfl, _⟩ := z; rfl) | (obtain ⟨_, _, _, _, _, _, _, _, _, _, _, _, rfl, _⟩ := z; rfl) | (obtain ⟨_, _, _, _, _, _, _, _, _, _, _, _, _, rfl, _⟩ := z; rfl)) (dv_removed (k := 63) (z_len X G c) (ex_Astray X G c) ((ok_made X G c).mono (by omega)) ((ok_part_at X G c).mono (by omega)) ((ok_put_at X G c).mono (by omega)) ((ok_steps_of X G c).mono (by omega))) (w_removed (He.ga C.K "Astray") (He.ga C.K "Misplaced") (He.ga C.K "Overdeep"))
theorem ok_inserted {C : Cmn} {h : Heap} (X : C.K.In h) (G : h.Ns mainGlobals C.mg) (c : SaysV h_fa h_fn h_ex C.K) : DefOk C 66 "inserted" (sp_inserted (He.ga C.K "Astray") (He.ga C.K "Misplaced") (He.ga C.K "Overdeep")) := (st_inserted X G c).ok sc_inserted (fun ds S Q E z => by first | (obtain ⟨rfl, _⟩ := z; rfl) | (obtain ⟨_, rfl, _⟩ := z; rfl) | (obtain ⟨_, _, rfl, _⟩ := z; rfl) | (obtain ⟨_, _, _, rfl, _⟩ := z; rfl) | (obtain ⟨_, _, _, _, rfl, _⟩ := z; rfl) | (obtain ⟨_, _, _, _, _, rfl, _⟩ := z; rfl) | (obtain ⟨_, _, _, _, _, _, rfl, _⟩ := z; rfl) | (obtain ⟨_, _, _, _, _, _, _, rfl, _⟩ := z; rfl) | (obtain ⟨_, _, _, _, _, _, _, _, rfl, _⟩ := z; rfl) | (obtain ⟨_, _, _, _, _, _, _, _, _, rfl, _⟩ := z; rfl) | (obtain ⟨_, _, _, _, _, _, _, _, _, _, rfl, _⟩ := z; rfl) | (obtain ⟨_, _, _, _, _, _, _, _, _, _, _, rfl, _⟩ := z; rfl) | (obtain ⟨_, _, _, _, _, _, _, _, _, _, _, _, rfl, _⟩ := z; rfl) | (obtain ⟨_, _, _, _, _, _, _, _, _, _, _, _, _, rfl, _⟩ := z; rfl)) (dv_inserted (k := 65) (z_len X G c) ((ok_check_levels X G c).mono (by omega)) ((ok_check_step X G c).mono (by omega)) ((ok_depth X G c).mono (by omega)) ((ok_made X G c).mono (by omega)) ((ok_part_at X G c).mono (by omega)) ((ok_put_at X G c).mono (by omega)) ((ok_steps_of X G c).mono (by omega))) (w_inserted (He.ga C.K "Astray") (He.ga C.K "Misplaced") (He.ga C.K "Overdeep"))
theorem ok_edited {C : Cmn} {h : Heap} (X : C.K.In h) (G : h.Ns mainGlobals C.mg) (c : SaysV h_fa h_fn h_ex C.K) : DefOk C 67 "edited" (sp_edited (He.ga C.K "Astray") (He.ga C.K "Misplaced") (He.ga C.K "Overdeep")) := (st_edited X G c).ok sc_edited (fun ds S Q E z => by obtain ⟨_, _, _, _, _, _, (⟨rfl, _⟩ | ⟨rfl, _⟩ | ⟨rfl, _⟩)⟩ := z <;> rfl) (dv_edited (k := 66) ((ok_inserted X G c).mono (by omega)) ((ok_removed X G c).mono (by omega)) ((ok_replaced X G c).mono (by omega))) (w_edited (He.ga C.K "Astray") (He.ga C.K "Misplaced") (He.ga C.K "Overdeep"))
theorem ok_common {C : Cmn} {h : Heap} (X : C.K.In h) (G : h.Ns mainGlobals C.mg) (c : SaysV h_fa h_fn h_ex C.K) : DefOk C 1 "common" sp_common := (st_common X G c).ok sc_common (fun ds S Q E z => by first | (obtain ⟨rfl, _⟩ := z; rfl) | (obtain ⟨_, rfl, _⟩ := z; rfl) | (obtain ⟨_, _, rfl, _⟩ := z; rfl) | (obtain ⟨_, _, _, rfl, _⟩ := z; rfl) | (obtain ⟨_, _, _, _, rfl, _⟩ := z; rfl) | (obtain ⟨_, _, _, _, _, rfl, _⟩ := z; rfl) | (obtain ⟨_, _, _, _, _, _, rfl, _⟩ := z; rfl) | (obtain ⟨_, _, _, _, _, _, _, rfl, _⟩ := z; rfl) | (obtain ⟨_, _, _, _, _, _, _, _, rfl, _⟩ := z; rfl) | (obtain ⟨_, _, _, _, _, _, _, _, _, rfl, _⟩ := z; rfl) | (obtain ⟨_, _, _, _, _, _, _, _, _, _, rfl, _⟩ := z; rfl) | (obtain ⟨_, _, _, _, _, _, _, _, _, _, _, rfl, _⟩ := z; rfl) | (obtain ⟨_, _, _, _, _, _, _, _, _, _, _, _, rfl, _⟩ := z; rfl) | (obtain ⟨_, _, _, _, _, _, _, _, _, _, _, _, _, rfl, _⟩ := z; rfl)) (dv_common (k := 0) (z_len X G c)) (w_common)
theorem rec_edits_at {C : Cmn} {h : Heap} (X : C.K.In h) (G : h.Ns mainGlobals C.mg) (c : SaysV h_fa h_fn h_ex C.K) : ∀ n, DefOk C (2 * n + 1) "edits_at" (sp_edits n)
  | 0 => ((st_edits_at X G c).none (fun ds S Q E z => by first | (obtain ⟨_, hz, _⟩ := z; exact absurd hz (Nat.not_lt_zero _)) | (obtain ⟨_, _, hz, _⟩ := z; exact absurd hz (Nat.not_lt_zero _)) | (obtain ⟨_, _, _, hz, _⟩ := z; exact absurd hz (Nat.not_lt_zero _)) | (obtain ⟨_, _, _, _, hz, _⟩ := z; exact absurd hz (Nat.not_lt_zero _)) | (obtain ⟨_, _, _, _, _, hz, _⟩ := z; exact absurd hz (Nat.not_lt_zero _)) | (obtain ⟨_, _, _, _, _, _, hz, _⟩ := z; exact absurd hz (Nat.not_lt_zero _)) | (obtain ⟨_, _, _, _, _, _, _, hz, _⟩ := z; exact absurd hz (Nat.not_lt_zero _)) | (obtain ⟨_, _, _, _, _, _, _, _, hz, _⟩ := z; exact absurd hz (Nat.not_lt_zero _)) | (obtain ⟨_, _, _, _, _, _, _, _, _, hz, _⟩ := z; exact absurd hz (Nat.not_lt_zero _)) | (obtain ⟨_, _, _, _, _, _, _, _, _, _, hz, _⟩ := z; exact absurd hz (Nat.not_lt_zero _)) | (obtain ⟨_, _, _, _, _, _, _, _, _, _, _, hz, _⟩ := z; exact absurd hz (Nat.not_lt_zero _)))).mono (Nat.zero_le _)
  | n + 1 => by
    have me := rec_edits_at X G c n
    have h_list_edits : DefOk C (2 * n + 1 + 1) "list_edits" (sp_listE n) := (st_list_edits X G c).ok sc_list_edits (fun ds S Q E z => by first | (obtain ⟨rfl, _⟩ := z; rfl) | (obtain ⟨_, rfl, _⟩ := z; rfl) | (obtain ⟨_, _, rfl, _⟩ := z; rfl) | (obtain ⟨_, _, _, rfl, _⟩ := z; rfl) | (obtain ⟨_, _, _, _, rfl, _⟩ := z; rfl) | (obtain ⟨_, _, _, _, _, rfl, _⟩ := z; rfl) | (obtain ⟨_, _, _, _, _, _, rfl, _⟩ := z; rfl) | (obtain ⟨_, _, _, _, _, _, _, rfl, _⟩ := z; rfl) | (obtain ⟨_, _, _, _, _, _, _, _, rfl, _⟩ := z; rfl) | (obtain ⟨_, _, _, _, _, _, _, _, _, rfl, _⟩ := z; rfl) | (obtain ⟨_, _, _, _, _, _, _, _, _, _, rfl, _⟩ := z; rfl) | (obtain ⟨_, _, _, _, _, _, _, _, _, _, _, rfl, _⟩ := z; rfl) | (obtain ⟨_, _, _, _, _, _, _, _, _, _, _, _, rfl, _⟩ := z; rfl) | (obtain ⟨_, _, _, _, _, _, _, _, _, _, _, _, _, rfl, _⟩ := z; rfl)) (dv_list_edits (k := 2 * n + 1) (z_len X G c) (z_min X G c) (z_range X G c) ((ok_common X G c).mono (by omega)) me) (w_listE n)
    have h_map_edits : DefOk C (2 * n + 1 + 1) "map_edits" (sp_mapE n) := (st_map_edits X G c).ok sc_map_edits (fun ds S Q E z => by first | (obtain ⟨rfl, _⟩ := z; rfl) | (obtain ⟨_, rfl, _⟩ := z; rfl) | (obtain ⟨_, _, rfl, _⟩ := z; rfl) | (obtain ⟨_, _, _, rfl, _⟩ := z; rfl) | (obtain ⟨_, _, _, _, rfl, _⟩ := z; rfl) | (obtain ⟨_, _, _, _, _, rfl, _⟩ := z; rfl) | (obtain ⟨_, _, _, _, _, _, rfl, _⟩ := z; rfl) | (obtain ⟨_, _, _, _, _, _, _, rfl, _⟩ := z; rfl) | (obtain ⟨_, _, _, _, _, _, _, _, rfl, _⟩ := z; rfl) | (obtain ⟨_, _, _, _, _, _, _, _, _, rfl, _⟩ := z; rfl) | (obtain ⟨_, _, _, _, _, _, _, _, _, _, rfl, _⟩ := z; rfl) | (obtain ⟨_, _, _, _, _, _, _, _, _, _, _, rfl, _⟩ := z; rfl) | (obtain ⟨_, _, _, _, _, _, _, _, _, _, _, _, rfl, _⟩ := z; rfl) | (obtain ⟨_, _, _, _, _, _, _, _, _, _, _, _, _, rfl, _⟩ := z; rfl)) (dv_map_edits (k := 2 * n + 1) me ((ok_steps_of X G c).mono (by omega))) (w_mapE n)
    exact ((st_edits_at X G c).ok sc_edits_at (fun ds S Q E z => by first | (obtain ⟨rfl, _⟩ := z; rfl) | (obtain ⟨_, rfl, _⟩ := z; rfl) | (obtain ⟨_, _, rfl, _⟩ := z; rfl) | (obtain ⟨_, _, _, rfl, _⟩ := z; rfl) | (obtain ⟨_, _, _, _, rfl, _⟩ := z; rfl) | (obtain ⟨_, _, _, _, _, rfl, _⟩ := z; rfl) | (obtain ⟨_, _, _, _, _, _, rfl, _⟩ := z; rfl) | (obtain ⟨_, _, _, _, _, _, _, rfl, _⟩ := z; rfl) | (obtain ⟨_, _, _, _, _, _, _, _, rfl, _⟩ := z; rfl) | (obtain ⟨_, _, _, _, _, _, _, _, _, rfl, _⟩ := z; rfl) | (obtain ⟨_, _, _, _, _, _, _, _, _, _, rfl, _⟩ := z; rfl) | (obtain ⟨_, _, _, _, _, _, _, _, _, _, _, rfl, _⟩ := z; rfl) | (obtain ⟨_, _, _, _, _, _, _, _, _, _, _, _, rfl, _⟩ := z; rfl) | (obtain ⟨_, _, _, _, _, _, _, _, _, _, _, _, _, rfl, _⟩ := z; rfl)) (dv_edits_at (k := 2 * n + 2) h_list_edits h_map_edits) (w_edits n)).mono (by omega)
theorem ok_edits_at {C : Cmn} {h : Heap} (X : C.K.In h) (G : h.Ns mainGlobals C.mg) (c : SaysV h_fa h_fn h_ex C.K) : DefOk C 51 "edits_at" (sp_edits 25) := rec_edits_at X G c 25
theorem ok_difference {C : Cmn} {h : Heap} (X : C.K.In h) (G : h.Ns mainGlobals C.mg) (c : SaysV h_fa h_fn h_ex C.K) : DefOk C 52 "difference" sp_diff := (st_difference X G c).ok sc_difference (fun ds S Q E z => by first | (obtain ⟨rfl, _⟩ := z; rfl) | (obtain ⟨_, rfl, _⟩ := z; rfl) | (obtain ⟨_, _, rfl, _⟩ := z; rfl) | (obtain ⟨_, _, _, rfl, _⟩ := z; rfl) | (obtain ⟨_, _, _, _, rfl, _⟩ := z; rfl) | (obtain ⟨_, _, _, _, _, rfl, _⟩ := z; rfl) | (obtain ⟨_, _, _, _, _, _, rfl, _⟩ := z; rfl) | (obtain ⟨_, _, _, _, _, _, _, rfl, _⟩ := z; rfl) | (obtain ⟨_, _, _, _, _, _, _, _, rfl, _⟩ := z; rfl) | (obtain ⟨_, _, _, _, _, _, _, _, _, rfl, _⟩ := z; rfl) | (obtain ⟨_, _, _, _, _, _, _, _, _, _, rfl, _⟩ := z; rfl) | (obtain ⟨_, _, _, _, _, _, _, _, _, _, _, rfl, _⟩ := z; rfl) | (obtain ⟨_, _, _, _, _, _, _, _, _, _, _, _, rfl, _⟩ := z; rfl) | (obtain ⟨_, _, _, _, _, _, _, _, _, _, _, _, _, rfl, _⟩ := z; rfl)) (dv_difference (k := 51) ((ok_edits_at X G c).mono (by omega))) (w_diff)
theorem ok__law_cell {C : Cmn} {h : Heap} (X : C.K.In h) (G : h.Ns mainGlobals C.mg) (c : SaysV h_fa h_fn h_ex C.K) : DefOk C 1 "_law_cell" sp_cell := (st__law_cell X G c).ok sc__law_cell (fun ds S Q E z => by first | (obtain ⟨rfl, _⟩ := z; rfl) | (obtain ⟨_, rfl, _⟩ := z; rfl) | (obtain ⟨_, _, rfl, _⟩ := z; rfl) | (obtain ⟨_, _, _, rfl, _⟩ := z; rfl) | (obtain ⟨_, _, _, _, rfl, _⟩ := z; rfl) | (obtain ⟨_, _, _, _, _, rfl, _⟩ := z; rfl) | (obtain ⟨_, _, _, _, _, _, rfl, _⟩ := z; rfl) | (obtain ⟨_, _, _, _, _, _, _, rfl, _⟩ := z; rfl) | (obtain ⟨_, _, _, _, _, _, _, _, rfl, _⟩ := z; rfl) | (obtain ⟨_, _, _, _, _, _, _, _, _, rfl, _⟩ := z; rfl) | (obtain ⟨_, _, _, _, _, _, _, _, _, _, rfl, _⟩ := z; rfl) | (obtain ⟨_, _, _, _, _, _, _, _, _, _, _, rfl, _⟩ := z; rfl) | (obtain ⟨_, _, _, _, _, _, _, _, _, _, _, _, rfl, _⟩ := z; rfl) | (obtain ⟨_, _, _, _, _, _, _, _, _, _, _, _, _, rfl, _⟩ := z; rfl)) (dv__law_cell (k := 0) (z_len X G c)) (w_cell)
theorem ok__law_numbers {C : Cmn} {h : Heap} (X : C.K.In h) (G : h.Ns mainGlobals C.mg) (c : SaysV h_fa h_fn h_ex C.K) : DefOk C 1 "_law_numbers" sp_numbers := (st__law_numbers X G c).ok sc__law_numbers (fun ds S Q E z => by first | (obtain ⟨rfl, _⟩ := z; rfl) | (obtain ⟨_, rfl, _⟩ := z; rfl) | (obtain ⟨_, _, rfl, _⟩ := z; rfl) | (obtain ⟨_, _, _, rfl, _⟩ := z; rfl) | (obtain ⟨_, _, _, _, rfl, _⟩ := z; rfl) | (obtain ⟨_, _, _, _, _, rfl, _⟩ := z; rfl) | (obtain ⟨_, _, _, _, _, _, rfl, _⟩ := z; rfl) | (obtain ⟨_, _, _, _, _, _, _, rfl, _⟩ := z; rfl) | (obtain ⟨_, _, _, _, _, _, _, _, rfl, _⟩ := z; rfl) | (obtain ⟨_, _, _, _, _, _, _, _, _, rfl, _⟩ := z; rfl) | (obtain ⟨_, _, _, _, _, _, _, _, _, _, rfl, _⟩ := z; rfl) | (obtain ⟨_, _, _, _, _, _, _, _, _, _, _, rfl, _⟩ := z; rfl) | (obtain ⟨_, _, _, _, _, _, _, _, _, _, _, _, rfl, _⟩ := z; rfl) | (obtain ⟨_, _, _, _, _, _, _, _, _, _, _, _, _, rfl, _⟩ := z; rfl)) (dv__law_numbers (k := 0) (z_abs X G c) (z_int X G c) (z_range X G c)) (w_numbers)
theorem ok__law_state {C : Cmn} {h : Heap} (X : C.K.In h) (G : h.Ns mainGlobals C.mg) (c : SaysV h_fa h_fn h_ex C.K) : DefOk C 2 "_law_state" sp_state := (st__law_state X G c).ok sc__law_state (fun ds S Q E z => by first | (obtain ⟨rfl, _⟩ := z; rfl) | (obtain ⟨_, rfl, _⟩ := z; rfl) | (obtain ⟨_, _, rfl, _⟩ := z; rfl) | (obtain ⟨_, _, _, rfl, _⟩ := z; rfl) | (obtain ⟨_, _, _, _, rfl, _⟩ := z; rfl) | (obtain ⟨_, _, _, _, _, rfl, _⟩ := z; rfl) | (obtain ⟨_, _, _, _, _, _, rfl, _⟩ := z; rfl) | (obtain ⟨_, _, _, _, _, _, _, rfl, _⟩ := z; rfl) | (obtain ⟨_, _, _, _, _, _, _, _, rfl, _⟩ := z; rfl) | (obtain ⟨_, _, _, _, _, _, _, _, _, rfl, _⟩ := z; rfl) | (obtain ⟨_, _, _, _, _, _, _, _, _, _, rfl, _⟩ := z; rfl) | (obtain ⟨_, _, _, _, _, _, _, _, _, _, _, rfl, _⟩ := z; rfl) | (obtain ⟨_, _, _, _, _, _, _, _, _, _, _, _, rfl, _⟩ := z; rfl) | (obtain ⟨_, _, _, _, _, _, _, _, _, _, _, _, _, rfl, _⟩ := z; rfl)) (dv__law_state (k := 1) (z_range X G c) ((ok__law_cell X G c).mono (by omega)) ((ok__law_numbers X G c).mono (by omega))) (w_state)
theorem ok__law_next {C : Cmn} {h : Heap} (X : C.K.In h) (G : h.Ns mainGlobals C.mg) (c : SaysV h_fa h_fn h_ex C.K) : DefOk C 1 "_law_next" sp_next := (st__law_next X G c).ok sc__law_next (fun ds S Q E z => by first | (obtain ⟨rfl, _⟩ := z; rfl) | (obtain ⟨_, rfl, _⟩ := z; rfl) | (obtain ⟨_, _, rfl, _⟩ := z; rfl) | (obtain ⟨_, _, _, rfl, _⟩ := z; rfl) | (obtain ⟨_, _, _, _, rfl, _⟩ := z; rfl) | (obtain ⟨_, _, _, _, _, rfl, _⟩ := z; rfl) | (obtain ⟨_, _, _, _, _, _, rfl, _⟩ := z; rfl) | (obtain ⟨_, _, _, _, _, _, _, rfl, _⟩ := z; rfl) | (obtain ⟨_, _, _, _, _, _, _, _, rfl, _⟩ := z; rfl) | (obtain ⟨_, _, _, _, _, _, _, _, _, rfl, _⟩ := z; rfl) | (obtain ⟨_, _, _, _, _, _, _, _, _, _, rfl, _⟩ := z; rfl) | (obtain ⟨_, _, _, _, _, _, _, _, _, _, _, rfl, _⟩ := z; rfl) | (obtain ⟨_, _, _, _, _, _, _, _, _, _, _, _, rfl, _⟩ := z; rfl) | (obtain ⟨_, _, _, _, _, _, _, _, _, _, _, _, _, rfl, _⟩ := z; rfl)) (dv__law_next (k := 0) (z_int X G c)) (w_next)
theorem rec__law_same {C : Cmn} {h : Heap} (X : C.K.In h) (G : h.Ns mainGlobals C.mg) (c : SaysV h_fa h_fn h_ex C.K) : ∀ n, DefOk C (n + 0) "_law_same" (sp_same n)
  | 0 => ((st__law_same X G c).none (fun ds S Q E z => by first | (obtain ⟨_, hz, _⟩ := z; exact absurd hz (Nat.not_lt_zero _)) | (obtain ⟨_, _, hz, _⟩ := z; exact absurd hz (Nat.not_lt_zero _)) | (obtain ⟨_, _, _, hz, _⟩ := z; exact absurd hz (Nat.not_lt_zero _)) | (obtain ⟨_, _, _, _, hz, _⟩ := z; exact absurd hz (Nat.not_lt_zero _)) | (obtain ⟨_, _, _, _, _, hz, _⟩ := z; exact absurd hz (Nat.not_lt_zero _)) | (obtain ⟨_, _, _, _, _, _, hz, _⟩ := z; exact absurd hz (Nat.not_lt_zero _)) | (obtain ⟨_, _, _, _, _, _, _, hz, _⟩ := z; exact absurd hz (Nat.not_lt_zero _)) | (obtain ⟨_, _, _, _, _, _, _, _, hz, _⟩ := z; exact absurd hz (Nat.not_lt_zero _)) | (obtain ⟨_, _, _, _, _, _, _, _, _, hz, _⟩ := z; exact absurd hz (Nat.not_lt_zero _)) | (obtain ⟨_, _, _, _, _, _, _, _, _, _, hz, _⟩ := z; exact absurd hz (Nat.not_lt_zero _)) | (obtain ⟨_, _, _, _, _, _, _, _, _, _, _, hz, _⟩ := z; exact absurd hz (Nat.not_lt_zero _)))).mono (Nat.zero_le _)
  | n + 1 => (st__law_same X G c).ok sc__law_same (fun ds S Q E z => by first | (obtain ⟨rfl, _⟩ := z; rfl) | (obtain ⟨_, rfl, _⟩ := z; rfl) | (obtain ⟨_, _, rfl, _⟩ := z; rfl) | (obtain ⟨_, _, _, rfl, _⟩ := z; rfl) | (obtain ⟨_, _, _, _, rfl, _⟩ := z; rfl) | (obtain ⟨_, _, _, _, _, rfl, _⟩ := z; rfl) | (obtain ⟨_, _, _, _, _, _, rfl, _⟩ := z; rfl) | (obtain ⟨_, _, _, _, _, _, _, rfl, _⟩ := z; rfl) | (obtain ⟨_, _, _, _, _, _, _, _, rfl, _⟩ := z; rfl) | (obtain ⟨_, _, _, _, _, _, _, _, _, rfl, _⟩ := z; rfl) | (obtain ⟨_, _, _, _, _, _, _, _, _, _, rfl, _⟩ := z; rfl) | (obtain ⟨_, _, _, _, _, _, _, _, _, _, _, rfl, _⟩ := z; rfl) | (obtain ⟨_, _, _, _, _, _, _, _, _, _, _, _, rfl, _⟩ := z; rfl) | (obtain ⟨_, _, _, _, _, _, _, _, _, _, _, _, _, rfl, _⟩ := z; rfl)) (dv__law_same (k := n + 0) (z_bool X G c) (z_int X G c) (z_isinstance X G c) (z_len X G c) (z_list X G c) (z_range X G c) (z_str X G c) (z_tuple X G c) (rec__law_same X G c n)) (w_same n)
theorem ok__law_same {C : Cmn} {h : Heap} (X : C.K.In h) (G : h.Ns mainGlobals C.mg) (c : SaysV h_fa h_fn h_ex C.K) : DefOk C 100 "_law_same" (sp_same 100) := rec__law_same X G c 100
theorem ok__law_many {C : Cmn} {h : Heap} (X : C.K.In h) (G : h.Ns mainGlobals C.mg) (c : SaysV h_fa h_fn h_ex C.K) : DefOk C 2 "_law_many" sp_many := (st__law_many X G c).ok sc__law_many (fun ds S Q E z => by first | (obtain ⟨rfl, _⟩ := z; rfl) | (obtain ⟨_, rfl, _⟩ := z; rfl) | (obtain ⟨_, _, rfl, _⟩ := z; rfl) | (obtain ⟨_, _, _, rfl, _⟩ := z; rfl) | (obtain ⟨_, _, _, _, rfl, _⟩ := z; rfl) | (obtain ⟨_, _, _, _, _, rfl, _⟩ := z; rfl) | (obtain ⟨_, _, _, _, _, _, rfl, _⟩ := z; rfl) | (obtain ⟨_, _, _, _, _, _, _, rfl, _⟩ := z; rfl) | (obtain ⟨_, _, _, _, _, _, _, _, rfl, _⟩ := z; rfl) | (obtain ⟨_, _, _, _, _, _, _, _, _, rfl, _⟩ := z; rfl) | (obtain ⟨_, _, _, _, _, _, _, _, _, _, rfl, _⟩ := z; rfl) | (obtain ⟨_, _, _, _, _, _, _, _, _, _, _, rfl, _⟩ := z; rfl) | (obtain ⟨_, _, _, _, _, _, _, _, _, _, _, _, rfl, _⟩ := z; rfl) | (obtain ⟨_, _, _, _, _, _, _, _, _, _, _, _, _, rfl, _⟩ := z; rfl)) (dv__law_many (k := 1) ((ok__law_next X G c).mono (by omega))) (w_many)
theorem ok__law_big {C : Cmn} {h : Heap} (X : C.K.In h) (G : h.Ns mainGlobals C.mg) (c : SaysV h_fa h_fn h_ex C.K) : DefOk C 2 "_law_big" sp_big := (st__law_big X G c).ok sc__law_big (fun ds S Q E z => by first | (obtain ⟨rfl, _⟩ := z; rfl) | (obtain ⟨_, rfl, _⟩ := z; rfl) | (obtain ⟨_, _, rfl, _⟩ := z; rfl) | (obtain ⟨_, _, _, rfl, _⟩ := z; rfl) | (obtain ⟨_, _, _, _, rfl, _⟩ := z; rfl) | (obtain ⟨_, _, _, _, _, rfl, _⟩ := z; rfl) | (obtain ⟨_, _, _, _, _, _, rfl, _⟩ := z; rfl) | (obtain ⟨_, _, _, _, _, _, _, rfl, _⟩ := z; rfl) | (obtain ⟨_, _, _, _, _, _, _, _, rfl, _⟩ := z; rfl) | (obtain ⟨_, _, _, _, _, _, _, _, _, rfl, _⟩ := z; rfl) | (obtain ⟨_, _, _, _, _, _, _, _, _, _, rfl, _⟩ := z; rfl) | (obtain ⟨_, _, _, _, _, _, _, _, _, _, _, rfl, _⟩ := z; rfl) | (obtain ⟨_, _, _, _, _, _, _, _, _, _, _, _, rfl, _⟩ := z; rfl) | (obtain ⟨_, _, _, _, _, _, _, _, _, _, _, _, _, rfl, _⟩ := z; rfl)) (dv__law_big (k := 1) (z_abs X G c) (z_int X G c) ((ok__law_cell X G c).mono (by omega)) ((ok__law_next X G c).mono (by omega))) (w_big)
theorem ok__law_normal {C : Cmn} {h : Heap} (X : C.K.In h) (G : h.Ns mainGlobals C.mg) (c : SaysV h_fa h_fn h_ex C.K) : DefOk C 1 "_law_normal" sp_normal := (st__law_normal X G c).ok sc__law_normal (fun ds S Q E z => by first | (obtain ⟨rfl, _⟩ := z; rfl) | (obtain ⟨_, rfl, _⟩ := z; rfl) | (obtain ⟨_, _, rfl, _⟩ := z; rfl) | (obtain ⟨_, _, _, rfl, _⟩ := z; rfl) | (obtain ⟨_, _, _, _, rfl, _⟩ := z; rfl) | (obtain ⟨_, _, _, _, _, rfl, _⟩ := z; rfl) | (obtain ⟨_, _, _, _, _, _, rfl, _⟩ := z; rfl) | (obtain ⟨_, _, _, _, _, _, _, rfl, _⟩ := z; rfl) | (obtain ⟨_, _, _, _, _, _, _, _, rfl, _⟩ := z; rfl) | (obtain ⟨_, _, _, _, _, _, _, _, _, rfl, _⟩ := z; rfl) | (obtain ⟨_, _, _, _, _, _, _, _, _, _, rfl, _⟩ := z; rfl) | (obtain ⟨_, _, _, _, _, _, _, _, _, _, _, rfl, _⟩ := z; rfl) | (obtain ⟨_, _, _, _, _, _, _, _, _, _, _, _, rfl, _⟩ := z; rfl) | (obtain ⟨_, _, _, _, _, _, _, _, _, _, _, _, _, rfl, _⟩ := z; rfl)) (dv__law_normal (k := 0) (z_range X G c)) (w_normal)
theorem ok__law_number {C : Cmn} {h : Heap} (X : C.K.In h) (G : h.Ns mainGlobals C.mg) (c : SaysV h_fa h_fn h_ex C.K) : DefOk C 3 "_law_number" sp_number := (st__law_number X G c).ok sc__law_number (fun ds S Q E z => by first | (obtain ⟨rfl, _⟩ := z; rfl) | (obtain ⟨_, rfl, _⟩ := z; rfl) | (obtain ⟨_, _, rfl, _⟩ := z; rfl) | (obtain ⟨_, _, _, rfl, _⟩ := z; rfl) | (obtain ⟨_, _, _, _, rfl, _⟩ := z; rfl) | (obtain ⟨_, _, _, _, _, rfl, _⟩ := z; rfl) | (obtain ⟨_, _, _, _, _, _, rfl, _⟩ := z; rfl) | (obtain ⟨_, _, _, _, _, _, _, rfl, _⟩ := z; rfl) | (obtain ⟨_, _, _, _, _, _, _, _, rfl, _⟩ := z; rfl) | (obtain ⟨_, _, _, _, _, _, _, _, _, rfl, _⟩ := z; rfl) | (obtain ⟨_, _, _, _, _, _, _, _, _, _, rfl, _⟩ := z; rfl) | (obtain ⟨_, _, _, _, _, _, _, _, _, _, _, rfl, _⟩ := z; rfl) | (obtain ⟨_, _, _, _, _, _, _, _, _, _, _, _, rfl, _⟩ := z; rfl) | (obtain ⟨_, _, _, _, _, _, _, _, _, _, _, _, _, rfl, _⟩ := z; rfl)) (dv__law_number (k := 2) (z_abs X G c) (z_range X G c) ((ok__law_big X G c).mono (by omega)) ((ok__law_next X G c).mono (by omega)) ((ok__law_normal X G c).mono (by omega))) (w_number)
theorem ok__law_points {C : Cmn} {h : Heap} (X : C.K.In h) (G : h.Ns mainGlobals C.mg) (c : SaysV h_fa h_fn h_ex C.K) : DefOk C 3 "_law_points" sp_points := (st__law_points X G c).ok sc__law_points (fun ds S Q E z => by first | (obtain ⟨rfl, _⟩ := z; rfl) | (obtain ⟨_, rfl, _⟩ := z; rfl) | (obtain ⟨_, _, rfl, _⟩ := z; rfl) | (obtain ⟨_, _, _, rfl, _⟩ := z; rfl) | (obtain ⟨_, _, _, _, rfl, _⟩ := z; rfl) | (obtain ⟨_, _, _, _, _, rfl, _⟩ := z; rfl) | (obtain ⟨_, _, _, _, _, _, rfl, _⟩ := z; rfl) | (obtain ⟨_, _, _, _, _, _, _, rfl, _⟩ := z; rfl) | (obtain ⟨_, _, _, _, _, _, _, _, rfl, _⟩ := z; rfl) | (obtain ⟨_, _, _, _, _, _, _, _, _, rfl, _⟩ := z; rfl) | (obtain ⟨_, _, _, _, _, _, _, _, _, _, rfl, _⟩ := z; rfl) | (obtain ⟨_, _, _, _, _, _, _, _, _, _, _, rfl, _⟩ := z; rfl) | (obtain ⟨_, _, _, _, _, _, _, _, _, _, _, _, rfl, _⟩ := z; rfl) | (obtain ⟨_, _, _, _, _, _, _, _, _, _, _, _, _, rfl, _⟩ := z; rfl)) (dv__law_points (k := 2) (z_int X G c) (z_range X G c) (z_tuple X G c) ((ok__law_many X G c).mono (by omega)) ((ok__law_next X G c).mono (by omega))) (w_points)
theorem ok__law_octets {C : Cmn} {h : Heap} (X : C.K.In h) (G : h.Ns mainGlobals C.mg) (c : SaysV h_fa h_fn h_ex C.K) : DefOk C 3 "_law_octets" sp_octets := (st__law_octets X G c).ok sc__law_octets (fun ds S Q E z => by first | (obtain ⟨rfl, _⟩ := z; rfl) | (obtain ⟨_, rfl, _⟩ := z; rfl) | (obtain ⟨_, _, rfl, _⟩ := z; rfl) | (obtain ⟨_, _, _, rfl, _⟩ := z; rfl) | (obtain ⟨_, _, _, _, rfl, _⟩ := z; rfl) | (obtain ⟨_, _, _, _, _, rfl, _⟩ := z; rfl) | (obtain ⟨_, _, _, _, _, _, rfl, _⟩ := z; rfl) | (obtain ⟨_, _, _, _, _, _, _, rfl, _⟩ := z; rfl) | (obtain ⟨_, _, _, _, _, _, _, _, rfl, _⟩ := z; rfl) | (obtain ⟨_, _, _, _, _, _, _, _, _, rfl, _⟩ := z; rfl) | (obtain ⟨_, _, _, _, _, _, _, _, _, _, rfl, _⟩ := z; rfl) | (obtain ⟨_, _, _, _, _, _, _, _, _, _, _, rfl, _⟩ := z; rfl) | (obtain ⟨_, _, _, _, _, _, _, _, _, _, _, _, rfl, _⟩ := z; rfl) | (obtain ⟨_, _, _, _, _, _, _, _, _, _, _, _, _, rfl, _⟩ := z; rfl)) (dv__law_octets (k := 2) (z_range X G c) (z_tuple X G c) ((ok__law_many X G c).mono (by omega)) ((ok__law_next X G c).mono (by omega))) (w_octets)
theorem ok__law_leaf {C : Cmn} {h : Heap} (X : C.K.In h) (G : h.Ns mainGlobals C.mg) (c : SaysV h_fa h_fn h_ex C.K) : DefOk C 4 "_law_leaf" sp_leaf := (st__law_leaf X G c).ok sc__law_leaf (fun ds S Q E z => by first | (obtain ⟨rfl, _⟩ := z; rfl) | (obtain ⟨_, rfl, _⟩ := z; rfl) | (obtain ⟨_, _, rfl, _⟩ := z; rfl) | (obtain ⟨_, _, _, rfl, _⟩ := z; rfl) | (obtain ⟨_, _, _, _, rfl, _⟩ := z; rfl) | (obtain ⟨_, _, _, _, _, rfl, _⟩ := z; rfl) | (obtain ⟨_, _, _, _, _, _, rfl, _⟩ := z; rfl) | (obtain ⟨_, _, _, _, _, _, _, rfl, _⟩ := z; rfl) | (obtain ⟨_, _, _, _, _, _, _, _, rfl, _⟩ := z; rfl) | (obtain ⟨_, _, _, _, _, _, _, _, _, rfl, _⟩ := z; rfl) | (obtain ⟨_, _, _, _, _, _, _, _, _, _, rfl, _⟩ := z; rfl) | (obtain ⟨_, _, _, _, _, _, _, _, _, _, _, rfl, _⟩ := z; rfl) | (obtain ⟨_, _, _, _, _, _, _, _, _, _, _, _, rfl, _⟩ := z; rfl) | (obtain ⟨_, _, _, _, _, _, _, _, _, _, _, _, _, rfl, _⟩ := z; rfl)) (dv__law_leaf (k := 3) (z_len X G c) ((ok__law_next X G c).mono (by omega)) ((ok__law_number X G c).mono (by omega)) ((ok__law_octets X G c).mono (by omega)) ((ok__law_points X G c).mono (by omega))) (w_leaf)
theorem rec__law_value {C : Cmn} {h : Heap} (X : C.K.In h) (G : h.Ns mainGlobals C.mg) (c : SaysV h_fa h_fn h_ex C.K) : ∀ n, DefOk C (n + 4) "_law_value" (sp_value n)
  | 0 => ((st__law_value X G c).none (fun ds S Q E z => by first | (obtain ⟨_, hz, _⟩ := z; exact absurd hz (Nat.not_lt_zero _)) | (obtain ⟨_, _, hz, _⟩ := z; exact absurd hz (Nat.not_lt_zero _)) | (obtain ⟨_, _, _, hz, _⟩ := z; exact absurd hz (Nat.not_lt_zero _)) | (obtain ⟨_, _, _, _, hz, _⟩ := z; exact absurd hz (Nat.not_lt_zero _)) | (obtain ⟨_, _, _, _, _, hz, _⟩ := z; exact absurd hz (Nat.not_lt_zero _)) | (obtain ⟨_, _, _, _, _, _, hz, _⟩ := z; exact absurd hz (Nat.not_lt_zero _)) | (obtain ⟨_, _, _, _, _, _, _, hz, _⟩ := z; exact absurd hz (Nat.not_lt_zero _)) | (obtain ⟨_, _, _, _, _, _, _, _, hz, _⟩ := z; exact absurd hz (Nat.not_lt_zero _)) | (obtain ⟨_, _, _, _, _, _, _, _, _, hz, _⟩ := z; exact absurd hz (Nat.not_lt_zero _)) | (obtain ⟨_, _, _, _, _, _, _, _, _, _, hz, _⟩ := z; exact absurd hz (Nat.not_lt_zero _)) | (obtain ⟨_, _, _, _, _, _, _, _, _, _, _, hz, _⟩ := z; exact absurd hz (Nat.not_lt_zero _)))).mono (Nat.zero_le _)
  | n + 1 => (st__law_value X G c).ok sc__law_value (fun ds S Q E z => by first | (obtain ⟨rfl, _⟩ := z; rfl) | (obtain ⟨_, rfl, _⟩ := z; rfl) | (obtain ⟨_, _, rfl, _⟩ := z; rfl) | (obtain ⟨_, _, _, rfl, _⟩ := z; rfl) | (obtain ⟨_, _, _, _, rfl, _⟩ := z; rfl) | (obtain ⟨_, _, _, _, _, rfl, _⟩ := z; rfl) | (obtain ⟨_, _, _, _, _, _, rfl, _⟩ := z; rfl) | (obtain ⟨_, _, _, _, _, _, _, rfl, _⟩ := z; rfl) | (obtain ⟨_, _, _, _, _, _, _, _, rfl, _⟩ := z; rfl) | (obtain ⟨_, _, _, _, _, _, _, _, _, rfl, _⟩ := z; rfl) | (obtain ⟨_, _, _, _, _, _, _, _, _, _, rfl, _⟩ := z; rfl) | (obtain ⟨_, _, _, _, _, _, _, _, _, _, _, rfl, _⟩ := z; rfl) | (obtain ⟨_, _, _, _, _, _, _, _, _, _, _, _, rfl, _⟩ := z; rfl) | (obtain ⟨_, _, _, _, _, _, _, _, _, _, _, _, _, rfl, _⟩ := z; rfl)) (dv__law_value (k := n + 4) (z_range X G c) (z_sorted X G c) (z_tuple X G c) ((ok__law_leaf X G c).mono (by omega)) ((ok__law_many X G c).mono (by omega)) ((ok__law_next X G c).mono (by omega)) ((ok__law_points X G c).mono (by omega)) (rec__law_value X G c n)) (w_value n)
theorem ok__law_value {C : Cmn} {h : Heap} (X : C.K.In h) (G : h.Ns mainGlobals C.mg) (c : SaysV h_fa h_fn h_ex C.K) : DefOk C 9 "_law_value" (sp_value 5) := rec__law_value X G c 5
theorem ok__law_part {C : Cmn} {h : Heap} (X : C.K.In h) (G : h.Ns mainGlobals C.mg) (c : SaysV h_fa h_fn h_ex C.K) : DefOk C 1 "_law_part" sp_lpart := (st__law_part X G c).ok sc__law_part (fun ds S Q E z => by first | (obtain ⟨rfl, _⟩ := z; rfl) | (obtain ⟨_, rfl, _⟩ := z; rfl) | (obtain ⟨_, _, rfl, _⟩ := z; rfl) | (obtain ⟨_, _, _, rfl, _⟩ := z; rfl) | (obtain ⟨_, _, _, _, rfl, _⟩ := z; rfl) | (obtain ⟨_, _, _, _, _, rfl, _⟩ := z; rfl) | (obtain ⟨_, _, _, _, _, _, rfl, _⟩ := z; rfl) | (obtain ⟨_, _, _, _, _, _, _, rfl, _⟩ := z; rfl) | (obtain ⟨_, _, _, _, _, _, _, _, rfl, _⟩ := z; rfl) | (obtain ⟨_, _, _, _, _, _, _, _, _, rfl, _⟩ := z; rfl) | (obtain ⟨_, _, _, _, _, _, _, _, _, _, rfl, _⟩ := z; rfl) | (obtain ⟨_, _, _, _, _, _, _, _, _, _, _, rfl, _⟩ := z; rfl) | (obtain ⟨_, _, _, _, _, _, _, _, _, _, _, _, rfl, _⟩ := z; rfl) | (obtain ⟨_, _, _, _, _, _, _, _, _, _, _, _, _, rfl, _⟩ := z; rfl)) (dv__law_part (k := 0) ) (w_lpart)
theorem ok__law_steps {C : Cmn} {h : Heap} (X : C.K.In h) (G : h.Ns mainGlobals C.mg) (c : SaysV h_fa h_fn h_ex C.K) : DefOk C 1 "_law_steps" sp_steps := (st__law_steps X G c).ok sc__law_steps (fun ds S Q E z => by first | (obtain ⟨rfl, _⟩ := z; rfl) | (obtain ⟨_, rfl, _⟩ := z; rfl) | (obtain ⟨_, _, rfl, _⟩ := z; rfl) | (obtain ⟨_, _, _, rfl, _⟩ := z; rfl) | (obtain ⟨_, _, _, _, rfl, _⟩ := z; rfl) | (obtain ⟨_, _, _, _, _, rfl, _⟩ := z; rfl) | (obtain ⟨_, _, _, _, _, _, rfl, _⟩ := z; rfl) | (obtain ⟨_, _, _, _, _, _, _, rfl, _⟩ := z; rfl) | (obtain ⟨_, _, _, _, _, _, _, _, rfl, _⟩ := z; rfl) | (obtain ⟨_, _, _, _, _, _, _, _, _, rfl, _⟩ := z; rfl) | (obtain ⟨_, _, _, _, _, _, _, _, _, _, rfl, _⟩ := z; rfl) | (obtain ⟨_, _, _, _, _, _, _, _, _, _, _, rfl, _⟩ := z; rfl) | (obtain ⟨_, _, _, _, _, _, _, _, _, _, _, _, rfl, _⟩ := z; rfl) | (obtain ⟨_, _, _, _, _, _, _, _, _, _, _, _, _, rfl, _⟩ := z; rfl)) (dv__law_steps (k := 0) (z_len X G c) (z_list X G c) (z_range X G c)) (w_lsteps)
theorem rec__law_ways {C : Cmn} {h : Heap} (X : C.K.In h) (G : h.Ns mainGlobals C.mg) (c : SaysV h_fa h_fn h_ex C.K) : ∀ n, DefOk C (n + 1) "_law_ways" (sp_ways n)
  | 0 => ((st__law_ways X G c).none (fun ds S Q E z => by first | (obtain ⟨_, hz, _⟩ := z; exact absurd hz (Nat.not_lt_zero _)) | (obtain ⟨_, _, hz, _⟩ := z; exact absurd hz (Nat.not_lt_zero _)) | (obtain ⟨_, _, _, hz, _⟩ := z; exact absurd hz (Nat.not_lt_zero _)) | (obtain ⟨_, _, _, _, hz, _⟩ := z; exact absurd hz (Nat.not_lt_zero _)) | (obtain ⟨_, _, _, _, _, hz, _⟩ := z; exact absurd hz (Nat.not_lt_zero _)) | (obtain ⟨_, _, _, _, _, _, hz, _⟩ := z; exact absurd hz (Nat.not_lt_zero _)) | (obtain ⟨_, _, _, _, _, _, _, hz, _⟩ := z; exact absurd hz (Nat.not_lt_zero _)) | (obtain ⟨_, _, _, _, _, _, _, _, hz, _⟩ := z; exact absurd hz (Nat.not_lt_zero _)) | (obtain ⟨_, _, _, _, _, _, _, _, _, hz, _⟩ := z; exact absurd hz (Nat.not_lt_zero _)) | (obtain ⟨_, _, _, _, _, _, _, _, _, _, hz, _⟩ := z; exact absurd hz (Nat.not_lt_zero _)) | (obtain ⟨_, _, _, _, _, _, _, _, _, _, _, hz, _⟩ := z; exact absurd hz (Nat.not_lt_zero _)))).mono (Nat.zero_le _)
  | n + 1 => (st__law_ways X G c).ok sc__law_ways (fun ds S Q E z => by first | (obtain ⟨rfl, _⟩ := z; rfl) | (obtain ⟨_, rfl, _⟩ := z; rfl) | (obtain ⟨_, _, rfl, _⟩ := z; rfl) | (obtain ⟨_, _, _, rfl, _⟩ := z; rfl) | (obtain ⟨_, _, _, _, rfl, _⟩ := z; rfl) | (obtain ⟨_, _, _, _, _, rfl, _⟩ := z; rfl) | (obtain ⟨_, _, _, _, _, _, rfl, _⟩ := z; rfl) | (obtain ⟨_, _, _, _, _, _, _, rfl, _⟩ := z; rfl) | (obtain ⟨_, _, _, _, _, _, _, _, rfl, _⟩ := z; rfl) | (obtain ⟨_, _, _, _, _, _, _, _, _, rfl, _⟩ := z; rfl) | (obtain ⟨_, _, _, _, _, _, _, _, _, _, rfl, _⟩ := z; rfl) | (obtain ⟨_, _, _, _, _, _, _, _, _, _, _, rfl, _⟩ := z; rfl) | (obtain ⟨_, _, _, _, _, _, _, _, _, _, _, _, rfl, _⟩ := z; rfl) | (obtain ⟨_, _, _, _, _, _, _, _, _, _, _, _, _, rfl, _⟩ := z; rfl)) (dv__law_ways (k := n + 1) ((ok__law_steps X G c).mono (by omega)) (rec__law_ways X G c n)) (w_ways n)
theorem ok__law_ways {C : Cmn} {h : Heap} (X : C.K.In h) (G : h.Ns mainGlobals C.mg) (c : SaysV h_fa h_fn h_ex C.K) : DefOk C 26 "_law_ways" (sp_ways 25) := rec__law_ways X G c 25
theorem ok__law_small {C : Cmn} {h : Heap} (X : C.K.In h) (G : h.Ns mainGlobals C.mg) (c : SaysV h_fa h_fn h_ex C.K) : DefOk C 10 "_law_small" sp_small := (st__law_small X G c).ok sc__law_small (fun ds S Q E z => by first | (obtain ⟨rfl, _⟩ := z; rfl) | (obtain ⟨_, rfl, _⟩ := z; rfl) | (obtain ⟨_, _, rfl, _⟩ := z; rfl) | (obtain ⟨_, _, _, rfl, _⟩ := z; rfl) | (obtain ⟨_, _, _, _, rfl, _⟩ := z; rfl) | (obtain ⟨_, _, _, _, _, rfl, _⟩ := z; rfl) | (obtain ⟨_, _, _, _, _, _, rfl, _⟩ := z; rfl) | (obtain ⟨_, _, _, _, _, _, _, rfl, _⟩ := z; rfl) | (obtain ⟨_, _, _, _, _, _, _, _, rfl, _⟩ := z; rfl) | (obtain ⟨_, _, _, _, _, _, _, _, _, rfl, _⟩ := z; rfl) | (obtain ⟨_, _, _, _, _, _, _, _, _, _, rfl, _⟩ := z; rfl) | (obtain ⟨_, _, _, _, _, _, _, _, _, _, _, rfl, _⟩ := z; rfl) | (obtain ⟨_, _, _, _, _, _, _, _, _, _, _, _, rfl, _⟩ := z; rfl) | (obtain ⟨_, _, _, _, _, _, _, _, _, _, _, _, _, rfl, _⟩ := z; rfl)) (dv__law_small (k := 9) ((ok__law_next X G c).mono (by omega)) ((ok__law_value X G c).mono (by omega))) (w_small)
theorem rec__law_edited {C : Cmn} {h : Heap} (X : C.K.In h) (G : h.Ns mainGlobals C.mg) (c : SaysV h_fa h_fn h_ex C.K) : ∀ n, DefOk C (n + 1) "_law_edited" (sp_ledit n)
  | 0 => ((st__law_edited X G c).none (fun ds S Q E z => by first | (obtain ⟨_, hz, _⟩ := z; exact absurd hz (Nat.not_lt_zero _)) | (obtain ⟨_, _, hz, _⟩ := z; exact absurd hz (Nat.not_lt_zero _)) | (obtain ⟨_, _, _, hz, _⟩ := z; exact absurd hz (Nat.not_lt_zero _)) | (obtain ⟨_, _, _, _, hz, _⟩ := z; exact absurd hz (Nat.not_lt_zero _)) | (obtain ⟨_, _, _, _, _, hz, _⟩ := z; exact absurd hz (Nat.not_lt_zero _)) | (obtain ⟨_, _, _, _, _, _, hz, _⟩ := z; exact absurd hz (Nat.not_lt_zero _)) | (obtain ⟨_, _, _, _, _, _, _, hz, _⟩ := z; exact absurd hz (Nat.not_lt_zero _)) | (obtain ⟨_, _, _, _, _, _, _, _, hz, _⟩ := z; exact absurd hz (Nat.not_lt_zero _)) | (obtain ⟨_, _, _, _, _, _, _, _, _, hz, _⟩ := z; exact absurd hz (Nat.not_lt_zero _)) | (obtain ⟨_, _, _, _, _, _, _, _, _, _, hz, _⟩ := z; exact absurd hz (Nat.not_lt_zero _)) | (obtain ⟨_, _, _, _, _, _, _, _, _, _, _, hz, _⟩ := z; exact absurd hz (Nat.not_lt_zero _)))).mono (Nat.zero_le _)
  | n + 1 => (st__law_edited X G c).ok sc__law_edited (fun ds S Q E z => by first | (obtain ⟨rfl, _⟩ := z; rfl) | (obtain ⟨_, rfl, _⟩ := z; rfl) | (obtain ⟨_, _, rfl, _⟩ := z; rfl) | (obtain ⟨_, _, _, rfl, _⟩ := z; rfl) | (obtain ⟨_, _, _, _, rfl, _⟩ := z; rfl) | (obtain ⟨_, _, _, _, _, rfl, _⟩ := z; rfl) | (obtain ⟨_, _, _, _, _, _, rfl, _⟩ := z; rfl) | (obtain ⟨_, _, _, _, _, _, _, rfl, _⟩ := z; rfl) | (obtain ⟨_, _, _, _, _, _, _, _, rfl, _⟩ := z; rfl) | (obtain ⟨_, _, _, _, _, _, _, _, _, rfl, _⟩ := z; rfl) | (obtain ⟨_, _, _, _, _, _, _, _, _, _, rfl, _⟩ := z; rfl) | (obtain ⟨_, _, _, _, _, _, _, _, _, _, _, rfl, _⟩ := z; rfl) | (obtain ⟨_, _, _, _, _, _, _, _, _, _, _, _, rfl, _⟩ := z; rfl) | (obtain ⟨_, _, _, _, _, _, _, _, _, _, _, _, _, rfl, _⟩ := z; rfl)) (dv__law_edited (k := n + 1) (z_len X G c) (z_tuple X G c) (rec__law_edited X G c n) ((ok__law_steps X G c).mono (by omega))) (w_ledit n)
theorem ok__law_edited {C : Cmn} {h : Heap} (X : C.K.In h) (G : h.Ns mainGlobals C.mg) (c : SaysV h_fa h_fn h_ex C.K) : DefOk C 27 "_law_edited" (sp_ledit 26) := rec__law_edited X G c 26
theorem rec__law_depth {C : Cmn} {h : Heap} (X : C.K.In h) (G : h.Ns mainGlobals C.mg) (c : SaysV h_fa h_fn h_ex C.K) : ∀ n, DefOk C (n + 0) "_law_depth" (sp_depth n)
  | 0 => ((st__law_depth X G c).none (fun ds S Q E z => by first | (obtain ⟨_, hz, _⟩ := z; exact absurd hz (Nat.not_lt_zero _)) | (obtain ⟨_, _, hz, _⟩ := z; exact absurd hz (Nat.not_lt_zero _)) | (obtain ⟨_, _, _, hz, _⟩ := z; exact absurd hz (Nat.not_lt_zero _)) | (obtain ⟨_, _, _, _, hz, _⟩ := z; exact absurd hz (Nat.not_lt_zero _)) | (obtain ⟨_, _, _, _, _, hz, _⟩ := z; exact absurd hz (Nat.not_lt_zero _)) | (obtain ⟨_, _, _, _, _, _, hz, _⟩ := z; exact absurd hz (Nat.not_lt_zero _)) | (obtain ⟨_, _, _, _, _, _, _, hz, _⟩ := z; exact absurd hz (Nat.not_lt_zero _)) | (obtain ⟨_, _, _, _, _, _, _, _, hz, _⟩ := z; exact absurd hz (Nat.not_lt_zero _)) | (obtain ⟨_, _, _, _, _, _, _, _, _, hz, _⟩ := z; exact absurd hz (Nat.not_lt_zero _)) | (obtain ⟨_, _, _, _, _, _, _, _, _, _, hz, _⟩ := z; exact absurd hz (Nat.not_lt_zero _)) | (obtain ⟨_, _, _, _, _, _, _, _, _, _, _, hz, _⟩ := z; exact absurd hz (Nat.not_lt_zero _)))).mono (Nat.zero_le _)
  | n + 1 => (st__law_depth X G c).ok sc__law_depth (fun ds S Q E z => by first | (obtain ⟨rfl, _⟩ := z; rfl) | (obtain ⟨_, rfl, _⟩ := z; rfl) | (obtain ⟨_, _, rfl, _⟩ := z; rfl) | (obtain ⟨_, _, _, rfl, _⟩ := z; rfl) | (obtain ⟨_, _, _, _, rfl, _⟩ := z; rfl) | (obtain ⟨_, _, _, _, _, rfl, _⟩ := z; rfl) | (obtain ⟨_, _, _, _, _, _, rfl, _⟩ := z; rfl) | (obtain ⟨_, _, _, _, _, _, _, rfl, _⟩ := z; rfl) | (obtain ⟨_, _, _, _, _, _, _, _, rfl, _⟩ := z; rfl) | (obtain ⟨_, _, _, _, _, _, _, _, _, rfl, _⟩ := z; rfl) | (obtain ⟨_, _, _, _, _, _, _, _, _, _, rfl, _⟩ := z; rfl) | (obtain ⟨_, _, _, _, _, _, _, _, _, _, _, rfl, _⟩ := z; rfl) | (obtain ⟨_, _, _, _, _, _, _, _, _, _, _, _, rfl, _⟩ := z; rfl) | (obtain ⟨_, _, _, _, _, _, _, _, _, _, _, _, _, rfl, _⟩ := z; rfl)) (dv__law_depth (k := n + 0) (z_max X G c) (rec__law_depth X G c n)) (w_depth n)
theorem ok__law_depth {C : Cmn} {h : Heap} (X : C.K.In h) (G : h.Ns mainGlobals C.mg) (c : SaysV h_fa h_fn h_ex C.K) : DefOk C 61 "_law_depth" (sp_depth 61) := rec__law_depth X G c 61
theorem ok__law_drawn {C : Cmn} {h : Heap} (X : C.K.In h) (G : h.Ns mainGlobals C.mg) (c : SaysV h_fa h_fn h_ex C.K) : DefOk C 62 "_law_drawn" sp_drawn := (st__law_drawn X G c).ok sc__law_drawn (fun ds S Q E z => by first | (obtain ⟨rfl, _⟩ := z; rfl) | (obtain ⟨_, rfl, _⟩ := z; rfl) | (obtain ⟨_, _, rfl, _⟩ := z; rfl) | (obtain ⟨_, _, _, rfl, _⟩ := z; rfl) | (obtain ⟨_, _, _, _, rfl, _⟩ := z; rfl) | (obtain ⟨_, _, _, _, _, rfl, _⟩ := z; rfl) | (obtain ⟨_, _, _, _, _, _, rfl, _⟩ := z; rfl) | (obtain ⟨_, _, _, _, _, _, _, rfl, _⟩ := z; rfl) | (obtain ⟨_, _, _, _, _, _, _, _, rfl, _⟩ := z; rfl) | (obtain ⟨_, _, _, _, _, _, _, _, _, rfl, _⟩ := z; rfl) | (obtain ⟨_, _, _, _, _, _, _, _, _, _, rfl, _⟩ := z; rfl) | (obtain ⟨_, _, _, _, _, _, _, _, _, _, _, rfl, _⟩ := z; rfl) | (obtain ⟨_, _, _, _, _, _, _, _, _, _, _, _, rfl, _⟩ := z; rfl) | (obtain ⟨_, _, _, _, _, _, _, _, _, _, _, _, _, rfl, _⟩ := z; rfl)) (dv__law_drawn (k := 61) (z_range X G c) ((ok__law_depth X G c).mono (by omega)) ((ok__law_next X G c).mono (by omega)) ((ok__law_points X G c).mono (by omega)) ((ok__law_value X G c).mono (by omega))) (w_drawn)
theorem ok__law_refusal {C : Cmn} {h : Heap} (X : C.K.In h) (G : h.Ns mainGlobals C.mg) (c : SaysV h_fa h_fn h_ex C.K) : DefOk C 62 "_law_refusal" sp_refusal := (st__law_refusal X G c).ok sc__law_refusal (fun ds S Q E z => by first | (obtain ⟨rfl, _⟩ := z; rfl) | (obtain ⟨_, rfl, _⟩ := z; rfl) | (obtain ⟨_, _, rfl, _⟩ := z; rfl) | (obtain ⟨_, _, _, rfl, _⟩ := z; rfl) | (obtain ⟨_, _, _, _, rfl, _⟩ := z; rfl) | (obtain ⟨_, _, _, _, _, rfl, _⟩ := z; rfl) | (obtain ⟨_, _, _, _, _, _, rfl, _⟩ := z; rfl) | (obtain ⟨_, _, _, _, _, _, _, rfl, _⟩ := z; rfl) | (obtain ⟨_, _, _, _, _, _, _, _, rfl, _⟩ := z; rfl) | (obtain ⟨_, _, _, _, _, _, _, _, _, rfl, _⟩ := z; rfl) | (obtain ⟨_, _, _, _, _, _, _, _, _, _, rfl, _⟩ := z; rfl) | (obtain ⟨_, _, _, _, _, _, _, _, _, _, _, rfl, _⟩ := z; rfl) | (obtain ⟨_, _, _, _, _, _, _, _, _, _, _, _, rfl, _⟩ := z; rfl) | (obtain ⟨_, _, _, _, _, _, _, _, _, _, _, _, _, rfl, _⟩ := z; rfl)) (dv__law_refusal (k := 61) (z_int X G c) (z_isinstance X G c) (z_len X G c) (z_tuple X G c) ((ok__law_depth X G c).mono (by omega)) ((ok__law_part X G c).mono (by omega)) ((ok__law_ways X G c).mono (by omega))) (w_refusal)
theorem ok__law_path {C : Cmn} {h : Heap} (X : C.K.In h) (G : h.Ns mainGlobals C.mg) (c : SaysV h_fa h_fn h_ex C.K) : DefOk C 27 "_law_path" sp_path := (st__law_path X G c).ok sc__law_path (fun ds S Q E z => by first | (obtain ⟨rfl, _⟩ := z; rfl) | (obtain ⟨_, rfl, _⟩ := z; rfl) | (obtain ⟨_, _, rfl, _⟩ := z; rfl) | (obtain ⟨_, _, _, rfl, _⟩ := z; rfl) | (obtain ⟨_, _, _, _, rfl, _⟩ := z; rfl) | (obtain ⟨_, _, _, _, _, rfl, _⟩ := z; rfl) | (obtain ⟨_, _, _, _, _, _, rfl, _⟩ := z; rfl) | (obtain ⟨_, _, _, _, _, _, _, rfl, _⟩ := z; rfl) | (obtain ⟨_, _, _, _, _, _, _, _, rfl, _⟩ := z; rfl) | (obtain ⟨_, _, _, _, _, _, _, _, _, rfl, _⟩ := z; rfl) | (obtain ⟨_, _, _, _, _, _, _, _, _, _, rfl, _⟩ := z; rfl) | (obtain ⟨_, _, _, _, _, _, _, _, _, _, _, rfl, _⟩ := z; rfl) | (obtain ⟨_, _, _, _, _, _, _, _, _, _, _, _, rfl, _⟩ := z; rfl) | (obtain ⟨_, _, _, _, _, _, _, _, _, _, _, _, _, rfl, _⟩ := z; rfl)) (dv__law_path (k := 26) (z_len X G c) (z_max X G c) ((ok__law_next X G c).mono (by omega)) ((ok__law_points X G c).mono (by omega)) ((ok__law_ways X G c).mono (by omega))) (w_path)
theorem ok__law_step {C : Cmn} {h : Heap} (X : C.K.In h) (G : h.Ns mainGlobals C.mg) (c : SaysV h_fa h_fn h_ex C.K) : DefOk C 27 "_law_step" sp_lstep := (st__law_step X G c).ok sc__law_step (fun ds S Q E z => by first | (obtain ⟨rfl, _⟩ := z; rfl) | (obtain ⟨_, rfl, _⟩ := z; rfl) | (obtain ⟨_, _, rfl, _⟩ := z; rfl) | (obtain ⟨_, _, _, rfl, _⟩ := z; rfl) | (obtain ⟨_, _, _, _, rfl, _⟩ := z; rfl) | (obtain ⟨_, _, _, _, _, rfl, _⟩ := z; rfl) | (obtain ⟨_, _, _, _, _, _, rfl, _⟩ := z; rfl) | (obtain ⟨_, _, _, _, _, _, _, rfl, _⟩ := z; rfl) | (obtain ⟨_, _, _, _, _, _, _, _, rfl, _⟩ := z; rfl) | (obtain ⟨_, _, _, _, _, _, _, _, _, rfl, _⟩ := z; rfl) | (obtain ⟨_, _, _, _, _, _, _, _, _, _, rfl, _⟩ := z; rfl) | (obtain ⟨_, _, _, _, _, _, _, _, _, _, _, rfl, _⟩ := z; rfl) | (obtain ⟨_, _, _, _, _, _, _, _, _, _, _, _, rfl, _⟩ := z; rfl) | (obtain ⟨_, _, _, _, _, _, _, _, _, _, _, _, _, rfl, _⟩ := z; rfl)) (dv__law_step (k := 26) (z_len X G c) ((ok__law_next X G c).mono (by omega)) ((ok__law_part X G c).mono (by omega)) ((ok__law_points X G c).mono (by omega)) ((ok__law_ways X G c).mono (by omega))) (w_lstep)
theorem ok__law_common {C : Cmn} {h : Heap} (X : C.K.In h) (G : h.Ns mainGlobals C.mg) (c : SaysV h_fa h_fn h_ex C.K) : DefOk C 101 "_law_common" sp_lcommon := (st__law_common X G c).ok sc__law_common (fun ds S Q E z => by first | (obtain ⟨rfl, _⟩ := z; rfl) | (obtain ⟨_, rfl, _⟩ := z; rfl) | (obtain ⟨_, _, rfl, _⟩ := z; rfl) | (obtain ⟨_, _, _, rfl, _⟩ := z; rfl) | (obtain ⟨_, _, _, _, rfl, _⟩ := z; rfl) | (obtain ⟨_, _, _, _, _, rfl, _⟩ := z; rfl) | (obtain ⟨_, _, _, _, _, _, rfl, _⟩ := z; rfl) | (obtain ⟨_, _, _, _, _, _, _, rfl, _⟩ := z; rfl) | (obtain ⟨_, _, _, _, _, _, _, _, rfl, _⟩ := z; rfl) | (obtain ⟨_, _, _, _, _, _, _, _, _, rfl, _⟩ := z; rfl) | (obtain ⟨_, _, _, _, _, _, _, _, _, _, rfl, _⟩ := z; rfl) | (obtain ⟨_, _, _, _, _, _, _, _, _, _, _, rfl, _⟩ := z; rfl) | (obtain ⟨_, _, _, _, _, _, _, _, _, _, _, _, rfl, _⟩ := z; rfl) | (obtain ⟨_, _, _, _, _, _, _, _, _, _, _, _, _, rfl, _⟩ := z; rfl)) (dv__law_common (k := 100) (z_len X G c) (z_min X G c) (z_range X G c) ((ok__law_same X G c).mono (by omega))) (w_lcommon)
theorem rec__law_edits {C : Cmn} {h : Heap} (X : C.K.In h) (G : h.Ns mainGlobals C.mg) (c : SaysV h_fa h_fn h_ex C.K) : ∀ n, DefOk C (2 * n + 101) "_law_edits" (sp_ledits n)
  | 0 => ((st__law_edits X G c).none (fun ds S Q E z => by first | (obtain ⟨_, hz, _⟩ := z; exact absurd hz (Nat.not_lt_zero _)) | (obtain ⟨_, _, hz, _⟩ := z; exact absurd hz (Nat.not_lt_zero _)) | (obtain ⟨_, _, _, hz, _⟩ := z; exact absurd hz (Nat.not_lt_zero _)) | (obtain ⟨_, _, _, _, hz, _⟩ := z; exact absurd hz (Nat.not_lt_zero _)) | (obtain ⟨_, _, _, _, _, hz, _⟩ := z; exact absurd hz (Nat.not_lt_zero _)) | (obtain ⟨_, _, _, _, _, _, hz, _⟩ := z; exact absurd hz (Nat.not_lt_zero _)) | (obtain ⟨_, _, _, _, _, _, _, hz, _⟩ := z; exact absurd hz (Nat.not_lt_zero _)) | (obtain ⟨_, _, _, _, _, _, _, _, hz, _⟩ := z; exact absurd hz (Nat.not_lt_zero _)) | (obtain ⟨_, _, _, _, _, _, _, _, _, hz, _⟩ := z; exact absurd hz (Nat.not_lt_zero _)) | (obtain ⟨_, _, _, _, _, _, _, _, _, _, hz, _⟩ := z; exact absurd hz (Nat.not_lt_zero _)) | (obtain ⟨_, _, _, _, _, _, _, _, _, _, _, hz, _⟩ := z; exact absurd hz (Nat.not_lt_zero _)))).mono (Nat.zero_le _)
  | n + 1 => by
    have me := rec__law_edits X G c n
    have h__law_between : DefOk C (2 * n + 101 + 1) "_law_between" (sp_lbetween n) := (st__law_between X G c).ok sc__law_between (fun ds S Q E z => by first | (obtain ⟨rfl, _⟩ := z; rfl) | (obtain ⟨_, rfl, _⟩ := z; rfl) | (obtain ⟨_, _, rfl, _⟩ := z; rfl) | (obtain ⟨_, _, _, rfl, _⟩ := z; rfl) | (obtain ⟨_, _, _, _, rfl, _⟩ := z; rfl) | (obtain ⟨_, _, _, _, _, rfl, _⟩ := z; rfl) | (obtain ⟨_, _, _, _, _, _, rfl, _⟩ := z; rfl) | (obtain ⟨_, _, _, _, _, _, _, rfl, _⟩ := z; rfl) | (obtain ⟨_, _, _, _, _, _, _, _, rfl, _⟩ := z; rfl) | (obtain ⟨_, _, _, _, _, _, _, _, _, rfl, _⟩ := z; rfl) | (obtain ⟨_, _, _, _, _, _, _, _, _, _, rfl, _⟩ := z; rfl) | (obtain ⟨_, _, _, _, _, _, _, _, _, _, _, rfl, _⟩ := z; rfl) | (obtain ⟨_, _, _, _, _, _, _, _, _, _, _, _, rfl, _⟩ := z; rfl) | (obtain ⟨_, _, _, _, _, _, _, _, _, _, _, _, _, rfl, _⟩ := z; rfl)) (dv__law_between (k := 2 * n + 101) (z_len X G c) (z_min X G c) (z_range X G c) ((ok__law_common X G c).mono (by omega)) me) (w_lbetween n)
    exact ((st__law_edits X G c).ok sc__law_edits (fun ds S Q E z => by first | (obtain ⟨rfl, _⟩ := z; rfl) | (obtain ⟨_, rfl, _⟩ := z; rfl) | (obtain ⟨_, _, rfl, _⟩ := z; rfl) | (obtain ⟨_, _, _, rfl, _⟩ := z; rfl) | (obtain ⟨_, _, _, _, rfl, _⟩ := z; rfl) | (obtain ⟨_, _, _, _, _, rfl, _⟩ := z; rfl) | (obtain ⟨_, _, _, _, _, _, rfl, _⟩ := z; rfl) | (obtain ⟨_, _, _, _, _, _, _, rfl, _⟩ := z; rfl) | (obtain ⟨_, _, _, _, _, _, _, _, rfl, _⟩ := z; rfl) | (obtain ⟨_, _, _, _, _, _, _, _, _, rfl, _⟩ := z; rfl) | (obtain ⟨_, _, _, _, _, _, _, _, _, _, rfl, _⟩ := z; rfl) | (obtain ⟨_, _, _, _, _, _, _, _, _, _, _, rfl, _⟩ := z; rfl) | (obtain ⟨_, _, _, _, _, _, _, _, _, _, _, _, rfl, _⟩ := z; rfl) | (obtain ⟨_, _, _, _, _, _, _, _, _, _, _, _, _, rfl, _⟩ := z; rfl)) (dv__law_edits (k := 2 * n + 102) h__law_between (me.mono (by omega)) ((ok__law_same X G c).mono (by omega))) (w_ledits n)).mono (by omega)
theorem ok__law_edits {C : Cmn} {h : Heap} (X : C.K.In h) (G : h.Ns mainGlobals C.mg) (c : SaysV h_fa h_fn h_ex C.K) : DefOk C 151 "_law_edits" (sp_ledits 25) := rec__law_edits X G c 25
theorem ok__law_stirred {C : Cmn} {h : Heap} (X : C.K.In h) (G : h.Ns mainGlobals C.mg) (c : SaysV h_fa h_fn h_ex C.K) : DefOk C 63 "_law_stirred" sp_stirred := (st__law_stirred X G c).ok sc__law_stirred (fun ds S Q E z => by first | (obtain ⟨rfl, _⟩ := z; rfl) | (obtain ⟨_, rfl, _⟩ := z; rfl) | (obtain ⟨_, _, rfl, _⟩ := z; rfl) | (obtain ⟨_, _, _, rfl, _⟩ := z; rfl) | (obtain ⟨_, _, _, _, rfl, _⟩ := z; rfl) | (obtain ⟨_, _, _, _, _, rfl, _⟩ := z; rfl) | (obtain ⟨_, _, _, _, _, _, rfl, _⟩ := z; rfl) | (obtain ⟨_, _, _, _, _, _, _, rfl, _⟩ := z; rfl) | (obtain ⟨_, _, _, _, _, _, _, _, rfl, _⟩ := z; rfl) | (obtain ⟨_, _, _, _, _, _, _, _, _, rfl, _⟩ := z; rfl) | (obtain ⟨_, _, _, _, _, _, _, _, _, _, rfl, _⟩ := z; rfl) | (obtain ⟨_, _, _, _, _, _, _, _, _, _, _, rfl, _⟩ := z; rfl) | (obtain ⟨_, _, _, _, _, _, _, _, _, _, _, _, rfl, _⟩ := z; rfl) | (obtain ⟨_, _, _, _, _, _, _, _, _, _, _, _, _, rfl, _⟩ := z; rfl)) (dv__law_stirred (k := 62) (z_range X G c) ((ok__law_edited X G c).mono (by omega)) ((ok__law_next X G c).mono (by omega)) ((ok__law_path X G c).mono (by omega)) ((ok__law_refusal X G c).mono (by omega)) ((ok__law_small X G c).mono (by omega)) ((ok__law_step X G c).mono (by omega))) (w_stirred)
theorem facts {P : Program} {w : World} {K : PySem.W.Frag} {h : Heap} {mg : Str → Option Value} {f : Addr} (X : K.In h) (G : h.Ns mainGlobals mg) (hfa : mg ("law" : Str) = some (.ref f)) (c : SaysV h_fa h_fn h_ex K) :
    ∃ fd : FuncData, (∀ (s : Shared) (v : Value), BindsTo s fd ⟨[v], []⟩ [("script", v)]) ∧ ∀ base : Heap, K.In base → base.Ns mainGlobals mg → FnOk P w K mg base CX0 152 f fd ["script"] (spLaw K) := by
  obtain ⟨fd, F⟩ := c.d.def_ 46 (d := ⟨("law", none), "law", "law", defArgs s_law, defBody s_law, defScope s_law, [], []⟩) rfl
  have e := hfa.symm.trans (He.glo_ok X G (c.d.fact 46 (f := .glo "law") rfl))
  cases e
  have b := FunD.bindsA (ps := ["script"]) F fun _ _ _ _ _ _ us hl => match us, hl with | [_], _ => rfl
  refine ⟨fd, fun s v => b s [v] rfl, fun base _ _ => law_fn (C := ⟨P, w, K, mg, base⟩) (fn_ok (C := ⟨P, w, K, mg, base⟩) F sc_law (fun ds S Q E z => by obtain ⟨_, rfl, _⟩ := z; rfl) (dv_law (C := ⟨P, w, K, mg, base⟩) (k := 151) (z_abs X G c) (z_int X G c) ((ok__law_cell X G c).mono (by omega)) ((ok__law_drawn X G c).mono (by omega)) ((ok__law_edited X G c).mono (by omega)) ((ok__law_edits X G c).mono (by omega)) ((ok__law_next X G c).mono (by omega)) ((ok__law_same X G c).mono (by omega)) ((ok__law_state X G c).mono (by omega)) ((ok__law_stirred X G c).mono (by omega)) ((ok_difference X G c).mono (by omega)) ((ok_edited X G c).mono (by omega))) (w_law (He.ga K "Astray") (He.ga K "Misplaced") (He.ga K "Overdeep")))⟩
end K77
open PySem PySem.W PySem.Calls PyProof.Rows
theorem PySem.Challenge.cw_formsbrief_k77_differences_holds : PySem.Challenge.rw_formsbrief_k77_differences.Holds := by
  w_on; o_law
  refine HandSHeadRun.head_any (r := OpenLaw.row PySem.Challenge.rw_formsbrief_k77_differences) (q := view (OpenLaw.row PySem.Challenge.rw_formsbrief_k77_differences).prog [57]) (H := K77.h_hk) (ob := K77.h_ob) (M := 4000) (loose := K77.h_names) (d := HandSHeadRun.topDef (OpenLaw.row PySem.Challenge.rw_formsbrief_k77_differences).prog 57) (kwd := []) K77.h_ob_eq
    (by kernel_rfl) (fun s => by kernel_rfl) K77.h_run (by kernel_rfl) (by kernel_rfl) (by kernel_rfl) (by rfl) (by first | assumption | decide +kernel) (by decide +kernel) ⟨rfl, rfl, rfl, rfl, rfl, by decide +kernel⟩ ?hw ?hc
  case hw => w_witness2
  case hc =>
    refine L2.walk_ofE (l := PySem.Challenge.rw_formsbrief_k77_differences) (n := 63) (k := 152) (x := "script") (CX := L2.CX0) rfl (by decide) (by kernel_rfl) ⟨rfl, by decide, by decide⟩ ?F (fun _ _ _ _ z => z)
    intro w mg fa h Y G hmg0
    obtain ⟨K, KX, c⟩ := Y
    have hmg : mg ("law" : PySem.Str) = some (.ref fa) := by
      have e : (HandSHeadRun.topDef (OpenLaw.row PySem.Challenge.rw_formsbrief_k77_differences).prog 57).name = ("law" : PySem.Str) := by kernel_rfl
      rw [← e]
      exact hmg0
    obtain ⟨fd, hb, hF⟩ := K77.facts (P := (PySem.Challenge.rw_formsbrief_k77_differences).prog) (w := w) KX G hmg c
    exact ⟨K, fd, L3.spLaw K, KX, hb, fun H a ns hl _ hS => ⟨a, ns, rfl, hS, hl, fun _ => rfl⟩, hF⟩
