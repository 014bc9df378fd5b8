import PyProof.Rows.All
import Wide.All
import OpenK.AllK
import Wide.FinOn
import HandS.ForMost
import HandS.ForExc
import HandS.Walk
import HandS.Wide
import HandS.TupAny
import HandS.NoneIn
import PyProof.Rows.StrMul
import HandS.ExcOwn
import HandS.ExcIs
import HandS.ExcValue
import HandS.IsInst
import HandS.TupLe
import HandS.Deep
import HandS.EndBits
import HandS.RaiseMore
import KE.KIsAll
import HandS.Comp
import HandS.Codes
import HandS.Iter
import HandS.Zip
import KE.GoesMore
import KE.GoesEnum
import KE.GoesZip
import PySem.Challenge.RW_roofridges_k04_yards_made
set_option Elab.async false
set_option linter.all false
set_option maxRecDepth 100000
set_option maxHeartbeats 4000000
set_option exponentiation.threshold 10000
/-! R3, part A: readings over data. A tuple is a value (D.tup); what can change (lists, dicts) stands in a store S by its address. -/
namespace R3
open PySem PySem.Spec PyProof.Rows L2
abbrev St : Type := List (Option V)

/-! ### data, the store -/
inductive D where
  | non | bl (b : Bool) | int (i : Int) | str (x : Str) | tup (l : List D) | ref (a : Addr) | ty (n : String) | fl (l : List D)

/-- a list that never changes: the script, or one of the module's own -/
def SqF (K : PySem.W.Frag) (H : Hp) (a : Addr) (xs : List V) : Prop :=
  (∃ o, H a = some (.frz o (.lst xs))) ∨ ∃ (o : Obj) (its : Array Value) (n : Nat), K.lookup a = some o ∧ o.cls = .type "list" ∧ o.dict = none ∧ o.data = .seq its n ∧ its.size ≤ sizeLine ∧ Vals xs its.toList
theorem SqF.seqL {K : PySem.W.Frag} {H : Hp} {a : Addr} {xs : List V} (h : SqF K H a xs) : SqL K H a xs := by
  rcases h with ⟨o, h⟩ | h
  · exact .inl (.inr ⟨o, h⟩)
  · exact .inr h
mutual
inductive Rv (K : PySem.W.Frag) (H : Hp) : V → D → Prop
  | non : Rv K H .non .non
  | bl (b : Bool) : Rv K H (.bl b) (.bl b)
  | int (i : Int) : Rv K H (.int i) (.int i)
  | str (x : Str) : Rv K H (.str x) (.str x)
  | ref (a : Addr) : Rv K H (.ref a) (.ref a)
  | ty (n : String) : Rv K H (.ty n) (.ty n)
  | tup {a : Addr} {xs : List V} {ds : List D} : SqT K H a xs → RvL K H xs ds → Rv K H (.ref a) (.tup ds)
  | fl {a : Addr} {xs : List V} {ds : List D} : SqF K H a xs → RvL K H xs ds → Rv K H (.ref a) (.fl ds)
inductive RvL (K : PySem.W.Frag) (H : Hp) : List V → List D → Prop
  | nil : RvL K H [] []
  | cons {v : V} {vs : List V} {d : D} {ds : List D} : Rv K H v d → RvL K H vs ds → RvL K H (v :: vs) (d :: ds)
end

/-- the heap has grown: tuples and frozen things stand, nothing is gone -/
structure Gr (H H' : Hp) : Prop where
  tup : ∀ a xs, H a = some (.tup xs) → H' a = some (.tup xs)
  frz : ∀ a o u, H a = some (.frz o u) → H' a = some (.frz o u)
  dom : ∀ a, H' a = none → H a = none
theorem Gr.refl (H : Hp) : Gr H H := ⟨fun _ _ h => h, fun _ _ _ h => h, fun _ h => h⟩
theorem Gr.trans {H H1 H2 : Hp} (a : Gr H H1) (b : Gr H1 H2) : Gr H H2 := ⟨fun c x h => b.tup c x (a.tup c x h), fun c o u h => b.frz c o u (a.frz c o u h), fun c h => a.dom c (b.dom c h)⟩
theorem Gr.seqT {K : PySem.W.Frag} {H H' : Hp} {a : Addr} {xs : List V} (g : Gr H H') (h : SqT K H a xs) : SqT K H' a xs := by
  rcases h with (h | ⟨o, h⟩) | h
  · exact .inl (.inl (g.tup _ _ h))
  · exact .inl (.inr ⟨o, g.frz _ _ _ h⟩)
  · exact .inr h
theorem Gr.seqF {K : PySem.W.Frag} {H H' : Hp} {a : Addr} {xs : List V} (g : Gr H H') (h : SqF K H a xs) : SqF K H' a xs := by
  rcases h with ⟨o, h⟩ | h
  · exact .inl ⟨o, g.frz _ _ _ h⟩
  · exact .inr h
theorem Gr.new {H : Hp} {p : Addr} {o : HO} (h : H p = none) : Gr H (upd H p o) := by
  refine ⟨fun a xs e => ?_, fun a o' u e => ?_, fun a e => ?_⟩
  · rw [upd_ne (ne_of_none e h)]; exact e
  · rw [upd_ne (ne_of_none e h)]; exact e
  · by_cases q : a = p
    · subst q; exact h
    · rw [upd_ne q] at e; exact e
theorem Gr.set {H : Hp} {p : Addr} {o u : HO} (h : H p = some o) (ht : ∀ xs, o ≠ .tup xs) (hf : ∀ q v, o ≠ .frz q v) : Gr H (upd H p u) := by
  refine ⟨fun a xs e => ?_, fun a o' v e => ?_, fun a e => ?_⟩
  · have : a ≠ p := by rintro rfl; rw [h] at e; exact ht _ (Option.some.inj e)
    rw [upd_ne this]; exact e
  · have : a ≠ p := by rintro rfl; rw [h] at e; exact hf _ _ (Option.some.inj e)
    rw [upd_ne this]; exact e
  · by_cases q : a = p
    · subst q; rw [upd_same] at e; cases e
    · rw [upd_ne q] at e; exact e

section
variable {K : PySem.W.Frag} {H H' : Hp}
mutual
theorem Rv.mono (g : Gr H H') : ∀ {v : V} {d : D}, Rv K H v d → Rv K H' v d
  | _, _, .non => .non
  | _, _, .bl b => .bl b
  | _, _, .int i => .int i
  | _, _, .str x => .str x
  | _, _, .ref a => .ref a
  | _, _, .ty n => .ty n
  | _, _, .tup h r => .tup (g.seqT h) (RvL.mono g r)
  | _, _, .fl h r => .fl (g.seqF h) (RvL.mono g r)
theorem RvL.mono (g : Gr H H') : ∀ {vs : List V} {ds : List D}, RvL K H vs ds → RvL K H' vs ds
  | _, _, .nil => .nil
  | _, _, .cons h r => .cons (Rv.mono g h) (RvL.mono g r)
end
theorem RvL.length : ∀ {vs : List V} {ds : List D}, RvL K H vs ds → vs.length = ds.length
  | _, _, .nil => rfl
  | _, _, .cons _ r => by rw [List.length_cons, List.length_cons, RvL.length r]
theorem RvL.get : ∀ {vs : List V} {ds : List D} {i : Nat} {d : D}, RvL K H vs ds → ds[i]? = some d → ∃ v, vs[i]? = some v ∧ Rv K H v d
  | _, _, _, _, .nil, e => by simp at e
  | _, _, 0, _, .cons h _, e => by simp at e; subst e; exact ⟨_, rfl, h⟩
  | _, _, i + 1, d, .cons _ r, e => by
    obtain ⟨v, h1, h2⟩ := RvL.get (i := i) (d := d) r (by simpa using e)
    exact ⟨v, by simpa using h1, h2⟩
theorem RvL.getV : ∀ {vs : List V} {ds : List D} {i : Nat} {v : V}, RvL K H vs ds → vs[i]? = some v → ∃ d, ds[i]? = some d ∧ Rv K H v d
  | _, _, _, _, .nil, e => by simp at e
  | _, _, 0, _, .cons h _, e => by simp at e; subst e; exact ⟨_, rfl, h⟩
  | _, _, i + 1, v, .cons _ r, e => by
    obtain ⟨d, h1, h2⟩ := RvL.getV (i := i) (v := v) r (by simpa using e)
    exact ⟨d, by simpa using h1, h2⟩
theorem RvL.append : ∀ {vs us : List V} {ds es : List D}, RvL K H vs ds → RvL K H us es → RvL K H (vs ++ us) (ds ++ es)
  | _, _, _, _, .nil, s => s
  | _, _, _, _, .cons h r, s => .cons h (RvL.append r s)
theorem RvL.set {v : V} {d : D} (h : Rv K H v d) : ∀ {vs : List V} {ds : List D} (i : Nat), RvL K H vs ds → RvL K H (vs.set i v) (ds.set i d)
  | _, _, _, .nil => .nil
  | _, _, 0, .cons _ r => .cons h r
  | _, _, i + 1, .cons q r => .cons q (RvL.set h i r)
theorem RvL.take : ∀ {vs : List V} {ds : List D} (n : Nat), RvL K H vs ds → RvL K H (vs.take n) (ds.take n)
  | _, _, 0, _ => .nil
  | _, _, _ + 1, .nil => .nil
  | _, _, n + 1, .cons h r => .cons h (RvL.take n r)
theorem RvL.drop : ∀ {vs : List V} {ds : List D} (n : Nat), RvL K H vs ds → RvL K H (vs.drop n) (ds.drop n)
  | _, _, 0, r => r
  | _, _, _ + 1, .nil => .nil
  | _, _, n + 1, .cons _ r => RvL.drop n r
theorem RvL.reverse : ∀ {vs : List V} {ds : List D}, RvL K H vs ds → RvL K H vs.reverse ds.reverse
  | _, _, .nil => .nil
  | _, _, .cons h r => by rw [List.reverse_cons, List.reverse_cons]; exact (RvL.reverse r).append (.cons h .nil)
theorem RvL.ints : ∀ {vs : List V} {ns : List Int}, RvL K H vs (ns.map D.int) → vs = ns.map V.int
  | _, [], .nil => rfl
  | _, n :: ns, .cons h r => by cases h; rw [RvL.ints r]; rfl
theorem RvL.ofInts : ∀ {ns : List Int}, RvL K H (ns.map V.int) (ns.map D.int)
  | [] => .nil
  | n :: ns => .cons (.int n) RvL.ofInts
theorem RvL.strs : ∀ {vs : List V} {ns : List Str}, RvL K H vs (ns.map D.str) → vs = ns.map V.str
  | _, [], .nil => rfl
  | _, n :: ns, .cons h r => by cases h; rw [RvL.strs r]; rfl
theorem RvL.ofStrs : ∀ {ns : List Str}, RvL K H (ns.map V.str) (ns.map D.str)
  | [] => .nil
  | n :: ns => .cons (.str n) RvL.ofStrs
theorem RvL.bls : ∀ {vs : List V} {ns : List Bool}, RvL K H vs (ns.map D.bl) → vs = ns.map V.bl
  | _, [], .nil => rfl
  | _, n :: ns, .cons h r => by cases h; rw [RvL.bls r]; rfl
end

/-- the program's own errors -/
inductive Ex where
  | number | yard | point | text | row | name
def Ex.nm : Ex → String
  | .number => "NoNumber" | .yard => "NoYard" | .point => "NoPoint" | .text => "NoText" | .row => "NoRow" | .name => "NoName"
instance : DecidableEq Ex := fun a b => by cases a <;> cases b <;> first | exact isTrue rfl | exact isFalse (fun h => nomatch h)
/-- the class that stands by the error's name -/
def ClsA (K : PySem.W.Frag) (n : Ex) (C : Addr) : Prop := PySem.W.nsIn K mainGlobals (PySem.Str.ofString n.nm) = some (some (.ref C))
theorem ClsA.one {K : PySem.W.Frag} {n : Ex} {C C' : Addr} (a : ClsA K n C) (b : ClsA K n C') : C = C' := by
  have e := a.symm.trans b
  injection e with e
  injection e with e
  injection e
/-- an error caught, held -/
def ExH (cls : Value) (a : Addr) : HO := .ext fun h => ∃ (oe : Obj) (vs : Array Value), h.get? a = some oe ∧ Zc cls none oe ∧ oe.data = .fields vs
inductive SO where
  | lst (l : List D)
  | exn (n : Ex)
abbrev Sto := Addr → Option SO
def put (S : Sto) (a : Addr) (o : SO) : Sto := fun b => if b = a then some o else S b
theorem put_same {S : Sto} {a : Addr} {o : SO} : put S a o a = some o := by unfold put; rw [if_pos rfl]
theorem put_ne {S : Sto} {a b : Addr} {o : SO} (h : b ≠ a) : put S a o b = S b := by unfold put; rw [if_neg h]
theorem put_put {S : Sto} {a : Addr} {o u : SO} : put (put S a o) a u = put S a u := by
  funext b; unfold put; split <;> rfl
theorem put_comm {S : Sto} {a b : Addr} {o u : SO} (h : a ≠ b) : put (put S a o) b u = put (put S b u) a o := by
  funext c; unfold put
  by_cases h1 : c = b
  · subst h1; rw [if_pos rfl, if_neg (Ne.symm h), if_pos rfl]
  · rw [if_neg h1, if_neg h1]
theorem put_none {S : Sto} {a b : Addr} {o : SO} : put S a o b = none ↔ b ≠ a ∧ S b = none := by
  unfold put
  by_cases h : b = a
  · subst h; simp
  · rw [if_neg h]; simp [h]
def Le (S S' : Sto) : Prop := ∀ a o, S a = some o → S' a = some o
theorem Le.refl (S : Sto) : Le S S := fun _ _ h => h
theorem Le.trans {S S1 S2 : Sto} (a : Le S S1) (b : Le S1 S2) : Le S S2 := fun c o h => b c o (a c o h)
theorem Le.put {S : Sto} {p : Addr} {o : SO} (h : S p = none) : Le S (put S p o) := fun a u e => by
  have : a ≠ p := by rintro rfl; rw [h] at e; cases e
  rw [put_ne this]; exact e
theorem Le.puts {S S' : Sto} {p : Addr} {o : SO} (h : Le S S') : Le (R3.put S p o) (R3.put S' p o) := fun a u e => by
  by_cases q : a = p
  · subst q; rw [put_same] at e ⊢; exact e
  · rw [put_ne q] at e ⊢; exact h a u e
/-- a list that may be read -/
def IsL (S : Sto) (a : Addr) (l : List D) : Prop := S a = some (.lst l)

def RO (K : PySem.W.Frag) (H : Hp) (a : Addr) : SO → Prop
  | .lst l => ∃ xs, H a = some (.lst xs) ∧ RvL K H xs l
  | .exn n => ∃ C, ClsA K n C ∧ H a = some (ExH (.ref C) a)
def RS (K : PySem.W.Frag) (S : Sto) (H : Hp) : Prop := ∀ a o, S a = some o → RO K H a o
section
variable {K : PySem.W.Frag} {H H' : Hp} {S S' : Sto}
theorem RO.mono {a : Addr} {o : SO} (g : Gr H H') (e : H' a = H a) (h : RO K H a o) : RO K H' a o := by
  cases o with
  | lst l => obtain ⟨xs, h1, h2⟩ := h; exact ⟨xs, e.trans h1, h2.mono g⟩
  | exn n => obtain ⟨C, h1, h2⟩ := h; exact ⟨C, h1, e.trans h2⟩
theorem RO.there {a : Addr} {o : SO} (h : RO K H a o) : ∃ u, H a = some u := by
  cases o with
  | lst l => obtain ⟨xs, h1, h2⟩ := h; exact ⟨_, h1⟩
  | exn n => obtain ⟨C, h1, h2⟩ := h; exact ⟨_, h2⟩
theorem RS.free (r : RS K S H) {p : Addr} (h : H p = none) : S p = none := by
  cases e : S p with
  | none => rfl
  | some o => obtain ⟨u, q⟩ := (r p o e).there; rw [h] at q; cases q
theorem RS.le (r : RS K S' H) (h : Le S S') : RS K S H := fun a o e => r a o (h a o e)
/-- a new thing that the store does not hold -/
theorem RS.new0 {p : Addr} {o : HO} (r : RS K S H) (h : H p = none) : RS K S (upd H p o) := fun a u e => by
  have : a ≠ p := by rintro rfl; rw [r.free h] at e; cases e
  exact (r a u e).mono (Gr.new h) (upd_ne this)
theorem RS.newL {p : Addr} {xs : List V} {l : List D} (r : RS K S H) (h : H p = none) (v : RvL K H xs l) : RS K (put S p (.lst l)) (upd H p (.lst xs)) := fun a u e => by
  by_cases q : a = p
  · subst q; rw [put_same] at e; cases e; exact ⟨xs, upd_same, v.mono (Gr.new h)⟩
  · rw [put_ne q] at e; exact (r a u e).mono (Gr.new h) (upd_ne q)
theorem RS.setL {p : Addr} {xs ys : List V} {l : List D} (r : RS K S H) (h : H p = some (.lst xs)) (v : RvL K H ys l) : RS K (put S p (.lst l)) (upd H p (.lst ys)) := fun a u e => by
  have g : Gr H (upd H p (.lst ys)) := Gr.set h (by intro z; simp) (by intro z y; simp)
  by_cases q : a = p
  · subst q; rw [put_same] at e; cases e; exact ⟨ys, upd_same, v.mono g⟩
  · rw [put_ne q] at e; exact (r a u e).mono g (upd_ne q)
theorem RS.seqL (r : RS K S H) {a : Addr} {l : List D} (h : IsL S a l) : ∃ xs, SqL K H a xs ∧ RvL K H xs l := by
  obtain ⟨xs, h1, h2⟩ := r _ _ h
  exact ⟨xs, SqL.of h1, h2⟩
end

/-- what stood in the heap untracked stays as it was, untracked -/
def Kp (S S' : Sto) (H H' : Hp) : Prop := ∀ b, H b ≠ none → S b = none → S' b = none ∧ H' b = H b
theorem Kp.refl (S : Sto) (H : Hp) : Kp S S H H := fun _ _ h => ⟨h, rfl⟩
theorem Kp.trans {S S1 S2 : Sto} {H H1 H2 : Hp} (a : Kp S S1 H H1) (g : Gr H H1) (b : Kp S1 S2 H1 H2) : Kp S S2 H H2 := fun c h1 h2 => by
  obtain ⟨a1, a2⟩ := a c h1 h2
  obtain ⟨b1, b2⟩ := b c (by rw [a2]; exact h1) a1
  exact ⟨b1, b2.trans a2⟩
theorem Kp.new {S : Sto} {H : Hp} {p : Addr} {o : SO} {u : HO} (h : H p = none) : Kp S (put S p o) H (upd H p u) := fun b h1 h2 => by
  have : b ≠ p := by rintro rfl; exact h1 h
  rw [put_ne this, upd_ne this]; exact ⟨h2, rfl⟩
theorem Kp.new0 {S : Sto} {H : Hp} {p : Addr} {u : HO} (h : H p = none) : Kp S S H (upd H p u) := fun b h1 h2 => by
  have : b ≠ p := by rintro rfl; exact h1 h
  rw [upd_ne this]; exact ⟨h2, rfl⟩
theorem Kp.set {S : Sto} {H : Hp} {p : Addr} {o u : SO} {v : HO} (h : S p = some u) : Kp S (put S p o) H (upd H p v) := fun b h1 h2 => by
  have : b ≠ p := by rintro rfl; rw [h] at h2; cases h2
  rw [put_ne this, upd_ne this]; exact ⟨h2, rfl⟩
theorem Kp.le {S S' S0 : Sto} {H H' : Hp} (h : Kp S S' H H') (l : Le S0 S') : Kp S S0 H H' := fun b h1 h2 => by
  obtain ⟨a1, a2⟩ := h b h1 h2
  refine ⟨?_, a2⟩
  cases e : S0 b with
  | none => rfl
  | some o => have := l b o e; rw [a1] at this; cases this

/-! ### slots -/
abbrev Sl := List (Option D)
def at3 : Sl → Nat → Option D
  | [], _ => none
  | x :: _, 0 => x
  | _ :: r, i + 1 => at3 r i
theorem at3_get : ∀ {z : Sl} {i : Nat} {d : D}, at3 z i = some d → z[i]? = some (some d)
  | [], _, _, h => by cases h
  | x :: r, 0, d, h => by simpa [at3] using h
  | x :: r, i + 1, d, h => by simpa using at3_get (z := r) (i := i) h
structure Rel (K : PySem.W.Frag) (H : Hp) (σ : St) (S : Sto) (z : Sl) : Prop where
  len : σ.length = z.length
  sl : ∀ (i : Nat) (d : D), z[i]? = some (some d) → ∃ v, σ[i]? = some (some v) ∧ Rv K H v d
  st : RS K S H
section
variable {K : PySem.W.Frag} {H H' : Hp} {S S' : Sto} {σ : St} {z : Sl}
theorem Rel.grow (r : Rel K H σ S z) (g : Gr H H') (s : RS K S' H') : Rel K H' σ S' z := ⟨r.len, fun i d e => let ⟨v, h1, h2⟩ := r.sl i d e; ⟨v, h1, h2.mono g⟩, s⟩
theorem Rel.setS (r : Rel K H σ S z) {i : Nat} {v : V} {d : D} (h : Rv K H v d) : Rel K H (σ.set i (some v)) S (z.set i (some d)) := by
  refine ⟨by rw [List.length_set, List.length_set]; exact r.len, fun j e q => ?_, r.st⟩
  by_cases c : i = j
  · subst c
    by_cases hi : i < z.length
    · rw [List.getElem?_set_self hi] at q
      cases q
      exact ⟨v, by rw [List.getElem?_set_self (by rw [r.len]; exact hi)], h⟩
    · rw [List.getElem?_eq_none (by rw [List.length_set]; omega)] at q; cases q
  · rw [List.getElem?_set_ne c] at q ⊢
    exact r.sl j e q
theorem Rel.unset (r : Rel K H σ S z) {i : Nat} {o : Option V} : Rel K H (σ.set i o) S (z.set i none) := by
  refine ⟨by rw [List.length_set, List.length_set]; exact r.len, fun j e q => ?_, r.st⟩
  by_cases c : i = j
  · subst c
    by_cases hi : i < z.length
    · rw [List.getElem?_set_self hi] at q; cases q
    · rw [List.getElem?_eq_none (by rw [List.length_set]; omega)] at q; cases q
  · rw [List.getElem?_set_ne c] at q ⊢
    exact r.sl j e q
theorem Rel.le (r : Rel K H σ S' z) (h : Le S S') : Rel K H σ S z := ⟨r.len, r.sl, r.st.le h⟩
end

/-! ### readings -/
abbrev PD := D → Sto → Prop
/-- the ways by an error -/
abbrev GX := Sl → Ex → Sto → Prop
abbrev TE3 := GX → Sl → Sto → PD → Prop
abbrev TT3 := GX → Sl → Sto → (Bool → Sto → Prop) → Prop
abbrev TA3 := GX → Sl → Sto → (List D → Sto → Prop) → Prop
structure Ends3 where
  nx : Sl → Sto → Prop
  rt : PD
  bk : Sl → Sto → Prop
  ct : Sl → Sto → Prop
  xc : GX
abbrev TS3 := Ends3 → Sl → Sto → Prop
abbrev TG3 := GX → D → Sl → Sto → (Sl → Sto → Prop) → Prop

/-- what an error of the reading's ways leaves is wished -/
def XDown (K : PySem.W.Frag) (W : WX) (G : GX) (S : Sto) (H : Hp) : Prop := ∀ z n C S' σ' H', G z n S' → ClsA K n C → Rel K H' σ' S' z → Gr H H' → Kp S S' H H' → W (.ref C) none σ' H'
theorem XDown.on {K : PySem.W.Frag} {W : WX} {G : GX} {S S1 : Sto} {H H1 : Hp} (d : XDown K W G S H) (g : Gr H H1) (k : Kp S S1 H H1) : XDown K W G S1 H1 :=
  fun z n C S' σ' H' h c r g' k' => d z n C S' σ' H' h c r (g.trans g') (k.trans g k')
structure RelX (K : PySem.W.Frag) (W : WX) (G : GX) (H : Hp) (σ : St) (S : Sto) (z : Sl) : Prop extends Rel K H σ S z where
  xd : XDown K W G S H
theorem RelX.grow {K : PySem.W.Frag} {W : WX} {G : GX} {H H' : Hp} {σ : St} {S S' : Sto} {z : Sl} (r : RelX K W G H σ S z) (g : Gr H H') (s : RS K S' H') (k : Kp S S' H H') : RelX K W G H' σ S' z := ⟨r.toRel.grow g s, r.xd.on g k⟩
def Post (K : PySem.W.Frag) (R : PD) (S : Sto) (H : Hp) (Q : VK) : Prop := ∀ d S' v H', R d S' → Rv K H' v d → RS K S' H' → Gr H H' → Kp S S' H H' → Q v H'
def up (K : PySem.W.Frag) (W : WX) (t : TE3) : TE := fun σ H Q => ∃ G z S R, RelX K W G H σ S z ∧ t G z S R ∧ Post K R S H Q
def upT (K : PySem.W.Frag) (W : WX) (t : TT3) : TT := fun σ H Q => ∃ G z S R, RelX K W G H σ S z ∧ t G z S R ∧ ∀ b S' H', R b S' → RS K S' H' → Gr H H' → Kp S S' H H' → Q b H'
def upA (K : PySem.W.Frag) (W : WX) (t : TA3) : TA := fun σ H Q => ∃ G z S R, RelX K W G H σ S z ∧ t G z S R ∧ ∀ ds S' vs H', R ds S' → RvL K H' vs ds → RS K S' H' → Gr H H' → Kp S S' H H' → Q vs H'
def upG (K : PySem.W.Frag) (W : WX) (t : TG3) : TG := fun v σ H Q => ∃ G d z S R, Rv K H v d ∧ RelX K W G H σ S z ∧ t G d z S R ∧ ∀ z' S' σ' H', R z' S' → Rel K H' σ' S' z' → Gr H H' → Kp S S' H H' → Q σ' H'
structure Down (K : PySem.W.Frag) (W : WX) (B : Ends3) (D : Ends) (S : Sto) (H : Hp) : Prop where
  nx : ∀ z S' σ' H', B.nx z S' → Rel K H' σ' S' z → Gr H H' → Kp S S' H H' → D.nx σ' H'
  rt : ∀ d S' v H', B.rt d S' → Rv K H' v d → RS K S' H' → Gr H H' → Kp S S' H H' → D.rt v H'
  bk : ∀ z S' σ' H', B.bk z S' → Rel K H' σ' S' z → Gr H H' → Kp S S' H H' → D.bk σ' H'
  ct : ∀ z S' σ' H', B.ct z S' → Rel K H' σ' S' z → Gr H H' → Kp S S' H H' → D.ct σ' H'
  xc : XDown K W B.xc S H
def upS (K : PySem.W.Frag) (W : WX) (t : TS3) : TS := fun D σ H => ∃ z S B, Rel K H σ S z ∧ t B z S ∧ Down K W B D S H
theorem Down.on {K : PySem.W.Frag} {W : WX} {B : Ends3} {D : Ends} {S S1 : Sto} {H H1 : Hp} (d : Down K W B D S H) (g : Gr H H1) (k : Kp S S1 H H1) : Down K W B D S1 H1 :=
  ⟨fun z S' σ' H' h r g' k' => d.nx z S' σ' H' h r (g.trans g') (k.trans g k'), fun e S' v H' h r s g' k' => d.rt e S' v H' h r s (g.trans g') (k.trans g k'),
   fun z S' σ' H' h r g' k' => d.bk z S' σ' H' h r (g.trans g') (k.trans g k'), fun z S' σ' H' h r g' k' => d.ct z S' σ' H' h r (g.trans g') (k.trans g k'), d.xc.on g k⟩

abbrev E3 (X : Cx) (W : WX) (e : Expr) (t : TE3) : Prop := PE X e (up X.K W t)
abbrev T3 (X : Cx) (W : WX) (e : Expr) (t : TT3) : Prop := PT X e (upT X.K W t)
abbrev W3 (X : Cx) (W : WX) (e : Expr) (t : TT3) : Prop := PW X e (upT X.K W t)
abbrev G3 (X : Cx) (W : WX) (e : Expr) (t : TG3) : Prop := PG X e (upG X.K W t)
abbrev S3 (X : Cx) (W : WX) (s : Stmt) (t : TS3) : Prop := PS X s (upS X.K W t)
abbrev S3s (X : Cx) (W : WX) (s : List Stmt) (t : TS3) : Prop := PSs X s (upS X.K W t)

section
variable {X : Cx}
theorem PEimp {e : Expr} {t t' : TE} (h : PE X e t) (f : ∀ σ H Q, t' σ H Q → t σ H Q) : PE X e t' := ⟨fun pins s σ H Q I q => h.run pins s σ H Q I (f σ H Q q)⟩
theorem PTimp {e : Expr} {t t' : TT} (h : PT X e t) (f : ∀ σ H Q, t' σ H Q → t σ H Q) : PT X e t' := ⟨fun pins s σ H Q I q => h.run pins s σ H Q I (f σ H Q q)⟩
theorem PWimp {e : Expr} {t t' : TT} (h : PW X e t) (f : ∀ σ H Q, t' σ H Q → t σ H Q) : PW X e t' := ⟨fun w pins s σ H Q I q => h.run w pins s σ H Q I (f σ H Q q)⟩
theorem PAimp {e : List Expr} {t t' : TA} (h : PA X e t) (f : ∀ σ H Q, t' σ H Q → t σ H Q) : PA X e t' := ⟨fun p pins s σ H Q I q => h.run p pins s σ H Q I (f σ H Q q)⟩
theorem PGimp {e : Expr} {t t' : TG} (h : PG X e t) (f : ∀ v σ H Q, t' v σ H Q → t v σ H Q) : PG X e t' := ⟨fun pins s σ H v u Q I r q => h.run pins s σ H v u Q I r (f v σ H Q q)⟩
theorem PSimp {e : Stmt} {t t' : TS} (h : PS X e t) (f : ∀ D σ H, t' D σ H → t D σ H) : PS X e t' := ⟨fun pins s σ H D I q => h.run pins s σ H D I (f D σ H q)⟩
theorem PSsimp {e : List Stmt} {t t' : TS} (h : PSs X e t) (f : ∀ D σ H, t' D σ H → t D σ H) : PSs X e t' := ⟨fun pins s σ H D I q => h.run pins s σ H D I (f D σ H q)⟩
end

/-- a way that a bool decides -/
structure Br (b : Bool) (P Q : Prop) : Prop where
  t : b = true → P
  f : b = false → Q
theorem br_dec {p : Prop} [Decidable p] {P Q : Prop} (h1 : p → P) (h2 : ¬ p → Q) : Br (decide p) P Q := ⟨fun h => h1 (of_decide_eq_true h), fun h => h2 (of_decide_eq_false h)⟩
theorem br_decN {p : Prop} [Decidable p] {P Q : Prop} (h1 : ¬ p → P) (h2 : p → Q) : Br (!decide p) P Q := ⟨fun h => h1 (by simpa using h), fun h => h2 (by simpa using h)⟩
theorem br_t {P Q : Prop} (h : P) : Br true P Q := ⟨fun _ => h, (fun e => nomatch e)⟩
theorem br_f {P Q : Prop} (h : Q) : Br false P Q := ⟨(fun e => nomatch e), fun _ => h⟩
theorem Br.ite {b : Bool} {P Q : Prop} (h : Br b P Q) : if b = true then P else Q := by
  cases b with
  | true => exact h.t rfl
  | false => exact h.f rfl

/-! ### expressions -/
def wV (i : Nat) : TE3 := fun Y z S R => match at3 z i with
  | some d => R d S
  | none => False
def wC (d : D) : TE3 := fun _ _ S R => R d S
abbrev F2 := D → D → Sto → PD → Prop
def w2 (f : F2) (ta tb : TE3) : TE3 := fun Y z S R => ta Y z S fun x S1 => tb Y z S1 fun y S2 => f x y S2 R
def w1 (f : D → Sto → PD → Prop) (ta : TE3) : TE3 := fun Y z S R => ta Y z S fun x S1 => f x S1 R
def Up2 (K : PySem.W.Frag) (f : F2) : R2 := fun x y H Q => ∃ d e S R, Rv K H x d ∧ Rv K H y e ∧ RS K S H ∧ f d e S R ∧ Post K R S H Q
def Up1 (K : PySem.W.Frag) (f : D → Sto → PD → Prop) : V → Hp → VK → Prop := fun x H Q => ∃ d S R, Rv K H x d ∧ RS K S H ∧ f d S R ∧ Post K R S H Q
theorem Post.now {K : PySem.W.Frag} {R : PD} {S : Sto} {H : Hp} {Q : VK} {d : D} {v : V} (p : Post K R S H Q) (h : R d S) (r : Rv K H v d) (s : RS K S H) : Q v H := p d S v H h r s (Gr.refl H) (Kp.refl S H)
/-- a new tuple -/
theorem Post.tup {K : PySem.W.Frag} {R : PD} {S : Sto} {H : Hp} {Q : VK} {ds : List D} {xs : List V} {q : Addr} (p : Post K R S H Q) (h : R (.tup ds) S) (n : H q = none) (r : RvL K H xs ds) (s : RS K S H) : Q (.ref q) (upd H q (.tup xs)) :=
  p (.tup ds) S (.ref q) _ h (.tup (SqT.of upd_same) (r.mono (Gr.new n))) (s.new0 n) (Gr.new n) (Kp.new0 n)
/-- a new list -/
theorem Post.lst {K : PySem.W.Frag} {R : PD} {S : Sto} {H : Hp} {Q : VK} {ds : List D} {xs : List V} {q : Addr} (p : Post K R S H Q) (h : ∀ q, S q = none → R (.ref q) (put S q (.lst ds))) (n : H q = none) (r : RvL K H xs ds) (s : RS K S H) : Q (.ref q) (upd H q (.lst xs)) :=
  p (.ref q) _ (.ref q) _ (h q (s.free n)) (.ref q) (s.newL n r) (Gr.new n) (Kp.new n)

section
variable {X : Cx} {W : WX} {a b c : Expr} {ta tb tc : TE3} {pos : Pos}
theorem e3_of_tC {v : V} {d : D} {e : Expr} (h : PE X e (tC v)) (r : ∀ K H, Rv K H v d) : E3 X W e (wC d) := PEimp h fun σ H Q ⟨Y, z, S, R, rel, h1, post⟩ => post.now h1 (r _ _) rel.st
theorem e3_int {i j pos} : E3 X W (.Constant (.int i) j pos) (wC (.int i)) := e3_of_tC pe_int fun _ _ => .int i
theorem e3_bl {b j pos} : E3 X W (.Constant (.bool b) j pos) (wC (.bl b)) := e3_of_tC pe_bl fun _ _ => .bl b
theorem e3_non {j pos} : E3 X W (.Constant .none j pos) (wC .non) := e3_of_tC pe_non fun _ _ => .non
theorem e3_str {x j pos} : E3 X W (.Constant (.str x) j pos) (wC (.str x)) := e3_of_tC pe_str fun _ _ => .str x
theorem v3 (i : Nat) {x : Str} {pos : Pos} (hN : X.N[i]? = some x := by rfl) (hv : Vis X.env.scope x := by first | exact Or.inl rfl | exact Or.inr (Or.inl rfl) | exact Or.inr (Or.inr rfl)) (hd : (x == ("__debug__" : Str)) = false := by decide)
    (hcd : (x == ("__classdict__" : Str)) = false := by decide) : E3 X W (.Name x pos) (wV i) := PEimp (pe_var hN hv hd hcd) fun σ H Q ⟨Y, z, S, R, rel, h1, post⟩ => by
  unfold wV at h1
  cases e : at3 z i with
  | none => rw [e] at h1; exact h1.elim
  | some d =>
    rw [e] at h1
    obtain ⟨v, e1, r⟩ := rel.sl i d (at3_get e)
    exact ⟨v, e1, post.now h1 r rel.st⟩
theorem bin3 {f : F2} (ha : E3 X W a ta) (hb : E3 X W b tb) {σ : St} {H : Hp} {Q : VK} (h : up X.K W (w2 f ta tb) σ H Q) : up X.K W ta σ H fun x H1 => up X.K W tb σ H1 fun y H2 => Up2 X.K f x y H2 Q := by
  obtain ⟨Y, z, S, R, rel, h, post⟩ := h
  refine ⟨Y, z, S, _, rel, h, fun d S1 v H1 h1 rv rs g k => ?_⟩
  refine ⟨Y, z, S1, _, rel.grow g rs k, h1, fun e S2 u H2 h2 ru rs2 g2 k2 => ?_⟩
  exact ⟨d, e, S2, R, rv.mono g2, ru, rs2, h2, fun d' S' v' H' h' r' s' g' k' => post d' S' v' H' h' r' s' (g.trans (g2.trans g')) (k.trans g (k2.trans g2 k'))⟩
theorem e3_op {op : Operator} {f : F2} (ho : OpR X (binaryOp op) (Up2 X.K f)) (ha : E3 X W a ta) (hb : E3 X W b tb) : E3 X W (.BinOp a op b pos) (w2 f ta tb) := PEimp (pe_op ho ha hb) fun _ _ _ h => bin3 ha hb h
theorem e3_cmp {op : CmpOp} {f : F2} (ho : OpR X (compareOp op) (Up2 X.K f)) (ha : E3 X W a ta) (hb : E3 X W b tb) (hm : behindInMarks op b = false := by first | exact nobehind _ (by decide) (by decide) | rfl) : E3 X W (.Compare a [op] [b] pos) (w2 f ta tb) :=
  PEimp (pe_cmpR ho ha hb hm) fun _ _ _ h => bin3 ha hb h
theorem e3_un {op : UnaryOp} {f : D → Sto → PD → Prop} (ho : UnR X (unaryOp op) (Up1 X.K f)) (ha : E3 X W a ta) : E3 X W (.UnaryOp op a pos) (w1 f ta) := PEimp (pe_un ho ha) fun σ H Q ⟨Y, z, S, R, rel, h, post⟩ =>
  ⟨Y, z, S, _, rel, h, fun d S1 v H1 h1 rv rs g k => ⟨d, S1, R, rv, rs, h1, fun d' S' v' H' h' r' s' g' k' => post d' S' v' H' h' r' s' (g.trans g') (k.trans g k')⟩⟩
theorem e3_ix {f : F2} (ho : IxR X (Up2 X.K f)) (ha : E3 X W a ta) (hb : E3 X W b tb) (hs : PlainIx b := by exact (fun _ _ => rfl)) : E3 X W (.Subscript a b pos) (w2 f ta tb) := PEimp (pe_ix ho ha hb hs) fun _ _ _ h => bin3 ha hb h
end

/-! ### tests -/
def wB (t : TE3) : TT3 := fun Y z S R => t Y z S fun x S1 => match x with
  | .bl b => R b S1
  | _ => False
def wAnd (t u : TT3) : TT3 := fun Y z S R => t Y z S fun b S1 => Br b (u Y z S1 R) (R false S1)
def wOr (t u : TT3) : TT3 := fun Y z S R => t Y z S fun b S1 => Br b (R true S1) (u Y z S1 R)
def wNot (t : TT3) : TT3 := fun Y z S R => t Y z S fun b S1 => R (!b) S1
section
variable {X : Cx} {W : WX} {a b c : Expr} {ta tb tc : TE3} {u v : TT3} {pos : Pos} {rest : List Expr}
theorem upT_wB {σ : St} {H : Hp} {Q : Bool → Hp → Prop} {K : PySem.W.Frag} {t : TE3} (h : upT K W (wB t) σ H Q) : tB (up K W t) σ H Q := by
  obtain ⟨Y, z, S, R, rel, h, post⟩ := h
  refine ⟨Y, z, S, _, rel, h, fun d S1 v H1 h1 rv rs g k => ?_⟩
  cases rv with
  | bl b => exact ⟨b, rfl, post b S1 H1 h1 rs g k⟩
  | _ => exact h1.elim
theorem t3_val {e : Expr} {t : TE3} (h : E3 X W e t) (he : ∀ whole, isTrue e X.env whole = (do let v ← whole; standAt e.pos; holding [v] (truthy v)) := by intro _; rfl) : T3 X W e (wB t) := PTimp (pt_val h he) fun _ _ _ h => upT_wB h
theorem t3_cmp {op : CmpOp} {f : F2} (ho : OpR X (compareOp op) (Up2 X.K f)) (ha : E3 X W a ta) (hb : E3 X W b tb) (hm : behindInMarks op b = false := by first | exact nobehind _ (by decide) (by decide) | rfl) : T3 X W (.Compare a [op] [b] pos) (wB (w2 f ta tb)) :=
  PTimp (pt_cmpR ho ha hb hm) fun σ H Q h => by
    obtain ⟨Y, z, S, R, rel, h, post⟩ := upT_wB h
    exact bin3 ha hb ⟨Y, z, S, R, rel, h, post⟩
theorem seqT {σ : St} {H : Hp} {Q : Bool → Hp → Prop} {K : PySem.W.Frag} {W : WX} {t : TT3} {k : Bool → TT3} (h : upT K W (fun Y z S R => t Y z S fun b S1 => k b Y z S1 R) σ H Q) : upT K W t σ H fun b H1 => upT K W (k b) σ H1 Q := by
  obtain ⟨Y, z, S, R, rel, h, post⟩ := h
  refine ⟨Y, z, S, _, rel, h, fun d S1 H1 h1 rs g kk => ⟨Y, z, S1, R, rel.grow g rs kk, h1, fun b S' H' h' rs' g' k' => post b S' H' h' rs' (g.trans g') (kk.trans g k')⟩⟩
theorem upT_br {σ : St} {H : Hp} {Q : Bool → Hp → Prop} {K : PySem.W.Frag} {b : Bool} {t u : TT3} (h : upT K W (fun Y z S R => Br b (t Y z S R) (u Y z S R)) σ H Q) : if b = true then upT K W t σ H Q else upT K W u σ H Q := by
  obtain ⟨Y, z, S, R, rel, h, post⟩ := h
  cases b with
  | true => exact ⟨Y, z, S, R, rel, h.t rfl, post⟩
  | false => exact ⟨Y, z, S, R, rel, h.f rfl, post⟩
theorem upT_c {σ : St} {H : Hp} {Q : Bool → Hp → Prop} {K : PySem.W.Frag} {b : Bool} (h : upT K W (fun Y z S R => R b S) σ H Q) : Q b H := by
  obtain ⟨Y, z, S, R, rel, h, post⟩ := h
  exact post b S H h rel.st (Gr.refl _) (Kp.refl _ _)
theorem mapT {σ : St} {H : Hp} {Q Q' : Bool → Hp → Prop} {K : PySem.W.Frag} {t : TT3} (h : upT K W t σ H Q) (f : ∀ b H', Q b H' → Q' b H') : upT K W t σ H Q' := by
  obtain ⟨Y, z, S, R, rel, h, post⟩ := h
  exact ⟨Y, z, S, R, rel, h, fun b S' H' h' rs' g' k' => f _ _ (post b S' H' h' rs' g' k')⟩
theorem w3_and1 (ha : T3 X W a u) : W3 X W (.BoolOp .And [a] pos) u := pw_and1 ha
theorem w3_or1 (ha : T3 X W a u) : W3 X W (.BoolOp .Or [a] pos) u := pw_or1 ha
theorem w3_and (ha : T3 X W a u) (hb : W3 X W (.BoolOp .And (b :: rest) pos) v) : W3 X W (.BoolOp .And (a :: b :: rest) pos) (wAnd u v) := PWimp (pw_and ha hb) fun σ H Q h =>
  mapT (seqT (t := u) (k := fun b Y z S1 R => Br b (v Y z S1 R) (R false S1)) h) fun b H' h' => by
    have h2 := upT_br (u := fun Y z S R => R false S) h'
    cases b with
    | true => exact h2
    | false => exact upT_c h2
theorem w3_or (ha : T3 X W a u) (hb : W3 X W (.BoolOp .Or (b :: rest) pos) v) : W3 X W (.BoolOp .Or (a :: b :: rest) pos) (wOr u v) := PWimp (pw_or ha hb) fun σ H Q h =>
  mapT (seqT (t := u) (k := fun b Y z S1 R => Br b (R true S1) (v Y z S1 R)) h) fun b H' h' => by
    have h2 := upT_br (t := fun Y z S R => R true S) h'
    cases b with
    | true => exact upT_c h2
    | false => exact h2
theorem t3_w (h : W3 X W a u) : T3 X W a u := PW.pt h
theorem t3_not (ha : T3 X W a u) : T3 X W (.UnaryOp .Not a pos) (wNot u) := PTimp (pt_not ha) fun σ H Q ⟨Y, z, S, R, rel, h, post⟩ => ⟨Y, z, S, _, rel, h, fun b S' H' h' rs' g' k' => post _ S' H' h' rs' g' k'⟩
/-- and, or, not as values of bools -/
def wAndV (ta tb : TE3) : TE3 := fun Y z S R => ta Y z S fun x S1 => match x with
  | .bl b => Br b (tb Y z S1 R) (R (.bl false) S1)
  | _ => False
def wOrV (ta tb : TE3) : TE3 := fun Y z S R => ta Y z S fun x S1 => match x with
  | .bl b => Br b (R (.bl true) S1) (tb Y z S1 R)
  | _ => False
def wNotV (ta : TE3) : TE3 := fun Y z S R => ta Y z S fun x S1 => match x with
  | .bl b => R (.bl (!b)) S1
  | _ => False
theorem e3_one {op} (h : E3 X W a ta) : E3 X W (.BoolOp op [a] pos) ta := pe_one h
theorem e3_and (ha : E3 X W a ta) (hb : E3 X W (.BoolOp .And (b :: rest) pos) tb) : E3 X W (.BoolOp .And (a :: b :: rest) pos) (wAndV ta tb) := PEimp (pe_and ha hb) fun σ H Q ⟨Y, z, S, R, rel, h, post⟩ => by
  refine ⟨Y, z, S, _, rel, h, fun d S1 v H1 h1 rv rs g k => ?_⟩
  cases rv with
  | bl b =>
    refine ⟨b, rfl, ?_⟩
    cases b with
    | true => exact ⟨Y, z, S1, R, rel.grow g rs k, h1.t rfl, fun d' S' v' H' h' r' s' g' k' => post d' S' v' H' h' r' s' (g.trans g') (k.trans g k')⟩
    | false => exact post _ S1 _ H1 (h1.f rfl) (.bl false) rs g k
  | _ => exact h1.elim
theorem e3_or (ha : E3 X W a ta) (hb : E3 X W (.BoolOp .Or (b :: rest) pos) tb) : E3 X W (.BoolOp .Or (a :: b :: rest) pos) (wOrV ta tb) := PEimp (pe_or ha hb) fun σ H Q ⟨Y, z, S, R, rel, h, post⟩ => by
  refine ⟨Y, z, S, _, rel, h, fun d S1 v H1 h1 rv rs g k => ?_⟩
  cases rv with
  | bl b =>
    refine ⟨b, rfl, ?_⟩
    cases b with
    | false => exact ⟨Y, z, S1, R, rel.grow g rs k, h1.f rfl, fun d' S' v' H' h' r' s' g' k' => post d' S' v' H' h' r' s' (g.trans g') (k.trans g k')⟩
    | true => exact post _ S1 _ H1 (h1.t rfl) (.bl true) rs g k
  | _ => exact h1.elim
theorem e3_not (ha : E3 X W a ta) : E3 X W (.UnaryOp .Not a pos) (wNotV ta) := PEimp (pe_not ha) fun σ H Q ⟨Y, z, S, R, rel, h, post⟩ => by
  refine ⟨Y, z, S, _, rel, h, fun d S1 v H1 h1 rv rs g k => ?_⟩
  cases rv with
  | bl b => exact ⟨b, rfl, post _ S1 _ H1 h1 (.bl _) rs g k⟩
  | _ => exact h1.elim
def wIf (t : TT3) (ta tb : TE3) : TE3 := fun Y z S R => t Y z S fun b S1 => Br b (ta Y z S1 R) (tb Y z S1 R)
theorem e3_ifExp {cc : Expr} (hc : T3 X W cc u) (ha : E3 X W a ta) (hb : E3 X W b tb) : E3 X W (.IfExp cc a b pos) (wIf u ta tb) := PEimp (pe_ifExp hc ha hb) fun σ H Q ⟨Y, z, S, R, rel, h, post⟩ => by
  refine ⟨Y, z, S, _, rel, h, fun b S1 H1 h1 rs g k => ?_⟩
  have po : Post X.K R S1 H1 Q := fun d' S' v' H' h' r' s' g' k' => post d' S' v' H' h' r' s' (g.trans g') (k.trans g k')
  cases b with
  | true => exact ⟨Y, z, S1, R, rel.grow g rs k, h1.t rfl, po⟩
  | false => exact ⟨Y, z, S1, R, rel.grow g rs k, h1.f rfl, po⟩
end

/-! ### argument lists, tuples, lists -/
def wArgs : List TE3 → TA3
  | [] => fun _ _ S R => R [] S
  | t :: ts => fun Y z S R => t Y z S fun x S1 => wArgs ts Y z S1 fun xs S2 => R (x :: xs) S2
/-- an argument list's reading; its length is known -/
def upL (K : PySem.W.Frag) (W : WX) (ts : List TE3) : TA := fun σ H Q => upA K W (wArgs ts) σ H fun vs H' => vs.length = ts.length → Q vs H'
abbrev A3 (X : Cx) (W : WX) (es : List Expr) (ts : List TE3) : Prop := PA X es (upL X.K W ts)
def wTup (ts : List TE3) : TE3 := fun Y z S R => wArgs ts Y z S fun ds S1 => R (.tup ds) S1
def wLst (ts : List TE3) : TE3 := fun Y z S R => wArgs ts Y z S fun ds S1 => ∀ p, S1 p = none → R (.ref p) (put S1 p (.lst ds))
section
variable {X : Cx} {W : WX} {e : Expr} {es : List Expr} {te : TE3} {ts : List TE3} {pos : Pos}
theorem a3_nil : A3 X W [] [] := PAimp pa_nil fun σ H Q ⟨Y, z, S, R, rel, h, post⟩ => post [] S [] H h .nil rel.st (Gr.refl _) (Kp.refl _ _) rfl
theorem a3_cons (he : E3 X W e te) (hr : A3 X W es ts) (hs : starEach (e :: es) X.env = (false, eval e X.env) :: starEach es X.env := by rfl) : A3 X W (e :: es) (te :: ts) := PAimp (pa_cons he hr hs) fun σ H Q ⟨Y, z, S, R, rel, h, post⟩ =>
  ⟨Y, z, S, _, rel, h, fun d S1 v H1 h1 rv rs g k => ⟨Y, z, S1, _, rel.grow g rs k, h1, fun ds S2 vs H2 h2 rvs rs2 g2 k2 hl => post _ S2 _ H2 h2 (.cons (rv.mono g2) rvs) rs2 (g.trans g2) (k.trans g k2) (by rw [List.length_cons, List.length_cons, hl])⟩⟩
theorem e3_tup {k : Nat} (h : A3 X W es ts) (hl : ts.length ≤ 1000 := by exact Nat.le_of_ble_eq_true rfl) : E3 X W (.Tuple es k pos) (wTup ts) := PEimp (pe_tup h) fun σ H Q ⟨Y, z, S, R, rel, h, post⟩ =>
  ⟨Y, z, S, _, rel, h, fun ds S1 vs H1 h1 rvs rs g k hle => ⟨by rw [hle]; exact Nat.le_trans hl (by decide), fun p hp => post (.tup ds) S1 (.ref p) _ h1 (.tup (SqT.of upd_same) (rvs.mono (Gr.new hp))) (rs.new0 hp) (g.trans (Gr.new hp)) (k.trans g (Kp.new0 hp))⟩⟩
theorem e3_lst (h : A3 X W es ts) (hl : ts.length ≤ 1000 := by exact Nat.le_of_ble_eq_true rfl) : E3 X W (.List es pos) (wLst ts) := PEimp (pe_lst h) fun σ H Q ⟨Y, z, S, R, rel, h, post⟩ =>
  ⟨Y, z, S, _, rel, h, fun ds S1 vs H1 h1 rvs rs g k hle => ⟨by rw [hle]; exact Nat.le_trans hl (by decide), fun p hp => post _ _ (.ref p) _ (h1 p (rs.free hp)) (.ref p) (rs.newL hp rvs) (g.trans (Gr.new hp)) (k.trans g (Kp.new hp))⟩⟩
end
end R3

/-! R3, part B: operators on ints, statements, loops, calls and defs. -/
namespace R3
open PySem PySem.Spec PyProof.Rows L2

/-! ### sizes of ints -/
/-- a number of at most n bits -/
def Bits (n : Nat) (i : Int) : Prop := i.natAbs < 2 ^ n
theorem Bits.mono {n m : Nat} {i : Int} (h : Bits n i) (l : n ≤ m) : Bits m i := Nat.lt_of_lt_of_le h (Nat.pow_le_pow_right (by decide) l)
theorem Bits.mul {n m : Nat} {i j : Int} (h : Bits n i) (k : Bits m j) : Bits (n + m) (i * j) := wide_lt h k
theorem Bits.add {n m : Nat} {i j : Int} (h : Bits n i) (k : Bits m j) : Bits (max n m + 1) (i + j) := by
  have a := h.mono (Nat.le_max_left n m)
  have b := k.mono (Nat.le_max_right n m)
  unfold Bits at a b ⊢
  rw [Nat.pow_succ]
  omega
theorem Bits.neg {n : Nat} {i : Int} (h : Bits n i) : Bits n (-i) := by unfold Bits; rw [Int.natAbs_neg]; exact h
theorem Bits.sub {n m : Nat} {i j : Int} (h : Bits n i) (k : Bits m j) : Bits (max n m + 1) (i - j) := by rw [Int.sub_eq_add_neg]; exact h.add k.neg
theorem Bits.of_le {n : Nat} {i j : Int} (h : Bits n j) (l : i.natAbs ≤ j.natAbs) : Bits n i := Nat.lt_of_le_of_lt l h
theorem Bits.of_lt {n : Nat} {i : Int} (h1 : -(2 ^ n : Int) < i) (h2 : i < (2 ^ n : Int)) : Bits n i := by
  have e : ((2 ^ n : Nat) : Int) = (2 ^ n : Int) := by rw [Int.natCast_pow]; rfl
  unfold Bits
  omega
theorem Bits.lt {n : Nat} {i : Int} (h : Bits n i) : i < (2 ^ n : Int) ∧ -(2 ^ n : Int) < i := by
  have e : ((2 ^ n : Nat) : Int) = (2 ^ n : Int) := by rw [Int.natCast_pow]; rfl
  unfold Bits at h
  omega
/-- two factors that may be multiplied -/
def MulOk (i j : Int) : Prop := ∃ n m, Bits n i ∧ Bits m j ∧ n + m ≤ 900000
theorem MulOk.ok {i j : Int} (h : MulOk i j) : IntMulOk i j := by
  obtain ⟨n, m, a, b, l⟩ := h
  exact CMulW.ok (wide_mul (a := n + 1) (b := m + 1) (a.mono (Nat.le_succ n)) (b.mono (Nat.le_succ m)) (Nat.succ_pos _) (Nat.succ_pos _) (by omega))
/-- a divisor that may divide -/
def DivOk (j : Int) : Prop := j ≠ 0 ∧ ∃ n, Bits n j ∧ n ≤ 8900
/-- sizes reckoned by the term -/
class Bd (i : Int) (n : outParam Nat) : Prop where
  h : Bits n i
instance {i j : Int} {n m : Nat} [a : Bd i n] [b : Bd j m] : Bd (i * j) (n + m) := ⟨a.h.mul b.h⟩
instance {i j : Int} {n m : Nat} [a : Bd i n] [b : Bd j m] : Bd (i + j) (max n m + 1) := ⟨a.h.add b.h⟩
instance {i j : Int} {n m : Nat} [a : Bd i n] [b : Bd j m] : Bd (i - j) (max n m + 1) := ⟨a.h.sub b.h⟩
instance {i : Int} {n : Nat} [a : Bd i n] : Bd (-i) n := ⟨a.h.neg⟩
theorem MulOk.bd {i j : Int} {n m : Nat} (a : Bd i n) (b : Bd j m) (h : n + m ≤ 900000 := by decide) : MulOk i j := ⟨n, m, a.h, b.h, h⟩

/-! ### operators -/
def fAdd : F2 := fun x y S R => match x, y with
  | .int i, .int j => R (.int (i + j)) S
  | .str i, .str j => i.length + j.length ≤ sizeLine ∧ R (.str (i ++ j)) S
  | .tup l, .tup m => l.length + m.length ≤ sizeLine ∧ R (.tup (l ++ m)) S
  | .ref a, .ref b => ∃ l m, IsL S a l ∧ IsL S b m ∧ l.length + m.length ≤ sizeLine ∧ ∀ p, S p = none → R (.ref p) (put S p (.lst (l ++ m)))
  | _, _ => False
def fSub : F2 := fun x y S R => match x, y with
  | .int i, .int j => R (.int (i - j)) S
  | _, _ => False
def fMul : F2 := fun x y S R => match x, y with
  | .int i, .int j => MulOk i j ∧ R (.int (i * j)) S
  | .str x, .int j => (x.length ≤ 16 ∧ -(2 ^ 63 : Int) ≤ j ∧ j ≤ 1048576) ∧ R (.str (Txt.mul x j)) S
  | _, _ => False
def fDiv : F2 := fun x y S R => match x, y with
  | .int i, .int j => DivOk j ∧ R (.int (i.fdiv j)) S
  | _, _ => False
def fMod : F2 := fun x y S R => match x, y with
  | .int i, .int j => j ≠ 0 ∧ R (.int (i.fmod j)) S
  | _, _ => False
def fPow : F2 := fun x y S R => match x, y with
  | .int i, .int j => (0 ≤ j ∧ j ≤ 1000 ∧ i.natAbs < 2 ^ 64) ∧ R (.int (i ^ j.toNat)) S
  | _, _ => False
def fLt : F2 := fun x y S R => match x, y with
  | .int i, .int j => R (.bl (decide (i < j))) S
  | _, _ => False
def fLe : F2 := fun x y S R => match x, y with
  | .int i, .int j => R (.bl (decide (i ≤ j))) S
  | _, _ => False
def fGt : F2 := fun x y S R => match x, y with
  | .int i, .int j => R (.bl (decide (j < i))) S
  | _, _ => False
def fGe : F2 := fun x y S R => match x, y with
  | .int i, .int j => R (.bl (decide (j ≤ i))) S
  | _, _ => False
def fNeg : D → Sto → PD → Prop := fun x S R => match x with
  | .int i => R (.int (-i)) S
  | _ => False
section
variable {X : Cx} {W : WX}
theorem o3_add : OpR X (binaryOp .Add) (Up2 X.K fAdd) := by
  rintro pins s σ H x y v u Q I rx ry ⟨d, e, S, R, rd, re, rs, h, post⟩
  cases rd with
  | int i =>
    cases re <;> first | exact h.elim | skip
    exact op_add pins s σ H _ _ v u Q I rx ry ⟨_, _, rfl, rfl, post.now h (.int _) rs⟩
  | str i =>
    cases re <;> first | exact h.elim | skip
    exact op_add_str pins s σ H _ _ v u Q I rx ry ⟨_, _, rfl, rfl, h.1, post.now h.2 (.str _) rs⟩
  | tup hq hr =>
    cases re <;> first | exact h.elim | skip
    rename_i hq2 hr2
    obtain ⟨hz, h⟩ := h
    refine op_catA pins s σ H _ _ v u Q I rx ry ⟨_, _, _, _, rfl, rfl, hq, hq2, by rw [hr.length, hr2.length]; exact hz, fun e => ?_, fun _ e => ?_, fun _ _ p hp => ?_⟩
    · subst e
      cases hr
      exact post.now h (.tup hq2 hr2) rs
    · subst e
      cases hr2
      rw [List.append_nil] at h
      exact post.now h (.tup hq hr) rs
    · exact post.tup h hp (hr.append hr2) rs
  | ref a =>
    cases re <;> first | exact h.elim | skip
    obtain ⟨l, m, hl, hm, hz, h⟩ := h
    obtain ⟨xs, h1, h2⟩ := rs _ _ hl
    obtain ⟨ys, h3, h4⟩ := rs _ _ hm
    exact op_cat pins s σ H _ _ v u Q I rx ry ⟨_, _, xs, ys, rfl, rfl, h1, h3, by rw [h2.length, h4.length]; exact hz, fun p hp => post.lst h hp (h2.append h4) rs⟩
  | _ => cases re <;> exact h.elim
theorem o3_sub : OpR X (binaryOp .Sub) (Up2 X.K fSub) := by
  rintro pins s σ H x y v u Q I rx ry ⟨d, e, S, R, rd, re, rs, h, post⟩
  cases rd <;> cases re <;> first | exact h.elim | skip
  exact op_sub pins s σ H _ _ v u Q I rx ry ⟨_, _, rfl, rfl, post.now h (.int _) rs⟩
theorem op_mulO : OpR X (binaryOp .Mult) (rI IntMulOk fun i j => .int (i * j)) := opI fun _ _ _ _ _ _ _ hc q => mul_int q hc
theorem op_divO : OpR X (binaryOp .FloorDiv) (rI (fun _ j => j ≠ 0 ∧ j.natAbs.log2 < 9000) fun i j => .int (i.fdiv j)) := opI fun _ _ _ _ _ _ _ hc q => floordiv_int hc.1 q (.inl (PyProof.noPylong_of_log2 hc.2))
theorem o3_mul : OpR X (binaryOp .Mult) (Up2 X.K fMul) := by
  rintro pins s σ H x y v u Q I rx ry ⟨d, e, S, R, rd, re, rs, h, post⟩
  cases rd <;> cases re <;> first | exact h.elim | skip
  · exact op_mulO pins s σ H _ _ v u Q I rx ry ⟨_, _, rfl, rfl, h.1.ok, post.now h.2 (.int _) rs⟩
  · obtain ⟨t, rfl⟩ := rx
    obtain ⟨t2, rfl⟩ := ry
    obtain ⟨⟨h1, h2, h3⟩, h⟩ := h
    exact SB.mul (mulOk_of 16 1048576 h1 h3 h2 (by decide) (by decide)) fun t' k => ⟨.str _, H, I.tok k, ⟨_, rfl⟩, post.now h (.str _) rs⟩
theorem o3_div : OpR X (binaryOp .FloorDiv) (Up2 X.K fDiv) := by
  rintro pins s σ H x y v u Q I rx ry ⟨d, e, S, R, rd, re, rs, h, post⟩
  cases rd <;> cases re <;> first | exact h.elim | skip
  obtain ⟨⟨h0, n, hb, hn⟩, h⟩ := h
  exact op_divO pins s σ H _ _ v u Q I rx ry ⟨_, _, rfl, rfl, ⟨h0, Nat.lt_of_lt_of_le (PySem.Flt.log2_lt_of (Nat.succ_pos n) (hb.mono (Nat.le_succ n))) (by omega)⟩, post.now h (.int _) rs⟩
theorem o3_mod : OpR X (binaryOp .Mod) (Up2 X.K fMod) := by
  rintro pins s σ H x y v u Q I rx ry ⟨d, e, S, R, rd, re, rs, h, post⟩
  cases rd <;> cases re <;> first | exact h.elim | skip
  exact op_modN pins s σ H _ _ v u Q I rx ry ⟨_, _, rfl, rfl, h.1, post.now h.2 (.int _) rs⟩
theorem o3_pow : OpR X (binaryOp .Pow) (Up2 X.K fPow) := by
  rintro pins s σ H x y v u Q I rx ry ⟨d, e, S, R, rd, re, rs, h, post⟩
  cases rd <;> cases re <;> first | exact h.elim | skip
  exact op_pow pins s σ H _ _ v u Q I rx ry ⟨_, _, rfl, rfl, ⟨h.1.1, Int.le_trans h.1.2.1 (by decide), h.1.2.2⟩, post.now h.2 (.int _) rs⟩
theorem o3_lt : OpR X (compareOp .Lt) (Up2 X.K fLt) := by
  rintro pins s σ H x y v u Q I rx ry ⟨d, e, S, R, rd, re, rs, h, post⟩
  cases rd <;> cases re <;> first | exact h.elim | skip
  exact op_lt pins s σ H _ _ v u Q I rx ry ⟨_, _, rfl, rfl, post.now h (.bl _) rs⟩
theorem o3_le : OpR X (compareOp .LtE) (Up2 X.K fLe) := by
  rintro pins s σ H x y v u Q I rx ry ⟨d, e, S, R, rd, re, rs, h, post⟩
  cases rd <;> cases re <;> first | exact h.elim | skip
  exact op_le pins s σ H _ _ v u Q I rx ry ⟨_, _, rfl, rfl, post.now h (.bl _) rs⟩
theorem o3_gt : OpR X (compareOp .Gt) (Up2 X.K fGt) := by
  rintro pins s σ H x y v u Q I rx ry ⟨d, e, S, R, rd, re, rs, h, post⟩
  cases rd <;> cases re <;> first | exact h.elim | skip
  exact op_gt pins s σ H _ _ v u Q I rx ry ⟨_, _, rfl, rfl, post.now h (.bl _) rs⟩
theorem o3_ge : OpR X (compareOp .GtE) (Up2 X.K fGe) := by
  rintro pins s σ H x y v u Q I rx ry ⟨d, e, S, R, rd, re, rs, h, post⟩
  cases rd <;> cases re <;> first | exact h.elim | skip
  exact op_ge pins s σ H _ _ v u Q I rx ry ⟨_, _, rfl, rfl, post.now h (.bl _) rs⟩
theorem o3_neg : UnR X (unaryOp .USub) (Up1 X.K fNeg) := by
  rintro pins s σ H x v Q I rx ⟨d, S, R, rd, rs, h, post⟩
  cases rd <;> first | exact h.elim | skip
  exact un_neg pins s σ H _ v Q I rx ⟨_, rfl, post.now h (.int _) rs⟩
end

/-! ### subscripts -/
def fIx : F2 := fun x y S R => match x, y with
  | .tup l, .int i => ∃ d, atI l i = some d ∧ R d S
  | .ref a, .int i => ∃ l d, IsL S a l ∧ atI l i = some d ∧ R d S
  | .fl l, .int i => ∃ d, atI l i = some d ∧ R d S
  | .str s, .int i => ∃ c, s.length ≤ sizeLine ∧ atI s.cps.toList i = some c ∧ R (.str ⟨#[c]⟩) S
  | _, _ => False
theorem atI_rel {K : PySem.W.Frag} {H : Hp} {xs : List V} {l : List D} {i : Int} {d : D} (r : RvL K H xs l) (h : atI l i = some d) : ∃ v, atI xs i = some v ∧ Rv K H v d := by
  unfold atI at h ⊢
  rw [r.length]
  cases e : ixN l.length i with
  | none => rw [e] at h; cases h
  | some j =>
    rw [e] at h
    obtain ⟨v, h1, h2⟩ := r.get (i := j) (d := d) h
    exact ⟨v, h1, h2⟩
section
variable {X : Cx} {W : WX}
theorem i3_ix : IxR X (Up2 X.K fIx) := by
  refine fun va sl pins s σ H x y v u Q I rx ry h0 hs => ix_seq va sl pins s σ H x y v u Q I rx ry ?_ hs
  obtain ⟨d, e, S, R, rd, re, rs, h, post⟩ := h0
  cases rd with
  | ref a =>
    cases re <;> first | exact h.elim | skip
    obtain ⟨l, d, hl, ha, h⟩ := h
    obtain ⟨xs, h1, h2⟩ := rs.seqL hl
    obtain ⟨v, h3, h4⟩ := atI_rel h2 ha
    exact .inl ⟨a, xs, _, v, rfl, rfl, h1, h3, post.now h h4 rs⟩
  | tup hq hr =>
    cases re <;> first | exact h.elim | skip
    obtain ⟨d, ha, h⟩ := h
    obtain ⟨v, h3, h4⟩ := atI_rel hr ha
    exact .inr (.inl ⟨_, _, _, v, rfl, rfl, hq, h3, post.now h h4 rs⟩)
  | fl hq hr =>
    cases re <;> first | exact h.elim | skip
    obtain ⟨d, ha, h⟩ := h
    obtain ⟨v, h3, h4⟩ := atI_rel hr ha
    exact .inl ⟨_, _, _, v, rfl, rfl, hq.seqL, h3, post.now h h4 rs⟩
  | str x =>
    cases re <;> first | exact h.elim | skip
    obtain ⟨c, h1, h2, h⟩ := h
    exact .inr (.inr ⟨x, _, c, rfl, rfl, h1, h2, post.now h (.str _) rs⟩)
  | _ => exact h.elim
end

section
variable {X : Cx} {W : WX}
/-- i ** j, both written -/
theorem e3_powc {i j k : Int} {m1 m2 p1 p2 pos} (hk : i ^ j.toNat = k) (hc : 0 ≤ j ∧ j ≤ 1000 ∧ i.natAbs < 2 ^ 64) : E3 X W (.BinOp (.Constant (.int i) m1 p1) .Pow (.Constant (.int j) m2 p2) pos) (wC (.int k)) :=
  PEimp (e3_op o3_pow e3_int e3_int) fun σ H Q ⟨Y, z, S, R, rel, h, post⟩ => ⟨Y, z, S, R, rel, ⟨hc, by rw [hk]; exact h⟩, post⟩
theorem e3_negc {i : Int} {m1 p1 pos} : E3 X W (.UnaryOp .USub (.Constant (.int i) m1 p1) pos) (wC (.int (-i))) :=
  PEimp (e3_un o3_neg e3_int) fun σ H Q ⟨Y, z, S, R, rel, h, post⟩ => ⟨Y, z, S, R, rel, h, post⟩
end

/-! ### statements -/
def wNext : TS3 := fun B z S => B.nx z S
def wSeq (t u : TS3) : TS3 := fun B z S => t { B with nx := u B } z S
def wSet (i : Nat) (te : TE3) : TS3 := fun B z S => te B.xc z S fun d S1 => B.nx (z.set i (some d)) S1
def wDrop (te : TE3) : TS3 := fun B z S => te B.xc z S fun _ S1 => B.nx z S1
def wRet (te : TE3) : TS3 := fun B z S => te B.xc z S B.rt
def wRetN : TS3 := fun B _ S => B.rt .non S
def wIfS (c : TT3) (t u : TS3) : TS3 := fun B z S => c B.xc z S fun b S1 => Br b (t B z S1) (u B z S1)
section
variable {X : Cx} {W : WX} {st : Stmt} {rest : List Stmt} {t u : TS3} {e : Expr} {te : TE3} {pos : Pos}
theorem s3_nil : S3s X W [] wNext := PSsimp pss_nil fun D σ H ⟨z, S, B, rel, h, d⟩ => d.nx z S σ H h rel (Gr.refl _) (Kp.refl _ _)
theorem s3_cons (h1 : S3 X W st t) (h2 : S3s X W rest u) : S3s X W (st :: rest) (wSeq t u) := PSsimp (pss_cons h1 h2) fun D σ H ⟨z, S, B, rel, h, d⟩ =>
  ⟨z, S, { B with nx := u B }, rel, h, ⟨fun z' S' σ' H' hu r g k => ⟨z', S', B, r, hu, d.on g k⟩, d.rt, d.bk, d.ct, d.xc⟩⟩
theorem s3_one (h1 : S3 X W st t) : S3s X W [st] t := pss_one h1
theorem s3_pass : S3 X W (.Pass pos) wNext := PSimp ps_pass fun D σ H ⟨z, S, B, rel, h, d⟩ => d.nx z S σ H h rel (Gr.refl _) (Kp.refl _ _)
theorem s3_break : S3 X W (.Break pos) (fun B z S => B.bk z S) := PSimp ps_break fun D σ H ⟨z, S, B, rel, h, d⟩ => d.bk z S σ H h rel (Gr.refl _) (Kp.refl _ _)
theorem s3_cont : S3 X W (.Continue pos) (fun B z S => B.ct z S) := PSimp ps_continue fun D σ H ⟨z, S, B, rel, h, d⟩ => d.ct z S σ H h rel (Gr.refl _) (Kp.refl _ _)
theorem s3_set {i : Nat} {x : Str} {pos' : Pos} (hN : X.N.Nodup) (hi : X.N[i]? = some x) (hx : Loc X.env.scope x) (he : E3 X W e te) (hs : swapsWith e (some (.Name x pos')) pos.line X.env = pure false := by rfl) (hf : X.fn x = true ∨ X.env.scope.names.lookup x = some .local := by first | exact .inl rfl | exact .inr rfl | assumption) :
    S3 X W (.Assign [.Name x pos'] e pos) (wSet i te) := PSimp (ps_set hN hi hx he hs hf) fun D σ H ⟨z, S, B, rel, h, d⟩ =>
  ⟨B.xc, z, S, _, ⟨rel, d.xc⟩, h, fun e' S1 v H1 h1 rv rs g k => d.nx _ S1 _ H1 h1 ((rel.grow g rs).setS rv) g k⟩
theorem s3_expr (he : E3 X W e te) (hs : swapsWith e none pos.line X.env = pure false := by rfl) : S3 X W (.Expr e pos) (wDrop te) := PSimp (ps_expr he hs) fun D σ H ⟨z, S, B, rel, h, d⟩ =>
  ⟨B.xc, z, S, _, ⟨rel, d.xc⟩, h, fun e' S1 v H1 h1 rv rs g k => d.nx _ S1 _ H1 h1 (rel.grow g rs) g k⟩
theorem s3_ret (he : E3 X W e te) : S3 X W (.Return (some e) pos) (wRet te) := PSimp (ps_ret he) fun D σ H ⟨z, S, B, rel, h, d⟩ =>
  ⟨B.xc, z, S, _, ⟨rel, d.xc⟩, h, fun e' S1 v H1 h1 rv rs g k => d.rt _ S1 _ H1 h1 rv rs g k⟩
theorem s3_retN : S3 X W (.Return none pos) wRetN := PSimp ps_retN fun D σ H ⟨z, S, B, rel, h, d⟩ => d.rt .non S .non H h .non rel.st (Gr.refl _) (Kp.refl _ _)
theorem s3_if {c : Expr} {a b : List Stmt} {tc : TT3} (hc : T3 X W c tc) (ha : S3s X W a t) (hb : S3s X W b u) : S3 X W (.If c a b pos) (wIfS tc t u) := PSimp (ps_if hc ha hb) fun D σ H ⟨z, S, B, rel, h, d⟩ =>
  ⟨B.xc, z, S, _, ⟨rel, d.xc⟩, h, fun b S1 H1 h1 rs g k => by
    cases b with
    | true => exact ⟨z, S1, B, rel.grow g rs, h1.t rfl, d.on g k⟩
    | false => exact ⟨z, S1, B, rel.grow g rs, h1.f rfl, d.on g k⟩⟩
/-- a, b = x, y (two plain locals) -/
def wPar (i j : Nat) (ta tb : TE3) : TS3 := fun B z S => ta B.xc z S fun x S1 => tb B.xc z S1 fun y S2 => B.nx ((z.set i (some x)).set j (some y)) S2
def parP (B : Ends3) (z : Sl) (i j : Nat) (ds : List D) (S : Sto) : Prop := match ds with
  | [x, y] => B.nx ((z.set i (some x)).set j (some y)) S
  | _ => False
theorem s3_par {i j : Nat} {x y : Str} {a b : Expr} {ta tb : TE3} {px py pt : Pos} {kt k2 pt2} (hc : X.calm = true) (hN : X.N.Nodup) (hi : X.N[i]? = some x) (hj : X.N[j]? = some y) (hij : i ≠ j)
    (hx : X.env.scope.names.lookup x = some .local) (hy : X.env.scope.names.lookup y = some .local) (ha : A3 X W [a, b] [ta, tb])
    (hw : swappedStores [.Tuple [.Name x px, .Name y py] kt pt] (.Tuple [a, b] k2 pt2) X.env = pure (some [x, y]))
    (hs : swapsWithSole [.Tuple [.Name x px, .Name y py] kt pt] (.Tuple [a, b] k2 pt2) pos.line X.env = pure false := by rfl) :
    S3 X W (.Assign [.Tuple [.Name x px, .Name y py] kt pt] (.Tuple [a, b] k2 pt2) pos) (wPar i j ta tb) := PSimp (ps_par hc hN hi hj hij hx hy ha hw hs) fun _ _ _ ⟨z, S, B, rel, h, d⟩ =>
  ⟨B.xc, z, S, parP B z i j, ⟨rel, d.xc⟩, h, fun ds S1 vs H1 h1 rvs rs g k hl => by
    cases rvs with
    | nil => exact h1.elim
    | cons r1 r2 => cases r2 with
      | nil => exact h1.elim
      | cons r3 r4 => cases r4 with
        | nil => exact ⟨_, _, rfl, d.nx _ S1 _ H1 h1 (((rel.grow g rs).setS r1).setS r3) g k⟩
        | cons _ _ => exact h1.elim⟩
end

/-! ### while -/
/-- the loop: an invariant by a measure; behind a turn something may be forgotten -/
def wWhile (c : TT3) (tb : TS3) : TS3 := fun B z S => ∃ M : Nat → Sl → Sto → Prop, (∃ m, M m z S) ∧ ∀ m z S, M m z S →
  c B.xc z S fun b S1 => Br b (tb ⟨fun z' S' => ∃ m' S0, m' < m ∧ Le S0 S' ∧ M m' z' S0, B.rt, B.nx, fun z' S' => ∃ m' S0, m' < m ∧ Le S0 S' ∧ M m' z' S0, B.xc⟩ z S1) (B.nx z S1)
section
variable {X : Cx} {W : WX} {pos : Pos}
theorem s3_while {c : Expr} {body : List Stmt} {tc : TT3} {tb : TS3} (hp : PassesOwn (model X.prog X.w) X.A X.env X.xe) (hc : T3 X W c tc) (hb : S3s X W body tb) : S3 X W (.While c body [] pos) (wWhile tc tb) := PSimp (ps_while hp hc hb) fun D σ H ⟨z, S, B, rel, ⟨M, ⟨m0, w0⟩, turn⟩, d⟩ => by
  refine ⟨fun m σ' H' => ∃ z' S', Rel X.K H' σ' S' z' ∧ Gr H H' ∧ Kp S S' H H' ∧ M m z' S', ⟨m0, z, S, rel, Gr.refl _, Kp.refl _ _, w0⟩, ?_⟩
  rintro m σ1 H1 ⟨z1, S1, r1, g1, k1, w1⟩
  refine ⟨B.xc, z1, S1, _, ⟨r1, d.xc.on g1 k1⟩, turn m z1 S1 w1, fun b S2 H2 h2 rs2 g2 k2 => ?_⟩
  cases b with
  | false =>
    rw [if_neg Bool.false_ne_true]
    exact d.nx z1 S2 σ1 H2 (h2.f rfl) (r1.grow g2 rs2) (g1.trans g2) (k1.trans g1 k2)
  | true =>
    rw [if_pos rfl]
    have bk : ∀ z' S' σ' H', (∃ m' S0, m' < m ∧ Le S0 S' ∧ M m' z' S0) → Rel X.K H' σ' S' z' → Gr H2 H' → Kp S2 S' H2 H' → ∃ m', m' < m ∧ ∃ z'' S'', Rel X.K H' σ' S'' z'' ∧ Gr H H' ∧ Kp S S'' H H' ∧ M m' z'' S'' :=
      fun z' S' σ' H' ⟨m', S0, lt, le, w⟩ r g k => ⟨m', lt, z', S0, r.le le, g1.trans (g2.trans g), ((k1.trans g1 k2).trans (g1.trans g2) k).le le, w⟩
    refine ⟨fun σ' H' => ∃ m', m' < m ∧ ∃ z'' S'', Rel X.K H' σ' S'' z'' ∧ Gr H H' ∧ Kp S S'' H H' ∧ M m' z'' S'', fun _ _ h => h, z1, S2, _, r1.grow g2 rs2, h2.t rfl, ?_⟩
    have dd := d.on (g1.trans g2) (k1.trans g1 k2)
    exact ⟨bk, dd.rt, dd.nx, bk, dd.xc⟩
end

/-! ### what is walked -/
/-- the items, what must hold of the store at each turn, the store -/
abbrev TI3 := GX → Sl → Sto → (List D → (Sto → Prop) → Sto → Prop) → Prop
structure WalkD (K : PySem.W.Frag) (H1 : Hp) (J : It) (ds : List D) (G : Sto → Prop) : Prop where
  go : ∀ i S H, i < ds.length → G S → RS K S H → Gr H1 H → J.go i H
  stop : ∀ S H, G S → RS K S H → Gr H1 H → J.stop ds.length H
  yld : ∀ i S H x H', i < ds.length → G S → RS K S H → Gr H1 H → J.yld i H x H' → ∃ d, ds[i]? = some d ∧ Rv K H' x d ∧ RS K S H' ∧ Gr H H' ∧ Kp S S H H'
def upI (K : PySem.W.Frag) (W : WX) (t : TI3) : TI := fun σ H R => ∃ Y z S C, RelX K W Y H σ S z ∧ t Y z S C ∧ ∀ ds G S1 J H1, C ds G S1 → RS K S1 H1 → Gr H H1 → Kp S S1 H H1 → WalkD K H1 J ds G → R J H1
abbrev I3 (X : Cx) (W : WX) (tg iter : Expr) (t : TI3) : Prop := PI X tg iter (upI X.K W t)
theorem PIimp {X : Cx} {tg iter : Expr} {t t' : TI} (h : PI X tg iter t) (f : ∀ σ H R, t' σ H R → t σ H R) : PI X tg iter t' := ⟨fun pins s σ H R I q => h.run pins s σ H R I (f σ H R q)⟩
def wItL (te : TE3) : TI3 := fun Y z S C => te Y z S fun d S1 => match d with
  | .ref a => ∃ l, IsL S1 a l ∧ C l (fun S => IsL S a l) S1
  | .fl l => C l (fun _ => True) S1
  | _ => False
def wItT (te : TE3) : TI3 := fun Y z S C => te Y z S fun d S1 => match d with
  | .tup l => C l (fun _ => True) S1
  | _ => False
/-- range(n), range(a, b): the bounds within 2 ^ 62 -/
def rngD (a : Int) (n : Nat) : List D := (List.range n).map fun (i : Nat) => D.int (a + (i : Int))
def wRng1 (te : TE3) : TI3 := fun Y z S C => te Y z S fun d S1 => match d with
  | .int j => (-(2 ^ 62) ≤ j ∧ j < 2 ^ 62) ∧ C (rngD 0 j.toNat) (fun _ => True) S1
  | _ => False
def wRng2 (ta tb : TE3) : TI3 := fun Y z S C => ta Y z S fun d S1 => tb Y z S1 fun e S2 => match d, e with
  | .int i, .int j => (-(2 ^ 62) ≤ i ∧ i < 2 ^ 62 ∧ -(2 ^ 62) ≤ j ∧ j < 2 ^ 62) ∧ C (rngD i (j - i).toNat) (fun _ => True) S2
  | _, _ => False
theorem rngD_len {a : Int} {n : Nat} : (rngD a n).length = n := by unfold rngD; simp
theorem rngD_get {a : Int} {n i : Nat} (h : i < n) : (rngD a n)[i]? = some (.int (a + (i : Int))) := by unfold rngD; simp [h]
section
variable {X : Cx} {W : WX} {tg e : Expr} {te : TE3}
theorem walkD_list {K : PySem.W.Frag} {H1 : Hp} {a : Addr} {l : List D} : WalkD K H1 (Itl K a) l (fun S => IsL S a l) := by
  refine ⟨fun i S H hi hG rs _ => ?_, fun S H hG rs _ => ?_, fun i S H x H' hi hG rs _ y => ?_⟩
  · obtain ⟨xs, h1, h2⟩ := rs.seqL hG
    exact ⟨xs, xs[i]'(by rw [h2.length]; exact hi), h1, by simp [h2.length, hi]⟩
  · obtain ⟨xs, h1, h2⟩ := rs.seqL hG
    exact ⟨xs, h1, by rw [h2.length]; exact Nat.le_refl _⟩
  · obtain ⟨xs, h1, h2⟩ := rs.seqL hG
    obtain ⟨rfl, y⟩ := y
    obtain ⟨d, h3, h4⟩ := h2.getV (y xs h1)
    exact ⟨d, h3, h4, rs, Gr.refl _, Kp.refl _ _⟩
theorem walkD_fl {K : PySem.W.Frag} {H1 : Hp} {a : Addr} {xs : List V} {l : List D} (hq : SqF K H1 a xs) (hr : RvL K H1 xs l) : WalkD K H1 (Itl K a) l (fun _ => True) := by
  refine ⟨fun i S H hi hG rs g => ⟨xs, xs[i]'(by rw [hr.length]; exact hi), (g.seqF hq).seqL, by simp [hr.length, hi]⟩, fun S H hG rs g => ⟨xs, (g.seqF hq).seqL, by rw [hr.length]; exact Nat.le_refl _⟩, fun i S H x H' hi hG rs g y => ?_⟩
  obtain ⟨rfl, y⟩ := y
  obtain ⟨d, h3, h4⟩ := (hr.mono g).getV (y xs (g.seqF hq).seqL)
  exact ⟨d, h3, h4, rs, Gr.refl _, Kp.refl _ _⟩
theorem walkD_tup {K : PySem.W.Frag} {H1 : Hp} {a : Addr} {xs : List V} {l : List D} (hq : SqT K H1 a xs) (hr : RvL K H1 xs l) : WalkD K H1 (Itt K a) l (fun _ => True) := by
  refine ⟨fun i S H hi hG rs g => ⟨xs, xs[i]'(by rw [hr.length]; exact hi), g.seqT hq, by simp [hr.length, hi]⟩, fun S H hG rs g => ⟨xs, g.seqT hq, by rw [hr.length]; exact Nat.le_refl _⟩, fun i S H x H' hi hG rs g y => ?_⟩
  obtain ⟨rfl, y⟩ := y
  obtain ⟨d, h3, h4⟩ := (hr.mono g).getV (y xs (g.seqT hq))
  exact ⟨d, h3, h4, rs, Gr.refl _, Kp.refl _ _⟩
theorem walkD_rng {K : PySem.W.Frag} {H1 : Hp} {lo : Int} {n : Nat} : WalkD K H1 (Itr lo n) (rngD lo n) (fun _ => True) := by
  refine ⟨fun i S H hi hG rs g => by rw [rngD_len] at hi; exact hi, fun S H hG rs g => by rw [rngD_len]; exact Nat.le_refl _, fun i S H x H' hi hG rs g y => ?_⟩
  obtain ⟨rfl, rfl⟩ := y
  rw [rngD_len] at hi
  exact ⟨_, rngD_get hi, .int _, rs, Gr.refl _, Kp.refl _ _⟩
theorem i3_list (h : E3 X W e te) : I3 X W tg e (wItL te) := PIimp (pi_list h) fun σ H R ⟨Y, z, S, C, rel, h, post⟩ => ⟨Y, z, S, _, rel, h, fun d S1 v H1 h1 rv rs g k => by
  cases rv with
  | ref a =>
    obtain ⟨l, hl, hC⟩ := h1
    obtain ⟨xs, h2, h3⟩ := rs.seqL hl
    exact ⟨a, rfl, ⟨xs, h2⟩, post l _ S1 _ H1 hC rs g k walkD_list⟩
  | fl hq hr => exact ⟨_, rfl, ⟨_, hq.seqL⟩, post _ _ S1 _ H1 h1 rs g k (walkD_fl hq hr)⟩
  | _ => exact h1.elim⟩
theorem i3_tup (h : E3 X W e te) : I3 X W tg e (wItT te) := PIimp (pi_tup h) fun σ H R ⟨Y, z, S, C, rel, h, post⟩ => ⟨Y, z, S, _, rel, h, fun d S1 v H1 h1 rv rs g k => by
  cases rv with
  | tup hq hr => exact ⟨_, rfl, ⟨_, hq⟩, post _ _ S1 _ H1 h1 rs g k (walkD_tup hq hr)⟩
  | _ => exact h1.elim⟩
def one3 (P : PD) (ds : List D) (S : Sto) : Prop := match ds with
  | [d] => P d S
  | _ => False
def two3 (P : D → D → Sto → Prop) (ds : List D) (S : Sto) : Prop := match ds with
  | [d, e] => P d e S
  | _ => False
theorem args1 {K : PySem.W.Frag} {te : TE3} {σ : St} {H : Hp} {z : Sl} {S : Sto} {P : PD} {W : WX} {Y : GX} (rel : RelX K W Y H σ S z) (h : te Y z S P) {Q : List V → Hp → Prop} (f : ∀ d S1 v H1, P d S1 → Rv K H1 v d → RS K S1 H1 → Gr H H1 → Kp S S1 H H1 → Q [v] H1) : upL K W [te] σ H Q :=
  ⟨Y, z, S, one3 P, rel, h, fun ds S1 vs H1 p rvs rs g k _ => by
    cases rvs with
    | nil => exact p.elim
    | cons r1 r2 => cases r2 with
      | nil => exact f _ S1 _ H1 p r1 rs g k
      | cons _ _ => exact p.elim⟩
theorem args2 {K : PySem.W.Frag} {ta tb : TE3} {σ : St} {H : Hp} {z : Sl} {S : Sto} {P : D → D → Sto → Prop} {W : WX} {Y : GX} (rel : RelX K W Y H σ S z) (h : ta Y z S fun x S1 => tb Y z S1 fun y S2 => P x y S2) {Q : List V → Hp → Prop}
    (f : ∀ d e S1 v u H1, P d e S1 → Rv K H1 v d → Rv K H1 u e → RS K S1 H1 → Gr H H1 → Kp S S1 H H1 → Q [v, u] H1) : upL K W [ta, tb] σ H Q :=
  ⟨Y, z, S, two3 P, rel, h, fun ds S1 vs H1 p rvs rs g k _ => by
    cases rvs with
    | nil => exact p.elim
    | cons r1 r2 => cases r2 with
      | nil => exact p.elim
      | cons r3 r4 => cases r4 with
        | nil => exact f _ _ S1 _ _ H1 p r1 r3 rs g k
        | cons _ _ => exact p.elim⟩
theorem i3_rng1 {a : Expr} {ta : TE3} {p pos : Pos} (hg : Gl X "range") (hm : X.mg "range" = none) (ha : A3 X W [a] [ta]) (hs : starEach [a] X.env = [(false, eval a X.env)] := by rfl) : I3 X W tg (.Call (.Name "range" p) [a] [] pos) (wRng1 ta) :=
  PIimp (pi_range1 hg hm ha hs) fun σ H R ⟨Y, z, S, C, rel, h, post⟩ => args1 rel h fun d S1 v H1 h1 rv rs g k => by
    cases rv with
    | int j => exact ⟨j, rfl, h1.1.1, h1.1.2, post _ _ S1 _ H1 h1.2 rs g k walkD_rng⟩
    | _ => exact h1.elim
theorem i3_rng2 {a b : Expr} {ta tb : TE3} {p pos : Pos} (hg : Gl X "range") (hm : X.mg "range" = none) (ha : A3 X W [a, b] [ta, tb]) (hs : starEach [a, b] X.env = [(false, eval a X.env), (false, eval b X.env)] := by rfl) (hs2 : starEach [b] X.env = [(false, eval b X.env)] := by rfl) :
    I3 X W tg (.Call (.Name "range" p) [a, b] [] pos) (wRng2 ta tb) :=
  PIimp (pi_range2 hg hm ha hs hs2) fun σ H R ⟨Y, z, S, C, rel, h, post⟩ => args2 rel h fun d e S1 v u H1 h1 rv ru rs g k => by
    cases rv with
    | int i => cases ru with
      | int j => exact ⟨i, j, rfl, h1.1, post _ _ S1 _ H1 h1.2 rs g k walkD_rng⟩
      | _ => exact h1.elim
    | _ => cases ru <;> exact h1.elim
end

/-! ### whatever is walked: a list, a tuple, a text -/
def sgn3 (x : Str) : List D := x.cps.toList.map fun c => D.str ⟨#[c]⟩
def wItA (te : TE3) : TI3 := fun Y z S C => te Y z S fun d S1 => match d with
  | .ref a => ∃ l, IsL S1 a l ∧ C l (fun S => IsL S a l) S1
  | .fl l => C l (fun _ => True) S1
  | .tup l => C l (fun _ => True) S1
  | .str x => C (sgn3 x) (fun _ => True) S1
  | _ => False
section
variable {X : Cx} {W : WX} {tg e : Expr} {te : TE3}
theorem walkD_str {K : PySem.W.Frag} {H1 : Hp} {x : Str} : WalkD K H1 (Its x) (sgn3 x) (fun _ => True) := by
  have len : (sgn3 x).length = x.cps.size := by unfold sgn3; simp
  refine ⟨fun i S H hi hG rs g => by rw [len] at hi; exact hi, fun S H hG rs g => by rw [len]; exact Nat.le_refl _, fun i S H v H' hi hG rs g y => ?_⟩
  obtain ⟨rfl, c, hc, rfl⟩ := y
  exact ⟨.str ⟨#[c]⟩, by unfold sgn3; simp [hc], .str _, rs, Gr.refl _, Kp.refl _ _⟩
theorem i3_any (h : E3 X W e te) : I3 X W tg e (wItA te) := by
  refine ⟨fun pins s σ H R I ⟨Y, z, S, C, rel, ht, post⟩ => ?_⟩
  refine thn (h.run pins s σ H (fun v H1 => ∃ d S1, Rv X.K H1 v d ∧ RS X.K S1 H1 ∧ Gr H H1 ∧ Kp S S1 H H1 ∧ (match d with
    | .ref a => ∃ l, IsL S1 a l ∧ C l (fun S => IsL S a l) S1
    | .fl l => C l (fun _ => True) S1
    | .tup l => C l (fun _ => True) S1
    | .str x => C (sgn3 x) (fun _ => True) S1
    | _ => False)) I ⟨Y, z, S, _, rel, ht, fun d S1 v H1 h1 rv rs g k => ⟨d, S1, rv, rs, g, k, h1⟩⟩) fun v s1 ⟨x, H1, I1, r1, d, S1, rv, rs, g, k, hc⟩ => ?_
  have lst : ∀ a xs, v = .ref a → SqL X.K H1 a xs → R (Itl X.K a) H1 → wpAny (model X.prog X.w) X.A (pyIter v) (PIE X pins σ tg R) X.xe s1 := fun a xs e hq q => by
    subst e
    obtain ⟨its, rv, p, hz⟩ := I1.list hq
    refine wpAny_pyIter_list p.isList ?_
    refine ⟨s1.heap.objs.size, [s1.heap.objs.size], _, _, H1, rfl, I1.kept (t' := s1.toks) fun b o e => Heap.get?_push_of_some _ e, turn_list a _, ⟨_, Heap.get?_push_size _ rfl, rfl, rfl⟩, fun b hb => ?_, q⟩
    have e : b = s1.heap.objs.size := by simpa using hb
    subst e
    exact I1.fpOk (Nat.le_refl _) (I1.hok.fresh (Nat.le_refl _))
  cases rv with
  | ref a =>
    obtain ⟨l, hl, hC⟩ := hc
    obtain ⟨xs, h2, h3⟩ := rs.seqL hl
    exact lst a xs r1 h2 (post l _ S1 _ H1 hC rs g k walkD_list)
  | fl hq hr => exact lst _ _ r1 hq.seqL (post _ _ S1 _ H1 hc rs g k (walkD_fl hq hr))
  | tup hq hr =>
    cases r1
    obtain ⟨its, rv, p, hz⟩ := I1.tuple hq
    refine wpAny_pyIter_tuple (show s1.heap.IsTuple _ its.toArray from p) ?_
    refine ⟨s1.heap.objs.size, [s1.heap.objs.size], _, _, H1, rfl, I1.kept (t' := s1.toks) fun b o e => Heap.get?_push_of_some _ e, turn_tuple _ _, ⟨_, Heap.get?_push_size _ rfl, rfl, rfl⟩, fun b hb => ?_, post _ _ S1 _ H1 hc rs g k (walkD_tup hq hr)⟩
    have e : b = s1.heap.objs.size := by simpa using hb
    subst e
    exact I1.fpOk (Nat.le_refl _) (I1.hok.fresh (Nat.le_refl _))
  | str x =>
    obtain ⟨t, rfl⟩ := r1
    have q := post _ _ S1 _ H1 hc rs g k walkD_str
    cases ha : x.cps.all (· < 128)
    · exact wpAny_pyIter_wide ha (pi_one (tk := s1.toks) I1 _ (turn_str _ x t "str_iterator" (.inr rfl)) ⟨_, Heap.get?_push_size _ rfl, rfl, rfl⟩ q)
    · exact wpAny_pyIter_ascii ha (pi_one (tk := s1.toks) I1 _ (turn_str _ x t "str_ascii_iterator" (.inl rfl)) ⟨_, Heap.get?_push_size _ rfl, rfl, rfl⟩ q)
  | _ => exact hc.elim
end

/-! ### targets, for -/
def gN (i : Nat) : TG3 := fun _ d z S R => R (z.set i (some d)) S
abbrev TGs3 := GX → List D → Sl → Sto → (Sl → Sto → Prop) → Prop
def gNil3 : TGs3 := fun _ ds z S R => match ds with
  | [] => R z S
  | _ => False
def gCons3 (t : TG3) (u : TGs3) : TGs3 := fun Y ds z S R => match ds with
  | d :: r => t Y d z S fun z' S' => u Y r z' S' R
  | [] => False
/-- (a, b, ..) = a tuple -/
def gTup3 (n : Nat) (t : TGs3) : TG3 := fun Y d z S R => match d with
  | .tup ds => ds.length = n ∧ t Y ds z S R
  | .ref a => ∃ ds, IsL S a ds ∧ ds.length = n ∧ t Y ds z S R
  | .fl ds => ds.length = n ∧ t Y ds z S R
  | _ => False
def upGs (K : PySem.W.Frag) (W : WX) (t : TGs3) : TGs := fun vs σ H Q => ∃ Y ds z S R, RvL K H vs ds ∧ RelX K W Y H σ S z ∧ t Y ds z S R ∧ ∀ z' S' σ' H', R z' S' → Rel K H' σ' S' z' → Gr H H' → Kp S S' H H' → Q σ' H'
abbrev G3s (X : Cx) (W : WX) (es : List Expr) (t : TGs3) : Prop := PGs X es (upGs X.K W t)
theorem PGsimp {X : Cx} {es : List Expr} {t t' : TGs} (h : PGs X es t) (f : ∀ v σ H Q, t' v σ H Q → t v σ H Q) : PGs X es t' := ⟨fun pins s σ H v u Q I r q => h.run pins s σ H v u Q I r (f v σ H Q q)⟩
section
variable {X : Cx} {W : WX} {pos : Pos}
theorem g3_name {i : Nat} {x : Str} (hN : X.N.Nodup) (hi : X.N[i]? = some x) (hx : Loc X.env.scope x) (hf : X.fn x = true ∨ X.env.scope.names.lookup x = some .local := by first | exact .inl rfl | exact .inr rfl | assumption) : G3 X W (.Name x pos) (gN i) :=
  PGimp (pg_name hN hi hx hf) fun v σ H Q ⟨Y, d, z, S, R, rv, rel, h, post⟩ => post _ S _ H h (rel.toRel.setS rv) (Gr.refl _) (Kp.refl _ _)
theorem g3s_nil : G3s X W [] gNil3 := PGsimp pgs_nil fun vs σ H Q ⟨Y, ds, z, S, R, rv, rel, h, post⟩ => by
  cases rv with
  | nil => exact ⟨rfl, post z S σ H h rel.toRel (Gr.refl _) (Kp.refl _ _)⟩
  | cons _ _ => exact h.elim
theorem g3s_cons {e : Expr} {es : List Expr} {t : TG3} {u : TGs3} (h1 : G3 X W e t) (h2 : G3s X W es u)
    (hs : (assignEach (e :: es) X.env).map (·.2) = assign e X.env :: (assignEach es X.env).map (·.2) := by rfl) : G3s X W (e :: es) (gCons3 t u) := PGsimp (pgs_cons h1 h2 hs) fun vs σ H Q ⟨Y, ds, z, S, R, rv, rel, h, post⟩ => by
  cases rv with
  | nil => exact h.elim
  | cons r1 r2 =>
    refine ⟨_, _, rfl, Y, _, z, S, _, r1, rel, h, fun z' S' σ' H' h' rel' g k => ?_⟩
    exact ⟨Y, _, z', S', R, r2.mono g, ⟨rel', rel.xd.on g k⟩, h', fun z2 S2 σ2 H2 q r g2 k2 => post z2 S2 σ2 H2 q r (g.trans g2) (k.trans g k2)⟩
theorem g3_tup {es : List Expr} {k : Nat} {t : TGs3} {n : Nat} (hc : X.calm = true) (h : G3s X W es t)
    (hn : (assignEach es X.env).length = n := by rfl) (hst : (assignEach es X.env).findIdx? (·.1) = none := by rfl) : G3 X W (.Tuple es k pos) (gTup3 n t) := by
  refine ⟨fun pins s σ H v u Q I r ⟨Y, d, z, S, R, rv, rel, h', post⟩ => ?_⟩
  cases rv with
  | tup hq hr => exact (pg_tup hc h hn hst).run pins s σ H _ u Q I r ⟨_, _, rfl, hq, by rw [hr.length]; exact h'.1, Y, _, z, S, R, hr, rel, h'.2, post⟩
  | ref a =>
    obtain ⟨l, hl, hn', h'⟩ := h'
    obtain ⟨xs, h1, h2⟩ := rel.st.seqL hl
    exact (pg_unl hc h hn hst).run pins s σ H _ u Q I r ⟨_, _, rfl, h1, by rw [h2.length]; exact hn', Y, _, z, S, R, h2, rel, h', post⟩
  | fl hq hr => exact (pg_unl hc h hn hst).run pins s σ H _ u Q I r ⟨_, _, rfl, hq.seqL, by rw [hr.length]; exact h'.1, Y, _, z, S, R, hr, rel, h'.2, post⟩
  | _ => exact h'.elim
/-- target = e -/
def wAsg (te : TE3) (g : TG3) : TS3 := fun B z S => te B.xc z S fun d S1 => g B.xc d z S1 B.nx
theorem s3_asg {tg e : Expr} {te : TE3} {g : TG3} (he : E3 X W e te) (hg : G3 X W tg g) (hs : swapsWithSole [tg] e pos.line X.env = pure false := by rfl) (hw : swappedStores [tg] e X.env = pure none := by rfl)
    (h1 : (assignEach [tg] X.env).map (·.2) = [assign tg X.env] := by rfl) : S3 X W (.Assign [tg] e pos) (wAsg te g) := PSimp (ps_asg he hg hs hw h1) fun D σ H ⟨z, S, B, rel, h, d⟩ =>
  ⟨B.xc, z, S, _, ⟨rel, d.xc⟩, h, fun e' S1 v H1 h1 rv rs g k => ⟨B.xc, e', z, S1, B.nx, rv, ⟨rel.grow g rs, d.xc.on g k⟩, h1, (d.on g k).nx⟩⟩
/-- for: an invariant by the turn -/
def nxt (P : Nat → Sl → Sto → Prop) (i : Nat) (z : Sl) (S : Sto) : Prop := ∃ S0, Le S0 S ∧ P i z S0
def wFor (it : TI3) (g : TG3) (tb : TS3) : TS3 := fun B z S => it B.xc z S fun ds G S1 => ∃ P : Nat → Sl → Sto → Prop, P 0 z S1 ∧ (∀ i z S, i ≤ ds.length → P i z S → G S) ∧
  (∀ i d z S, ds[i]? = some d → P i z S → g B.xc d z S fun z2 S2 => tb ⟨nxt P (i + 1), B.rt, B.nx, nxt P (i + 1), B.xc⟩ z2 S2) ∧ (∀ z S, P ds.length z S → B.nx z S)
theorem s3_for {tg iter : Expr} {body : List Stmt} {wi : TI3} {g : TG3} {tb : TS3} (hp : PassesOwn (model X.prog X.w) X.A X.env X.xe) (hc : X.calm = true) (hi : I3 X W tg iter wi) (hg : G3 X W tg g) (hb : S3s X W body tb)
    (hs : ∀ x, foldedSetIterable iter X.env x = pure x := by intro _; rfl) : S3 X W (.For tg iter body [] pos) (wFor wi g tb) := PSimp (ps_for hp hc hi hg hb hs) fun D σ H ⟨z, S, B, rel, h, d⟩ => by
  refine ⟨B.xc, z, S, _, ⟨rel, d.xc⟩, h, fun ds G S1 J H1 ⟨P, p0, stay, turn, done⟩ rs g1 k1 wk => ?_⟩
  refine ⟨fun i m σ' H' => m = ds.length - i ∧ i ≤ ds.length ∧ ∃ z' S', Rel X.K H' σ' S' z' ∧ Gr H1 H' ∧ Kp S1 S' H1 H' ∧ P i z' S', ⟨ds.length, by simp, Nat.zero_le _, z, S1, rel.grow g1 rs, Gr.refl _, Kp.refl _ _, p0⟩, ?_⟩
  rintro i m σ' H' ⟨rfl, hi, z', S', r', g', k', p'⟩
  by_cases hlt : i < ds.length
  · have back : ∀ z2 S2 σ2 H2 S0 H0, nxt P (i + 1) z2 S2 → Rel X.K H2 σ2 S2 z2 → Gr H1 H0 → Kp S1 S0 H1 H0 → Gr H0 H2 → Kp S0 S2 H0 H2 → ∃ m', m' < ds.length - i ∧ m' = ds.length - (i + 1) ∧ i + 1 ≤ ds.length ∧ ∃ z'' S'', Rel X.K H2 σ2 S'' z'' ∧ Gr H1 H2 ∧ Kp S1 S'' H1 H2 ∧ P (i + 1) z'' S'' :=
      fun z2 S2 σ2 H2 S0 H0 ⟨Sx, le, p⟩ r ga ka gb kb => ⟨ds.length - (i + 1), by omega, rfl, hlt, z2, Sx, r.le le, ga.trans gb, (ka.trans ga kb).le le, p⟩
    refine .inr ⟨wk.go i S' H' hlt (stay i z' S' hi p') r'.st g', fun σ2 H2 => ∃ m', m' < ds.length - i ∧ m' = ds.length - (i + 1) ∧ i + 1 ≤ ds.length ∧ ∃ z'' S'', Rel X.K H2 σ2 S'' z'' ∧ Gr H1 H2 ∧ Kp S1 S'' H1 H2 ∧ P (i + 1) z'' S'', fun σ2 H2 ⟨m', lt, q⟩ => ⟨m', lt, q⟩, fun x H2 y => ?_⟩
    obtain ⟨dd, hd, rv, rs2, g2, k2⟩ := wk.yld i S' H' x H2 hlt (stay i z' S' hi p') r'.st g' y
    refine ⟨B.xc, dd, z', S', _, rv, ⟨r'.grow g2 rs2, d.xc.on (g1.trans (g'.trans g2)) (k1.trans g1 (k'.trans g' k2))⟩, turn i dd z' S' hd p', fun z3 S3 σ3 H3 h3 r3 g3 k3 => ?_⟩
    have gA : Gr H1 H3 := g'.trans (g2.trans g3)
    have kA : Kp S1 S3 H1 H3 := (k'.trans g' k2).trans (g'.trans g2) k3
    have gB := g1.trans gA
    have kB := k1.trans g1 kA
    refine ⟨z3, S3, _, r3, h3, ⟨fun z4 S4 σ4 H4 h4 r4 g4 k4 => back z4 S4 σ4 H4 S3 H3 h4 r4 gA kA g4 k4, fun e S4 v H4 h4 rv4 rs4 g4 k4 => d.rt e S4 v H4 h4 rv4 rs4 (gB.trans g4) (kB.trans gB k4), fun z4 S4 σ4 H4 h4 r4 g4 k4 => d.nx z4 S4 σ4 H4 h4 r4 (gB.trans g4) (kB.trans gB k4), fun z4 S4 σ4 H4 h4 r4 g4 k4 => back z4 S4 σ4 H4 S3 H3 h4 r4 gA kA g4 k4, d.xc.on gB kB⟩⟩
  · have e : i = ds.length := by omega
    subst e
    exact .inl ⟨wk.stop S' H' (stay _ z' S' hi p') r'.st g', d.nx z' S' σ' H' (done z' S' p') r' (g1.trans g') (k1.trans g1 k')⟩
end

/-! ### calls -/
abbrev Sp3 := List D → Sto → PD → (Ex → Sto → Prop) → Prop
def upSp (K : PySem.W.Frag) (n : Nat) (s : Sp3) : Sp := fun vs H Q E => ∃ ds S R Y, RvL K H vs ds ∧ RS K S H ∧ vs.length = n ∧ s ds S R Y ∧ Post K R S H Q ∧ ∀ m C S' H', Y m S' → ClsA K m C → RS K S' H' → Gr H H' → Kp S S' H H' → E (.ref C) none H'
def wCall (s : Sp3) (ts : List TE3) : TE3 := fun Y z S R => wArgs ts Y z S fun ds S1 => s ds S1 R (Y z)
/-- a builtin by its values -/
def UpC (K : PySem.W.Frag) (f : List D → Sto → PD → Prop) : List V → Hp → VK → Prop := fun vs H Q => ∃ ds S R, RvL K H vs ds ∧ RS K S H ∧ f ds S R ∧ Post K R S H Q
def wBf (f : List D → Sto → PD → Prop) (ts : List TE3) : TE3 := fun Y z S R => wArgs ts Y z S fun ds S1 => f ds S1 R
section
variable {X : Cx} {W : WX} {k : Nat} {f : Addr} {fd : FuncData} {ps : List Str} {sp : Sp3} {x : Str} {p pos : Pos} {e : Expr} {es : List Expr} {ts : List TE3}
theorem e3_call (F : FnOk X.prog X.w X.K X.mg X.base (L2.CX X.prog X.w) k f fd ps (upSp X.K ps.length sp)) (hr : Room k X.A) (hg : Gl X x) (hm : X.mg x = some (.ref f)) (hk : PySem.W.keepIn X.K (.ref f) = true) (hb : Binds X.K fd ps []) (tk : Takes X W)
    (ha : A3 X W (e :: es) ts) (hn : ts.length = ps.length) (hdb : (x == ("__debug__" : Str)) = false := by decide) (he : starEach (e :: es) X.env = (false, eval e X.env) :: starEach es X.env := by rfl) (hpl : (backTo pos (starEach es X.env)).any (·.1) = false := by rfl) :
    E3 X W (.Call (.Name x p) (e :: es) [] pos) (wCall sp ts) := PEimp (pe_callS F hr hg hm hk hb (fun σ => passAt tk σ) ha hdb he hpl) fun σ H Q ⟨Y, z, S, R, rel, h, post⟩ =>
  ⟨Y, z, S, _, rel, h, fun ds S1 vs H1 h1 rvs rs g k hl => ⟨ds, S1, R, Y z, rvs, rs, by rw [hl, hn], h1, fun d' S' v' H' h' r' s' g' k' => post d' S' v' H' h' r' s' (g.trans g') (k.trans g k'),
    fun m C S' H' y c rs' g' k' => rel.xd z m C S' σ H' y c (rel.toRel.grow (g.trans g') rs') (g.trans g') (k.trans g k')⟩⟩
theorem e3_bf {id : String} {F : List D → Sto → PD → Prop} (hc : CallR X (.builtin id) (UpC X.K F)) (hg : Gl X x) (hm : X.mg x = none) (hv : bootBuiltins x = some (.builtin id)) (ha : A3 X W (e :: es) ts) (hn : x ≠ "__name__" := by decide) (hd : (x == ("__debug__" : Str)) = false := by decide)
    (he : starEach (e :: es) X.env = (false, eval e X.env) :: starEach es X.env := by rfl) (hpl : (backTo pos (starEach es X.env)).any (·.1) = false := by rfl) : E3 X W (.Call (.Name x p) (e :: es) [] pos) (wBf F ts) := PEimp (pe_callB hc hg hm hv ha hn hd he hpl) fun σ H Q ⟨Y, z, S, R, rel, h, post⟩ =>
  ⟨Y, z, S, _, rel, h, fun ds S1 vs H1 h1 rvs rs g k _ => ⟨ds, S1, R, rvs, rs, h1, fun d' S' v' H' h' r' s' g' k' => post d' S' v' H' h' r' s' (g.trans g') (k.trans g k')⟩⟩
theorem e3_bt {id : String} {F : List D → Sto → PD → Prop} (hc : CallR X (.type id) (UpC X.K F)) (hg : Gl X x) (hm : X.mg x = none) (hv : bootBuiltins x = some (.type id)) (ha : A3 X W (e :: es) ts) (hn : x ≠ "__name__" := by decide) (hd : (x == ("__debug__" : Str)) = false := by decide)
    (he : starEach (e :: es) X.env = (false, eval e X.env) :: starEach es X.env := by rfl) (hpl : (backTo pos (starEach es X.env)).any (·.1) = false := by rfl) : E3 X W (.Call (.Name x p) (e :: es) [] pos) (wBf F ts) := PEimp (pe_callTy hc hg hm hv ha hn hd he hpl) fun σ H Q ⟨Y, z, S, R, rel, h, post⟩ =>
  ⟨Y, z, S, _, rel, h, fun ds S1 vs H1 h1 rvs rs g k _ => ⟨ds, S1, R, rvs, rs, h1, fun d' S' v' H' h' r' s' g' k' => post d' S' v' H' h' r' s' (g.trans g') (k.trans g k')⟩⟩
end

/-! ### defs -/
def start3 (N : List Str) (ds : List D) : Sl := ds.map some ++ List.replicate (N.length - ds.length) none
theorem rel_start {K : PySem.W.Frag} {H : Hp} {S : Sto} {N : List Str} {vs : List V} {ds : List D} (r : RvL K H vs ds) (rs : RS K S H) : Rel K H (L2.start N vs) S (start3 N ds) := by
  refine ⟨?_, fun i d e => ?_, rs⟩
  · unfold L2.start start3
    rw [List.length_append, List.length_append, List.length_map, List.length_map, List.length_replicate, List.length_replicate, r.length]
  · unfold start3 at e
    unfold L2.start
    by_cases hi : i < ds.length
    · rw [List.getElem?_append_left (by rw [List.length_map]; exact hi), List.getElem?_map] at e
      cases q : ds[i]? with
      | none => rw [q] at e; cases e
      | some d' =>
        rw [q] at e
        have e' : d' = d := Option.some.inj (Option.some.inj e)
        subst e'
        obtain ⟨v, h1, h2⟩ := r.get q
        exact ⟨v, by rw [List.getElem?_append_left (by rw [List.length_map, r.length]; exact hi), List.getElem?_map, h1]; rfl, h2⟩
    · rw [List.getElem?_append_right (by rw [List.length_map]; omega), List.getElem?_replicate] at e
      split at e <;> cases e
/-- a def's ends: at its return something may be forgotten -/
def endsOf (R : PD) (Y : Ex → Sto → Prop) : Ends3 := ⟨fun _ S => ∃ S0, Le S0 S ∧ R .non S0, fun d S => ∃ S0, Le S0 S ∧ R d S0, fun _ _ => False, fun _ _ => False, fun _ n S => ∃ S0, Le S0 S ∧ Y n S0⟩
section
variable {P : Program} {w : World} {K : PySem.W.Frag} {mg : Str → Option Value} {base : Heap}
theorem down_def {R : PD} {Y : Ex → Sto → Prop} {S : Sto} {H : Hp} {Q : VK} {E : XK} (p : Post K R S H Q) (x : ∀ m C S' H', Y m S' → ClsA K m C → RS K S' H' → Gr H H' → Kp S S' H H' → E (.ref C) none H') : Down K (fun c d _ H => E c d H) (endsOf R Y) { nx := fun _ H' => Q .non H', rt := Q } S H :=
  ⟨fun z S' σ' H' ⟨S0, le, h⟩ r g k => p .non S0 .non H' h .non (r.st.le le) g (k.le le), fun d S' v H' ⟨S0, le, h⟩ rv rs g k => p d S0 v H' h rv (rs.le le) g (k.le le), fun _ _ _ _ h _ _ _ => h, fun _ _ _ _ h _ _ _ => h,
    fun z n C S' σ' H' ⟨S0, le, h⟩ c r g k => x n C S0 H' h c (r.st.le le) g (k.le le)⟩
end
end R3

/-! R3, part C: equality, in, is, len, isinstance, items stored, lists' methods. -/
namespace R3
open PySem PySem.Spec PyProof.Rows L2

/-! ### data as a whole, lists read out of the store -/
mutual
inductive Sn (S : Sto) : D → PyData → Prop
  | non : Sn S .non .none
  | bl (b : Bool) : Sn S (.bl b) (.bool b)
  | int (i : Int) : Sn S (.int i) (.int i)
  | str (x : Str) : Sn S (.str x) (.str x)
  | tup {ds : List D} {ps : List PyData} : SnL S ds ps → Sn S (.tup ds) (.tuple ps)
  | lst {a : Addr} {ds : List D} {ps : List PyData} : IsL S a ds → SnL S ds ps → Sn S (.ref a) (.list ps)
  | fl {ds : List D} {ps : List PyData} : SnL S ds ps → Sn S (.fl ds) (.list ps)
inductive SnL (S : Sto) : List D → List PyData → Prop
  | nil : SnL S [] []
  | cons {d : D} {ds : List D} {p : PyData} {ps : List PyData} : Sn S d p → SnL S ds ps → SnL S (d :: ds) (p :: ps)
end
section
variable {K : PySem.W.Frag} {H : Hp} {S : Sto}
mutual
theorem Sn.dp (rs : RS K S H) : ∀ {p : PyData} {d : D} {v : V}, Sn S d p → Rv K H v d → Dp K H v p
  | .none, _, _, h, r => by cases h; cases r; exact .non
  | .bool b, _, _, h, r => by cases h; cases r; exact .bl b
  | .int i, _, _, h, r => by cases h; cases r; exact .int i
  | .str x, _, _, h, r => by cases h; cases r; exact .str x
  | .tuple ps, _, _, h, r => by
    cases h with
    | tup hs => cases r with
      | tup hq hr => exact .tup hq (SnL.dp rs hs hr)
  | .list ps, _, _, h, r => by
    cases h with
    | lst hl hs =>
      cases r
      obtain ⟨xs, h1, h2⟩ := rs.seqL hl
      exact .lst h1 (SnL.dp rs hs h2)
    | fl hs => cases r with
      | fl hq hr => exact .lst hq.seqL (SnL.dp rs hs hr)
  | .dict _, _, _, h, _ => by cases h
theorem SnL.dp (rs : RS K S H) : ∀ {ps : List PyData} {ds : List D} {vs : List V}, SnL S ds ps → RvL K H vs ds → DpAll K H vs ps
  | [], _, _, h, r => by cases h; cases r; exact .nil
  | p :: ps, _, _, h, r => by
    cases h with
    | cons h1 h2 => cases r with
      | cons r1 r2 => exact .cons (Sn.dp rs h1 r1) (SnL.dp rs h2 r2)
end
end
def okP (p : PyData) : Prop := SeqAt.shaped p = true
/-- two things that == compares as data -/
def eqD (neg : Bool) (x y : D) (S : Sto) (R : PD) : Prop := ∃ p q, Sn S x p ∧ Sn S y q ∧ okP p ∧ okP q ∧ R (.bl (if neg then !PyData.eqv p q else PyData.eqv p q)) S
def fEq : F2 := fun x y S R => match x, y with
  | .int i, .int j => R (.bl (decide (i = j))) S
  | .str i, .str j => R (.bl (decide (i = j))) S
  | .bl i, .bl j => R (.bl (decide (i = j))) S
  | .non, .non => R (.bl true) S
  | x, y => eqD false x y S R
def fNe : F2 := fun x y S R => match x, y with
  | .int i, .int j => R (.bl (!decide (i = j))) S
  | .str i, .str j => R (.bl (!decide (i = j))) S
  | .bl i, .bl j => R (.bl (!decide (i = j))) S
  | .non, .non => R (.bl false) S
  | x, y => eqD true x y S R
/-- a is b: None, truths -/
def fIs : F2 := fun x y S R => match x, y with
  | .bl i, .bl j => R (.bl (decide (i = j))) S
  | .non, .non => R (.bl true) S
  | .bl _, .non => R (.bl false) S
  | .int _, .non => R (.bl false) S
  | .str _, .non => R (.bl false) S
  | .tup _, .non => R (.bl false) S
  | .ref _, .non => R (.bl false) S
  | .ty _, .non => R (.bl false) S
  | .fl _, .non => R (.bl false) S
  | _, _ => False
def fIsNot : F2 := fun x y S R => match x, y with
  | .bl i, .bl j => R (.bl (!decide (i = j))) S
  | .non, .non => R (.bl false) S
  | .bl _, .non => R (.bl true) S
  | .int _, .non => R (.bl true) S
  | .str _, .non => R (.bl true) S
  | .tup _, .non => R (.bl true) S
  | .ref _, .non => R (.bl true) S
  | .ty _, .non => R (.bl true) S
  | .fl _, .non => R (.bl true) S
  | _, _ => False
section
variable {X : Cx} {W : WX}
theorem dV_int {i j : Int} : decide (V.int i = V.int j) = decide (i = j) := by rw [Bool.eq_iff_iff]; simp
theorem dV_str {i j : Str} : decide (V.str i = V.str j) = decide (i = j) := by rw [Bool.eq_iff_iff]; simp
theorem dV_bl {i j : Bool} : decide (V.bl i = V.bl j) = decide (i = j) := by rw [Bool.eq_iff_iff]; simp
theorem o3_eq (hu : X.A.units + 64 < cLine) : OpR X (compareOp .Eq) (Up2 X.K fEq) := by
  rintro pins s σ H x y v u Q I rx ry ⟨d, e, S, R, rd, re, rs, h, post⟩
  have gen : eqD false d e S R → wpAny (model X.prog X.w) X.A (compareOp .Eq v u) (EP X pins σ Q) X.xe s := fun ⟨p, q, hp, hq, op, oq, hR⟩ =>
    op_eqD hu pins s σ H _ _ v u Q I rx ry ⟨p, q, hp.dp rs rd, hq.dp rs re, op, oq, post.now hR (.bl _) rs⟩
  cases rd <;> cases re <;> first
    | exact gen h
    | exact op_eq pins s σ H _ _ v u Q I rx ry ⟨rfl, by rw [dV_int]; exact post.now h (.bl _) rs⟩
    | exact op_eq pins s σ H _ _ v u Q I rx ry ⟨rfl, by rw [dV_str]; exact post.now h (.bl _) rs⟩
    | exact op_eq pins s σ H _ _ v u Q I rx ry ⟨rfl, by rw [dV_bl]; exact post.now h (.bl _) rs⟩
    | exact op_eq pins s σ H _ _ v u Q I rx ry ⟨rfl, post.now h (.bl _) rs⟩
theorem o3_ne (hu : X.A.units + 64 < cLine) : OpR X (compareOp .NotEq) (Up2 X.K fNe) := by
  rintro pins s σ H x y v u Q I rx ry ⟨d, e, S, R, rd, re, rs, h, post⟩
  have gen : eqD true d e S R → wpAny (model X.prog X.w) X.A (compareOp .NotEq v u) (EP X pins σ Q) X.xe s := fun ⟨p, q, hp, hq, op, oq, hR⟩ =>
    op_neD hu pins s σ H _ _ v u Q I rx ry ⟨p, q, hp.dp rs rd, hq.dp rs re, op, oq, post.now hR (.bl _) rs⟩
  cases rd <;> cases re <;> first
    | exact gen h
    | exact op_ne pins s σ H _ _ v u Q I rx ry ⟨rfl, by rw [dV_int]; exact post.now h (.bl _) rs⟩
    | exact op_ne pins s σ H _ _ v u Q I rx ry ⟨rfl, by rw [dV_str]; exact post.now h (.bl _) rs⟩
    | exact op_ne pins s σ H _ _ v u Q I rx ry ⟨rfl, by rw [dV_bl]; exact post.now h (.bl _) rs⟩
    | exact op_ne pins s σ H _ _ v u Q I rx ry ⟨rfl, post.now h (.bl _) rs⟩
theorem o3_is : OpR X (compareOp .Is) (Up2 X.K fIs) := by
  rintro pins s σ H x y v u Q I rx ry ⟨d, e, S, R, rd, re, rs, h, post⟩
  cases rd <;> cases re <;> first
    | exact h.elim
    | exact op_is_bl pins s σ H _ _ v u Q I rx ry ⟨_, _, rfl, rfl, post.now h (.bl _) rs⟩
    | exact op_isN pins s σ H _ _ v u Q I rx ry ⟨rfl, post.now h (.bl _) rs⟩
theorem o3_isnot : OpR X (compareOp .IsNot) (Up2 X.K fIsNot) := by
  rintro pins s σ H x y v u Q I rx ry ⟨d, e, S, R, rd, re, rs, h, post⟩
  cases rd <;> cases re <;> first
    | exact h.elim
    | exact op_isnot_bl pins s σ H _ _ v u Q I rx ry ⟨_, _, rfl, rfl, post.now h (.bl _) rs⟩
    | exact op_notN pins s σ H _ _ v u Q I rx ry ⟨rfl, post.now h (.bl _) rs⟩
end

/-! ### builtins -/
def fLen : List D → Sto → PD → Prop := fun ds S R => match ds with
  | [.str s] => s.length ≤ sizeLine ∧ R (.int s.length) S
  | [.tup l] => R (.int l.length) S
  | [.fl l] => R (.int l.length) S
  | [.ref a] => ∃ l, IsL S a l ∧ R (.int l.length) S
  | _ => False
def fAbs : List D → Sto → PD → Prop := fun ds S R => match ds with
  | [.int i] => R (.int (if i < 0 then -i else i)) S
  | _ => False
def fMin2 : List D → Sto → PD → Prop := fun ds S R => match ds with
  | [.int i, .int j] => R (.int (if j < i then j else i)) S
  | _ => False
def fMax2 : List D → Sto → PD → Prop := fun ds S R => match ds with
  | [.int i, .int j] => R (.int (if j > i then j else i)) S
  | _ => False
inductive C3 | int | bool | str | tuple | list
def C3.name : C3 → String
  | .int => "int" | .bool => "bool" | .str => "str" | .tuple => "tuple" | .list => "list"
def fIsi (c : C3) : D → Sto → PD → Prop := fun x S R => match x with
  | .ref a => (∃ l, IsL S a l) ∧ R (.bl (match c with | .list => true | _ => false)) S
  | .non => R (.bl false) S
  | .bl _ => R (.bl (match c with | .bool => true | .int => true | _ => false)) S
  | .int _ => R (.bl (match c with | .int => true | _ => false)) S
  | .str _ => R (.bl (match c with | .str => true | _ => false)) S
  | .tup _ => R (.bl (match c with | .tuple => true | _ => false)) S
  | .fl _ => R (.bl (match c with | .list => true | _ => false)) S
  | .ty _ => False
section
variable {X : Cx} {W : WX}
theorem c3_len : CallR X (.builtin "len") (UpC X.K fLen) := by
  rintro pins s σ H xs us Q I r ⟨ds, S, R, rv, rs, h, post⟩
  cases rv with
  | nil => exact h.elim
  | cons r1 r2 =>
    cases r2 with
    | cons _ _ => cases r1 <;> exact h.elim
    | nil =>
      cases r1 with
      | str x => exact call_len pins s σ H _ us Q I r ⟨_, _, rfl, ⟨h.1, rfl⟩, post.now h.2 (.int _) rs⟩
      | ref a =>
        obtain ⟨l, hl, h⟩ := h
        obtain ⟨xs, h1, h2⟩ := rs.seqL hl
        exact call_len pins s σ H _ us Q I r ⟨_, _, rfl, .inl ⟨xs, h1, rfl⟩, by rw [h2.length]; exact post.now h (.int _) rs⟩
      | tup hq hr => exact call_len pins s σ H _ us Q I r ⟨_, _, rfl, .inr ⟨_, hq, rfl⟩, by rw [hr.length]; exact post.now h (.int _) rs⟩
      | fl hq hr => exact call_len pins s σ H _ us Q I r ⟨_, _, rfl, .inl ⟨_, hq.seqL, rfl⟩, by rw [hr.length]; exact post.now h (.int _) rs⟩
      | _ => exact h.elim
theorem c3_abs : CallR X (.builtin "abs") (UpC X.K fAbs) := by
  rintro pins s σ H xs us Q I r ⟨ds, S, R, rv, rs, h, post⟩
  cases rv with
  | nil => exact h.elim
  | cons r1 r2 =>
    cases r2 with
    | cons _ _ => cases r1 <;> exact h.elim
    | nil =>
      cases r1 with
      | int i => exact call_abs pins s σ H _ us Q I r ⟨_, rfl, post.now h (.int _) rs⟩
      | _ => exact h.elim
theorem two_ints {K : PySem.W.Frag} {H : Hp} {xs : List V} {ds : List D} {P : List D → Prop} (r : RvL K H xs ds) (h : P ds) (no : ∀ ds, P ds → ∃ i j, ds = [.int i, .int j]) : ∃ i j, xs = [.int i, .int j] ∧ P [.int i, .int j] := by
  obtain ⟨i, j, rfl⟩ := no ds h
  cases r with
  | cons r1 r2 => cases r2 with
    | cons r3 r4 => cases r4; cases r1; cases r3; exact ⟨i, j, rfl, h⟩
theorem c3_min2 (hc : X.calm = true) : CallR X (.builtin "min") (UpC X.K fMin2) := by
  rintro pins s σ H xs us Q I r ⟨ds, S, R, rv, rs, h, post⟩
  obtain ⟨i, j, rfl, h⟩ := two_ints (P := fun ds => fMin2 ds S R) rv h (fun ds h => by
    unfold fMin2 at h
    split at h
    · exact ⟨_, _, rfl⟩
    · exact h.elim)
  exact call_min2 hc pins s σ H _ us Q I r ⟨_, _, rfl, post.now h (.int _) rs⟩
theorem c3_max2 (hc : X.calm = true) : CallR X (.builtin "max") (UpC X.K fMax2) := by
  rintro pins s σ H xs us Q I r ⟨ds, S, R, rv, rs, h, post⟩
  obtain ⟨i, j, rfl, h⟩ := two_ints (P := fun ds => fMax2 ds S R) rv h (fun ds h => by
    unfold fMax2 at h
    split at h
    · exact ⟨_, _, rfl⟩
    · exact h.elim)
  exact call_max2 hc pins s σ H _ us Q I r ⟨_, _, rfl, post.now h (.int _) rs⟩
theorem kitB_all (c : C3) : kitB "NoneType" c.name = some false ∧ kitB "bool" c.name = some (match c with | .bool => true | .int => true | _ => false) ∧ kitB "int" c.name = some (match c with | .int => true | _ => false) ∧
    kitB "str" c.name = some (match c with | .str => true | _ => false) ∧ kitB "tuple" c.name = some (match c with | .tuple => true | _ => false) ∧ kitB "list" c.name = some (match c with | .list => true | _ => false) := by
  cases c <;> decide +kernel
theorem c3_isi (c : C3) : CallR X (.builtin "isinstance") (fun vs H Q => ∃ d v S R, vs = [v, .ty c.name] ∧ Rv X.K H v d ∧ RS X.K S H ∧ fIsi c d S R ∧ Post X.K R S H Q) := by
  rintro pins s σ H xs us Q I r ⟨d, v, S, R, rfl, rv, rs, h, post⟩
  obtain ⟨k1, k2, k3, k4, k5, k6⟩ := kitB_all c
  cases rv with
  | non => exact call_isi pins s σ H _ us Q I r ⟨_, _, _, _, _, rfl, .ty _, .base .non, kit_ty k1, post.now h (.bl _) rs⟩
  | bl b => exact call_isi pins s σ H _ us Q I r ⟨_, _, _, _, _, rfl, .ty _, .base (.bl b), kit_ty k2, post.now h (.bl _) rs⟩
  | int i => exact call_isi pins s σ H _ us Q I r ⟨_, _, _, _, _, rfl, .ty _, .base (.int i), kit_ty k3, post.now h (.bl _) rs⟩
  | str x => exact call_isi pins s σ H _ us Q I r ⟨_, _, _, _, _, rfl, .ty _, .base (.str x), kit_ty k4, post.now h (.bl _) rs⟩
  | ref a =>
    obtain ⟨⟨l, hl⟩, h⟩ := h
    obtain ⟨xs, h1, h2⟩ := rs _ _ hl
    exact call_isi pins s σ H _ us Q I r ⟨_, _, _, _, _, rfl, .ty _, .base (.lst h1), kit_ty k6, post.now h (.bl _) rs⟩
  | fl hq hr =>
    have ty : ∀ {a xs}, SqF X.K H a xs → TyX X.K H (.ref a) (.type "list") := fun {a xs} q => by
      rcases q with ⟨o, q⟩ | ⟨o, its, n, q, hc, _⟩
      · exact .base (.frz q)
      · exact .kList q hc
    exact call_isi pins s σ H _ us Q I r ⟨_, _, _, _, _, rfl, .ty _, ty hq, kit_ty k6, post.now h (.bl _) rs⟩
  | ty n => exact h.elim
  | tup hq hr =>
    have ty : ∀ {a xs}, SqT X.K H a xs → TyX X.K H (.ref a) (.type "tuple") := fun {a xs} q => by
      rcases q with (q | ⟨o, q⟩) | ⟨o, its, n, q, hc, _⟩
      · exact .base (.tup q)
      · exact .fTuple q
      · exact .kTuple q hc
    exact call_isi pins s σ H _ us Q I r ⟨_, _, _, _, _, rfl, .ty _, ty hq, kit_ty k5, post.now h (.bl _) rs⟩
def wIsi (c : C3) (te : TE3) : TE3 := fun Y z S R => te Y z S fun d S1 => fIsi c d S1 R
theorem e3_isi (c : C3) {x : Str} {y : Str} {p p2 pos : Pos} {e : Expr} {te : TE3} (hg : Gl X x) (hm : X.mg x = none) (hv : bootBuiltins x = some (.builtin "isinstance")) (he : E3 X W e te) (hgy : Gl X y) (hmy : X.mg y = none) (hvy : bootBuiltins y = some (.type c.name))
    (hn : x ≠ "__name__" := by decide) (hd : (x == ("__debug__" : Str)) = false := by decide) (hny : y ≠ "__name__" := by decide) (hdy : (y == ("__debug__" : Str)) = false := by decide)
    (hs : starEach (e :: [.Name y p2]) X.env = (false, eval e X.env) :: starEach [.Name y p2] X.env := by rfl) (hpl : (backTo pos (starEach [.Name y p2] X.env)).any (·.1) = false := by rfl) :
    E3 X W (.Call (.Name x p) [e, .Name y p2] [] pos) (wIsi c te) := PEimp (pe_callB (c3_isi c) hg hm hv (pa_cons he (pa_cons (pe_bltn (v := .ty c.name) hgy hmy hvy rfl hny hdy) pa_nil) hs) hn hd hs hpl) fun σ H Q ⟨Y, z, S, R, rel, h, post⟩ =>
  ⟨Y, z, S, _, rel, h, fun d S1 v H1 h1 rv rs g k => ⟨d, v, S1, R, rfl, rv, rs, h1, fun d' S' v' H' h' r' s' g' k' => post d' S' v' H' h' r' s' (g.trans g') (k.trans g k')⟩⟩
end

/-! ### an item stored -/
def fSetL : D → D → D → Sto → (Sto → Prop) → Prop := fun o i v S R => match o, i with
  | .ref a, .int k => ∃ l j, S a = some (.lst l) ∧ ixN l.length k = some j ∧ R (put S a (.lst (l.set j v)))
  | _, _ => False
def gSub3 (to ti : TE3) (f : D → D → D → Sto → (Sto → Prop) → Prop) : TG3 := fun Y v z S R => to Y z S fun o S1 => ti Y z S1 fun i S2 => f o i v S2 fun S3 => R z S3
def UpSet (K : PySem.W.Frag) (f : D → D → D → Sto → (Sto → Prop) → Prop) : TSet := fun o i v H Q => ∃ d e g S R, Rv K H o d ∧ Rv K H i e ∧ Rv K H v g ∧ RS K S H ∧ f d e g S R ∧ ∀ S' H', R S' → RS K S' H' → Gr H H' → Kp S S' H H' → Q H'
section
variable {X : Cx} {W : WX} {pos : Pos}
theorem p3_setL : PSet X (UpSet X.K fSetL) := by
  rintro pins s σ H o i v ov iv u Q I ro ri rv ⟨d, e, g, S, R, rd, re, rg, rs, h, post⟩
  cases rd with
  | ref a =>
    cases re <;> first | exact h.elim | skip
    obtain ⟨l, j, h1, h2, h3⟩ := h
    obtain ⟨xs, q1, q2⟩ := rs _ _ h1
    refine set_list pins s σ H _ _ v ov iv u Q I ro ri rv ⟨a, xs, _, j, rfl, rfl, q1, by rw [q2.length]; exact h2, ?_⟩
    exact post _ _ h3 (rs.setL q1 (q2.set rg j)) (Gr.set q1 (by intro z; simp) (by intro z y; simp)) (Kp.set h1)
  | _ => exact h.elim
theorem g3_sub {o i : Expr} {to ti : TE3} {f : D → D → D → Sto → (Sto → Prop) → Prop} (ho : E3 X W o to) (hi : E3 X W i ti) (hs : PSet X (UpSet X.K f))
    (ha : ∀ v, assign (.Subscript o i pos) X.env v = (do
      let ov ← holding [v] (eval o X.env)
      let iv ← holding [v, ov] (eval i X.env)
      standAt pos
      holding [v, ov, iv] (setItem ov iv v)
      release [v, ov, iv] []) := by intro _; rfl) : G3 X W (.Subscript o i pos) (gSub3 to ti f) := PGimp (pg_sub ho hi hs ha) fun v σ H Q ⟨Y, g, z, S, R, rv, rel, h, post⟩ =>
  ⟨Y, z, S, _, rel, h, fun d S1 ov H1 h1 rd rs1 g1 k1 => ⟨Y, z, S1, _, rel.grow g1 rs1 k1, h1, fun e S2 iv H2 h2 re rs2 g2 k2 =>
    ⟨d, e, g, S2, fun S3 => R z S3, rd.mono g2, re, rv.mono (g1.trans g2), rs2, h2, fun S' H' h' rs' g' k' => post z S' σ H' h' (rel.toRel.grow (g1.trans (g2.trans g')) rs') (g1.trans (g2.trans g')) (k1.trans g1 (k2.trans g2 k'))⟩⟩⟩
end
end R3

/-! R3, part D: defs as the text has them, the law's end. -/
namespace R3
open PySem PySem.Spec PyProof.Rows L2

def wNever : TS3 := fun _ _ _ => False
theorem s3_never {X : Cx} {W : WX} {st : Stmt} : S3 X W st wNever := PSimp ps_never fun _ _ _ ⟨_, _, _, _, h, _⟩ => h.elim
theorem s3s_never {X : Cx} {W : WX} {st : List Stmt} : S3s X W st wNever := PSsimp pss_never fun _ _ _ ⟨_, _, _, _, h, _⟩ => h.elim

/-- something may be forgotten behind an expression -/
def wF (t : TE3) : TE3 := fun Y z S R => t Y z S fun d S1 => ∃ S0, Le S0 S1 ∧ R d S0
theorem e3_forget {X : Cx} {W : WX} {e : Expr} {t : TE3} (h : E3 X W e t) : E3 X W e (wF t) := PEimp h fun σ H Q ⟨Y, z, S, R, rel, h, post⟩ =>
  ⟨Y, z, S, _, rel, h, fun d S1 v H1 ⟨S0, le, h1⟩ rv rs g k => post d S0 v H1 h1 rv (rs.le le) g (k.le le)⟩
/-- but at n, all is as it was -/
def Lx (n : Addr) (S S' : Sto) : Prop := ∀ a o, a ≠ n → S a = some o → S' a = some o
theorem Lx.refl (n : Addr) (S : Sto) : Lx n S S := fun _ _ _ h => h
theorem Lx.own {n : Addr} {S S' : Sto} {o : SO} (h : Lx n S S') : Lx n S (put S' n o) := fun a u ne e => by rw [put_ne ne]; exact h a u ne e
theorem Lx.new {n p : Addr} {S S' : Sto} {o : SO} (h : Lx n S S') (hp : S' p = none) : Lx n S (put S' p o) := fun a u ne e => Le.put hp a u (h a u ne e)
theorem Lx.le {n : Addr} {S S' : Sto} {o : SO} (h : Lx n S S') : Le (put S n o) (put S' n o) := fun a u e => by
  by_cases q : a = n
  · subst q; rw [put_same] at e ⊢; exact e
  · rw [put_ne q] at e ⊢; exact h a u q e

/-- the function object at f -/
def IsFd (K : PySem.W.Frag) (f : Addr) (fd : FuncData) : Prop := ∃ oc od osl, K.lookup f = some ⟨oc, od, .func fd, osl⟩
theorem IsFd.one {K : PySem.W.Frag} {f : Addr} {fd gd : FuncData} (a : IsFd K f fd) (b : IsFd K f gd) : fd = gd := by
  obtain ⟨_, _, _, h1⟩ := a
  obtain ⟨_, _, _, h2⟩ := b
  rw [h1] at h2
  have e := Option.some.inj h2
  injection e with _ _ e3 _
  injection e3
/-- a def of the text, behind the top -/
def Has (K : PySem.W.Frag) (mg : Str → Option Value) (x : Str) (st : Stmt) (ps : List Str) : Prop :=
  ∃ f fd, mg x = some (.ref f) ∧ IsFd K f fd ∧ Fun K x x st f fd ∧ ∀ us : List Value, us.length = ps.length → bindArgs fd ⟨us, []⟩ = pure (ps.zip us)
theorem has_mk {K : PySem.W.Frag} {mg : Str → Option Value} {x : Str} {st : Stmt} {ps : List Str} {f : Addr} {oc : Value} {od an : Option Addr} {osl : Array (Option Value)} {kV doc pm cdv ct : Value}
    (m : mg x = some (.ref f)) (l : K.lookup f = some ⟨oc, od, .func (PySem.W.fnOf x x (defArgs st) (defBody st) (defScope st) .none kV doc pm an cdv ct), osl⟩)
    (c : PySem.W.codeIn K cdv x = true) (k : PySem.W.keepIn K (.ref f) = true)
    (h : ∀ (kV doc pm : Value) (an : Option Addr) (cdv ct : Value) (us : List Value), us.length = ps.length → bindArgs (PySem.W.fnOf x x (defArgs st) (defBody st) (defScope st) .none kV doc pm an cdv ct) ⟨us, []⟩ = pure (ps.zip us)) : Has K mg x st ps :=
  ⟨f, _, m, ⟨_, _, _, l⟩, fun_mk l c k, h kV doc pm an cdv ct⟩
/-- the def named x keeps the promise sp, by level k -/
def OkF (P : Program) (w : World) (K : PySem.W.Frag) (mg : Str → Option Value) (base : Heap) (k : Nat) (x : Str) (ps : List Str) (sp : Sp3) : Prop :=
  ∃ f fd, mg x = some (.ref f) ∧ IsFd K f fd ∧ PySem.W.keepIn K (.ref f) = true ∧ Binds K fd ps [] ∧ FnOk P w K mg base (L2.CX P w) k f fd ps (upSp K ps.length sp)
section
variable {P : Program} {w : World} {K : PySem.W.Frag} {mg : Str → Option Value} {base : Heap}
theorem OkF.mono {j k : Nat} {x : Str} {ps : List Str} {sp : Sp3} (h : OkF P w K mg base j x ps sp) (l : j ≤ k) : OkF P w K mg base k x ps sp := by
  obtain ⟨f, fd, h1, h2, h3, h4, h5⟩ := h
  exact ⟨f, fd, h1, h2, h3, h4, h5.mono l⟩
/-- a def; what it lets out is promised by its ways Y -/
theorem OkF.def3 {x : Str} {st : Stmt} {N ps : List Str} {k : Nat} {sp : Sp3} {t : TS3} (F : Has K mg x st ps) (S : FnScope N ps (defScope st))
    (vc : ∀ ds S R Y, sp ds S R Y → t (endsOf R Y) (start3 N ds) S)
    (hbody : ∀ (f : Addr) (cdv : Value) (A : Around) (outer : List Env) (s : Shared) (H : Hp) (E : XK) (W : WX), Room k (A.deeper (envOfC x (defScope st) s.heap.objs.size f cdv)) → (A.deeper (envOfC x (defScope st) s.heap.objs.size f cdv)).units + 70 < cLine →
      Takes (cxOf (L2.CX P w) P w K mg base N x (defScope st) f cdv A outer s H E) W → PassesOwn (model P w) (cxOf (L2.CX P w) P w K mg base N x (defScope st) f cdv A outer s H E).A (cxOf (L2.CX P w) P w K mg base N x (defScope st) f cdv A outer s H E).env (cxOf (L2.CX P w) P w K mg base N x (defScope st) f cdv A outer s H E).xe →
      S3s (cxOf (L2.CX P w) P w K mg base N x (defScope st) f cdv A outer s H E) W (defBody st) t) : OkF P w K mg base (k + 1) x ps sp := by
  obtain ⟨f, fd, h1, h2, h3, h4⟩ := F
  refine ⟨f, fd, h1, h2, h3.kp, .all h4, ?_⟩
  refine h3.okX S (fun vs H Q E ⟨ds, S, R, Y, rv, rs, hl, h, _⟩ => hl) fun cdv A outer s H vs Q E hr ⟨ds, S, R, Y, rv, rs, hl, h, post, hx⟩ => ?_
  have hU := hr.un
  exact ⟨_, hbody f cdv A outer s H E (fun c d _ H => E c d H) hr (by omega) (takes_of rfl rfl rfl rfl) PassesOwn.leaving, start3 N ds, S, endsOf R Y, rel_start rv rs, vc ds S R Y h, down_def post hx⟩
end
section
variable {X : Cx} {W : WX} {j k : Nat} {ps : List Str} {sp : Sp3} {x : Str} {p pos : Pos} {e : Expr} {es : List Expr} {ts : List TE3}
theorem e3_callF (F : OkF X.prog X.w X.K X.mg X.base k x ps sp) (tk : Takes X W) (hr : Room k X.A) (hg : Gl X x) (ha : A3 X W (e :: es) ts) (hn : ts.length = ps.length := by rfl)
    (hdb : (x == ("__debug__" : Str)) = false := by decide) (he : starEach (e :: es) X.env = (false, eval e X.env) :: starEach es X.env := by rfl) (hpl : (backTo pos (starEach es X.env)).any (·.1) = false := by rfl) :
    E3 X W (.Call (.Name x p) (e :: es) [] pos) (wCall sp ts) := by
  obtain ⟨f, fd, h1, h2, h3, h4, h5⟩ := F
  exact e3_call h5 hr hg h1 h3 h4 tk ha hn hdb he hpl
end

/-! ### the law's end -/
/-- what a law's call promises -/
def sp_law : Sp3 := fun ds S R _ => ∃ ns : List Int, ds = [.fl (ns.map D.int)] ∧ ns.length ≤ 63 ∧ (∀ z ∈ ns, Bits 1048576 z) ∧ ∀ S', R (.bl true) S'
theorem bits_of_int {z : Int} {n : Nat} (h : Builtin.Int.intBits z ≤ n) : Bits n z := by
  unfold Builtin.Int.intBits at h
  unfold Bits
  split at h
  · rename_i e
    have e2 : z = 0 := by simpa using e
    subst e2
    exact Nat.pos_of_ne_zero (by simp)
  · exact Nat.lt_of_lt_of_le (Nat.lt_log2_self) (Nat.pow_le_pow_right (by decide) h)
theorem law_of {l : PySem.W.OpenLaw} {k : Nat} {q : Program} {loose : List Str} {XP : (Str → Option Value) → Heap → Prop} {YP : World → Heap → Prop} {d : DefRec} {K : Params → PySem.W.Frag} {x : Str}
    (hn : l.most = some 63) (hdf : d.params.defaults = []) (hr : Room k callerA) (hY : ∀ (w : World) (h : Heap), YP w h → (K w.params).In h)
    (F : ∀ (w : World) (mg : Str → Option Value) (fa : Addr) (h : Heap), (K w.params).In h → h.Ns mainGlobals mg → mg d.name = some (.ref fa) →
      ∃ st, Has (K w.params) mg d.name st [x] ∧ ∀ base : Heap, (K w.params).In base → base.Ns mainGlobals mg → OkF l.prog w (K w.params) mg base k d.name [x] sp_law) :
    PySem.W.WalkO q loose XP YP l.row.toRowW d [] (fun f vs => PySem.call f vs) := by
  refine L2.walk_ofB (K := K) (n := 63) (k := k) (x := x) (CX := fun w => L2.CX l.prog w) (sp := fun w => upSp (K w.params) 1 sp_law) hn (by decide) hdf hr hY (fun w mg fa h KX G hmg => ?_) (fun w H a ns hl hb hO hS => ?_) ?_
  · obtain ⟨st, ⟨f, fd, h1, h2, h3, h4⟩, hF⟩ := F w mg fa h KX G hmg
    rw [hmg] at h1
    cases h1
    refine ⟨fd, fun s u => .of_eq (h4 [u] rfl), fun base hb hg => ?_⟩
    obtain ⟨f', fd', g1, g2, g3, g4, g5⟩ := hF base hb hg
    rw [hmg] at g1
    cases g1
    have e := h2.one g2
    subst e
    exact g5
  · have ho : SqF (K w.params) H a (ns.map V.int) := by
      rcases hS with (h | h) | h
      · rcases hO a with e | ⟨o, xs, e⟩
        · rw [e] at h; cases h
        · rw [e] at h; cases h
      · exact .inl h
      · exact .inr h
    exact ⟨[.fl (ns.map D.int)], fun _ => none, fun d _ => d = .bl true, fun _ _ => False, .cons (.fl ho RvL.ofInts) .nil, fun b u e => (nomatch e), rfl, ⟨ns, rfl, hl, fun z hz => bits_of_int (hb z hz), fun _ => rfl⟩, fun d S' v H' h rv _ _ _ => by subst h; cases rv; rfl, fun _ _ _ _ h _ _ _ _ => h.elim⟩
  · rintro w H s e s' ⟨_, _, _, _, _, _, _, _, _, _, _, _, z⟩
    exact z
end R3

/-! R3, part E: the program's own errors: raise, try .. except X as e, isinstance of what was caught. -/
namespace R3
open PySem PySem.Spec PyProof.Rows L2

/-! ### classes -/
inductive Cl where
  | roof | value | ex (e : Ex)
def Cl.nm : Cl → String
  | .roof => "RoofError" | .value => "ValueError" | .ex e => e.nm
def isSub (n : Ex) : Cl → Bool
  | .roof => true
  | .value => true
  | .ex m => decide (n = m)
inductive ClM (mg : Str → Option Value) : Cl → V → Value → Prop
  | value : mg "ValueError" = none → ClM mg .value (.ty "ValueError") (.type "ValueError")
  | own {c : Cl} {C : Addr} : mg (PySem.Str.ofString c.nm) = some (.ref C) → ClM mg c (.ref C) (.ref C)
theorem ClM.cls {mg : Str → Option Value} {c : Cl} {v : V} {u : Value} (h : ClM mg c v u) : ClsV v u := by
  cases h with
  | value _ => exact .ty _
  | own _ => exact .own _
/-- an error that is raised -/
def RaiseF (K : PySem.W.Frag) (mg : Str → Option Value) (n : Ex) : Prop := ∃ C, ClsA K n C ∧ mg (PySem.Str.ofString n.nm) = some (.ref C) ∧
  PySem.W.excIn K C [.type "ValueError", .type "Exception", .type "BaseException", .type "object"] "ValueError.__new__" = true ∧ PySem.W.keepIn K (.ref C) = true ∧ PySem.W.subIn K (.ref C) (.type "BaseException") = some true ∧ PySem.W.typeIn K (.ref C) = some (.type "type")
/-- errors of L before the class c -/
def IsF (K : PySem.W.Frag) (mg : Str → Option Value) (L : List Ex) (c : Cl) : Prop := ∃ v u, ClM mg c v u ∧ ∀ n ∈ L, ∀ C, ClsA K n C → PySem.W.kitOne K (.ref C) u = some (isSub n c)
def ExmF (K : PySem.W.Frag) (mg : Str → Option Value) (L : List Ex) (c : Cl) : Prop := ∃ C', mg (PySem.Str.ofString c.nm) = some (.ref C') ∧ ∀ n ∈ L, ∀ C, ClsA K n C → PySem.W.exmOne K (.ref C) (.ref C') = some (isSub n c)
def EcF (K : PySem.W.Frag) (L : List Ex) : Prop := ∀ n ∈ L, ∀ C, ClsA K n C → ExcC K C

/-! ### raise -/
def wRaise (n : Ex) : TS3 := fun B z S => B.xc z n S
theorem nm_dbg (n : Ex) : ((PySem.Str.ofString n.nm) == ("__debug__" : Str)) = false := by cases n <;> decide
theorem cl_dbg (c : Cl) : ((PySem.Str.ofString c.nm) == ("__debug__" : Str)) = false := by
  cases c with
  | ex e => exact nm_dbg e
  | _ => decide
section
variable {X : Cx} {W : WX} {pos : Pos}
theorem s3_raise (n : Ex) {m : Str} {j : Nat} {p p2 pos' : Pos} (hc : X.calm = true) (tk : Takes X W) (F : RaiseF X.K X.mg n) (hg : Gl X (PySem.Str.ofString n.nm)) :
    S3 X W (.Raise (some (.Call (.Name (PySem.Str.ofString n.nm) p) [.Constant (.str m) j p2] [] pos')) none pos) (wRaise n) := by
  obtain ⟨C, c1, c2, c3, c4, c5, c6⟩ := F
  exact PSimp (ps_raise hc tk (pmk_own PySem.F.excBase_ValueError c3 c2 c4 (raises_own c5 c6) hg (nm_dbg n))) fun D σ H ⟨z, S, B, rel, h, d⟩ => d.xc z n C S σ H h c1 rel (Gr.refl _) (Kp.refl _ _)
end

/-! ### what is caught is tracked -/
section
variable {X : Cx} {pins : List (Addr × Obj)} {σ : St} {H : Hp} {s : Shared}
theorem Inv.nowTracked {a : Addr} {o : HO} (I : Inv X pins σ H s) (n0 : X.s_0.heap.get? a = none) (na : H a = none) (nL : X.env.locals ≠ a) (nC : ∀ x c, X.env.cells.lookup x = some c → c ≠ a) (nP : ∀ p ∈ X.pn ++ pins, p.1 ≠ a)
    (new : ObjOk X.prog X.w (upd H a o) s.heap a o) : Inv X pins σ (upd H a o) s := by
  have B := I.base
  have n1 : ∀ b u, X.s_0.heap.get? b = some u → b ≠ a := fun b u e => by rintro rfl; rw [n0] at e; cases e
  refine ⟨I.ok, I.os, I.bare, ⟨B.keep, B.slot, fun b u e n hx => ?_, B.there, fun b xs e => ?_, fun b q u e => ?_, fun b ps e => ?_⟩, I.loc, I.cell, ?_, fun x c e => ?_, fun p hp => ?_, I.hok.laidN (fun _ _ e => e) na new, I.len⟩
  · rw [upd_ne (n1 b u e)]; exact B.free b u e n hx
  · have z := B.tups b xs e; rw [upd_ne (ne_of_none z na)]; exact z
  · have z := B.frzs b q u e; rw [upd_ne (ne_of_none z na)]; exact z
  · obtain ⟨m, z⟩ := B.tbls b ps e; exact ⟨m, by rw [upd_ne (ne_of_none z na)]; exact z⟩
  · rw [upd_ne nL]; exact I.free
  · rw [upd_ne (nC x c e)]; exact I.freeC x c e
  · obtain ⟨e, n, ne, nf, d⟩ := I.pin p hp
    exact ⟨e, by rw [upd_ne (nP p hp)]; exact n, ne, nf, d⟩
theorem exH_ok {P : Program} {w : World} {H : Hp} {h : Heap} {a : Addr} {cls : Value} {oe : Obj} {vs : Array Value} (e : h.get? a = some oe) (z : Zc cls none oe) (d : oe.data = .fields vs) : ObjOk P w H h a (ExH cls a) :=
  ⟨⟨oe, vs, e, z, d⟩, ⟨oe, e⟩, fun _ _ ⟨o, v, q, r⟩ k => ⟨o, v, k o q, r⟩⟩
theorem Inv.suite0 (I : Inv X pins σ H s) {a : Addr} : Inv (X.suite a (X.pn ++ pins)) [] σ H s :=
  ⟨I.ok.suite _ _, I.os, I.bare, I.base, I.loc, I.cell, I.free, I.freeC, fun p hp => I.pin p (by rw [List.append_nil] at hp; exact hp), I.hok, I.len⟩
theorem Inv.unsuite0 {a : Addr} {pn' : List (Addr × Obj)} (I : Inv (X.suite a (X.pn ++ pins)) pn' σ H s) (ok : X.Ok) : Inv X pins σ H s :=
  ⟨ok, I.os, I.bare, I.base, I.loc, I.cell, I.free, I.freeC, fun p hp => I.pin p (List.mem_append_left _ hp), I.hok, I.len⟩
end
/-- what the body's errors wish: the suite, with the error tracked -/
def wCatch (K : PySem.W.Frag) (c : Value) (i : Nat) (ts : TS) (Wout : WX) (D : Ends) : WX := fun cls d σ H =>
  ∃ b, PySem.W.exmOne K cls c = some b ∧ (b = true → d = none ∧ ∀ a, H a = none → ts { nx := fun σ' H' => D.nx (σ'.set i none) H', rt := D.rt, bk := fun σ' H' => D.bk (σ'.set i none) H', ct := fun σ' H' => D.ct (σ'.set i none) H' } (σ.set i (some (.ref a))) (upd H a (ExH cls a))) ∧
    (b = false → Wout cls d σ H)
section
variable {X : Cx} {x n : Str} {c : Value} {i : Nat} {body suite : List Stmt} {b₀ : Stmt} {np pos pos' : Pos} {tb : WX → TS} {ts : TS} {Wout : WX}
theorem ps_catch (hex : X.ex = []) (hs : X.stack = X.env :: X.outer) (hf : X.env.frame = some X.env.locals) (hN : X.N.Nodup) (hi : X.N[i]? = some n) (hln : X.env.kindOf n = some .local) (hc : Names X x c) (tk : Takes X Wout)
    (hb : ∀ (W : WX) (pn : List (Addr × Obj)) (xe : Value → Shared → Prop), Takes (X.tr pn xe) W → PassesOwn (model X.prog X.w) X.A X.env xe → PSs (X.tr pn xe) body (tb W))
    (hsu : ∀ (a : Addr) (pn : List (Addr × Obj)), PSs (X.suite a pn) (b₀ :: suite) ts) :
    PS X (.Try body [.ExceptHandler (some (.Name x np)) (some n) (b₀ :: suite) pos'] [] [] pos) (fun D σ H => tb (wCatch X.K c i ts Wout D) D σ H) := by
  refine ⟨fun pins s σ H D I h => ?_⟩
  have ok := I.ok
  have hfr : X.A.frames = some (X.env :: X.outer) := by rw [ok.frames, hs]
  refine wpAny_Try_except ?_
  refine wpAny_mono ((hb (wCatch X.K c i ts Wout D) (X.pn ++ pins) (fun e s₁ => wpAny (model X.prog X.w) X.A (noteFrame e X.env) (fun _ s₂ => wpAny (model X.prog X.w) X.A (setFlight e none) (fun _ s₃ =>
    wpAny (model X.prog X.w) X.A (handleBy e X.env [.ExceptHandler (some (.Name x np)) (some n) (b₀ :: suite) pos']) (SP X pins D) X.xe s₃) X.xe s₂) X.xe s₁) (fun u s' xx => ?_) PassesOwn.looking).run [] s σ H D (I.toTry _) h) (fun f s1 hsp => ?_) (fun e s1 he => he)
  · obtain ⟨a, B, sI, pins', σ', H', cls, d, rfl, J', nb, up, sky, na, os, ag, b, hb1, hyes, hno⟩ := xx
    have J : Inv X pins σ' H' sI := J'.ofTry ok
    have sky' : Sky B (X.env :: X.outer) a (Zc cls d) X.env.locals s'.heap := by rw [← hs]; exact sky
    show wpAny (model X.prog X.w) X.A (noteFrame (.ref a) X.env) _ _ _
    refine Sky.land Zc.steady hfr hf sky' fun h3 fl3 up3 => ?_
    have J3 : Inv X pins σ' H' { s' with heap := h3 } := J.landed nb fl3.1 (up.trans up3) os ag
    obtain ⟨oe3, vs3, he3, hz3, hd3⟩ := fl3.there
    have nfr : a ∉ frs (X.env :: X.outer) := fun hm => by
      obtain ⟨_, o', e', hnf⟩ := fl3.2.2.1.mem hm
      rw [he3] at e'; cases e'
      exact hnf _ hd3
    have nL : a ≠ X.env.locals := fun z => nfr (List.mem_filterMap.mpr ⟨X.env, List.mem_cons_self, by rw [hf, z]⟩)
    have nF : a ∉ X.fs := fun hm => by
      obtain ⟨e, he, q⟩ := List.mem_filterMap.mp hm
      exact nfr (List.mem_filterMap.mpr ⟨e, List.mem_cons_of_mem _ he, q⟩)
    have nI : sI.heap.get? a = none := by
      cases e : sI.heap.get? a with
      | none => rfl
      | some o =>
        have z := nb a o e (by show a ∉ frs X.stack; rw [hs]; exact nfr)
        rw [fl3.2.1] at z; cases z
    have S3' := J3.suite he3 hd3 na nL nF
    refine wpAny_handleBy_cons (codeAny_handlers_test ?_) (by intro q; cases q)
    have LT : PySem.W.Looks (model X.prog X.w) h3 (typeOf (.ref a)) cls := fun A Q E s k q => wpAny_typeOf_ref (k _ _ he3) (by rw [hz3.1]; exact q)
    have LM := PySem.W.exm_one (M := model X.prog X.w) (J3.kIn) LT hb1
    have test : ∀ {Q : Value → Shared → Prop} {E : Value → Shared → Prop}, Q c { s' with heap := h3 } → wpAny (model X.prog X.w) (X.A.mark (some (.ref a))) (eval (.Name x np) X.env) Q E { s' with heap := h3 } := fun {Q E} q => by
      obtain ⟨hg, hdbg, hm | ⟨hm, hv, hnn⟩⟩ := hc
      · exact ld_glob (X := X.suite a ((a, oe3) :: (X.pn ++ pins))) S3' hg hm q hdbg
      · exact ld_blt (X := X.suite a ((a, oe3) :: (X.pn ++ pins))) S3' hg hm hv q hnn hdbg
    refine test (LM.here ?_)
    cases b with
    | true =>
      obtain ⟨rfl, hyes2⟩ := hyes rfl
      refine codeAny_handlers_suite_as ?_
      refine HandSPX.lands_againZ fl3 fun h4 fl4 up4 => ?_
      have J4 : Inv X pins σ' H' { s' with heap := h4 } := J.landed nb fl4.1 ((up.trans up3).trans up4) os ag
      obtain ⟨oe4, vs4, he4, hz4, hd4⟩ := fl4.there
      have J5 : Inv X pins σ' (upd H' a (ExH cls a)) { s' with heap := h4 } := by
        refine Inv.nowTracked J4 ?_ na (Ne.symm nL) (fun y k e => ?_) (fun p hp => ?_) (exH_ok he4 hz4 hd4)
        · cases e : X.s_0.heap.get? a with
          | none => rfl
          | some o =>
            obtain ⟨o', z⟩ := J.base.there a o e (by rw [hex]; exact fun z => nomatch z)
            rw [nI] at z; cases z
        · rintro rfl
          obtain ⟨v, o, q1, q2⟩ := J4.cell y k e
          have : oe4 = o := Option.some.inj (he4.symm.trans q1)
          subst this
          rw [hd4] at q2; cases q2
        · rintro rfl
          obtain ⟨q, _⟩ := J'.pin p (List.mem_append_left _ hp)
          rw [nI] at q; cases q
      refine store_ok (X := X.suite a (X.pn ++ pins)) (v := .ref a) (Inv.suite0 J5) hN hi (.inl hln) rfl (fun s5 S5 => ?_) (.inr hln)
      refine wpAny_mono ((hsu a (X.pn ++ pins)).run [] s5 _ _ _ S5 (hyes2 a na)) (fun f s6 hsp => ?_) (fun _ _ z => False.elim z)
      have end_ : ∀ {σ6 : St} {H6 : Hp} {Q : Shared → Prop}, Inv (X.suite a (X.pn ++ pins)) [] σ6 H6 s6 → (∀ s7, Inv X pins (σ6.set i none) H6 s7 → Q s7) →
          wpAny (model X.prog X.w) X.A (do bindName X.env n .none; unbindBehindTheSuite X.env n pos') (fun _ s7 => Q s7) X.xe s6 := fun {σ6 H6 Q} S6 hq => gone_ok (Inv.unsuite0 S6 ok) hN hi hln hq
      cases f with
      | next =>
        obtain ⟨σ6, H6, S6, q6⟩ := hsp
        exact end_ S6 fun s7 J7 => ⟨_, _, J7, q6⟩
      | brk =>
        obtain ⟨σ6, H6, S6, q6⟩ := hsp
        exact end_ S6 fun s7 J7 => ⟨_, _, J7, q6⟩
      | cont =>
        obtain ⟨σ6, H6, S6, q6⟩ := hsp
        exact end_ S6 fun s7 J7 => ⟨_, _, J7, q6⟩
      | ret u =>
        obtain ⟨v6, σ6, H6, S6, r6, q6⟩ := hsp
        exact end_ S6 fun s7 J7 => ⟨_, _, _, J7, r6, q6⟩
    | false =>
      show wpAny _ X.A (handleBy (.ref a) X.env []) _ _ _
      refine wpAny_handleBy_nil ?_
      obtain ⟨k1, k2, k3, oe, vs, T, oT, ts', he, hz, hd, h1, hr⟩ := id fl3
      unfold PySem.passOn
      refine wpAny_bind (wpAny_field he hd h1 ?_)
      rw [if_neg (show ¬ ((Value.ref T == Value.none) = true) from by simp)]
      have fin : wpAny (model X.prog X.w) X.A (setFlight (.ref a) X.env.frame) (fun _ s4 => wpAny (model X.prog X.w) X.A (throw (.ref a) : Sem Flow) (SP X pins D) X.xe s4) X.xe { s' with heap := h3 } := by
        rw [hf]
        refine HandSPX.setFlight_upZ fl3 fun h4 hh4 up4 => wpAny_throw (tk _ _ ?_)
        exact ⟨a, B, sI, pins, σ', H', cls, d, rfl, J, nb, (up.trans up3).trans up4, .inr (.inr (by rw [hs]; exact hh4)), na, os, ag, hno rfl⟩
      first
        | exact wpAny_bind (wpAny_pure (wpAny_bind fin))
        | exact wpAny_bind fin
  · cases f with
    | next =>
      obtain ⟨σ', H', J', q⟩ := hsp
      exact wpAny_execs_nil ⟨σ', H', J'.ofTry ok, q⟩
    | brk =>
      obtain ⟨σ', H', J', q⟩ := hsp
      exact ⟨σ', H', J'.ofTry ok, q⟩
    | cont =>
      obtain ⟨σ', H', J', q⟩ := hsp
      exact ⟨σ', H', J'.ofTry ok, q⟩
    | ret u =>
      obtain ⟨v, σ', H', J', r, q⟩ := hsp
      exact ⟨v, σ', H', J'.ofTry ok, r, q⟩
end

/-! ### try -/
def unsetE (B : Ends3) (i : Nat) : Ends3 := ⟨fun z S => B.nx (z.set i none) S, B.rt, fun z S => B.bk (z.set i none) S, fun z S => B.ct (z.set i none) S, fun _ _ _ => False⟩
/-- try: body / except c as n: suite (n in slot i; L: what may be raised at all) -/
def wTry (L : List Ex) (c : Cl) (i : Nat) (body suite : TS3) : TS3 := fun B z S =>
  body { B with xc := fun z' n S' => n ∈ L ∧ Br (isSub n c) (∀ a, S' a = none → suite (unsetE B i) (z'.set i (some (.ref a))) (put S' a (.exn n))) (B.xc z' n S') } z S
theorem RS.newE {K : PySem.W.Frag} {H : Hp} {S : Sto} {p : Addr} {n : Ex} {C : Addr} (r : RS K S H) (h : H p = none) (c : ClsA K n C) : RS K (put S p (.exn n)) (upd H p (ExH (.ref C) p)) := fun a u e => by
  by_cases q : a = p
  · subst q; rw [put_same] at e; cases e; exact ⟨C, c, upd_same⟩
  · rw [put_ne q] at e; exact (r a u e).mono (Gr.new h) (upd_ne q)
section
variable {X : Cx} {W : WX} {i : Nat} {n : Str} {c : Cl} {L : List Ex} {body suite : List Stmt} {b₀ : Stmt} {np pos pos' : Pos} {tb ts : TS3}
theorem s3_try (hex : X.ex = []) (hs : X.stack = X.env :: X.outer) (hf : X.env.frame = some X.env.locals) (hN : X.N.Nodup) (hi : X.N[i]? = some n) (hln : X.env.kindOf n = some .local) (hg : Gl X (PySem.Str.ofString c.nm)) (F : ExmF X.K X.mg L c) (tk : Takes X W)
    (hb : ∀ (W : WX) (pn : List (Addr × Obj)) (xe : Value → Shared → Prop), Takes (X.tr pn xe) W → S3s (X.tr pn xe) W body tb)
    (hsu : ∀ (a : Addr) (pn : List (Addr × Obj)), S3s (X.suite a pn) (fun _ _ _ _ => False) (b₀ :: suite) ts) :
    S3 X W (.Try body [.ExceptHandler (some (.Name (PySem.Str.ofString c.nm) np)) (some n) (b₀ :: suite) pos'] [] [] pos) (wTry L c i tb ts) := by
  obtain ⟨C', hm, hx⟩ := F
  refine PSimp (ps_catch (tb := fun W => upS X.K W tb) (ts := upS X.K (fun _ _ _ _ => False) ts) hex hs hf hN hi hln ⟨hg, cl_dbg c, .inl hm⟩ tk (fun W pn xe tk _ => hb W pn xe tk) hsu) fun D σ H ⟨z, S, B, rel, h, d⟩ => ?_
  refine ⟨z, S, _, rel, h, d.nx, d.rt, d.bk, d.ct, fun z' m C S' σ' H' hm c' rel' g k => ?_⟩
  obtain ⟨hm, br⟩ := hm
  refine ⟨isSub m c, hx m hm C c', fun e => ⟨rfl, fun a na => ?_⟩, fun e => d.xc z' m C S' σ' H' (br.f e) c' rel' g k⟩
  have rs := rel'.st.newE na c'
  have G := Gr.new (o := ExH (.ref C) a) na
  have nS := rel'.st.free na
  refine ⟨_, _, unsetE B i, (rel'.grow G rs).setS (.ref a), br.t e a nS, ?_⟩
  have g2 := g.trans G
  have k2 : Kp S (put S' a (.exn m)) H (upd H' a (ExH (.ref C) a)) := k.trans g (Kp.new na)
  exact ⟨fun z2 S2 σ2 H2 q r g' k' => d.nx _ S2 _ H2 q r.unset (g2.trans g') (k2.trans g2 k'), fun e S2 v H2 q rv rs g' k' => d.rt e S2 v H2 q rv rs (g2.trans g') (k2.trans g2 k'),
    fun z2 S2 σ2 H2 q r g' k' => d.bk _ S2 _ H2 q r.unset (g2.trans g') (k2.trans g2 k'), fun z2 S2 σ2 H2 q r g' k' => d.ct _ S2 _ H2 q r.unset (g2.trans g') (k2.trans g2 k'), fun _ _ _ _ _ _ q _ _ _ _ => q.elim⟩
end

/-! ### isinstance of what was caught -/
def wIsE (L : List Ex) (cs : List Cl) (te : TE3) : TE3 := fun Y z S R => te Y z S fun d S1 => match d with
  | .ref a => ∃ n, S1 a = some (.exn n) ∧ n ∈ L ∧ R (.bl (cs.any (isSub n))) S1
  | _ => False
inductive NamesOf (X : Cx) : List Expr → List Cl → Prop
  | nil : NamesOf X [] []
  | cons {c : Cl} {p : Pos} {es : List Expr} {cs : List Cl} : Gl X (PySem.Str.ofString c.nm) → NamesOf X es cs → NamesOf X (.Name (PySem.Str.ofString c.nm) p :: es) (c :: cs)
section
variable {X : Cx} {W : WX}
theorem pe_clName {c : Cl} {v : V} {u : Value} {p : Pos} (h : ClM X.mg c v u) (hg : Gl X (PySem.Str.ofString c.nm)) : PE X (.Name (PySem.Str.ofString c.nm) p) (tC v) := by
  cases h with
  | value h => exact pe_bltn (x := "ValueError") (u := .type "ValueError") hg h rfl rfl (by decide) (by decide)
  | own h => exact pe_glob hg h rfl (cl_dbg c)
theorem pa_clNames {L : List Ex} : ∀ {es : List Expr} {cs : List Cl}, NamesOf X es cs → (∀ c ∈ cs, IsF X.K X.mg L c) → ∃ vs us, vs.length = cs.length ∧ Paired ClsV vs us ∧ (∀ n ∈ L, ∀ C, ClsA X.K n C → PySem.W.kitAny X.K (.ref C) us = some (cs.any (isSub n))) ∧ PA X es (fun _ H Q => Q vs H)
  | _, _, .nil, _ => ⟨[], [], rfl, .nil, fun _ _ _ _ => rfl, PAimp pa_nil fun _ _ _ h => h⟩
  | _, _, .cons (c := c) hg r, h => by
    obtain ⟨vs, us, hl, hp, hk, ha⟩ := pa_clNames r (fun d hd => h d (List.mem_cons_of_mem _ hd))
    obtain ⟨v, u, hm, hn⟩ := h c List.mem_cons_self
    refine ⟨v :: vs, u :: us, by rw [List.length_cons, List.length_cons, hl], .cons hm.cls hp, fun n nL C hC => ?_, PAimp (pa_cons (pe_clName hm hg) ha) fun _ _ _ h => h⟩
    rw [List.any_cons]
    unfold PySem.W.kitAny
    rw [hn n nL C hC, hk n nL C hC]
    cases isSub n c <;> rfl
theorem inst_exn {K : PySem.W.Frag} {h : Heap} {a D : Addr} (q : ∃ (oe : Obj) (vs : Array Value), h.get? a = some oe ∧ Zc (.ref D) none oe ∧ oe.data = .fields vs) : ∃ oe, PySem.W.InstAt h a oe D none := by
  obtain ⟨oe, vs, hget, hz, hv⟩ := q
  refine ⟨oe, ?_⟩
  obtain ⟨oc, od, oda, osl⟩ := oe
  obtain ⟨h1, h2⟩ := hz
  dsimp only at h1 h2 hv
  subst h1 h2 hv
  exact ⟨hget, rfl, rfl, trivial⟩
/-- one class -/
theorem c3_isE1 {L : List Ex} (E : EcF X.K L) {v : V} {u : Value} (hv : ClsV v u) {r : Ex → Bool} (hk : ∀ n ∈ L, ∀ C, ClsA X.K n C → PySem.W.kitOne X.K (.ref C) u = some (r n)) :
    CallR X (.builtin "isinstance") (fun vs H Q => ∃ a n S R, vs = [.ref a, v] ∧ RS X.K S H ∧ S a = some (.exn n) ∧ n ∈ L ∧ R (.bl (r n)) S ∧ Post X.K R S H Q) := by
  rintro pins s σ H xs us Q I rr ⟨a, n, S, R, rfl, rs, hS, hn, hR, post⟩
  obtain ⟨u1, u2, rfl, r1, r2⟩ := vals2 rr
  obtain ⟨C, hC, hH⟩ := rs _ _ hS
  obtain ⟨q, _⟩ := I.hok a _ hH
  obtain ⟨oe, J⟩ := inst_exn (K := X.K) q
  have hc := E n hn C hC
  cases (show u1 = Value.ref a from r1)
  have e2 := hv.eq r2
  subst e2
  exact PySem.W.kia_one (PySem.W.handS_kitx_exc hc.hg hc.hk hc.hs hc.hd hc.ha hc.hn hc.ht hc.hm) I.kIn J (hk n hn C hC) (fun z => nomatch z) fun tk => ⟨.bl _, H, I.tok tk, rfl, post.now hR (.bl _) rs⟩
/-- a tuple of classes, just laid -/
theorem c3_isET {L : List Ex} (E : EcF X.K L) {vs' : List V} {ws : List Value} (hv : Paired ClsV vs' ws) {r : Ex → Bool} (hk : ∀ n ∈ L, ∀ C, ClsA X.K n C → PySem.W.kitAny X.K (.ref C) ws = some (r n)) :
    CallR X (.builtin "isinstance") (fun vs H Q => ∃ a tp n S R, vs = [.ref a, .ref tp] ∧ H tp = some (.tup vs') ∧ RS X.K S H ∧ S a = some (.exn n) ∧ n ∈ L ∧ R (.bl (r n)) S ∧ Post X.K R S H Q) := by
  rintro pins s σ H xs us Q I rr ⟨a, tp, n, S, R, rfl, hT, rs, hS, hn, hR, post⟩
  obtain ⟨u1, u2, rfl, r1, r2⟩ := vals2 rr
  obtain ⟨C, hC, hH⟩ := rs _ _ hS
  obtain ⟨q, _⟩ := I.hok a _ hH
  obtain ⟨oe, J⟩ := inst_exn (K := X.K) q
  have hc := E n hn C hC
  cases (show u1 = Value.ref a from r1)
  cases (show u2 = Value.ref tp from r2)
  obtain ⟨_, its, rv, o, h1, h2, m, h3⟩ := (show ObjOk X.prog X.w H s.heap tp (.tup vs') from I.hok tp _ hT)
  have e3 := ClsV.all hv rv
  subst e3
  obtain ⟨oc, od, dt, sl⟩ := o
  simp only at h2 h3
  subst h2 h3
  exact PySem.W.kia_tup (PySem.W.handS_kitx_exc hc.hg hc.hk hc.hs hc.hd hc.ha hc.hn hc.ht hc.hm) I.kIn J h1 (hk n hn C hC) (fun z => nomatch z) fun tk => ⟨.bl _, H, I.tok tk, rfl, post.now hR (.bl _) rs⟩
theorem e3_isE {L : List Ex} (E : EcF X.K L) (c : Cl) (F : IsF X.K X.mg L c) {x : Str} {p p2 pos : Pos} {e : Expr} {te : TE3} (hg : Gl X x) (hm : X.mg x = none) (hv : bootBuiltins x = some (.builtin "isinstance")) (he : E3 X W e te) (hgc : Gl X (PySem.Str.ofString c.nm))
    (hn : x ≠ "__name__" := by decide) (hd : (x == ("__debug__" : Str)) = false := by decide) (hs : starEach (e :: [.Name (PySem.Str.ofString c.nm) p2]) X.env = (false, eval e X.env) :: starEach [.Name (PySem.Str.ofString c.nm) p2] X.env := by rfl) (hpl : (backTo pos (starEach [.Name (PySem.Str.ofString c.nm) p2] X.env)).any (·.1) = false := by rfl) :
    E3 X W (.Call (.Name x p) [e, .Name (PySem.Str.ofString c.nm) p2] [] pos) (wIsE L [c] te) := by
  obtain ⟨v, u, hm', hk⟩ := F
  refine PEimp (pe_callB (c3_isE1 (L := L) E hm'.cls (r := fun n => isSub n c) hk) hg hm hv (pa_cons he (pa_cons (pe_clName hm' hgc) pa_nil) hs) hn hd hs hpl) fun σ H Q ⟨Y, z, S, R, rel, h, post⟩ => ?_
  refine ⟨Y, z, S, _, rel, h, fun d S1 w H1 h1 rv rs g k => ?_⟩
  cases rv with
  | ref a =>
    obtain ⟨n, h2, h3, h4⟩ := h1
    rw [List.any_cons, List.any_nil, Bool.or_false] at h4
    exact ⟨a, n, S1, R, rfl, rs, h2, h3, h4, fun d' S' v' H' h' r' s' g' k' => post d' S' v' H' h' r' s' (g.trans g') (k.trans g k')⟩
  | _ => exact h1.elim
theorem e3_isET {L : List Ex} (E : EcF X.K L) {cs : List Cl} {es : List Expr} (N : NamesOf X es cs) (F : ∀ c ∈ cs, IsF X.K X.mg L c) {x : Str} {p p2 pos : Pos} {k2 : Nat} {e : Expr} {te : TE3} (hg : Gl X x) (hm : X.mg x = none) (hv : bootBuiltins x = some (.builtin "isinstance")) (he : E3 X W e te)
    (hcl : cs.length ≤ 1000 := by exact Nat.le_of_ble_eq_true rfl) (hn : x ≠ "__name__" := by decide) (hd : (x == ("__debug__" : Str)) = false := by decide) (hs : starEach (e :: [.Tuple es k2 p2]) X.env = (false, eval e X.env) :: starEach [.Tuple es k2 p2] X.env := by rfl) (hs2 : starEach [.Tuple es k2 p2] X.env = (false, eval (.Tuple es k2 p2) X.env) :: starEach [] X.env := by rfl) (hpl : (backTo pos (starEach [.Tuple es k2 p2] X.env)).any (·.1) = false := by rfl) :
    E3 X W (.Call (.Name x p) [e, .Tuple es k2 p2] [] pos) (wIsE L cs te) := by
  obtain ⟨vs, us, hl, hp, hk, ha⟩ := pa_clNames N F
  refine PEimp (pe_callB (c3_isET (L := L) E hp (r := fun n => cs.any (isSub n)) hk) hg hm hv (pa_cons he (pa_cons (pe_tup ha) pa_nil hs2) hs) hn hd hs hpl) fun σ H Q ⟨Y, z, S, R, rel, h, post⟩ => ?_
  refine ⟨Y, z, S, _, rel, h, fun d S1 w H1 h1 rv rs g k => ⟨by rw [hl]; exact Nat.le_trans hcl (by decide), fun tp hp => ?_⟩⟩
  cases rv with
  | ref a =>
    obtain ⟨n, h2, h3, h4⟩ := h1
    have G := Gr.new (o := HO.tup vs) hp
    exact ⟨a, tp, n, S1, R, rfl, upd_same, rs.new0 hp, h2, h3, h4, fun d' S' v' H' h' r' s' g' k' => post d' S' v' H' h' r' s' ((g.trans G).trans g') (k.trans g ((Kp.new0 hp).trans G k'))⟩
  | _ => exact h1.elim
end
theorem forL_nil {K : PySem.W.Frag} {P : Ex → Addr → Prop} : ∀ n ∈ ([] : List Ex), ∀ C, ClsA K n C → P n C := fun _ h => nomatch h
theorem forL_cons {K : PySem.W.Frag} {P : Ex → Addr → Prop} {n : Ex} {C : Addr} {L : List Ex} (q : ClsA K n C) (k : P n C) (r : ∀ n ∈ L, ∀ C, ClsA K n C → P n C) : ∀ m ∈ n :: L, ∀ C, ClsA K m C → P m C := fun m hm C' hC => by
  rcases List.mem_cons.mp hm with rfl | hm
  · cases hC.one q; exact k
  · exact r m hm C' hC
theorem forC_cons {P : Cl → Prop} {c : Cl} {cs : List Cl} (h : P c) (r : ∀ d ∈ cs, P d) : ∀ d ∈ c :: cs, P d := fun d hd => by
  rcases List.mem_cons.mp hd with rfl | hd
  · exact h
  · exact r d hd
end R3

/-! R3, part F: list comprehensions. -/
namespace R3
open PySem PySem.Spec PyProof.Rows L2

/-! ### a comprehension's targets: names, tuples of names -/
abbrev TC3 := D → Sto → Sl → (Sl → Prop) → Prop
abbrev TCs3 := List D → Sto → Sl → (Sl → Prop) → Prop
def cN (i : Nat) : TC3 := fun d _ z R => R (z.set i (some d))
def cNil : TCs3 := fun ds _ z R => match ds with
  | [] => R z
  | _ => False
def cCons (t : TC3) (u : TCs3) : TCs3 := fun ds S z R => match ds with
  | d :: r => t d S z fun z' => u r S z' R
  | [] => False
def cTup (n : Nat) (t : TCs3) : TC3 := fun d S z R => match d with
  | .tup ds => ds.length = n ∧ t ds S z R
  | .ref a => ∃ ds, IsL S a ds ∧ ds.length = n ∧ t ds S z R
  | .fl ds => ds.length = n ∧ t ds S z R
  | _ => False
/-- but for the slots ws -/
def Ag (ws : List Nat) (σ σ' : St) : Prop := σ'.length = σ.length ∧ ∀ j, j ∉ ws → σ'[j]? = σ[j]?
theorem Ag.refl (ws : List Nat) (σ : St) : Ag ws σ σ := ⟨rfl, fun _ _ => rfl⟩
theorem Ag.trans {ws : List Nat} {σ σ1 σ2 : St} (a : Ag ws σ σ1) (b : Ag ws σ1 σ2) : Ag ws σ σ2 := ⟨b.1.trans a.1, fun j h => (b.2 j h).trans (a.2 j h)⟩
theorem wipe_get {σ : St} : ∀ {vs : List Nat} {i : Nat}, i ∈ vs → i < σ.length → (wipe σ vs)[i]? = some none
  | v :: vs, i, h, hl => by
    unfold wipe
    by_cases e : v = i
    · subst e
      rw [List.getElem?_set_self (by rw [wipe_length]; exact hl)]
    · rw [List.getElem?_set_ne e]
      exact wipe_get (by
        rcases List.mem_cons.mp h with h | h
        · exact absurd h.symm e
        · exact h) hl
theorem Ag.wipe {ws vs : List Nat} {σ σ' : St} (h : Ag ws σ σ') (hw : ∀ i ∈ ws, i ∈ vs) : L2.wipe σ' vs = L2.wipe σ vs := by
  apply List.ext_getElem?
  intro j
  by_cases hj : j ∈ vs
  · by_cases hl : j < σ.length
    · rw [wipe_get hj hl, wipe_get hj (by rw [h.1]; exact hl)]
    · rw [List.getElem?_eq_none (by rw [wipe_length, h.1]; omega), List.getElem?_eq_none (by rw [wipe_length]; omega)]
  · rw [wipe_out hj, wipe_out hj]
    exact h.2 j fun e => hj (hw j e)
theorem wipe_idem {σ : St} {vs : List Nat} : L2.wipe (L2.wipe σ vs) vs = L2.wipe σ vs := by
  apply List.ext_getElem?
  intro j
  by_cases hj : j ∈ vs
  · by_cases hl : j < σ.length
    · rw [wipe_get hj hl, wipe_get hj (by rw [wipe_length]; exact hl)]
    · rw [List.getElem?_eq_none (by rw [wipe_length, wipe_length]; omega), List.getElem?_eq_none (by rw [wipe_length]; omega)]
  · rw [wipe_out hj]
def upC (K : PySem.W.Frag) (ws : List Nat) (t : TC3) : TG := fun v σ H Q => ∃ d S z R, Rv K H v d ∧ Rel K H σ S z ∧ t d S z R ∧ ∀ z' σ', R z' → Rel K H σ' S z' → Ag ws σ σ' → Q σ' H
def upCs (K : PySem.W.Frag) (ws : List Nat) (t : TCs3) : TGs := fun vs σ H Q => ∃ ds S z R, RvL K H vs ds ∧ Rel K H σ S z ∧ t ds S z R ∧ ∀ z' σ', R z' → Rel K H σ' S z' → Ag ws σ σ' → Q σ' H
section
variable {X : Cx} {pos : Pos} {ws : List Nat}
theorem cg_name {i : Nat} {x : Str} (hN : X.N.Nodup) (hi : X.N[i]? = some x) (hx : Loc X.env.scope x) (hw : i ∈ ws) (hf : X.fn x = true ∨ X.env.scope.names.lookup x = some .local := by first | exact .inl rfl | exact .inr rfl | assumption) : PG X (.Name x pos) (upC X.K ws (cN i)) :=
  PGimp (pg_name hN hi hx hf) fun v σ H Q ⟨d, S, z, R, rv, rel, h, post⟩ => post _ _ h (rel.setS rv) ⟨by rw [List.length_set], fun j hj => by rw [List.getElem?_set_ne (by rintro rfl; exact hj hw)]⟩
theorem cgs_nil : PGs X [] (upCs X.K ws cNil) := PGsimp pgs_nil fun vs σ H Q ⟨ds, S, z, R, rv, rel, h, post⟩ => by
  cases rv with
  | nil => exact ⟨rfl, post z σ h rel (Ag.refl _ _)⟩
  | cons _ _ => exact h.elim
theorem cgs_cons {e : Expr} {es : List Expr} {t : TC3} {u : TCs3} (h1 : PG X e (upC X.K ws t)) (h2 : PGs X es (upCs X.K ws u))
    (hs : (assignEach (e :: es) X.env).map (·.2) = assign e X.env :: (assignEach es X.env).map (·.2) := by rfl) : PGs X (e :: es) (upCs X.K ws (cCons t u)) := PGsimp (pgs_cons h1 h2 hs) fun vs σ H Q ⟨ds, S, z, R, rv, rel, h, post⟩ => by
  cases rv with
  | nil => exact h.elim
  | cons r1 r2 => exact ⟨_, _, rfl, _, S, z, _, r1, rel, h, fun z' σ' h' rel' a => ⟨_, S, z', R, r2, rel', h', fun z2 σ2 q r b => post z2 σ2 q r (a.trans b)⟩⟩
theorem cg_tup {es : List Expr} {k : Nat} {t : TCs3} {n : Nat} (hc : X.calm = true) (h : PGs X es (upCs X.K ws t))
    (hn : (assignEach es X.env).length = n := by rfl) (hst : (assignEach es X.env).findIdx? (·.1) = none := by rfl) : PG X (.Tuple es k pos) (upC X.K ws (cTup n t)) := by
  refine ⟨fun pins s σ H v u Q I r ⟨d, S, z, R, rv, rel, h', post⟩ => ?_⟩
  cases rv with
  | tup hq hr => exact (pg_tup hc h hn hst).run pins s σ H _ u Q I r ⟨_, _, rfl, hq, by rw [hr.length]; exact h'.1, _, S, z, R, hr, rel, h'.2, post⟩
  | ref a =>
    obtain ⟨l, hl, hn', h'⟩ := h'
    obtain ⟨xs, h1, h2⟩ := rel.st.seqL hl
    exact (pg_unl hc h hn hst).run pins s σ H _ u Q I r ⟨_, _, rfl, h1, by rw [h2.length]; exact hn', _, S, z, R, h2, rel, h', post⟩
  | fl hq hr => exact (pg_unl hc h hn hst).run pins s σ H _ u Q I r ⟨_, _, rfl, hq.seqL, by rw [hr.length]; exact h'.1, _, S, z, R, hr, rel, h'.2, post⟩
  | _ => exact h'.elim
end

/-! ### the comprehension -/
def wipe3 (z : Sl) : List Nat → Sl
  | [] => z
  | v :: vs => (wipe3 z vs).set v none
theorem Rel.wipe {K : PySem.W.Frag} {H : Hp} {σ : St} {S : Sto} {z : Sl} (r : Rel K H σ S z) : ∀ vs : List Nat, Rel K H (L2.wipe σ vs) S (wipe3 z vs)
  | [] => r
  | v :: vs => (Rel.wipe r vs).unset
abbrev X0 : GX := fun _ _ _ => False
def tt1 : TT3 := fun _ _ S R => R true S
/-- a comprehension's turns: P by the turn, what was gathered and the store -/
def LcBody (ds : List D) (G : Sto → Prop) (S1 : Sto) (g : TC3) (tt : TT3) (te : TE3) (vs : List Nat) (z : Sl) (R : PD) : Prop := ds.length ≤ sizeLine ∧ ∃ P : Nat → List D → Sto → Prop, P 0 [] S1 ∧ (∀ i acc S, i ≤ ds.length → P i acc S → G S) ∧
  (∀ i d acc S, ds[i]? = some d → P i acc S → g d S (wipe3 z vs) fun z2 => tt X0 z2 S fun b S3 => Br b (te X0 z2 S3 fun y S4 => ∃ S0, Le S0 S4 ∧ P (i + 1) (acc ++ [y]) S0) (∃ S0, Le S0 S3 ∧ P (i + 1) acc S0)) ∧
  ∀ acc S, P ds.length acc S → ∀ p, S p = none → R (.ref p) (put S p (.lst acc))
/-- [te for target in it if tt] -/
def wLc (it : TI3) (g : TC3) (tt : TT3) (te : TE3) (vs : List Nat) : TE3 := fun Y z S R => it Y z S fun ds G S1 => LcBody ds G S1 g tt te vs z R
/-- each item by its place alone -/
theorem lc_map {ds : List D} {G : Sto → Prop} {S1 : Sto} {g : TC3} {te : TE3} {vs : List Nat} {z : Sl} {R : PD} (f : Nat → D) (hz : ds.length ≤ 16777216) (hG : G S1)
    (ht : ∀ i d (K : PD) (Q : Prop), ds[i]? = some d → (∀ S4, Le S1 S4 → K (f i) S4) → g d S1 (wipe3 z vs) fun z2 => Br true (te X0 z2 S1 K) Q)
    (hd : ∀ p, S1 p = none → R (.ref p) (put S1 p (.lst ((List.range ds.length).map f)))) : LcBody ds G S1 g tt1 te vs z R := by
  refine ⟨by rw [sizeLine_eq]; exact hz, fun i acc S => S = S1 ∧ acc = (List.range i).map f, ⟨rfl, rfl⟩, fun i acc S _ h => by rw [h.1]; exact hG, ?_, ?_⟩
  · rintro i d acc S hi ⟨rfl, rfl⟩
    exact ht i d _ _ hi fun S4 le => ⟨S, le, rfl, by rw [List.range_succ, List.map_append]; rfl⟩
  · rintro acc S ⟨rfl, rfl⟩ p hp
    exact hd p hp
/-- .. and some left out -/
theorem lc_filter {ds : List D} {G : Sto → Prop} {S1 : Sto} {g : TC3} {tt : TT3} {te : TE3} {vs : List Nat} {z : Sl} {R : PD} (b : Nat → Bool) (f : Nat → D) (hz : ds.length ≤ 16777216) (hG : G S1)
    (ht : ∀ i d (K : PD) (Q : Sto → Prop), ds[i]? = some d → (b i = true → ∀ S4, Le S1 S4 → K (f i) S4) → (b i = false → ∀ S4, Le S1 S4 → Q S4) → g d S1 (wipe3 z vs) fun z2 => tt X0 z2 S1 fun c S3 => Br c (te X0 z2 S3 K) (Q S3))
    (hd : ∀ p, S1 p = none → R (.ref p) (put S1 p (.lst (((List.range ds.length).filter b).map f)))) : LcBody ds G S1 g tt te vs z R := by
  refine ⟨by rw [sizeLine_eq]; exact hz, fun i acc S => S = S1 ∧ acc = ((List.range i).filter b).map f, ⟨rfl, rfl⟩, fun i acc S _ h => by rw [h.1]; exact hG, ?_, ?_⟩
  · rintro i d acc S hi ⟨rfl, rfl⟩
    refine ht i d _ (fun S3 => ∃ S0, Le S0 S3 ∧ S0 = S ∧ _) hi (fun hb S4 le => ⟨S, le, rfl, ?_⟩) (fun hb S4 le => ⟨S, le, rfl, ?_⟩)
    · rw [List.range_succ, List.filter_append, List.map_append, List.filter_cons_of_pos hb]; rfl
    · rw [List.range_succ, List.filter_append, List.filter_cons_of_neg (by rw [hb]; exact Bool.false_ne_true), List.filter_nil, List.append_nil]
  · rintro acc S ⟨rfl, rfl⟩ p hp
    exact hd p hp
theorem Le.put' {S S' : Sto} {p : Addr} {o : SO} (h : S p = none) (k : Le (R3.put S p o) S') : Le S S' := (Le.put h).trans k
theorem Le.none {S S' : Sto} {p : Addr} (h : Le S S') (n : S' p = none) : S p = none := by
  cases e : S p with
  | none => rfl
  | some o => rw [h _ _ e] at n; cases n
section
variable {K : PySem.W.Frag} {H : Hp} {S : Sto}
theorem RS.track {p : Addr} {xs : List V} {l : List D} (r : RS K S H) (h : H p = some (.lst xs)) (v : RvL K H xs l) : RS K (put S p (.lst l)) H := fun a u e => by
  by_cases q : a = p
  · subst q; rw [put_same] at e; cases e; exact ⟨xs, h, v⟩
  · rw [put_ne q] at e; exact r a u e
theorem RS.other {p : Addr} {o : HO} (r : RS K S H) (n : S p = none) (g : Gr H (upd H p o)) : RS K S (upd H p o) := fun a u e => by
  have : a ≠ p := by rintro rfl; rw [n] at e; cases e
  exact (r a u e).mono g (upd_ne this)
end
section
variable {X : Cx} {W : WX} {elt tg iter : Expr} {ifs : List Expr} {scope : Scope} {own : List (Str × Nat)} {pos : Pos} {wi : TI3} {g : TC3} {tt : TT3} {te : TE3}
theorem lc_down {σ : St} {H : Hp} {Q : VK} {vs ws : List Nat} (hw : ∀ i ∈ ws, i ∈ vs) (h : up X.K W (wLc wi g tt te vs) σ H Q) : tLc (upI X.K W wi) (upC X.K ws g) (upT X.K (fun _ _ _ _ => False) tt) (up X.K (fun _ _ _ _ => False) te) vs σ H Q := by
  obtain ⟨Y, z, S, R, rel, h, post⟩ := h
  refine ⟨Y, z, S, _, rel, h, fun ds G S1 J H1 ⟨hz, P, p0, stay, turn, done⟩ rs g1 k1 wk => fun Dn hD => ?_⟩
  have nD : H Dn = none := g1.dom _ hD
  have gD : Gr H1 (upd H1 Dn (.lst [])) := Gr.new hD
  refine ⟨fun i m H' => m = ds.length - i ∧ i ≤ ds.length ∧ ∃ S' acc xs, P i acc S' ∧ acc.length ≤ i ∧ H' Dn = some (.lst xs) ∧ RvL X.K H' xs acc ∧ RS X.K S' H' ∧ S' Dn = none ∧ Gr H1 H' ∧ Kp S1 S' H1 H',
    ⟨ds.length, by simp, Nat.zero_le _, S1, [], [], p0, Nat.le_refl _, upd_same, .nil, rs.new0 hD, rs.free hD, gD, Kp.new0 hD⟩, ?_⟩
  rintro i m H' ⟨rfl, hi, S', acc, xs, pi, hl, hx, rx, rs', nS, g', k'⟩
  by_cases hlt : i < ds.length
  · refine .inr ⟨wk.go i S' H' hlt (stay i acc S' hi pi) rs' g', fun H2 => ∃ m', m' < ds.length - i ∧ m' = ds.length - (i + 1) ∧ i + 1 ≤ ds.length ∧ ∃ S' acc xs, P (i + 1) acc S' ∧ acc.length ≤ i + 1 ∧ H2 Dn = some (.lst xs) ∧ RvL X.K H2 xs acc ∧ RS X.K S' H2 ∧ S' Dn = none ∧ Gr H1 H2 ∧ Kp S1 S' H1 H2,
      fun H2 ⟨m', lt, q⟩ => ⟨m', lt, q⟩, fun x H2 y => ?_⟩
    obtain ⟨d, hd, rv, rs2, g2, k2⟩ := wk.yld i S' H' x H2 hlt (stay i acc S' hi pi) rs' g' y
    have rel2 : Rel X.K H2 (L2.wipe σ vs) S' (wipe3 z vs) := (rel.toRel.grow (g1.trans (g'.trans g2)) rs2).wipe vs
    refine ⟨d, S', _, _, rv, rel2, turn i d acc S' hd pi, fun z2 σ2 h2 rel3 ag => ⟨(ag.wipe hw).trans wipe_idem, ?_⟩⟩
    refine ⟨X0, z2, S', _, ⟨rel3, fun _ _ _ _ _ _ q => q.elim⟩, h2, fun b S3 H3 h3 rs3 g3 k3 => ?_⟩
    have gA : Gr H1 H3 := g'.trans (g2.trans g3)
    have kA : Kp S1 S3 H1 H3 := (k'.trans g' k2).trans (g'.trans g2) k3
    have fA : S3 Dn = none ∧ H3 Dn = some (.lst xs) := by
      have q2 := k2 Dn (by rw [hx]; exact fun z => nomatch z) nS
      have q3 := k3 Dn (by rw [q2.2, hx]; exact fun z => nomatch z) nS
      exact ⟨q3.1, by rw [q3.2, q2.2, hx]⟩
    cases b with
    | false =>
      show (if false = true then _ else _)
      rw [if_neg Bool.false_ne_true]
      obtain ⟨S0, le, p⟩ := h3.f rfl
      refine ⟨_, by omega, rfl, hlt, S0, acc, xs, p, by omega, fA.2, rx.mono (g2.trans g3), rs3.le le, ?_, gA, kA.le le⟩
      cases e : S0 Dn with
      | none => rfl
      | some o => have := le _ _ e; rw [fA.1] at this; cases this
    | true =>
      show (if true = true then _ else _)
      rw [if_pos rfl]
      refine ⟨X0, z2, S3, _, ⟨rel3.grow g3 rs3, fun _ _ _ _ _ _ q => q.elim⟩, h3.t rfl, fun e S4 v H4 ⟨S0, le, p⟩ rv4 rs4 g4 k4 => ?_⟩
      have q4 := k4 Dn (by rw [fA.2]; exact fun z => nomatch z) fA.1
      have e4 : H4 Dn = some (.lst xs) := q4.2.trans fA.2
      have rx4 := rx.mono (g2.trans (g3.trans g4))
      have gS : Gr H4 (upd H4 Dn (.lst (xs ++ [v]))) := Gr.set e4 (by intro z; simp) (by intro z y; simp)
      refine ⟨xs, e4, by rw [rx.length]; omega, _, by omega, rfl, hlt, S0, acc ++ [e], xs ++ [v], p, by rw [List.length_append, List.length_cons, List.length_nil]; omega, upd_same, (rx4.append (.cons rv4 .nil)).mono gS, ?_, ?_, gA.trans (g4.trans gS), ?_⟩
      · refine (rs4.le le).other ?_ gS
        cases e : S0 Dn with
        | none => rfl
        | some o => have := le _ _ e; rw [q4.1] at this; cases this
      · cases e : S0 Dn with
        | none => rfl
        | some o => have := le _ _ e; rw [q4.1] at this; cases this
      · intro b hb h0
        obtain ⟨q1, q2⟩ := ((kA.trans gA k4).le le) b hb h0
        have : b ≠ Dn := by rintro rfl; exact hb hD
        exact ⟨q1, by rw [upd_ne this]; exact q2⟩
  · have e : i = ds.length := by omega
    subst e
    refine .inl ⟨wk.stop S' H' (stay _ acc S' hi pi) rs' g', ?_⟩
    refine post (.ref Dn) _ (.ref Dn) H' (done acc S' pi Dn nS) (.ref Dn) (rs'.track hx rx) (g1.trans g') fun b hb h0 => ?_
    obtain ⟨q1, q2⟩ := (k1.trans g1 k') b hb h0
    have : b ≠ Dn := by rintro rfl; exact hb nD
    exact ⟨by rw [put_ne this]; exact q1, q2⟩
theorem e3_lc {ws : List Nat} (hc : X.calm = true) (hN : X.N.Nodup) (hi : I3 X W tg iter wi) (ok : BlkOk X.N X.env.scope scope own) (hw : ∀ i ∈ ws, i ∈ own.map (·.2))
    (hg : ∀ (s : Shared) (H : Hp) (C : Addr) (cl : List (Str × Addr)) (fp : List Addr), PG (X.blk s H scope (compEnvC scope cl C X.env) fp) tg (upC X.K ws g)) (ht : ∀ (s : Shared) (H : Hp) (C : Addr) (cl : List (Str × Addr)) (fp : List Addr), PTs (X.blk s H scope (compEnvC scope cl C X.env) fp) ifs (upT X.K (fun _ _ _ _ => False) tt))
    (he : ∀ (s : Shared) (H : Hp) (C : Addr) (cl : List (Str × Addr)) (fp : List Addr), E3 (X.blk s H scope (compEnvC scope cl C X.env) fp) (fun _ _ _ _ => False) elt te) (hs : ∀ x, foldedSetIterable iter X.env x = pure x := by intro _; rfl) :
    E3 X W (.ListComp elt [⟨tg, iter, ifs, 0⟩] scope pos) (wLc wi g tt te (own.map (·.2))) := PEimp (pe_lc hc hN hi ok hg ht he hs) fun σ H Q h => lc_down hw h
/-- y = [..], y a plain local -/
theorem s3_setLc {i : Nat} {y : Str} {py spos : Pos} {ws : List Nat} (hc : X.calm = true) (hN : X.N.Nodup) (hy : X.N[i]? = some y) (hyl : X.env.scope.names.lookup y = some .local)
    (hsw : swapsWith (.ListComp elt [⟨tg, iter, ifs, 0⟩] scope pos) (some (.Name y py)) spos.line X.env = pure true) (hi : I3 X W tg iter wi) (ok : BlkOk X.N X.env.scope scope own) (hw : ∀ i ∈ ws, i ∈ own.map (·.2))
    (hg : ∀ (s : Shared) (H : Hp) (C : Addr) (cl : List (Str × Addr)) (fp : List Addr), PG (X.blk s H scope (compEnvC scope cl C X.env) fp) tg (upC X.K ws g)) (ht : ∀ (s : Shared) (H : Hp) (C : Addr) (cl : List (Str × Addr)) (fp : List Addr), PTs (X.blk s H scope (compEnvC scope cl C X.env) fp) ifs (upT X.K (fun _ _ _ _ => False) tt))
    (he : ∀ (s : Shared) (H : Hp) (C : Addr) (cl : List (Str × Addr)) (fp : List Addr), E3 (X.blk s H scope (compEnvC scope cl C X.env) fp) (fun _ _ _ _ => False) elt te) (hs : ∀ x, foldedSetIterable iter X.env x = pure x := by intro _; rfl) :
    S3 X W (.Assign [.Name y py] (.ListComp elt [⟨tg, iter, ifs, 0⟩] scope pos) spos) (wSet i (wLc wi g tt te (own.map (·.2)))) := PSimp (ps_setLc hc hN hy hyl hsw hi ok hg ht he hs) fun D σ H ⟨z, S, B, rel, h, d⟩ =>
  lc_down hw ⟨B.xc, z, S, _, ⟨rel, d.xc⟩, h, fun e' S1 v H1 h1 rv rs g k => d.nx _ S1 _ H1 h1 ((rel.grow g rs).setS rv) g k⟩
theorem pts3_nil {X : Cx} : PTs X [] (upT X.K (fun _ _ _ _ => False) tt1) := ⟨fun pins s σ H Q I ⟨Y, z, S, R, rel, h, post⟩ => pts_nil.run pins s σ H Q I (post true S H h rel.st (Gr.refl _) (Kp.refl _ _))⟩
theorem pts3_one {X : Cx} {c : Expr} {t : TT3} (h : T3 X (fun _ _ _ _ => False) c t) : PTs X [c] (upT X.K (fun _ _ _ _ => False) t) := pts_one h
end
end R3

/-! R3, part G: slices, chains, in, constants of the module, more builtins, methods. -/
namespace R3
open PySem PySem.Spec PyProof.Rows L2

/-! ### slices -/
abbrev TP3 := GX → Sl → Sto → (Option Int → Sto → Prop) → Prop
def wPart : Option TE3 → TP3
  | none => fun _ _ S K => K none S
  | some t => fun Y z S K => t Y z S fun d S1 => match d with
    | .int i => K (some i) S1
    | _ => False
def cutD (xs : List D) (lo hi : Option Int) : List D := (xs.drop (HT.sIx xs.length 0 lo)).take (HT.sIx xs.length xs.length hi - HT.sIx xs.length 0 lo)
def fCut (d : D) (lo hi : Option Int) (S : Sto) (R : PD) : Prop := match d with
  | .ref a => ∃ l, IsL S a l ∧ ∀ p, S p = none → R (.ref p) (put S p (.lst (cutD l lo hi)))
  | .fl l => ∀ p, S p = none → R (.ref p) (put S p (.lst (cutD l lo hi)))
  | .tup l => R (.tup (cutD l lo hi)) S
  | .str x => x.length ≤ sizeLine ∧ R (.str (Txt.slice x lo hi)) S
  | _ => False
def wSl (te : TE3) (lo hi : Option TE3) : TE3 := fun Y z S R => te Y z S fun d S1 => wPart lo Y z S1 fun l S2 => wPart hi Y z S2 fun h S3 => fCut d l h S3 R
def upP (K : PySem.W.Frag) (W : WX) (t : TP3) : TO := fun σ H Q => ∃ G z S R, RelX K W G H σ S z ∧ t G z S R ∧ ∀ o S' H', R o S' → RS K S' H' → Gr H H' → Kp S S' H H' → Q o H'
abbrev P3 (X : Cx) (W : WX) (e : Option Expr) (t : Option TE3) : Prop := PO X e (upP X.K W (wPart t))
section
variable {X : Cx} {W : WX} {e : Expr} {te : TE3} {pos p2 : Pos}
theorem POimp {e : Option Expr} {t t' : TO} (h : PO X e t) (f : ∀ σ H Q, t' σ H Q → t σ H Q) : PO X e t' := ⟨fun pins s σ H Q I q => h.run pins s σ H Q I (f σ H Q q)⟩
theorem p3_none : P3 X W none none := POimp po_none fun σ H Q ⟨Y, z, S, R, rel, h, post⟩ => post none S H h rel.st (Gr.refl _) (Kp.refl _ _)
theorem p3_some (h : E3 X W e te) : P3 X W (some e) (some te) := POimp (po_some h) fun σ H Q ⟨Y, z, S, R, rel, h, post⟩ => ⟨Y, z, S, _, rel, h, fun d S1 v H1 h1 rv rs g k => by
  cases rv with
  | int i => exact ⟨i, rfl, post _ S1 H1 h1 rs g k⟩
  | _ => exact h1.elim⟩
def UpCut (K : PySem.W.Frag) : V → Option Int → Option Int → Hp → VK → Prop := fun x lo hi H Q => ∃ d S R, Rv K H x d ∧ RS K S H ∧ fCut d lo hi S R ∧ Post K R S H Q
theorem RvL.cut {K : PySem.W.Frag} {H : Hp} {xs : List V} {l : List D} (r : RvL K H xs l) (lo hi : Option Int) : RvL K H (cutV xs lo hi) (cutD l lo hi) := by
  unfold cutV cutD
  rw [r.length]
  exact (r.drop _).take _
theorem sl3 : SlR X (UpCut X.K) := by
  rintro pins s σ H x v vl vu lo hi sl Q I rx hs pl pu ⟨d, S, R, rd, rs, h, post⟩
  cases rd with
  | ref a =>
    obtain ⟨l, hl, h⟩ := h
    obtain ⟨xs, h1, h2⟩ := rs.seqL hl
    exact sl_list pins s σ H _ v vl vu lo hi sl Q I rx hs pl pu ⟨_, xs, rfl, h1, fun p hp => post.lst h hp (h2.cut lo hi) rs⟩
  | fl hq hr => exact sl_list pins s σ H _ v vl vu lo hi sl Q I rx hs pl pu ⟨_, _, rfl, hq.seqL, fun p hp => post.lst h hp (hr.cut lo hi) rs⟩
  | tup hq hr =>
    rename_i l
    refine sl_tupA pins s σ H _ v vl vu lo hi sl Q I rx hs pl pu ⟨_, _, rfl, hq, fun hw => ?_, fun hw p hp => post.tup h hp (hr.cut lo hi) rs⟩
    have e : cutD l lo hi = l := by
      rw [hr.length] at hw
      unfold cutD
      rw [hw.1, hw.2]
      simp
    have h : R (.tup (cutD l lo hi)) S := h
    rw [e] at h
    exact post.now h (.tup hq hr) rs
  | str x => exact C8.sl_txt pins s σ H _ v vl vu lo hi sl Q I rx hs pl pu ⟨_, rfl, h.1, post.now h.2 (.str _) rs⟩
  | _ => exact h.elim
theorem e3_slice {lo hi : Option Expr} {tl th : Option TE3} (he : E3 X W e te) (hl : P3 X W lo tl) (hh : P3 X W hi th) : E3 X W (.Subscript e (.Slice lo hi none p2) pos) (wSl te tl th) := PEimp (pe_slice sl3 he hl hh) fun σ H Q ⟨Y, z, S, R, rel, h, post⟩ =>
  ⟨Y, z, S, _, rel, h, fun d S1 v H1 h1 rv rs g k => ⟨Y, z, S1, _, rel.grow g rs k, h1, fun o S2 H2 h2 rs2 g2 k2 => ⟨Y, z, S2, _, (rel.grow g rs k).grow g2 rs2 k2, h2, fun u S3 H3 h3 rs3 g3 k3 =>
    ⟨d, S3, R, rv.mono (g2.trans g3), rs3, h3, fun d' S' v' H' h' r' s' g' k' => post d' S' v' H' h' r' s' (g.trans (g2.trans (g3.trans g'))) (k.trans g (k2.trans g2 (k3.trans g3 k')))⟩⟩⟩⟩
end

/-! ### a < b < c -/
def wChain (f f' : F2) (ta tb tc : TE3) : TE3 := fun Y z S R => ta Y z S fun x S1 => tb Y z S1 fun y S2 => f x y S2 fun d S3 => match d with
  | .bl b => Br b (tc Y z S3 fun w S4 => f' y w S4 R) (R (.bl false) S3)
  | _ => False
section
variable {X : Cx} {W : WX} {a b c : Expr} {ta tb tc : TE3} {op op' : CmpOp} {f f' : F2} {pos : Pos}
theorem chain_down {σ : St} {H : Hp} {Q : VK} (h : up X.K W (wChain f f' ta tb tc) σ H Q) : tChain (Up2 X.K f) (Up2 X.K f') (up X.K W ta) (up X.K W tb) (up X.K W tc) σ H Q := by
  obtain ⟨Y, z, S, R, rel, h, post⟩ := h
  refine ⟨Y, z, S, _, rel, h, fun x S1 v H1 h1 rv rs g k => ⟨Y, z, S1, _, rel.grow g rs k, h1, fun y S2 u H2 h2 ru rs2 g2 k2 => ⟨x, y, S2, _, rv.mono g2, ru, rs2, h2, fun d S3 w H3 h3 rw3 rs3 g3 k3 => ?_⟩⟩⟩
  have gA := g.trans (g2.trans g3)
  have kA := k.trans g (k2.trans g2 k3)
  cases rw3 with
  | bl q =>
    refine ⟨q, rfl, ?_⟩
    cases q with
    | true => exact ⟨Y, z, S3, _, rel.grow gA rs3 kA, h3.t rfl, fun w S4 v4 H4 h4 rv4 rs4 g4 k4 => ⟨y, w, S4, R, (ru.mono g3).mono g4, rv4, rs4, h4, fun d' S' v' H' h' r' s' g' k' => post d' S' v' H' h' r' s' (gA.trans (g4.trans g')) (kA.trans gA (k4.trans g4 k'))⟩⟩
    | false => exact post _ S3 _ H3 (h3.f rfl) (.bl false) rs3 gA kA
  | _ => exact h3.elim
theorem e3_chain (ho : OpR X (compareOp op) (Up2 X.K f)) (ho' : OpR X (compareOp op') (Up2 X.K f')) (ha : E3 X W a ta) (hb : E3 X W b tb) (hc : E3 X W c tc) (hm : lastMarks [op, op'] [b, c] = false := by with_unfolding_all rfl) : E3 X W (.Compare a [op, op'] [b, c] pos) (wChain f f' ta tb tc) :=
  PEimp (pe_chain ho ho' ha hb hc hm) fun _ _ _ h => chain_down h
theorem t3_chain (ho : OpR X (compareOp op) (Up2 X.K f)) (ho' : OpR X (compareOp op') (Up2 X.K f')) (ha : E3 X W a ta) (hb : E3 X W b tb) (hc : E3 X W c tc) (hm : lastMarks [op, op'] [b, c] = false := by with_unfolding_all rfl) : T3 X W (.Compare a [op, op'] [b, c] pos) (wB (wChain f f' ta tb tc)) :=
  PTimp (pt_chain ho ho' ha hb hc hm) fun σ H Q h => by
    obtain ⟨Y, z, S, R, rel, h, post⟩ := upT_wB h
    exact chain_down ⟨Y, z, S, R, rel, h, post⟩
end

/-! ### in -/
/-- a sign in a text; a datum in a list -/
def fIn : F2 := fun x y S R => match y with
  | .str t => ∃ c, x = .str ⟨#[c]⟩ ∧ R (.bl (decide (c ∈ t.cps.toList))) S
  | y => ∃ p ps, Sn S x p ∧ Sn S y (.list ps) ∧ okP p ∧ okP (.list ps) ∧ R (.bl (ps.any fun q => PyData.eqv q p)) S
def fNotIn : F2 := fun x y S R => match y with
  | .str t => ∃ c, x = .str ⟨#[c]⟩ ∧ R (.bl (!decide (c ∈ t.cps.toList))) S
  | y => ∃ p ps, Sn S x p ∧ Sn S y (.list ps) ∧ okP p ∧ okP (.list ps) ∧ R (.bl (!ps.any fun q => PyData.eqv q p)) S
section
variable {X : Cx}
theorem o3_in (hu : X.A.units + 65 < cLine) : OpR X (compareOp .In) (Up2 X.K fIn) := by
  rintro pins s σ H x y v u Q I rx ry ⟨d, e, S, R, rd, re, rs, h, post⟩
  have gen : (∃ p ps, Sn S d p ∧ Sn S e (.list ps) ∧ okP p ∧ okP (.list ps) ∧ R (.bl (ps.any fun q => PyData.eqv q p)) S) → wpAny (model X.prog X.w) X.A (compareOp .In v u) (EP X pins σ Q) X.xe s := fun ⟨p, ps, h1, h2, h3, h4, h⟩ =>
    op_inD hu pins s σ H _ _ v u Q I rx ry ⟨p, ps, h1.dp rs rd, h2.dp rs re, h3, h4, post.now h (.bl _) rs⟩
  cases re with
  | str t =>
    obtain ⟨c, rfl, h⟩ := h
    cases rd
    exact op_in_sign pins s σ H _ _ v u Q I rx ry ⟨c, t, rfl, rfl, post.now h (.bl _) rs⟩
  | _ => exact gen h
theorem o3_notin (hu : X.A.units + 65 < cLine) : OpR X (compareOp .NotIn) (Up2 X.K fNotIn) := by
  rintro pins s σ H x y v u Q I rx ry ⟨d, e, S, R, rd, re, rs, h, post⟩
  have gen : (∃ p ps, Sn S d p ∧ Sn S e (.list ps) ∧ okP p ∧ okP (.list ps) ∧ R (.bl (!ps.any fun q => PyData.eqv q p)) S) → wpAny (model X.prog X.w) X.A (compareOp .NotIn v u) (EP X pins σ Q) X.xe s := fun ⟨p, ps, h1, h2, h3, h4, h⟩ =>
    op_notInD hu pins s σ H _ _ v u Q I rx ry ⟨p, ps, h1.dp rs rd, h2.dp rs re, h3, h4, post.now h (.bl _) rs⟩
  cases re with
  | str t =>
    obtain ⟨c, rfl, h⟩ := h
    cases rd
    exact op_notIn_sign pins s σ H _ _ v u Q I rx ry ⟨c, t, rfl, rfl, post.now h (.bl _) rs⟩
  | _ => exact gen h
end
end R3

/-! R3, part H: constants of the module, builtins over lists, methods. -/
namespace R3
open PySem PySem.Spec PyProof.Rows L2

/-! ### constants of the module -/
mutual
/-- what stands in the written part -/
inductive Kv (K : PySem.W.Frag) : Value → D → Prop
  | non : Kv K .none .non
  | bl (b : Bool) : Kv K (.bool b) (.bl b)
  | int (i : Int) (t : Tok) : Kv K (.int i t) (.int i)
  | str (x : Str) (t : Tok) : Kv K (.str x t) (.str x)
  | tup {a : Addr} {od : Option Addr} {us : List Value} {n : Nat} {sl : Array (Option Value)} {ds : List D} : K.lookup a = some ⟨.type "tuple", od, .seq us.toArray n, sl⟩ → us.length ≤ 1000 → KvL K us ds → Kv K (.ref a) (.tup ds)
inductive KvL (K : PySem.W.Frag) : List Value → List D → Prop
  | nil : KvL K [] []
  | cons {u : Value} {us : List Value} {d : D} {ds : List D} : Kv K u d → KvL K us ds → KvL K (u :: us) (d :: ds)
end
mutual
theorem Kv.rv {K : PySem.W.Frag} : ∀ {d : D} {u : Value}, Kv K u d → ∃ v, RelV v u ∧ ∀ H, Rv K H v d
  | _, _, .non => ⟨.non, rfl, fun _ => .non⟩
  | _, _, .bl b => ⟨.bl b, rfl, fun _ => .bl b⟩
  | _, _, .int i t => ⟨.int i, ⟨t, rfl⟩, fun _ => .int i⟩
  | _, _, .str x t => ⟨.str x, ⟨t, rfl⟩, fun _ => .str x⟩
  | _, _, .tup (a := a) h hl r => by
    obtain ⟨vs, h1, h2⟩ := KvL.rv r
    exact ⟨.ref a, rfl, fun H => .tup (.inr ⟨_, _, _, h, rfl, rfl, by simpa using Nat.le_trans hl (by decide), by simpa using h1⟩) (h2 H)⟩
theorem KvL.rv {K : PySem.W.Frag} : ∀ {ds : List D} {us : List Value}, KvL K us ds → ∃ vs, Vals vs us ∧ ∀ H, RvL K H vs ds
  | _, _, .nil => ⟨[], .nil, fun _ => .nil⟩
  | _, _, .cons h r => by
    obtain ⟨v, h1, h2⟩ := Kv.rv h
    obtain ⟨vs, r1, r2⟩ := KvL.rv r
    exact ⟨v :: vs, .cons h1 r1, fun H => .cons (h2 H) (r2 H)⟩
end
def GlobD (K : PySem.W.Frag) (mg : Str → Option Value) (x : Str) (d : D) : Prop := ∃ u, mg x = some u ∧ Kv K u d
theorem e3_glob {X : Cx} {W : WX} {x : Str} {d : D} {pos : Pos} (hg : Gl X x) (F : GlobD X.K X.mg x d) (hd : (x == ("__debug__" : Str)) = false := by decide) : E3 X W (.Name x pos) (wC d) := by
  obtain ⟨u, hm, k⟩ := F
  obtain ⟨v, r, h⟩ := k.rv
  exact PEimp (pe_glob hg hm r hd) fun σ H Q ⟨Y, z, S, R, rel, h1, post⟩ => post.now h1 (h H) rel.st

/-! ### builtins -/
/-- the items of a list or a tuple, now -/
def Its (S : Sto) (d : D) (l : List D) : Prop := match d with
  | .ref a => IsL S a l
  | .fl m => m = l
  | .tup m => m = l
  | _ => False
def fList : List D → Sto → PD → Prop := fun ds S R => match ds with
  | [d] => ∃ l, Its S d l ∧ ∀ p, S p = none → R (.ref p) (put S p (.lst l))
  | _ => False
def fTuple : List D → Sto → PD → Prop := fun ds S R => match ds with
  | [d] => ∃ l, Its S d l ∧ R (.tup l) S
  | _ => False
def fInt : List D → Sto → PD → Prop := fun ds S R => match ds with
  | [.int i] => R (.int i) S
  | [.bl b] => R (.int (if b then 1 else 0)) S
  | _ => False
def fAll : List D → Sto → PD → Prop := fun ds S R => match ds with
  | [.ref a] => ∃ bs : List Bool, IsL S a (bs.map D.bl) ∧ R (.bl (bs.all id)) S
  | _ => False
def fAny : List D → Sto → PD → Prop := fun ds S R => match ds with
  | [.ref a] => ∃ bs : List Bool, IsL S a (bs.map D.bl) ∧ R (.bl (bs.any id)) S
  | _ => False
def fSum : List D → Sto → PD → Prop := fun ds S R => match ds with
  | [.ref a] => ∃ ns : List Int, IsL S a (ns.map D.int) ∧ R (.int ns.sum) S
  | _ => False
def fMinL : List D → Sto → PD → Prop := fun ds S R => match ds with
  | [.ref a] => ∃ ns : List Int, IsL S a (ns.map D.int) ∧ ns ≠ [] ∧ ∀ m, m ∈ ns → (∀ y, y ∈ ns → m ≤ y) → R (.int m) S
  | _ => False
def fStr : List D → Sto → PD → Prop := fun ds S R => match ds with
  | [.int i] => Bits 1900 i ∧ R (.str (toString i)) S
  | [.str x] => R (.str x) S
  | _ => False
section
variable {X : Cx}
theorem one_arg {K : PySem.W.Frag} {H : Hp} {xs : List V} {ds : List D} {P : List D → Prop} (r : RvL K H xs ds) (h : P ds) (no : ∀ ds, P ds → ∃ d, ds = [d]) : ∃ v d, xs = [v] ∧ Rv K H v d ∧ P [d] := by
  obtain ⟨d, rfl⟩ := no ds h
  cases r with
  | cons r1 r2 => cases r2; exact ⟨_, _, rfl, r1, h⟩
theorem Its.seq {K : PySem.W.Frag} {H : Hp} {S : Sto} {v : V} {d : D} {l : List D} (h : Its S d l) (r : Rv K H v d) (rs : RS K S H) : ∃ p ys, v = .ref p ∧ (SqL K H p ys ∨ SqT K H p ys) ∧ RvL K H ys l := by
  cases r with
  | ref a =>
    obtain ⟨xs, h1, h2⟩ := rs.seqL h
    exact ⟨a, xs, rfl, .inl h1, h2⟩
  | tup hq hr => cases (show _ = _ from h); exact ⟨_, _, rfl, .inr hq, hr⟩
  | fl hq hr => cases (show _ = _ from h); exact ⟨_, _, rfl, .inl hq.seqL, hr⟩
  | _ => exact h.elim
theorem c3_list : CallR X (.type "list") (UpC X.K fList) := by
  rintro pins s σ H xs us Q I r ⟨ds, S, R, rv, rs, h, post⟩
  obtain ⟨v, d, rfl, r1, l, hl, h⟩ := one_arg (P := fun ds => fList ds S R) rv h (fun ds h => by unfold fList at h; split at h; exact ⟨_, rfl⟩; exact h.elim)
  obtain ⟨p, ys, rfl, hq, hr⟩ := hl.seq r1 rs
  exact call_list_of pins s σ H _ us Q I r ⟨p, ys, rfl, hq, fun q hn => post.lst h hn hr rs⟩
theorem c3_tuple : CallR X (.type "tuple") (UpC X.K fTuple) := by
  rintro pins s σ H xs us Q I r ⟨ds, S, R, rv, rs, h, post⟩
  obtain ⟨v, d, rfl, r1, l, hl, h⟩ := one_arg (P := fun ds => fTuple ds S R) rv h (fun ds h => by unfold fTuple at h; split at h; exact ⟨_, rfl⟩; exact h.elim)
  obtain ⟨p, ys, rfl, hq, hr⟩ := hl.seq r1 rs
  refine call_tuple_of pins s σ H _ us Q I r ⟨p, ys, rfl, ?_⟩
  rcases hq with hq | hq
  · exact .inl ⟨hq, fun q hn => post.tup h hn hr rs⟩
  · exact .inr ⟨hq, post.now h (.tup hq hr) rs⟩
theorem c3_int : CallR X (.type "int") (UpC X.K fInt) := by
  rintro pins s σ H xs us Q I r ⟨ds, S, R, rv, rs, h, post⟩
  obtain ⟨v, d, rfl, r1, h⟩ := one_arg (P := fun ds => fInt ds S R) rv h (fun ds h => by unfold fInt at h; split at h; exact ⟨_, rfl⟩; exact ⟨_, rfl⟩; exact h.elim)
  cases r1 with
  | int i => exact call_int1 pins s σ H _ us Q I r (.inl ⟨_, rfl, post.now h (.int _) rs⟩)
  | bl b => exact call_int1 pins s σ H _ us Q I r (.inr ⟨_, rfl, post.now h (.int _) rs⟩)
  | _ => exact h.elim
theorem c3_str : CallR X (.type "str") (UpC X.K fStr) := by
  rintro pins s σ H xs us Q I r ⟨ds, S, R, rv, rs, h, post⟩
  obtain ⟨v, d, rfl, r1, h⟩ := one_arg (P := fun ds => fStr ds S R) rv h (fun ds h => by unfold fStr at h; split at h; exact ⟨_, rfl⟩; exact ⟨_, rfl⟩; exact h.elim)
  cases r1 with
  | int i => exact call_str_int pins s σ H _ us Q I r ⟨_, rfl, Nat.lt_of_lt_of_le (PySem.Flt.log2_lt_of (Nat.succ_pos 1900) (h.1.mono (Nat.le_succ 1900))) (by decide), post.now h.2 (.str _) rs⟩
  | str x => exact SkE.call_str_str pins s σ H _ us Q I r ⟨_, rfl, post.now h (.str _) rs⟩
  | _ => exact h.elim
theorem c3_all (hc : X.calm = true) : CallR X (.builtin "all") (UpC X.K fAll) := by
  rintro pins s σ H xs us Q I r ⟨ds, S, R, rv, rs, h, post⟩
  obtain ⟨v, d, rfl, r1, h⟩ := one_arg (P := fun ds => fAll ds S R) rv h (fun ds h => by unfold fAll at h; split at h; exact ⟨_, rfl⟩; exact h.elim)
  cases r1 with
  | ref a =>
    obtain ⟨bs, hl, h⟩ := h
    obtain ⟨ys, h1, h2⟩ := rs.seqL hl
    rw [h2.bls] at h1
    exact cr_all hc pins s σ H _ us Q I r ⟨a, bs, rfl, h1, post.now h (.bl _) rs⟩
  | _ => exact h.elim
theorem c3_any (hc : X.calm = true) : CallR X (.builtin "any") (UpC X.K fAny) := by
  rintro pins s σ H xs us Q I r ⟨ds, S, R, rv, rs, h, post⟩
  obtain ⟨v, d, rfl, r1, h⟩ := one_arg (P := fun ds => fAny ds S R) rv h (fun ds h => by unfold fAny at h; split at h; exact ⟨_, rfl⟩; exact h.elim)
  cases r1 with
  | ref a =>
    obtain ⟨bs, hl, h⟩ := h
    obtain ⟨ys, h1, h2⟩ := rs.seqL hl
    rw [h2.bls] at h1
    exact cr_any hc pins s σ H _ us Q I r ⟨a, bs, rfl, h1, post.now h (.bl _) rs⟩
  | _ => exact h.elim
theorem c3_sum (hc : X.calm = true) : CallR X (.builtin "sum") (UpC X.K fSum) := by
  rintro pins s σ H xs us Q I r ⟨ds, S, R, rv, rs, h, post⟩
  obtain ⟨v, d, rfl, r1, h⟩ := one_arg (P := fun ds => fSum ds S R) rv h (fun ds h => by unfold fSum at h; split at h; exact ⟨_, rfl⟩; exact h.elim)
  cases r1 with
  | ref a =>
    obtain ⟨bs, hl, h⟩ := h
    obtain ⟨ys, h1, h2⟩ := rs.seqL hl
    rw [h2.ints] at h1
    exact cr_sum hc pins s σ H _ us Q I r ⟨a, bs, rfl, h1, post.now h (.int _) rs⟩
  | _ => exact h.elim
theorem c3_minL (hc : X.calm = true) : CallR X (.builtin "min") (UpC X.K fMinL) := by
  rintro pins s σ H xs us Q I r ⟨ds, S, R, rv, rs, h, post⟩
  obtain ⟨v, d, rfl, r1, h⟩ := one_arg (P := fun ds => fMinL ds S R) rv h (fun ds h => by unfold fMinL at h; split at h; exact ⟨_, rfl⟩; exact h.elim)
  cases r1 with
  | ref a =>
    obtain ⟨bs, hl, hne, h⟩ := h
    obtain ⟨ys, h1, h2⟩ := rs.seqL hl
    rw [h2.ints] at h1
    exact cr_min hc pins s σ H _ us Q I r ⟨a, bs, rfl, h1, List.length_pos_iff.mpr hne, fun m hm hy => post.now (h m hm hy) (.int _) rs⟩
  | _ => exact h.elim
end

/-! ### methods -/
abbrev FM := D → List D → Sto → PD → Prop
/-- o.m(..), o a list -/
def wMl (f : FM) (to : TE3) (ts : List TE3) : TE3 := fun Y z S R => to Y z S fun d S1 => (∃ a l, d = .ref a ∧ IsL S1 a l) ∧ wArgs ts Y z S1 fun ds S2 => f d ds S2 R
/-- o.m(..), o a text -/
def wMs (f : FM) (to : TE3) (ts : List TE3) : TE3 := fun Y z S R => to Y z S fun d S1 => (∃ x, d = .str x) ∧ wArgs ts Y z S1 fun ds S2 => f d ds S2 R
def UpM (K : PySem.W.Frag) (f : FM) : V → List V → Hp → VK → Prop := fun x vs H Q => ∃ d ds S R, Rv K H x d ∧ RvL K H vs ds ∧ RS K S H ∧ f d ds S R ∧ Post K R S H Q
section
variable {X : Cx} {W : WX} {o e : Expr} {es : List Expr} {to : TE3} {ts : List TE3} {name : Str} {apos cpos : Pos} {id : String} {f : FM}
theorem e3_ml0 (slot : Slot "list" name id) (hty : typeOf (.builtin id) = pure (.type "method_descriptor")) (hm : MtR X id (UpM X.K f)) (ho : E3 X W o to)
    (hbase : attributeBase o name X.env (eval o X.env) = eval o X.env := by rfl) (hline : (apos.endLine == cpos.line) = true := by rfl) : E3 X W (.Call (.Attribute o name apos) [] [] cpos) (wMl f to []) :=
  PEimp (pe_bm0 PySem.F.plainAttrs_list slot hty hm ho hbase hline) fun σ H Q ⟨Y, z, S, R, rel, h, post⟩ => ⟨Y, z, S, _, rel, h, fun d S1 v H1 ⟨⟨a, l, e, hl⟩, h1⟩ rv rs g k => by
    subst e
    cases rv
    obtain ⟨xs, q1, q2⟩ := rs.seqL hl
    exact ⟨.inl ⟨rfl, xs, q1⟩, .ref a, [], S1, R, .ref a, .nil, rs, h1, fun d' S' v' H' h' r' s' g' k' => post d' S' v' H' h' r' s' (g.trans g') (k.trans g k')⟩⟩
theorem e3_ml (slot : Slot "list" name id) (hty : typeOf (.builtin id) = pure (.type "method_descriptor")) (hm : MtR X id (UpM X.K f)) (ho : E3 X W o to) (ha : A3 X W (e :: es) ts)
    (hbase : attributeBase o name X.env (eval o X.env) = eval o X.env := by rfl)
    (hfew : ((backTo cpos (starEach (e :: es) X.env)).all (fun x => !x.1) && (backToKw cpos (keywordEach [] X.env)).all (fun x => x.1.isSome)
      && decide ((e :: es).length + ([] : List Keyword).length + (if ([] : List Keyword).isEmpty then 0 else 1) < 30)) = true := by rfl)
    (hline : (apos.endLine == cpos.line) = true := by rfl) (hs : starEach (e :: es) X.env = (false, eval e X.env) :: starEach es X.env := by rfl) (hplain : (backTo cpos (starEach es X.env)).any (·.1) = false := by rfl) :
    E3 X W (.Call (.Attribute o name apos) (e :: es) [] cpos) (wMl f to ts) :=
  PEimp (pe_bm PySem.F.plainAttrs_list slot hty hm ho ha hbase hfew hline hs hplain) fun σ H Q ⟨Y, z, S, R, rel, h, post⟩ => ⟨Y, z, S, _, rel, h, fun d S1 v H1 ⟨⟨a, l, e, hl⟩, h1⟩ rv rs g k => by
    subst e
    cases rv
    obtain ⟨xs, q1, q2⟩ := rs.seqL hl
    exact ⟨.inl ⟨rfl, xs, q1⟩, Y, z, S1, _, rel.grow g rs k, h1, fun ds S2 vs H2 h2 rvs rs2 g2 k2 _ => ⟨.ref a, ds, S2, R, .ref a, rvs, rs2, h2, fun d' S' v' H' h' r' s' g' k' => post d' S' v' H' h' r' s' (g.trans (g2.trans g')) (k.trans g (k2.trans g2 k'))⟩⟩⟩
theorem e3_ms (slot : Slot "str" name id) (hty : typeOf (.builtin id) = pure (.type "method_descriptor")) (hm : MtR X id (UpM X.K f)) (ho : E3 X W o to) (ha : A3 X W (e :: es) ts)
    (hbase : attributeBase o name X.env (eval o X.env) = eval o X.env := by rfl)
    (hfew : ((backTo cpos (starEach (e :: es) X.env)).all (fun x => !x.1) && (backToKw cpos (keywordEach [] X.env)).all (fun x => x.1.isSome)
      && decide ((e :: es).length + ([] : List Keyword).length + (if ([] : List Keyword).isEmpty then 0 else 1) < 30)) = true := by rfl)
    (hline : (apos.endLine == cpos.line) = true := by rfl) (hs : starEach (e :: es) X.env = (false, eval e X.env) :: starEach es X.env := by rfl) (hplain : (backTo cpos (starEach es X.env)).any (·.1) = false := by rfl) :
    E3 X W (.Call (.Attribute o name apos) (e :: es) [] cpos) (wMs f to ts) :=
  PEimp (pe_bm PySem.F.plainAttrs_str slot hty hm ho ha hbase hfew hline hs hplain) fun σ H Q ⟨Y, z, S, R, rel, h, post⟩ => ⟨Y, z, S, _, rel, h, fun d S1 v H1 ⟨⟨x, e⟩, h1⟩ rv rs g k => by
    subst e
    cases rv
    exact ⟨rfl, Y, z, S1, _, rel.grow g rs k, h1, fun ds S2 vs H2 h2 rvs rs2 g2 k2 _ => ⟨.str x, ds, S2, R, .str x, rvs, rs2, h2, fun d' S' v' H' h' r' s' g' k' => post d' S' v' H' h' r' s' (g.trans (g2.trans g')) (k.trans g (k2.trans g2 k'))⟩⟩⟩
end
def fAppend : FM := fun o ds S R => match o, ds with
  | .ref a, [d] => ∃ l, IsL S a l ∧ l.length < sizeLine ∧ R .non (put S a (.lst (l ++ [d])))
  | _, _ => False
def fExtend : FM := fun o ds S R => match o, ds with
  | .ref a, [.ref b] => ∃ l m, IsL S a l ∧ IsL S b m ∧ l.length + m.length ≤ sizeLine ∧ R .non (put S a (.lst (l ++ m)))
  | _, _ => False
def fPop : FM := fun o ds S R => match o, ds with
  | .ref a, [] => ∃ l d, IsL S a l ∧ l[l.length - 1]? = some d ∧ R d (put S a (.lst l.dropLast))
  | _, _ => False
def fReverse : FM := fun o ds S R => match o, ds with
  | .ref a, [] => ∃ l, IsL S a l ∧ R .non (put S a (.lst l.reverse))
  | _, _ => False
def fClear : FM := fun o ds S R => match o, ds with
  | .ref a, [] => ∃ l, IsL S a l ∧ R .non (put S a (.lst []))
  | _, _ => False
def fJoin : FM := fun o ds S R => match o, ds with
  | .str x, [d] => ∃ ys : List Str, Its S d (ys.map D.str) ∧ (ys.map (·.length)).sum + ys.length * x.length ≤ 16777216 ∧ R (.str (Txt.join x ys)) S
  | _, _ => False
def fCountS : FM := fun o ds S R => match o, ds with
  | .str x, [.str y] => R (.int (Txt.count x y)) S
  | _, _ => False
section
variable {X : Cx}
theorem m3_append : MtR X "list.append" (UpM X.K fAppend) := by
  rintro pins s σ H x vs v us Q I rx rv ⟨d, ds, S, R, rd, rds, rs, h, post⟩
  cases rd <;> first | exact h.elim | skip
  cases rds with
  | nil => exact h.elim
  | cons r1 r2 =>
    cases r2 with
    | cons _ _ => exact h.elim
    | nil =>
      obtain ⟨l, hl, hz, h⟩ := h
      obtain ⟨xs, q1, q2⟩ := rs _ _ hl
      exact mt_append pins s σ H _ _ v us Q I rx rv ⟨_, xs, _, rfl, rfl, q1, by rw [q2.length]; exact hz, post _ _ _ _ h .non (rs.setL q1 (q2.append (.cons r1 .nil))) (Gr.set q1 (by intro z; simp) (by intro z y; simp)) (Kp.set hl)⟩
theorem m3_extend : MtR X "list.extend" (UpM X.K fExtend) := by
  rintro pins s σ H x vs v us Q I rx rv ⟨d, ds, S, R, rd, rds, rs, h, post⟩
  cases rd <;> first | exact h.elim | skip
  cases rds with
  | nil => exact h.elim
  | cons r1 r2 =>
    cases r2 with
    | cons _ _ => cases r1 <;> exact h.elim
    | nil =>
      cases r1 <;> first | exact h.elim | skip
      obtain ⟨l, m, hl, hm, hz, h⟩ := h
      obtain ⟨xs, q1, q2⟩ := rs _ _ hl
      obtain ⟨ys, q3, q4⟩ := rs _ _ hm
      exact mt_extend pins s σ H _ _ v us Q I rx rv ⟨_, _, xs, ys, rfl, rfl, q1, q3, by rw [q2.length, q4.length]; exact hz, post _ _ _ _ h .non (rs.setL q1 (q2.append q4)) (Gr.set q1 (by intro z; simp) (by intro z y; simp)) (Kp.set hl)⟩
theorem RvL.dropLast {K : PySem.W.Frag} {H : Hp} {xs : List V} {l : List D} (r : RvL K H xs l) : RvL K H xs.dropLast l.dropLast := by
  rw [List.dropLast_eq_take, List.dropLast_eq_take, r.length]
  exact r.take _
theorem m3_pop : MtR X "list.pop" (UpM X.K fPop) := by
  rintro pins s σ H x vs v us Q I rx rv ⟨d, ds, S, R, rd, rds, rs, h, post⟩
  cases rd <;> first | exact h.elim | skip
  cases rds <;> first | exact h.elim | skip
  obtain ⟨l, d, hl, hd, h⟩ := h
  obtain ⟨xs, q1, q2⟩ := rs _ _ hl
  obtain ⟨y, q3, q4⟩ := q2.get hd
  have g : Gr H (upd H _ (.lst xs.dropLast)) := Gr.set q1 (by intro z; simp) (by intro z y; simp)
  exact mt_pop pins s σ H _ _ v us Q I rx rv ⟨_, xs, y, rfl, rfl, q1, by rw [q2.length]; exact q3, post _ _ _ _ h (q4.mono g) (rs.setL q1 q2.dropLast) g (Kp.set hl)⟩
theorem m3_reverse : MtR X "list.reverse" (UpM X.K fReverse) := by
  rintro pins s σ H x vs v us Q I rx rv ⟨d, ds, S, R, rd, rds, rs, h, post⟩
  cases rd <;> first | exact h.elim | skip
  cases rds <;> first | exact h.elim | skip
  obtain ⟨l, hl, h⟩ := h
  obtain ⟨xs, q1, q2⟩ := rs _ _ hl
  exact mt_reverse pins s σ H _ _ v us Q I rx rv ⟨_, xs, rfl, rfl, q1, post _ _ _ _ h .non (rs.setL q1 q2.reverse) (Gr.set q1 (by intro z; simp) (by intro z y; simp)) (Kp.set hl)⟩
theorem m3_clear : MtR X "list.clear" (UpM X.K fClear) := by
  rintro pins s σ H x vs v us Q I rx rv ⟨d, ds, S, R, rd, rds, rs, h, post⟩
  cases rd <;> first | exact h.elim | skip
  cases rds <;> first | exact h.elim | skip
  obtain ⟨l, hl, h⟩ := h
  obtain ⟨xs, q1, q2⟩ := rs _ _ hl
  exact mt_clear pins s σ H _ _ v us Q I rx rv ⟨_, xs, rfl, rfl, q1, post _ _ _ _ h .non (rs.setL q1 .nil) (Gr.set q1 (by intro z; simp) (by intro z y; simp)) (Kp.set hl)⟩
theorem m3_join : MtR X "str.join" (UpM X.K fJoin) := by
  rintro pins s σ H x vs v us Q I rx rv ⟨d, ds, S, R, rd, rds, rs, h, post⟩
  cases rd <;> first | exact h.elim | skip
  cases rds with
  | nil => exact h.elim
  | cons r1 r2 =>
    cases r2 with
    | cons _ _ => exact h.elim
    | nil =>
      obtain ⟨ys, hi, hz, h⟩ := h
      obtain ⟨p, zs, rfl, hq, hr⟩ := hi.seq r1 rs
      rw [hr.strs] at hq
      exact mt_join pins s σ H _ _ v us Q I rx rv ⟨_, p, ys, rfl, rfl, hq, hz, post.now h (.str _) rs⟩
theorem m3_count : MtR X "str.count" (UpM X.K fCountS) := by
  rintro pins s σ H x vs v us Q I rx rv ⟨d, ds, S, R, rd, rds, rs, h, post⟩
  cases rd <;> first | exact h.elim | skip
  cases rds with
  | nil => exact h.elim
  | cons r1 r2 =>
    cases r2 with
    | cons _ _ => cases r1 <;> exact h.elim
    | nil =>
      cases r1 <;> first | exact h.elim | skip
      exact mt_count pins s σ H _ _ v us Q I rx rv ⟨_, _, rfl, rfl, post.now h (.int _) rs⟩
end
end R3

/-! R3, part I: enumerate, zip. -/
namespace R3
open PySem PySem.Spec PyProof.Rows L2

/-! ### enumerate of a tuple -/
def IteT (K : PySem.W.Frag) (a : Addr) : It :=
  ⟨fun i H => ∃ (xs : List V) (x : V), SqT K H a xs ∧ xs[i]? = some x, fun i H v H' => ∃ T x, v = .ref T ∧ H T = none ∧ H' = upd H T (.tup [.int (i : Nat), x]) ∧ ∀ xs, SqT K H a xs → xs[i]? = some x, fun i H => ∃ xs : List V, SqT K H a xs ∧ xs.length ≤ i⟩
theorem turn_enumT {P : Program} {w : World} {K : PySem.W.Frag} {elts : List Expr} {kk : Nat} {tpos : Pos} (a e it : Addr) (hne0 : a ≠ it) (hae : a ≠ e) :
    Turn P w K (.Tuple elts kk tpos) (IteT K a) [e, it] e (fun i h => (∃ old, IsEnum h e it ((i : Nat) : Int) old) ∧ h.IsTupleIter it a i ∧ e ≠ it) where
  mem := by simp
  obj := fun i h st b hb => by
    obtain ⟨⟨old, he⟩, ⟨o, ho, hc, hd⟩, _⟩ := st
    have e' : b = e ∨ b = it := by simpa using hb
    rcases e' with z | z
    · rw [z]; exact ⟨_, he, fun v q => nomatch q⟩
    · rw [z]; exact ⟨o, ho, fun v q => by rw [hd] at q; cases q⟩
  keep := fun i h h' st k => let ⟨⟨old, he⟩, hi, hne⟩ := st; ⟨⟨old, k e (by simp) _ he⟩, hi.at fun o q => k it (by simp) o q, hne⟩
  item := by
    intro X hP hw hK hc i pins s σ H E I hf st hg
    subst hP hw hK
    obtain ⟨⟨old, he⟩, hit, hne⟩ := st
    obtain ⟨xs, x, hq, hx⟩ := hg
    obtain ⟨its, rv, p, hz⟩ := I.tuple hq
    have hlt : i < its.toArray.size := by
      have := (List.getElem?_eq_some_iff.mp hx).1
      rw [rv.length] at this
      simpa using this
    have hel : e < s.heap.objs.size := Heap.lt_size he
    have hil : it < s.heap.objs.size := by obtain ⟨_, q, _⟩ := hit; exact Heap.lt_size q
    refine wpAny_pyNext_enum_itemD (Draws.tuple (prog := X.prog) (w := X.w) (A := X.A.in1) (I.ok.hd hc) it a hne0 its.toArray) he ⟨hit, p⟩ hlt hne (by simp; exact ⟨hne, Ne.symm hae⟩) fun u h' tk hu ho hst hT hsz hk => ?_
    obtain ⟨u', hu', ru⟩ := rv.get hx
    have eu : u = u' := by
      have hu2 : its[i]? = some u := by simpa using hu
      rw [hu'] at hu2; exact (Option.some.inj hu2).symm
    subst eu
    refine ⟨_, rfl, wpAny_letOwnedTupleGo_enum (s := { s with heap := h', toks := tk + 1 }) ho fun h'' he' sb => ?_⟩
    have hT2 : h''.get? s.heap.objs.size = some { cls := .type "tuple", data := .seq #[.int i tk, u] } := (sb.2 _ (Nat.ne_of_gt hel)).trans hT
    have new : ObjOk X.prog X.w (upd H s.heap.objs.size (.tup [.int (i : Nat), x])) h'' s.heap.objs.size (.tup [.int (i : Nat), x]) :=
      ⟨by show 2 ≤ sizeLine; decide, [.int i tk, u], .cons ⟨_, rfl⟩ (.cons ru .nil), ⟨_, hT2, rfl, _, rfl⟩⟩
    have I1 : Inv X pins σ (upd H s.heap.objs.size (.tup [.int (i : Nat), x])) { s with heap := h'', toks := tk + 1 } :=
      I.turnedNew (ch := [e, it]) (fun b ob hb q => (sb.2 b (fun z => hb (by simp [z]))).trans (hk b ob (fun z => hb (by simp [z])) (fun z => hb (by simp [z])) q)) hf (Nat.le_refl _) new
    refine ⟨.ref s.heap.objs.size, _, I1, rfl, ⟨_, x, rfl, I.hok.fresh (Nat.le_refl _), rfl, fun ys hy => by rw [I.tuple_inj hy hq]; exact hx⟩, ⟨⟨u, ?_⟩, hst.1.at fun o q => (sb.2 it (Ne.symm hne)).trans q, hne⟩, fun b hb => ?_⟩
    · have e1 : ((i + 1 : Nat) : Int) = (i : Int) + 1 := by omega
      rw [e1]; exact he'
    · have hb' : b < s.heap.objs.size := by
        have e' : b = e ∨ b = it := by simpa using hb
        rcases e' with z | z
        · rw [z]; exact hel
        · rw [z]; exact hil
      rw [upd_ne (Nat.ne_of_lt hb')]
      exact (hf b hb).1
  done := by
    intro X hP hw hK hc i pins s σ H E I hf st hg
    subst hP hw hK
    obtain ⟨⟨old, he⟩, hit, hne⟩ := st
    obtain ⟨xs, hq, hx⟩ := hg
    obtain ⟨its, rv, p, hz⟩ := I.tuple hq
    obtain ⟨f0, f1, f2, f3, f4, f5⟩ := hf it (by simp)
    have hl := rv.length
    have hT : s.TypeIs (.ref e) "enumerate" := ⟨_, he, rfl⟩
    unfold pyNext
    refine wpAny_bind (wpAny_attempt (wpAny_callSpecial?_slot (name := Str.ofString "__next__") hT F.slot_enumerate_next
      (wpAny_call_entry F.slot_enumerate_next hT F.entry_enumerate_next ?_ (F.args_enumerate_next_1 _))))
    show wpAny _ _ (field (.ref e) 2 >>= _) _ _ _
    refine wpAny_bind (wpAny_field he rfl (x := .ref it) rfl ?_)
    refine wpAny_bind (wpAny_nextOf_tuple_end (I.ok.hd hc) hit (show s.heap.IsTuple a its.toArray from p) (by simp; omega) fun h' x he' hx' => ?_)
    obtain ⟨o, ho, hc'⟩ := hx'
    refine wpAny_bind (wpAny_isInstance (T := "StopIteration") (b := true) ⟨o, ho, hc'⟩ isSubtype_stop ?_)
    exact wpAny_pure ⟨rfl, I.turned (t' := s.toks) (fun b o hb q => he' b o hb q) f0 f1 f3 f4 f5⟩
  self := fun A i s Q E st h => let ⟨⟨_, he⟩, _⟩ := st; wpAny_pyIter_enum he h

theorem meets_enumerate_newT {v : Value} {o : Obj} {H : Heap → Prop} (B : Begins v o H) :
    Meets (Builtin.«enumerate.__new__» ⟨[.type "enumerate", v], []⟩) (fun _ R s => H s.heap ∧
      R (.ok (.ret (.ref (s.heap.push o).objs.size))) { s with heap := (s.heap.push o).push { cls := .type "enumerate", data := .fields #[.none, .bool false, .ref s.heap.objs.size, rawInt 0, .none, .none] } }) :=
  .of_wp fun prog w A R s h => by
    obtain ⟨hp, g, d, tk, os⟩ := s; obtain ⟨h1, h⟩ := h
    have hsub := sub_enumerate
    have q1 : ∀ {A' : Around} {E : Value → Shared → Prop} {Q : Value → Shared → Prop}, Q (.ref hp.objs.size) ⟨hp.push o, g, d, tk, os⟩ → wpAny (model prog w) A' (pyIter v) Q E ⟨hp, g, d, tk, os⟩ :=
      fun q => B.iter prog w _ _ ⟨hp, g, d, tk, os⟩ _ h1 q
    wp_walk using q1
    refine wpAny_stack_any fun st => wpAny_pure ?_
    split
    · rename_i c _ _ _ _ _
      cases (c == Value.type "enumerate")
      · wp_walk using q1
        exact ⟨_, rfl, h⟩
      · wp_walk using q1
        exact ⟨_, rfl, h⟩
    · wp_walk using q1
      exact ⟨_, rfl, h⟩
section
variable {prog : Program} {w : World} {A : Around} {E : Value → Shared → Prop} {s : Shared}
theorem enum_begins1 {v : Value} {o : Obj} {H : Heap → Prop} {Q : Value → Shared → Prop} (B : Begins v o H) (h1 : H s.heap)
    (h : ∀ h', IsEnum h' (s.heap.objs.size + 1) s.heap.objs.size 0 .none → h'.get? s.heap.objs.size = some o → h'.objs.size = s.heap.objs.size + 2 →
      (∀ b o, s.heap.get? b = some o → h'.get? b = some o) → Q (.ref (s.heap.objs.size + 1)) { s with heap := h' }) :
    wpAny (model prog w) A (call (.type "enumerate") [v]) Q E s := by
  refine callType_new F.called_enumerate (by decide) (F.typeCall_enumerate_1 _) (F.newCall_enumerate_1 _) (fun obj => F.args_object_init_2 obj _) F.entry_enumerate_new
    (meets_enumerate_newT B) ⟨h1, ?_⟩
  have hz : (s.heap.push o).objs.size = s.heap.objs.size + 1 := Heap.size_push ..
  show _ ∧ _
  rw [hz]
  have he : IsEnum ((s.heap.push o).push { cls := .type "enumerate", data := .fields #[.none, .bool false, .ref s.heap.objs.size, rawInt 0, .none, .none] }) (s.heap.objs.size + 1) s.heap.objs.size 0 .none := by
    have := Heap.get?_push_size (s.heap.push o) (o := { cls := .type "enumerate", data := .fields #[.none, .bool false, .ref s.heap.objs.size, rawInt 0, .none, .none] }) rfl
    rw [hz] at this; exact this
  refine ⟨⟨_, he, rfl⟩, h _ he (Heap.get?_push_of_some _ (Heap.get?_push_size _ B.free)) (by rw [Heap.size_push, hz]) fun b o x => Heap.get?_push_of_some _ (Heap.get?_push_of_some _ x)⟩
end
/-- (0, a), (1, b), .. -/
def enumD (k : Nat) : List D → List D
  | [] => []
  | d :: r => .tup [.int (k : Int), d] :: enumD (k + 1) r
theorem enumD_len : ∀ {l : List D} {k : Nat}, (enumD k l).length = l.length
  | [], _ => rfl
  | _ :: r, k => by rw [enumD, List.length_cons, List.length_cons, enumD_len]
theorem enumD_get : ∀ {l : List D} {k i : Nat}, (enumD k l)[i]? = (l[i]?).map fun d => .tup [.int ((k + i : Nat) : Int), d]
  | [], _, _ => by simp [enumD]
  | d :: r, k, 0 => by simp [enumD]
  | d :: r, k, i + 1 => by
    rw [enumD, List.getElem?_cons_succ, List.getElem?_cons_succ, enumD_get]
    rw [show k + 1 + i = k + (i + 1) by omega]
def wEnum (te : TE3) : TI3 := fun Y z S C => te Y z S fun d S1 => match d with
  | .ref a => ∃ l, IsL S1 a l ∧ C (enumD 0 l) (fun S => IsL S a l) S1
  | .fl l => C (enumD 0 l) (fun _ => True) S1
  | .tup l => C (enumD 0 l) (fun _ => True) S1
  | _ => False
section
variable {K : PySem.W.Frag} {H1 : Hp}
theorem walkD_enumL {a : Addr} {l : List D} : WalkD K H1 (Ite K a) (enumD 0 l) (fun S => IsL S a l) := by
  refine ⟨fun i S H hi hG rs _ => ?_, fun S H hG rs _ => ?_, fun i S H x H' hi hG rs _ y => ?_⟩
  · obtain ⟨xs, h1, h2⟩ := rs.seqL hG
    rw [enumD_len] at hi
    exact ⟨xs, xs[i]'(by rw [h2.length]; exact hi), h1, by simp [h2.length, hi]⟩
  · obtain ⟨xs, h1, h2⟩ := rs.seqL hG
    exact ⟨xs, h1, by rw [h2.length, enumD_len]; exact Nat.le_refl _⟩
  · obtain ⟨xs, h1, h2⟩ := rs.seqL hG
    obtain ⟨T, v, rfl, hT, rfl, y⟩ := y
    obtain ⟨d, h3, h4⟩ := h2.getV (y xs h1)
    have g : Gr H (upd H T (.tup [.int (i : Nat), v])) := Gr.new hT
    exact ⟨.tup [.int (i : Int), d], by rw [enumD_get, h3]; simp, .tup (SqT.of upd_same) (.cons (.int _) (.cons (h4.mono g) .nil)), rs.new0 hT, g, Kp.new0 hT⟩
theorem walkD_enumF {a : Addr} {xs : List V} {l : List D} (hq : SqF K H1 a xs) (hr : RvL K H1 xs l) : WalkD K H1 (Ite K a) (enumD 0 l) (fun _ => True) := by
  refine ⟨fun i S H hi hG rs g => ?_, fun S H hG rs g => ⟨xs, (g.seqF hq).seqL, by rw [hr.length, enumD_len]; exact Nat.le_refl _⟩, fun i S H x H' hi hG rs g y => ?_⟩
  · rw [enumD_len] at hi
    exact ⟨xs, xs[i]'(by rw [hr.length]; exact hi), (g.seqF hq).seqL, by simp [hr.length, hi]⟩
  · obtain ⟨T, v, rfl, hT, rfl, y⟩ := y
    obtain ⟨d, h3, h4⟩ := (hr.mono g).getV (y xs (g.seqF hq).seqL)
    have g2 : Gr H (upd H T (.tup [.int (i : Nat), v])) := Gr.new hT
    exact ⟨.tup [.int (i : Int), d], by rw [enumD_get, h3]; simp, .tup (SqT.of upd_same) (.cons (.int _) (.cons (h4.mono g2) .nil)), rs.new0 hT, g2, Kp.new0 hT⟩
theorem walkD_enumT {a : Addr} {xs : List V} {l : List D} (hq : SqT K H1 a xs) (hr : RvL K H1 xs l) : WalkD K H1 (IteT K a) (enumD 0 l) (fun _ => True) := by
  refine ⟨fun i S H hi hG rs g => ?_, fun S H hG rs g => ⟨xs, g.seqT hq, by rw [hr.length, enumD_len]; exact Nat.le_refl _⟩, fun i S H x H' hi hG rs g y => ?_⟩
  · rw [enumD_len] at hi
    exact ⟨xs, xs[i]'(by rw [hr.length]; exact hi), g.seqT hq, by simp [hr.length, hi]⟩
  · obtain ⟨T, v, rfl, hT, rfl, y⟩ := y
    obtain ⟨d, h3, h4⟩ := (hr.mono g).getV (y xs (g.seqT hq))
    have g2 : Gr H (upd H T (.tup [.int (i : Nat), v])) := Gr.new hT
    exact ⟨.tup [.int (i : Int), d], by rw [enumD_get, h3]; simp, .tup (SqT.of upd_same) (.cons (.int _) (.cons (h4.mono g2) .nil)), rs.new0 hT, g2, Kp.new0 hT⟩
end
section
variable {X : Cx} {W : WX} {e : Expr} {te : TE3} {p pos tpos : Pos} {elts : List Expr} {kk : Nat}
theorem i3_enum (hg : Gl X "enumerate") (hm : X.mg "enumerate" = none) (ha : A3 X W [e] [te]) (hs : starEach [e] X.env = [(false, eval e X.env)] := by rfl) :
    I3 X W (.Tuple elts kk tpos) (.Call (.Name "enumerate" p) [e] [] pos) (wEnum te) := by
  refine ⟨fun pins s σ H R I ⟨Y, z, S, C, rel, ht, post⟩ => ?_⟩
  have hh := args1 rel ht (Q := fun vs H1 => ∃ v d S1, vs = [v] ∧ Rv X.K H1 v d ∧ RS X.K S1 H1 ∧ Gr H H1 ∧ Kp S S1 H H1 ∧ (match d with
    | .ref a => ∃ l, IsL S1 a l ∧ C (enumD 0 l) (fun S => IsL S a l) S1
    | .fl l => C (enumD 0 l) (fun _ => True) S1
    | .tup l => C (enumD 0 l) (fun _ => True) S1
    | _ => False)) (fun d S1 v H1 h1 rv rs g k => ⟨v, d, S1, rfl, rv, rs, g, k, h1⟩)
  refine Call_ (ld_blt I hg hm boot_enumerate (PyProof.Rows.callWith_type1 (thn (ha.run pos pins s σ H _ I hh) fun us s1 ⟨vs, H1, I1, r1, v, d, S1, ev, rv, rs, g, k, hc⟩ => ?_) hs rfl))
  subst ev
  obtain ⟨u, rfl, ru⟩ := vals1 r1
  have lst : ∀ a xs, v = .ref a → SqL X.K H1 a xs → R (Ite X.K a) H1 → wpAny (model X.prog X.w) X.A (call (.type "enumerate") [u]) (fun v s2 => wpAny (model X.prog X.w) X.A (pyIter v) (PIE X pins σ (.Tuple elts kk tpos) R) X.xe s2) X.xe s1 := fun a xs e' hq q => by
    subst e'
    cases ru
    obtain ⟨its, rv', p', hz⟩ := I1.list hq
    refine call_enumerate_list p'.isList fun h' he hit hsz hk => wpAny_pyIter_enum he ?_
    have I2 : Inv X pins σ H1 { s1 with heap := h' } := I1.kept (t' := s1.toks) hk
    refine ⟨s1.heap.objs.size + 1, [s1.heap.objs.size + 1, s1.heap.objs.size], _, _, H1, rfl, I2, turn_enum a (s1.heap.objs.size + 1) s1.heap.objs.size, ⟨⟨.none, he⟩, hit, Nat.succ_ne_self _⟩, fun b hb => ?_, q⟩
    have e' : b = s1.heap.objs.size + 1 ∨ b = s1.heap.objs.size := by simpa using hb
    have hle : s1.heap.objs.size ≤ b := by
      rcases e' with z | z
      · rw [z]; exact Nat.le_add_right _ _
      · rw [z]; exact Nat.le_refl _
    exact I1.fpOk hle (I1.hok.fresh hle)
  cases rv with
  | ref a =>
    obtain ⟨l, hl, hC⟩ := hc
    obtain ⟨xs, h2, h3⟩ := rs.seqL hl
    exact lst a xs rfl h2 (post _ _ S1 _ H1 hC rs g k walkD_enumL)
  | fl hq hr => exact lst _ _ rfl hq.seqL (post _ _ S1 _ H1 hc rs g k (walkD_enumF hq hr))
  | tup hq hr =>
    rename_i a xs l
    cases ru
    obtain ⟨its, rv', p', hz⟩ := I1.tuple hq
    have hal : a < s1.heap.objs.size := by obtain ⟨o, q, _⟩ := p'; exact Heap.lt_size q
    refine enum_begins1 (begins_tuple a its.toArray) (show s1.heap.IsTuple a its.toArray from p') fun h' he hit hsz hk => wpAny_pyIter_enum he ?_
    have I2 : Inv X pins σ H1 { s1 with heap := h' } := I1.kept (t' := s1.toks) hk
    refine ⟨s1.heap.objs.size + 1, [s1.heap.objs.size + 1, s1.heap.objs.size], _, _, H1, rfl, I2, turn_enumT a (s1.heap.objs.size + 1) s1.heap.objs.size (Nat.ne_of_lt hal) (Nat.ne_of_lt (Nat.lt_succ_of_lt hal)), ⟨⟨.none, he⟩, ⟨_, hit, rfl, rfl⟩, Nat.succ_ne_self _⟩, fun b hb => ?_, post _ _ S1 _ H1 hc rs g k (walkD_enumT hq hr)⟩
    have e' : b = s1.heap.objs.size + 1 ∨ b = s1.heap.objs.size := by simpa using hb
    have hle : s1.heap.objs.size ≤ b := by
      rcases e' with z | z
      · rw [z]; exact Nat.le_add_right _ _
      · rw [z]; exact Nat.le_refl _
    exact I1.fpOk hle (I1.hok.fresh hle)
  | _ => exact hc.elim
end

/-! ### zip -/
def ItW (n : Nat) (PV : Nat → List V → Prop) : It := ⟨fun i _ => i < n, fun i H v H' => ∃ T xs, v = .ref T ∧ H T = none ∧ H' = upd H T (.tup xs) ∧ PV i xs, fun i _ => i = n⟩
theorem turn_walks {P : Program} {w : World} {K : PySem.W.Frag} {elts : List Expr} {kk : Nat} {tpos : Pos} {I : Addr} {fp wr : List Addr} {n : Nat} {Pt : Nat → Array Value → Prop} {St : Nat → Heap → Prop} {Mid : Nat → Addr → Heap → Prop} {PV : Nat → List V → Prop}
    (W : ∀ A : Around, A.handled = none → WalksT P w A I fp wr n Pt St Mid) (mem : I ∈ fp) (obj : ∀ i h, St i h → ∀ b ∈ fp, ∃ o, h.get? b = some o ∧ ∀ v, o.data ≠ .cell v)
    (hv : ∀ i vals, Pt i vals → ∃ xs, Vals xs vals.toList ∧ xs.length ≤ sizeLine ∧ PV i xs) (keep : ∀ i h h', St i h → (∀ b ∈ fp, ∀ o, h.get? b = some o → h'.get? b = some o) → St i h')
    (self : ∀ (A : Around) (i : Nat) (s : Shared) (Q : Value → Shared → Prop) (E : Value → Shared → Prop), St i s.heap → Q (.ref I) s → wpAny (model P w) A (pyIter (.ref I)) Q E s) :
    Turn P w K (.Tuple elts kk tpos) (ItW n PV) fp I St where
  mem := mem
  obj := obj
  keep := keep
  item := by
    intro X hP hw hK hc i pins s σ H E Iv hf st hg
    subst hP hw hK
    have Wk := W X.A (Iv.ok.hd hc)
    refine Wk.item i s _ E hg st fun T vals h' tk hp hsz hT mid hk => ?_
    refine ⟨_, rfl, Wk.go elts kk tpos i T { s with heap := h', toks := tk } _ E mid fun h'' st2 hk2 => ?_⟩
    obtain ⟨xs, rv, hz, pv⟩ := hv i vals hp
    have hT2 : h''.IsTuple T vals := by
      obtain ⟨o, e, r⟩ := hT
      exact ⟨o, hk2 _ _ (Wk.apart i T h' mid) e, r⟩
    have new : ObjOk X.prog X.w (upd H T (.tup xs)) h'' T (.tup xs) := ⟨hz, vals.toList, rv, by rw [Array.toArray_toList]; exact hT2⟩
    have lt : ∀ b ∈ fp, b < s.heap.objs.size := fun b hb => by obtain ⟨o, e, _⟩ := obj i _ st b hb; exact Heap.lt_size e
    have I1 : Inv X pins σ (upd H T (.tup xs)) { s with heap := h'', toks := tk } :=
      Iv.turnedNew (ch := fp) (fun b o hb e => hk2 b o (fun q => hb (Wk.sub b q)) (hk b o (fun q => hb (Wk.sub b q)) e)) hf hsz new
    refine ⟨.ref T, _, I1, rfl, ⟨T, xs, rfl, Iv.hok.fresh hsz, rfl, pv⟩, st2, fun b hb => ?_⟩
    rw [upd_ne (Nat.ne_of_lt (Nat.lt_of_lt_of_le (lt b hb) hsz))]
    exact (hf b hb).1
  done := by
    intro X hP hw hK hc i pins s σ H E Iv hf st hg
    subst hP hw hK
    have e : i = n := hg
    subst e
    have Wk := W X.A (Iv.ok.hd hc)
    exact Wk.done s _ E st fun h' tk hk => ⟨rfl, Iv.turnedL (ch := fp) (fun b o hb e => hk b o (fun q => hb (Wk.sub b q)) e) hf⟩
  self := self

def zipD (l m : List D) : List D := (l.zip m).map fun p => .tup [p.1, p.2]
theorem zipD_get {l m : List D} {i : Nat} {a b : D} (h1 : l[i]? = some a) (h2 : m[i]? = some b) : (zipD l m)[i]? = some (.tup [a, b]) := by
  unfold zipD
  rw [List.getElem?_map, List.zip, List.getElem?_zipWith, h1, h2]
  rfl
theorem zipD_len {l m : List D} : (zipD l m).length = min l.length m.length := by
  unfold zipD
  rw [List.length_map, List.length_zip]
def wZip (ta tb : TE3) : TI3 := fun Y z S C => ta Y z S fun x S1 => tb Y z S1 fun y S2 => match x, y with
  | .ref a, .ref b => ∃ l m, IsL S2 a l ∧ IsL S2 b m ∧ C (zipD l m) (fun S => IsL S a l ∧ IsL S b m) S2
  | .tup l, .tup m => C (zipD l m) (fun _ => True) S2
  | .str x, .str y => C (zipD (sgn3 x) (sgn3 y)) (fun _ => True) S2
  | _, _ => False
section
variable {K : PySem.W.Frag} {H1 : Hp}
theorem zip_lt {xs ys : List V} {l m : List D} {i : Nat} (e1 : xs.length = l.length) (e2 : ys.length = m.length) (h : i < (zipD l m).length) : i < xs.length ∧ i < ys.length := by
  rw [zipD_len] at h
  omega
theorem zip_yld {H : Hp} {T : Addr} {S : Sto} {x y : V} {a b : D} (rs : RS K S H) (hT : H T = none) (ra : Rv K H x a) (rb : Rv K H y b) : Rv K (upd H T (.tup [x, y])) (.ref T) (.tup [a, b]) ∧ RS K S (upd H T (.tup [x, y])) ∧ Gr H (upd H T (.tup [x, y])) ∧ Kp S S H (upd H T (.tup [x, y])) := by
  have g : Gr H (upd H T (.tup [x, y])) := Gr.new hT
  exact ⟨.tup (SqT.of upd_same) (.cons (ra.mono g) (.cons (rb.mono g) .nil)), rs.new0 hT, g, Kp.new0 hT⟩
theorem walkD_zipL {a b : Addr} {l m : List D} : WalkD K H1 (Itz K a b) (zipD l m) (fun S => IsL S a l ∧ IsL S b m) := by
  refine ⟨fun i S H hi ⟨hA, hB⟩ rs _ => ?_, fun S H ⟨hA, hB⟩ rs _ => ?_, fun i S H x H' hi ⟨hA, hB⟩ rs _ y => ?_⟩
  · obtain ⟨xs, h1, h2⟩ := rs.seqL hA
    obtain ⟨ys, h3, h4⟩ := rs.seqL hB
    obtain ⟨q1, q2⟩ := zip_lt h2.length h4.length hi
    exact ⟨xs, ys, xs[i], ys[i], h1, h3, by simp, by simp⟩
  · obtain ⟨xs, h1, h2⟩ := rs.seqL hA
    obtain ⟨ys, h3, h4⟩ := rs.seqL hB
    exact ⟨xs, ys, h1, h3, by rw [h2.length, h4.length, zipD_len]; omega⟩
  · obtain ⟨xs, h1, h2⟩ := rs.seqL hA
    obtain ⟨ys, h3, h4⟩ := rs.seqL hB
    obtain ⟨T, v, u, rfl, hT, rfl, y1, y2⟩ := y
    obtain ⟨d, h5, h6⟩ := h2.getV (y1 xs h1)
    obtain ⟨e, h7, h8⟩ := h4.getV (y2 ys h3)
    exact ⟨_, zipD_get h5 h7, zip_yld rs hT h6 h8⟩
theorem walkD_zipT {a b : Addr} {xs ys : List V} {l m : List D} (hq : SqT K H1 a xs) (hr : RvL K H1 xs l) (hq2 : SqT K H1 b ys) (hr2 : RvL K H1 ys m) : WalkD K H1 (RZ.ItzT K a b) (zipD l m) (fun _ => True) := by
  refine ⟨fun i S H hi _ rs g => ?_, fun S H _ rs g => ?_, fun i S H x H' hi _ rs g y => ?_⟩
  · obtain ⟨q1, q2⟩ := zip_lt hr.length hr2.length hi
    exact ⟨xs, ys, xs[i], ys[i], g.seqT hq, g.seqT hq2, by simp, by simp⟩
  · exact ⟨xs, ys, g.seqT hq, g.seqT hq2, by rw [hr.length, hr2.length, zipD_len]; omega⟩
  · obtain ⟨T, v, u, rfl, hT, rfl, y1, y2⟩ := y
    obtain ⟨d, h5, h6⟩ := (hr.mono g).getV (y1 xs (g.seqT hq))
    obtain ⟨e, h7, h8⟩ := (hr2.mono g).getV (y2 ys (g.seqT hq2))
    exact ⟨_, zipD_get h5 h7, zip_yld rs hT h6 h8⟩
def PVs (x y : Str) (i : Nat) (xs : List V) : Prop := ∃ c d, x.cps[i]? = some c ∧ y.cps[i]? = some d ∧ xs = [.str ⟨#[c]⟩, .str ⟨#[d]⟩]
theorem sgn_len (x : Str) : (sgn3 x).length = x.cps.size := by unfold sgn3; simp
theorem sgn_get {x : Str} {i c : Nat} (h : x.cps[i]? = some c) : (sgn3 x)[i]? = some (.str ⟨#[c]⟩) := by unfold sgn3; simp [h]
theorem walkD_zipS {x y : Str} : WalkD K H1 (ItW (min x.cps.size y.cps.size) (PVs x y)) (zipD (sgn3 x) (sgn3 y)) (fun _ => True) := by
  have e : (zipD (sgn3 x) (sgn3 y)).length = min x.cps.size y.cps.size := by rw [zipD_len, sgn_len, sgn_len]
  refine ⟨fun i S H hi _ rs g => by rw [e] at hi; exact hi, fun S H _ rs g => e, fun i S H v H' hi _ rs g y => ?_⟩
  obtain ⟨T, xs, rfl, hT, rfl, c, d, hc, hd, rfl⟩ := y
  exact ⟨_, zipD_get (sgn_get hc) (sgn_get hd), zip_yld rs hT (.str _) (.str _)⟩
end
section
variable {X : Cx} {W : WX} {e e2 : Expr} {ta tb : TE3} {p pos tpos : Pos} {elts : List Expr} {kk : Nat}
theorem i3_zip (hg : Gl X "zip") (hm : X.mg "zip" = none) (ha : A3 X W [e, e2] [ta, tb]) (hs : starEach [e, e2] X.env = (false, eval e X.env) :: starEach [e2] X.env := by rfl) (hpl : (backTo pos (starEach [e2] X.env)).any (·.1) = false := by rfl) :
    I3 X W (.Tuple elts kk tpos) (.Call (.Name "zip" p) [e, e2] [] pos) (wZip ta tb) := by
  refine ⟨fun pins s σ H R I ⟨Y, z, S, C, rel, ht, post⟩ => ?_⟩
  have hh := args2 rel ht (Q := fun vs H1 => ∃ v u x y S1, vs = [v, u] ∧ Rv X.K H1 v x ∧ Rv X.K H1 u y ∧ RS X.K S1 H1 ∧ Gr H H1 ∧ Kp S S1 H H1 ∧ (match x, y with
    | .ref a, .ref b => ∃ l m, IsL S1 a l ∧ IsL S1 b m ∧ C (zipD l m) (fun S => IsL S a l ∧ IsL S b m) S1
    | .tup l, .tup m => C (zipD l m) (fun _ => True) S1
    | .str x, .str y => C (zipD (sgn3 x) (sgn3 y)) (fun _ => True) S1
    | _, _ => False)) (fun d e S1 v u H1 h1 rv ru rs g k => ⟨v, u, d, e, S1, rfl, rv, ru, rs, g, k, h1⟩)
  refine Call_ (ld_blt I hg hm PyProof.Rows.boot_zip (PyProof.Rows.callWith_type1 (thn (ha.run pos pins s σ H _ I hh) fun us s1 ⟨vs, H1, I1, r1, v, u, x, y, S1, ev, rv, ru, rs, g, k, hc⟩ => ?_) hs hpl))
  subst ev
  obtain ⟨u1, u2, rfl, q1, q2⟩ := vals2 r1
  have fresh5 : ∀ c, c ∈ [s1.heap.objs.size + 4, s1.heap.objs.size + 2, s1.heap.objs.size + 3, s1.heap.objs.size, s1.heap.objs.size + 1] → FpOk X pins H1 c := fun c hcm => by
    have e' : c = s1.heap.objs.size + 4 ∨ c = s1.heap.objs.size + 2 ∨ c = s1.heap.objs.size + 3 ∨ c = s1.heap.objs.size ∨ c = s1.heap.objs.size + 1 := by simpa using hcm
    have hle : s1.heap.objs.size ≤ c := by
      rcases e' with z | z | z | z | z
      · rw [z]; exact Nat.le_add_right _ _
      · rw [z]; exact Nat.le_add_right _ _
      · rw [z]; exact Nat.le_add_right _ _
      · rw [z]; exact Nat.le_refl _
      · rw [z]; exact Nat.le_add_right _ _
    exact I1.fpOk hle (I1.hok.fresh hle)
  cases rv with
  | ref a =>
    cases ru <;> first | exact hc.elim | skip
    rename_i b
    obtain ⟨l, m, hl, hm', hC⟩ := hc
    obtain ⟨xs, h2, h3⟩ := rs.seqL hl
    obtain ⟨ys, h4, h5⟩ := rs.seqL hm'
    cases (show u1 = Value.ref a from q1)
    cases (show u2 = Value.ref b from q2)
    obtain ⟨its, rv1, p1, _⟩ := I1.list h2
    obtain ⟨its2, rv2, p2, _⟩ := I1.list h4
    refine call_zip_2 p1.isList p2.isList fun h' hz hTI hTO h1 h2 hsz hk => wpAny_pyIter_zip hz ?_
    have I2 : Inv X pins σ H1 { s1 with heap := h' } := I1.kept (t' := s1.toks) hk
    exact ⟨s1.heap.objs.size + 4, [s1.heap.objs.size + 4, s1.heap.objs.size + 2, s1.heap.objs.size + 3, s1.heap.objs.size, s1.heap.objs.size + 1], _, _, H1, rfl, I2, turn_zip (PySem.W.ktu_apart s1.heap.objs.size a b p1.lt p2.lt), ⟨hz, hTI, ⟨_, _, hTO⟩, h1, h2⟩, fresh5, post _ _ S1 _ H1 hC rs g k walkD_zipL⟩
  | tup hq hr =>
    cases ru <;> first | exact hc.elim | skip
    rename_i a xs l b ys m hq2 hr2
    cases (show u1 = Value.ref a from q1)
    cases (show u2 = Value.ref b from q2)
    obtain ⟨its, rv1, p1, _⟩ := I1.tuple hq
    obtain ⟨its2, rv2, p2, _⟩ := I1.tuple hq2
    obtain ⟨o1, ho1, _⟩ := id p1
    obtain ⟨o2, ho2, _⟩ := id p2
    refine RZ.call_zipT (show s1.heap.IsTuple a its.toArray from p1) (show s1.heap.IsTuple b its2.toArray from p2) fun h' hz hTI hTO h1 h2 hsz hk => wpAny_pyIter_zip hz ?_
    have I2 : Inv X pins σ H1 { s1 with heap := h' } := I1.kept (t' := s1.toks) hk
    exact ⟨s1.heap.objs.size + 4, [s1.heap.objs.size + 4, s1.heap.objs.size + 2, s1.heap.objs.size + 3, s1.heap.objs.size, s1.heap.objs.size + 1], _, _, H1, rfl, I2, RZ.turn_zipT (PySem.W.ktu_apart s1.heap.objs.size a b (Heap.lt_size ho1) (Heap.lt_size ho2)), ⟨hz, hTI, ⟨_, _, hTO⟩, h1, h2⟩, fresh5, post _ _ S1 _ H1 hc rs g k (walkD_zipT hq hr hq2 hr2)⟩
  | str x =>
    cases ru <;> first | exact hc.elim | skip
    rename_i y
    obtain ⟨t, rfl⟩ := q1
    obtain ⟨t2, rfl⟩ := q2
    refine zip_begins2 (begins_text x t) (begins_text y t2) trivial trivial fun h' hz hTI hTO h1 h2 hsz hk => wpAny_pyIter_zip hz ?_
    have I2 : Inv X pins σ H1 { s1 with heap := h' } := I1.kept (t' := s1.toks) hk
    have sep : ZipSep2 (s1.heap.objs.size + 4) (s1.heap.objs.size + 2) (s1.heap.objs.size + 3) s1.heap.objs.size (s1.heap.objs.size + 1) [s1.heap.objs.size] [s1.heap.objs.size + 1] := zip_sep2 (fun _ h => nomatch h) (fun _ h => nomatch h)
    have W : ∀ A : Around, A.handled = none → WalksT X.prog X.w A _ _ _ _ _ _ _ := fun A hh => WalksT.zipD2 sep (Draws.text (A := A.in1) hh s1.heap.objs.size x t) (Draws.text (A := A.in1) hh (s1.heap.objs.size + 1) y t2)
    have T := turn_walks (K := X.K) (elts := elts) (kk := kk) (tpos := tpos) (PV := PVs x y) W List.mem_cons_self (fun i h st b hb => ?_) (fun i vals hp => ?_) (fun i h h' st hk => ?_) (fun A i s Q E st q => wpAny_pyIter_zip st.1 q)
    · refine ⟨s1.heap.objs.size + 4, _, _, _, H1, rfl, I2, T, ⟨hz, hTI, ⟨_, _, hTO⟩, ⟨_, h1, rfl, rfl⟩, ⟨_, h2, rfl, rfl⟩⟩, fun b hb => fresh5 b (by simpa using hb), post _ _ S1 _ H1 hc rs g k walkD_zipS⟩
    · obtain ⟨g1, g2, ⟨a1, a2, g3⟩, ⟨o4, g4, _, d4⟩, ⟨o5, g5, _, d5⟩⟩ := st
      simp only [List.mem_cons, List.cons_append, List.nil_append, List.not_mem_nil, or_false] at hb
      rcases hb with rfl | rfl | rfl | rfl | rfl
      · exact ⟨_, g1, fun v q => nomatch q⟩
      · exact ⟨_, g2, fun v q => nomatch q⟩
      · exact ⟨_, g3, fun v q => nomatch q⟩
      · exact ⟨_, g4, fun v q => by rw [d4] at q; cases q⟩
      · exact ⟨_, g5, fun v q => by rw [d5] at q; cases q⟩
    · obtain ⟨x1, x2, ⟨c, u, hc1, rfl⟩, ⟨d, u', hd1, rfl⟩, rfl⟩ := hp
      exact ⟨[.str ⟨#[c]⟩, .str ⟨#[d]⟩], .cons ⟨_, rfl⟩ (.cons ⟨_, rfl⟩ .nil), by show 2 ≤ sizeLine; decide, c, d, hc1, hd1, rfl⟩
    · obtain ⟨g1, g2, ⟨a1, a2, g3⟩, ⟨o4, g4, r4⟩, ⟨o5, g5, r5⟩⟩ := st
      exact ⟨hk _ (by simp) _ g1, hk _ (by simp) _ g2, ⟨a1, a2, hk _ (by simp) _ g3⟩, ⟨o4, hk _ (by simp) _ g4, r4⟩, ⟨o5, hk _ (by simp) _ g5, r5⟩⟩
  | _ => exact hc.elim
end
end R3

/-! numbers: the program's own fractions are Rat -/
namespace R3
open PySem PySem.Spec PyProof.Rows L2

/-! ### the greatest divisor -/
/-- divisor: slots 0 one 1 other -/
def w_divisor_1 : TS3 :=
 wPar 0 1 (wV 1) (w2 fMod (wV 0) (wV 1))
def w_divisor : TS3 :=
 wSeq (wWhile (wB (w2 fGt (wV 1) (wC (.int 0))))
 (w_divisor_1))
 (wRet (wV 0))
def sp_divisor : Sp3 := fun ds S R _ => ∃ a b : Int, ds = [.int a, .int b] ∧ 0 ≤ a ∧ 0 ≤ b ∧ R (.int (Int.gcd a b)) S
theorem gcd_step {x y : Int} : Int.gcd y (x.fmod y) = Int.gcd x y := by
  rw [Int.gcd_comm x y]
  have e : x.fmod y = x - y * x.fdiv y := by rw [Int.fmod_def]
  rw [e, show x - y * x.fdiv y = x + y * (-(x.fdiv y)) by rw [Int.mul_neg, Int.sub_eq_add_neg]]
  exact Int.gcd_add_mul_left_right y x (-(x.fdiv y))
theorem vc_divisor : ∀ ds S R G, sp_divisor ds S R G → w_divisor (endsOf R G) (start3 ["one", "other"] ds) S := by
  rintro ds S R G ⟨a, b, rfl, ha, hb, h⟩
  refine ⟨fun m z S' => ∃ x y : Int, z = [some (.int x), some (.int y)] ∧ S' = S ∧ 0 ≤ x ∧ 0 ≤ y ∧ Int.gcd x y = Int.gcd a b ∧ m = y.toNat, ⟨b.toNat, a, b, rfl, rfl, ha, hb, rfl, rfl⟩, ?_⟩
  rintro m z S' ⟨x, y, rfl, rfl, hx, hy, hg, rfl⟩
  refine br_dec (fun h0 => ?_) (fun h0 => ?_)
  · refine ⟨by omega, ?_⟩
    have l1 : 0 ≤ x.fmod y := Int.fmod_nonneg hx hy
    have l2 : x.fmod y < y := Int.fmod_lt_of_pos x h0
    exact ⟨(x.fmod y).toNat, S', by omega, Le.refl _, y, x.fmod y, rfl, rfl, hy, l1, gcd_step.trans hg, rfl⟩
  · have e : y = 0 := by omega
    subst e
    refine ⟨S', Le.refl _, ?_⟩
    have e : (x : Int) = (Int.gcd a b : Int) := by
      rw [← hg, Int.gcd_zero_right]
      omega
    rw [e]
    exact h

theorem small1 {n : Nat} (h : 0 < n) : Bits n 1 := by
  unfold Bits
  have : 2 ^ 1 ≤ 2 ^ n := Nat.pow_le_pow_right (by decide) h
  omega
/-! ### numbers -/
def qD (q : Rat) : D := .tup [.int q.num, .int q.den]
/-- top and bottom of at most n bits -/
def QB (n : Nat) (q : Rat) : Prop := Bits n q.num ∧ Bits n q.den
theorem QB.mono {n m : Nat} {q : Rat} (h : QB n q) (l : n ≤ m) : QB m q := ⟨h.1.mono l, h.2.mono l⟩
theorem fdiv_mul_left {g k : Int} (h : g ≠ 0) : (g * k).fdiv g = k := by rw [Int.mul_comm]; exact Int.mul_fdiv_cancel k h
theorem gcd_parts (t b : Int) (hb : b ≠ 0) : ∃ k m : Int, t = (Int.gcd t b : Int) * k ∧ b = (Int.gcd t b : Int) * m ∧ (Int.gcd t b : Int) ≠ 0 := by
  have hg : Int.gcd t b ≠ 0 := fun e => hb (Int.gcd_eq_zero_iff.mp e).2
  obtain ⟨k, hk⟩ := Int.gcd_dvd_left t b
  obtain ⟨m, hm⟩ := Int.gcd_dvd_right t b
  exact ⟨k, m, hk, hm, by omega⟩
theorem divInt_parts {t b : Int} (hb : b ≠ 0) {k m : Int} (hk : t = (Int.gcd t b : Int) * k) (hm : b = (Int.gcd t b : Int) * m) (hg : (Int.gcd t b : Int) ≠ 0) :
    (Rat.divInt t b).num = b.sign * k ∧ ((Rat.divInt t b).den : Int) = b.sign * m := by
  have e1 := Rat.num_divInt t b
  have e2 := Rat.den_divInt t b
  rw [if_neg hb] at e2
  rw [Int.gcd_comm b t] at e1 e2
  constructor
  · rw [e1]
    have : b.sign * t = (Int.gcd t b : Int) * (b.sign * k) := by
      calc b.sign * t = b.sign * ((Int.gcd t b : Int) * k) := by rw [← hk]
        _ = (Int.gcd t b : Int) * (b.sign * k) := by rw [← Int.mul_assoc, ← Int.mul_assoc, Int.mul_comm b.sign]
    rw [this, Int.mul_ediv_cancel_left _ hg]
  · rw [e2]
    have hn : (b.natAbs : Int) = (Int.gcd t b : Int) * (b.sign * m) := by
      calc (b.natAbs : Int) = b.sign * b := by rw [Int.mul_comm]; exact (Int.mul_sign_self b).symm
        _ = b.sign * ((Int.gcd t b : Int) * m) := by rw [← hm]
        _ = (Int.gcd t b : Int) * (b.sign * m) := by rw [← Int.mul_assoc, ← Int.mul_assoc, Int.mul_comm b.sign]
    rw [Int.natCast_ediv, hn, Int.mul_ediv_cancel_left _ hg]
theorem divInt_bits {n : Nat} {t b : Int} (hb : b ≠ 0) (ht : Bits n t) (hB : Bits n b) : QB n (Rat.divInt t b) := by
  obtain ⟨k, m, hk, hm, hg⟩ := gcd_parts t b hb
  obtain ⟨e1, e2⟩ := divInt_parts hb hk hm hg
  have sg : b.sign.natAbs = 1 := Int.natAbs_sign_of_ne_zero hb
  have le : ∀ {x y : Int}, x = (Int.gcd t b : Int) * y → y.natAbs ≤ x.natAbs := fun {x y} e => by
    rw [e, Int.natAbs_mul]
    have : 0 < (Int.gcd t b : Int).natAbs := Int.natAbs_pos.mpr hg
    exact Nat.le_mul_of_pos_left _ this
  unfold QB
  rw [e1, e2]
  exact ⟨ht.of_le (by rw [Int.natAbs_mul, sg, Nat.one_mul]; exact le hk), hB.of_le (by rw [Int.natAbs_mul, sg, Nat.one_mul]; exact le hm)⟩

/-- fraction: slots 0 top 1 bottom 2 by -/
def w_fraction_1 : TS3 :=
 wRet (wTup [w2 fDiv (wV 0) (wV 2), w2 fDiv (wV 1) (wV 2)])
def w_fraction : TS3 :=
 wSeq (wIfS (wB (w2 fEq (wV 1) (wC (.int 0))))
 (wRaise .number)
 (wNext))
 (wSeq (wSet 2 (wCall sp_divisor [wBf fAbs [wV 0], wBf fAbs [wV 1]]))
 (wSeq (wIfS (wB (w2 fLt (wV 1) (wC (.int 0))))
 (wSet 2 (w2 fSub (wC (.int 0)) (wV 2)))
 (wNext))
 (w_fraction_1)))
def sp_fraction : Sp3 := fun ds S R G => ∃ t b : Int, ds = [.int t, .int b] ∧ (b = 0 → G .number S) ∧ (b ≠ 0 → Bits 8900 b ∧ R (qD (Rat.divInt t b)) S)
theorem absI (i : Int) : (if i < 0 then -i else i) = (i.natAbs : Int) := by split <;> omega
theorem vc_fraction : ∀ ds S R G, sp_fraction ds S R G → w_fraction (endsOf R G) (start3 ["top", "bottom", "by"] ds) S := by
  rintro ds S R G ⟨t, b, rfl, hx, h⟩
  refine br_dec (fun h0 => ⟨S, Le.refl _, hx h0⟩) (fun hb => ?_)
  obtain ⟨hB, h⟩ := h hb
  refine ⟨_, _, rfl, by rw [absI]; omega, by rw [absI]; omega, ?_⟩
  have eg : Int.gcd (if t < 0 then -t else t) (if b < 0 then -b else b) = Int.gcd t b := by rw [absI, absI]; simp [Int.gcd]
  obtain ⟨k, m, hk, hm, hg⟩ := gcd_parts t b hb
  obtain ⟨e1, e2⟩ := divInt_parts hb hk hm hg
  have hgB : Bits 8900 (Int.gcd t b : Int) := hB.of_le (by
    have := Nat.le_of_dvd (Int.natAbs_pos.mpr hb) (Int.gcd_dvd_natAbs_right t b)
    simpa using this)
  refine br_dec (fun hneg => ?_) (fun hpos => ?_)
  · show (DivOk (0 - _) ∧ DivOk (0 - _) ∧ _)
    rw [eg]
    have d : DivOk (0 - (Int.gcd t b : Int)) := ⟨by omega, 8900, by rw [Int.zero_sub]; exact hgB.neg, Nat.le_refl _⟩
    refine ⟨d, d, S, Le.refl _, ?_⟩
    have f1 : t.fdiv (0 - (Int.gcd t b : Int)) = (Rat.divInt t b).num := by
      rw [e1, Int.sign_eq_neg_one_of_neg hneg, Int.zero_sub]
      generalize (Int.gcd t b : Int) = g at hk hg ⊢
      rw [hk, show g * k = -g * (-k) by rw [Int.neg_mul_neg], fdiv_mul_left (by omega)]
      omega
    have f2 : b.fdiv (0 - (Int.gcd t b : Int)) = ((Rat.divInt t b).den : Int) := by
      rw [e2, Int.sign_eq_neg_one_of_neg hneg, Int.zero_sub]
      clear e1 e2
      generalize (Int.gcd t b : Int) = g at hm hg ⊢
      rw [hm, show g * m = -g * (-m) by rw [Int.neg_mul_neg], fdiv_mul_left (by omega)]
      omega
    show R (.tup [.int (t.fdiv _), .int (b.fdiv _)]) S
    rw [f1, f2]
    exact h
  · show (DivOk _ ∧ DivOk _ ∧ _)
    rw [eg]
    have d : DivOk (Int.gcd t b : Int) := ⟨hg, 8900, hgB, Nat.le_refl _⟩
    refine ⟨d, d, S, Le.refl _, ?_⟩
    have hb' : 0 < b := by omega
    have f1 : t.fdiv (Int.gcd t b : Int) = (Rat.divInt t b).num := by
      rw [e1, Int.sign_eq_one_of_pos hb']
      generalize (Int.gcd t b : Int) = g at hk hg ⊢
      rw [hk, fdiv_mul_left hg]
      omega
    have f2 : b.fdiv (Int.gcd t b : Int) = ((Rat.divInt t b).den : Int) := by
      rw [e2, Int.sign_eq_one_of_pos hb']
      clear e1 e2
      generalize (Int.gcd t b : Int) = g at hm hg ⊢
      rw [hm, fdiv_mul_left hg]
      omega
    show R (.tup [.int (t.fdiv _), .int (b.fdiv _)]) S
    rw [f1, f2]
    exact h

/-! ### sums, products -/
theorem den_ne (q : Rat) : ((q.den : Nat) : Int) ≠ 0 := by have := q.den_nz; omega
theorem den_pos' (q : Rat) : (0 : Int) < (q.den : Int) := by have := q.den_pos; omega
theorem rat_as (q : Rat) : Rat.divInt q.num q.den = q := Rat.num_divInt_den q
theorem add_as (p q : Rat) : Rat.divInt (p.num * q.den + q.num * p.den) (p.den * q.den) = p + q := by
  conv => rhs; rw [← rat_as p, ← rat_as q]
  rw [Rat.divInt_add_divInt _ _ (den_ne p) (den_ne q)]
theorem sub_as (p q : Rat) : Rat.divInt (p.num * q.den - q.num * p.den) (p.den * q.den) = p - q := by
  conv => rhs; rw [← rat_as p, ← rat_as q]
  rw [Rat.divInt_sub_divInt _ _ (den_ne p) (den_ne q)]
theorem mul_as (p q : Rat) : Rat.divInt (p.num * q.num) (p.den * q.den) = p * q := by
  conv => rhs; rw [← rat_as p, ← rat_as q]
  rw [Rat.divInt_mul_divInt]
theorem div_as (p q : Rat) : Rat.divInt (p.num * q.den) (p.den * q.num) = p / q := by
  rw [Rat.div_def]
  conv => rhs; rw [← rat_as p, ← rat_as q]
  rw [Rat.inv_divInt, Rat.divInt_mul_divInt]
theorem QB.add {n m : Nat} {p q : Rat} (h : QB n p) (k : QB m q) : QB (n + m + 1) (p + q) := by
  rw [← add_as]
  refine divInt_bits (Int.mul_ne_zero (den_ne p) (den_ne q)) ?_ ((h.2.mul k.2).mono (by omega))
  exact ((h.1.mul k.2).add (k.1.mul h.2)).mono (by omega)
theorem QB.sub {n m : Nat} {p q : Rat} (h : QB n p) (k : QB m q) : QB (n + m + 1) (p - q) := by
  rw [← sub_as]
  refine divInt_bits (Int.mul_ne_zero (den_ne p) (den_ne q)) ?_ ((h.2.mul k.2).mono (by omega))
  exact ((h.1.mul k.2).sub (k.1.mul h.2)).mono (by omega)
theorem QB.mul {n m : Nat} {p q : Rat} (h : QB n p) (k : QB m q) : QB (n + m) (p * q) := by
  rw [← mul_as]
  exact divInt_bits (Int.mul_ne_zero (den_ne p) (den_ne q)) (h.1.mul k.1) (h.2.mul k.2)
theorem QB.div {n m : Nat} {p q : Rat} (h : QB n p) (k : QB m q) (hq : q ≠ 0) : QB (n + m) (p / q) := by
  rw [← div_as]
  exact divInt_bits (Int.mul_ne_zero (den_ne p) (fun e => hq (Rat.num_eq_zero.mp e))) (h.1.mul k.2) (h.2.mul k.1)
theorem mulOk {n m : Nat} {i j : Int} (h : Bits n i) (k : Bits m j) (l : n + m ≤ 900000) : MulOk i j := ⟨n, m, h, k, l⟩

/-- plus: slots 0 one 1 other -/
def w_plus : TS3 :=
 wRet (wCall sp_fraction [w2 fAdd (w2 fMul (w2 fIx (wV 0) (wC (.int 0))) (w2 fIx (wV 1) (wC (.int 1)))) (w2 fMul (w2 fIx (wV 1) (wC (.int 0))) (w2 fIx (wV 0) (wC (.int 1)))), w2 fMul (w2 fIx (wV 0) (wC (.int 1))) (w2 fIx (wV 1) (wC (.int 1)))])
def sp_plus : Sp3 := fun ds S R _ => ∃ (p q : Rat) (n : Nat), ds = [qD p, qD q] ∧ QB n p ∧ QB n q ∧ n ≤ 4400 ∧ R (qD (p + q)) S
theorem vc_plus : ∀ ds S R G, sp_plus ds S R G → w_plus (endsOf R G) (start3 ["one", "other"] ds) S := by
  rintro ds S R G ⟨p, q, n, rfl, hp, hq, hn, h⟩
  refine ⟨_, rfl, _, rfl, mulOk hp.1 hq.2 (by omega), _, rfl, _, rfl, mulOk hq.1 hp.2 (by omega), _, rfl, _, rfl, mulOk hp.2 hq.2 (by omega), _, _, rfl, fun e => absurd e (Int.mul_ne_zero (den_ne p) (den_ne q)), fun _ => ⟨(hp.2.mul hq.2).mono (by omega), S, Le.refl _, ?_⟩⟩
  rw [add_as]
  exact h
/-- minus: slots 0 one 1 other -/
def w_minus : TS3 :=
 wRet (wCall sp_fraction [w2 fSub (w2 fMul (w2 fIx (wV 0) (wC (.int 0))) (w2 fIx (wV 1) (wC (.int 1)))) (w2 fMul (w2 fIx (wV 1) (wC (.int 0))) (w2 fIx (wV 0) (wC (.int 1)))), w2 fMul (w2 fIx (wV 0) (wC (.int 1))) (w2 fIx (wV 1) (wC (.int 1)))])
def sp_minus : Sp3 := fun ds S R _ => ∃ (p q : Rat) (n : Nat), ds = [qD p, qD q] ∧ QB n p ∧ QB n q ∧ n ≤ 4400 ∧ R (qD (p - q)) S
theorem vc_minus : ∀ ds S R G, sp_minus ds S R G → w_minus (endsOf R G) (start3 ["one", "other"] ds) S := by
  rintro ds S R G ⟨p, q, n, rfl, hp, hq, hn, h⟩
  refine ⟨_, rfl, _, rfl, mulOk hp.1 hq.2 (by omega), _, rfl, _, rfl, mulOk hq.1 hp.2 (by omega), _, rfl, _, rfl, mulOk hp.2 hq.2 (by omega), _, _, rfl, fun e => absurd e (Int.mul_ne_zero (den_ne p) (den_ne q)), fun _ => ⟨(hp.2.mul hq.2).mono (by omega), S, Le.refl _, ?_⟩⟩
  rw [sub_as]
  exact h
/-- times: slots 0 one 1 other -/
def w_times : TS3 :=
 wRet (wCall sp_fraction [w2 fMul (w2 fIx (wV 0) (wC (.int 0))) (w2 fIx (wV 1) (wC (.int 0))), w2 fMul (w2 fIx (wV 0) (wC (.int 1))) (w2 fIx (wV 1) (wC (.int 1)))])
def sp_times : Sp3 := fun ds S R _ => ∃ (p q : Rat) (n : Nat), ds = [qD p, qD q] ∧ QB n p ∧ QB n q ∧ n ≤ 4400 ∧ R (qD (p * q)) S
theorem vc_times : ∀ ds S R G, sp_times ds S R G → w_times (endsOf R G) (start3 ["one", "other"] ds) S := by
  rintro ds S R G ⟨p, q, n, rfl, hp, hq, hn, h⟩
  refine ⟨_, rfl, _, rfl, mulOk hp.1 hq.1 (by omega), _, rfl, _, rfl, mulOk hp.2 hq.2 (by omega), _, _, rfl, fun e => absurd e (Int.mul_ne_zero (den_ne p) (den_ne q)), fun _ => ⟨(hp.2.mul hq.2).mono (by omega), S, Le.refl _, ?_⟩⟩
  rw [mul_as]
  exact h

/-! ### fronts that move -/
theorem qD_int (i : Int) : qD (i : Rat) = .tup [.int i, .int 1] := rfl
theorem QB.int {n : Nat} {i : Int} (h : Bits n i) (hn : 0 < n) : QB n (i : Rat) := ⟨h, small1 hn⟩
/-- line_at: slots 0 paces 1 front 2 height 3 facing 4 line 5 way -/
def w_line_at : TS3 :=
 wSeq (wAsg (wV 1) (gTup3 2 (gCons3 (gN 3) (gCons3 (gN 4) (gNil3)))))
 (wSeq (wSet 5 (wCall sp_times [wTup [w2 fIx (wV 0) (wV 3), wC (.int 1)], wV 2]))
 (wSeq (wIfS (wB (w2 fLt (wV 3) (wC (.int 2))))
 (wRet (wCall sp_plus [wV 4, wV 5]))
 (wNext))
 (wRet (wCall sp_minus [wV 4, wV 5]))))
/-- four paces from 1 to 9 -/
def PcD (p : List Int) : D := .tup (p.map D.int)
def Pcs (p : List Int) : Prop := p.length = 4 ∧ ∀ x ∈ p, 1 ≤ x ∧ x ≤ 9
def lineAt (p : List Int) (f : Nat) (l h : Rat) : Rat := if f < 2 then l + ((p.getD f 0 : Int) : Rat) * h else l - ((p.getD f 0 : Int) : Rat) * h
def sp_line_at : Sp3 := fun ds S R _ => ∃ (p : List Int) (f : Nat) (l h : Rat) (n : Nat), ds = [PcD p, .tup [.int f, qD l], qD h] ∧ Pcs p ∧ f < 4 ∧ QB n l ∧ QB n h ∧ n ≤ 4000 ∧ R (qD (lineAt p f l h)) S
theorem vc_line_at : ∀ ds S R G, sp_line_at ds S R G → w_line_at (endsOf R G) (start3 ["paces", "front", "height", "facing", "line", "way"] ds) S := by
  rintro ds S R G ⟨p, f, l, h, n, rfl, ⟨hp1, hp2⟩, hf, hl, hh, hn, k⟩
  have hfp : f < p.length := by omega
  have hget : atI (p.map D.int) (f : Int) = some (.int (p.getD f 0)) := by
    refine atI_nat ?_
    rw [List.getElem?_map, List.getElem?_eq_getElem hfp, List.getD_eq_getElem?_getD, List.getElem?_eq_getElem hfp]
    rfl
  have hpf := hp2 (p.getD f 0) (by rw [List.getD_eq_getElem?_getD, List.getElem?_eq_getElem hfp]; exact List.getElem_mem hfp)
  have hb : Bits 4 (p.getD f 0) := Bits.of_lt (by omega) (by omega)
  have hq : QB (n + 4) ((p.getD f 0 : Int) : Rat) := QB.int (hb.mono (by omega)) (by omega)
  refine ⟨rfl, _, hget, ((p.getD f 0 : Int) : Rat), h, n + 4, rfl, hq, hh.mono (by omega), by omega, ?_⟩
  have hm := (QB.int hb (by decide)).mul hh
  unfold lineAt at k
  refine br_dec (fun h0 => ?_) (fun h0 => ?_)
  · rw [if_pos (by omega)] at k
    exact ⟨l, _, n + 4, rfl, hl.mono (by omega), hm.mono (by omega), by omega, S, Le.refl _, k⟩
  · rw [if_neg (by omega)] at k
    exact ⟨l, _, n + 4, rfl, hl.mono (by omega), hm.mono (by omega), by omega, S, Le.refl _, k⟩
end R3

/-! the feed: draws from one number of the script -/
namespace R3
open PySem PySem.Spec PyProof.Rows L2
theorem small {n : Nat} {i : Int} (h1 : -(2 ^ n : Int) < i) (h2 : i < (2 ^ n : Int)) : Bits n i := Bits.of_lt h1 h2
theorem fdiv_nonneg' {a b : Int} (ha : 0 ≤ a) (hb : 0 < b) : 0 ≤ a.fdiv b := by
  rw [Int.fdiv_eq_ediv_of_nonneg _ (Int.le_of_lt hb)]
  exact Int.ediv_nonneg ha (Int.le_of_lt hb)
theorem fmodB {n : Nat} {i m : Int} (h0 : 0 < m) (h1 : m < (2 ^ n : Int)) : Bits n (i.fmod m) := by
  have a := Int.fmod_nonneg_of_pos i h0
  have b := Int.fmod_lt_of_pos i h0
  exact Bits.of_lt (by omega) (by omega)
/-- law_feed: slots 0 _law_script 1 _law_k 2 _law_cell 3 _law_great -/
def w_law_feed_1 : TS3 :=
 wRet (wLst [wV 3, w2 fMod (w2 fAdd (w2 fAdd (w2 fMul (w2 fMod (wV 2) (wC (.int 2147483399))) (wC (.int 40692))) (w2 fMul (wC (.int 7919)) (wV 1))) (wC (.int 13))) (wC (.int 2147483399)), wC (.int 0)])
def w_law_feed_2 : TS3 :=
 wSeq (wSet 3 (wBf fAbs [wV 2]))
 (wSeq (wIfS (wB (w2 fLt (wV 3) (wC (.int 1000000000000000000))))
 (wSet 3 (wC (.int 0)))
 (wNext))
 (w_law_feed_1))
def w_law_feed : TS3 :=
 wSeq (wSet 2 (wC (.int 0)))
 (wSeq (wIfS (wB (w2 fLt (wV 1) (wBf fLen [wV 0])))
 (wSet 2 (w2 fIx (wV 0) (wV 1)))
 (wNext))
 (w_law_feed_2))
/-- a feed of at most t steps -/
def FeedO (t : Nat) (o : SO) : Prop := ∃ g m c : Int, o = .lst [.int g, .int m, .int c] ∧ 0 ≤ g ∧ 0 ≤ m ∧ m < 2147483399 ∧ 0 ≤ c ∧ c ≤ t
theorem FeedO.mono {t u : Nat} {o : SO} (h : FeedO t o) (l : t ≤ u) : FeedO u o := by
  obtain ⟨g, m, c, h1, h2, h3, h4, h5, h6⟩ := h
  exact ⟨g, m, c, h1, h2, h3, h4, h5, by omega⟩
def sp_law_feed : Sp3 := fun ds S R _ => ∃ (ns : List Int) (k : Nat), ds = [.fl (ns.map D.int), .int k] ∧ ns.length ≤ 63 ∧ k ≤ 1000 ∧ ∀ p o, S p = none → FeedO 0 o → R (.ref p) (put S p o)
theorem feed1 {ns : List Int} {k : Nat} {c g : Int} {S : Sto} {B : Ends3} (hk : k ≤ 1000) (hg : 0 ≤ g) (h : ∀ p o, S p = none → FeedO 0 o → B.rt (.ref p) (put S p o)) :
    w_law_feed_1 B [some (.fl (ns.map D.int)), some (.int k), some (.int c), some (.int g)] S := by
  have m0 : 0 ≤ c.fmod 2147483399 := Int.fmod_nonneg_of_pos _ (by decide)
  have m1 : c.fmod 2147483399 < 2147483399 := Int.fmod_lt_of_pos _ (by decide)
  refine ⟨by decide, ⟨32, 32, small (by omega) (by omega), small (by decide) (by decide), by decide⟩, ⟨32, 32, small (by decide) (by decide), small (by omega) (by omega), by decide⟩, by decide, ?_⟩
  intro p hp
  exact h p _ hp ⟨_, _, _, rfl, hg, Int.fmod_nonneg_of_pos _ (by decide), Int.fmod_lt_of_pos _ (by decide), by decide, by decide⟩
theorem vc_law_feed : ∀ ds S R G, sp_law_feed ds S R G → w_law_feed (endsOf R G) (start3 ["_law_script", "_law_k", "_law_cell", "_law_great"] ds) S := by
  rintro ds S R G ⟨ns, k, rfl, hn, hk, h⟩
  have go : ∀ c : Int, w_law_feed_2 (endsOf R G) [some (.fl (ns.map D.int)), some (.int k), some (.int c), none] S := fun c => by
    refine br_dec (fun h0 => ?_) (fun h0 => ?_)
    · exact feed1 hk (by decide) fun p o hp hO => ⟨_, Le.refl _, h p o hp hO⟩
    · exact feed1 hk (by split <;> omega) fun p o hp hO => ⟨_, Le.refl _, h p o hp hO⟩
  refine br_dec (fun h0 => ?_) (fun h0 => ?_)
  · have hl : k < ns.length := by simpa using h0
    exact ⟨.int (ns[k]), atI_nat (by simp [hl]), go _⟩
  · exact go 0
/-- law_next: slots 0 _law_feed_here 1 _law_many 2 _law_digit 3 _law_step 4 _law_mixed -/
def w_law_next : TS3 :=
 wSeq (wIfS (wB (w2 fGt (w2 fIx (wV 0) (wC (.int 0))) (wC (.int 0))))
 (wSeq (wSet 2 (w2 fMod (w2 fIx (wV 0) (wC (.int 0))) (wV 1)))
 (wSeq (wAsg (w2 fDiv (w2 fIx (wV 0) (wC (.int 0))) (wV 1)) (gSub3 (wV 0) (wC (.int 0)) fSetL))
 (wRet (wV 2))))
 (wNext))
 (wSeq (wSet 3 (w2 fAdd (w2 fIx (wV 0) (wC (.int 2))) (wC (.int 1))))
 (wSeq (wAsg (wV 3) (gSub3 (wV 0) (wC (.int 2)) fSetL))
 (wSeq (wSet 4 (w2 fMod (w2 fAdd (w2 fAdd (w2 fIx (wV 0) (wC (.int 1))) (w2 fMul (w2 fMul (wC (.int 48271)) (wV 3)) (wV 3))) (w2 fMul (wC (.int 69621)) (wV 3))) (wC (.int 2147483629))))
 (wSeq (wSet 4 (w2 fMod (w2 fAdd (w2 fAdd (w2 fMul (wV 4) (wV 4)) (w2 fMul (wC (.int 16807)) (wV 4))) (wV 3)) (wC (.int 2147483587))))
 (wSeq (wSet 4 (w2 fMod (w2 fAdd (w2 fMul (wV 4) (wV 4)) (w2 fMul (wC (.int 39373)) (wV 4))) (wC (.int 2147483543))))
 (wRet (w2 fMod (w2 fDiv (wV 4) (wC (.int 64))) (wV 1))))))))
def sp_law_next : Sp3 := fun ds S R _ => ∃ (p : Addr) (m : Int) (t : Nat) (o : SO), ds = [.ref p, .int m] ∧ S p = some o ∧ FeedO t o ∧ t ≤ 10 ^ 9 ∧ 0 < m ∧ Bits 8900 m ∧ ∀ i o', 0 ≤ i → i < m → FeedO (t + 1) o' → R (.int i) (put S p o')
theorem vc_law_next : ∀ ds S R G, sp_law_next ds S R G → w_law_next (endsOf R G) (start3 ["_law_feed_here", "_law_many", "_law_digit", "_law_step", "_law_mixed"] ds) S := by
  rintro ds S R G ⟨p, m, t, o, rfl, hS, ⟨g, x, c, rfl, hg, hx0, hx1, hc0, hc1⟩, ht, hm, hB, h⟩
  refine ⟨_, _, hS, rfl, ?_⟩
  refine br_dec (fun h0 => ?_) (fun h0 => ?_)
  · refine ⟨_, _, hS, rfl, by omega, ?_⟩
    refine ⟨_, _, hS, rfl, ⟨by omega, 8900, hB, Nat.le_refl _⟩, ?_⟩
    refine ⟨_, 0, hS, rfl, ?_⟩
    exact ⟨_, Le.refl _, h _ _ (Int.fmod_nonneg_of_pos _ hm) (Int.fmod_lt_of_pos _ hm) ⟨_, _, _, rfl, fdiv_nonneg' hg hm, hx0, hx1, hc0, by omega⟩⟩
  · refine ⟨_, _, hS, rfl, ?_⟩
    refine ⟨_, 2, hS, rfl, ?_⟩
    refine ⟨_, _, put_same, rfl, ⟨32, 32, small (by decide) (by decide), small (by omega) (by omega), by decide⟩, ⟨64, 32, (Bits.mul (n := 32) (m := 32) (small (by decide) (by decide)) (small (by omega) (by omega))), small (by omega) (by omega), by decide⟩, ⟨32, 32, small (by decide) (by decide), small (by omega) (by omega), by decide⟩, by decide, ?_⟩
    refine ⟨mulOk (n := 32) (m := 32) (fmodB (by decide) (by decide)) (fmodB (by decide) (by decide)) (by decide), mulOk (n := 32) (m := 32) (small (by decide) (by decide)) (fmodB (by decide) (by decide)) (by decide), by decide, ?_⟩
    refine ⟨mulOk (n := 32) (m := 32) (fmodB (by decide) (by decide)) (fmodB (by decide) (by decide)) (by decide), mulOk (n := 32) (m := 32) (small (by decide) (by decide)) (fmodB (by decide) (by decide)) (by decide), by decide, ?_⟩
    refine ⟨⟨by decide, 32, small (by decide) (by decide), by decide⟩, by omega, ?_⟩
    exact ⟨_, Le.refl _, h _ _ (Int.fmod_nonneg_of_pos _ hm) (Int.fmod_lt_of_pos _ hm) ⟨_, _, _, rfl, hg, hx0, hx1, by omega, by omega⟩⟩
end R3

namespace R3
open PySem PySem.Spec PyProof.Rows L2

/-! ### things that are asked for their kind -/
/-- a thing of which one may ask what it is -/
def Tk (S : Sto) (d : D) : Prop := match d with
  | .ref a => ∃ l, IsL S a l
  | .ty _ => False
  | _ => True
/-- and of its items -/
def Th (S : Sto) (d : D) : Prop := Tk S d ∧ ∀ l, d = .tup l → ∀ e ∈ l, Tk S e
def isI : D → Bool
  | .int _ => true
  | _ => false
def isNum : D → Bool
  | .tup [.int t, .int b] => decide (0 < b) && decide (Int.gcd t b = 1)
  | _ => false
/-- is_whole: slots 0 thing -/
def w_is_whole : TS3 :=
 wRet (wAndV (wIsi .int (wV 0)) (wNotV (wIsi .bool (wV 0))))
def sp_is_whole : Sp3 := fun ds S R _ => ∃ d, ds = [d] ∧ Tk S d ∧ R (.bl (isI d)) S
theorem whole_law {d : D} {S : Sto} {B : Ends3} (h : Tk S d) (k : B.rt (.bl (isI d)) S) : w_is_whole B [some d] S := by
  cases d with
  | ref a => exact ⟨h, br_f k⟩
  | ty _ => exact h.elim
  | bl b => exact br_t k
  | int i => exact br_t k
  | _ => exact br_f k
theorem vc_is_whole : ∀ ds S R G, sp_is_whole ds S R G → w_is_whole (endsOf R G) (start3 ["thing"] ds) S := by
  rintro ds S R G ⟨d, rfl, h, k⟩
  exact whole_law h ⟨_, Le.refl _, k⟩
/-- law_shared: slots 0 _law_one 1 _law_other -/
def w_law_shared_1 : TS3 :=
 wPar 0 1 (wV 1) (w2 fMod (wV 0) (wV 1))
def w_law_shared : TS3 :=
 wSeq (wWhile (wB (w2 fNe (wV 1) (wC (.int 0))))
 (w_law_shared_1))
 (wRet (wBf fAbs [wV 0]))
def sp_law_shared : Sp3 := fun ds S R _ => ∃ a b : Int, ds = [.int a, .int b] ∧ 0 ≤ b ∧ R (.int (Int.gcd a b)) S
theorem vc_law_shared : ∀ ds S R G, sp_law_shared ds S R G → w_law_shared (endsOf R G) (start3 ["_law_one", "_law_other"] ds) S := by
  rintro ds S R G ⟨a, b, rfl, hb, h⟩
  refine ⟨fun m z S' => ∃ x y : Int, z = [some (.int x), some (.int y)] ∧ S' = S ∧ 0 ≤ y ∧ Int.gcd x y = Int.gcd a b ∧ m = y.toNat, ⟨b.toNat, a, b, rfl, rfl, hb, rfl, rfl⟩, ?_⟩
  rintro m z S' ⟨x, y, rfl, rfl, hy, hg, rfl⟩
  refine br_decN (fun h0 => ?_) (fun h0 => ?_)
  · have hp : 0 < y := by omega
    refine ⟨by omega, ?_⟩
    have l1 : 0 ≤ x.fmod y := Int.fmod_nonneg_of_pos x hp
    have l2 : x.fmod y < y := Int.fmod_lt_of_pos x hp
    exact ⟨(x.fmod y).toNat, S', by omega, Le.refl _, y, x.fmod y, rfl, rfl, l1, gcd_step.trans hg, rfl⟩
  · subst h0
    refine ⟨S', Le.refl _, ?_⟩
    rw [absI, ← show (Int.gcd x 0) = x.natAbs from Int.gcd_zero_right x, hg]
    exact h
/-- what is told of a thing that is asked whether it is a number -/
theorem two_of {l : List D} (h : l.length = 2) : ∃ a b, l = [a, b] := by
  match l, h with
  | [a, b], _ => exact ⟨a, b, rfl⟩
theorem isNum_two {t b : Int} : isNum (.tup [.int t, .int b]) = (decide (0 < b) && decide (Int.gcd t b = 1)) := rfl
theorem isNum_not {l : List D} (h : l.length ≠ 2) : isNum (.tup l) = false := by
  unfold isNum
  split
  · rename_i e; cases e; exact absurd rfl h
  · rfl
theorem isNum_a {a b : D} (h : isI a = false) : isNum (.tup [a, b]) = false := by
  cases a <;> first | rfl | (cases h)
theorem isNum_b {a b : D} (h : isI b = false) : isNum (.tup [a, b]) = false := by
  cases a <;> first | rfl | (cases b <;> first | rfl | (cases h))
theorem isI_int {a : D} (h : isI a = true) : ∃ i, a = .int i := by
  cases a <;> first | exact ⟨_, rfl⟩ | (cases h)
theorem br_b {b : Bool} {P Q : Prop} (h1 : b = true → P) (h2 : b = false → Q) : Br b P Q := ⟨h1, h2⟩
theorem not_t {b : Bool} (h : (!b) = true) : b = false := by cases b; rfl; cases h
theorem not_f {b : Bool} (h : (!b) = false) : b = true := by cases b; cases h; rfl
/-- is_number: slots 0 thing -/
def w_is_number : TS3 :=
 wSeq (wIfS (wOr (wNot (wB (wIsi .tuple (wV 0)))) (wOr (wB (w2 fNe (wBf fLen [wV 0]) (wC (.int 2)))) (wOr (wNot (wB (wCall sp_is_whole [w2 fIx (wV 0) (wC (.int 0))]))) (wNot (wB (wCall sp_is_whole [w2 fIx (wV 0) (wC (.int 1))]))))))
 (wRet (wC (.bl false)))
 (wNext))
 (wRet (wAndV (w2 fGt (w2 fIx (wV 0) (wC (.int 1))) (wC (.int 0))) (w2 fEq (wCall sp_divisor [wBf fAbs [w2 fIx (wV 0) (wC (.int 0))], w2 fIx (wV 0) (wC (.int 1))]) (wC (.int 1)))))
def sp_is_number : Sp3 := fun ds S R _ => ∃ d, ds = [d] ∧ Th S d ∧ R (.bl (isNum d)) S
theorem gcd_abs {t u : Int} : Int.gcd (if t < 0 then -t else t) u = Int.gcd t u := by rw [absI]; simp [Int.gcd]
theorem vc_is_number : ∀ ds S R G, sp_is_number ds S R G → w_is_number (endsOf R G) (start3 ["thing"] ds) S := by
  rintro ds S R G ⟨d, rfl, ⟨h, hi⟩, k⟩
  cases d with
  | tup l =>
    refine br_f (br_decN (fun h0 => ?_) (fun h0 => ?_))
    · refine br_t ⟨S, Le.refl _, ?_⟩
      rw [isNum_not (l := l) (by omega)] at k
      exact k
    · obtain ⟨a, b, rfl⟩ := two_of (l := l) (by omega)
      have ta := hi _ rfl a List.mem_cons_self
      have tb := hi _ rfl b (List.mem_cons_of_mem _ List.mem_cons_self)
      refine ⟨a, rfl, a, rfl, ta, br_b (fun e => ?_) (fun e => ?_)⟩
      · rw [isNum_a (not_t e)] at k
        exact br_t ⟨S, Le.refl _, k⟩
      · refine ⟨b, rfl, b, rfl, tb, ?_⟩
        obtain ⟨t, rfl⟩ := isI_int (not_f e)
        cases q : isI b with
        | false =>
          rw [isNum_b q] at k
          exact br_t ⟨S, Le.refl _, k⟩
        | true =>
          obtain ⟨u, rfl⟩ := isI_int q
          refine br_f ?_
          refine ⟨_, rfl, br_dec (fun h1 => ?_) (fun h1 => ?_)⟩
          · refine ⟨_, rfl, _, rfl, _, u, rfl, by rw [absI]; omega, by omega, S, Le.refl _, ?_⟩
            have e : isNum (.tup [.int t, .int u]) = decide ((Int.gcd (if t < 0 then -t else t) u : Int) = 1) := by
              rw [isNum_two, decide_eq_true h1, Bool.true_and, gcd_abs]
              simp
              omega
            rw [e] at k
            exact k
          · refine ⟨S, Le.refl _, ?_⟩
            have e : isNum (.tup [.int t, .int u]) = false := by
              rw [isNum_two, decide_eq_false h1, Bool.false_and]
            rw [e] at k
            exact k
  | ref a => exact ⟨h, br_t (br_t ⟨S, Le.refl _, k⟩)⟩
  | ty _ => exact h.elim
  | _ => exact br_t (br_t ⟨S, Le.refl _, k⟩)

theorem Tk.le {S S' : Sto} {d : D} (l : Le S S') (h : Tk S d) : Tk S' d := by
  cases d with
  | ref a => obtain ⟨x, hx⟩ := h; exact ⟨x, l _ _ hx⟩
  | ty _ => exact h
  | _ => exact trivial
theorem Th.le {S S' : Sto} {d : D} (l : Le S S') (h : Th S d) : Th S' d := ⟨h.1.le l, fun x e y hy => (h.2 x e y hy).le l⟩
theorem Th.int {S : Sto} {i : Int} : Th S (.int i) := ⟨trivial, fun _ e => nomatch e⟩
theorem Th.bl {S : Sto} {i : Bool} : Th S (.bl i) := ⟨trivial, fun _ e => nomatch e⟩
theorem Th.str {S : Sto} {i : Str} : Th S (.str i) := ⟨trivial, fun _ e => nomatch e⟩
theorem Th.non {S : Sto} : Th S .non := ⟨trivial, fun _ e => nomatch e⟩
theorem Th.ref {S : Sto} {a : Addr} {l : List D} (h : S a = some (.lst l)) : Th S (.ref a) := ⟨⟨l, h⟩, fun _ e => nomatch e⟩
theorem Th.tup {S : Sto} {l : List D} (h : ∀ e ∈ l, Tk S e) : Th S (.tup l) := ⟨trivial, fun x e y hy => by cases e; exact h y hy⟩
theorem atI_mem {l : List D} {i : Int} {d : D} (h : atI l i = some d) : d ∈ l := by
  unfold atI at h
  cases e : ixN l.length i with
  | none => rw [e] at h; cases h
  | some j => rw [e] at h; exact List.mem_of_getElem? h
theorem atI_some {l : List D} {i : Int} (h0 : 0 ≤ i) (h1 : i < l.length) : ∃ d, atI l i = some d := by
  obtain ⟨n, rfl⟩ : ∃ n : Nat, i = n := ⟨i.toNat, by omega⟩
  have : n < l.length := by omega
  exact ⟨l[n], atI_nat (by simp [this])⟩
theorem rng0 {n i : Nat} {d : D} (h : (rngD 0 n)[i]? = some d) : d = .int (i : Int) ∧ i < n := by
  have hi := (List.getElem?_eq_some_iff.mp h).1
  rw [rngD_len] at hi
  rw [rngD_get hi] at h
  cases h
  exact ⟨by rw [Int.zero_add], hi⟩
theorem isNum_qD (q : Rat) : isNum (qD q) = true := by
  have h1 : (0 : Int) < (q.den : Int) := den_pos' q
  have h2 : Int.gcd q.num (q.den : Int) = 1 := by
    have := q.reduced
    unfold Nat.Coprime at this
    simpa [Int.gcd] using this
  show (decide _ && decide _) = true
  rw [decide_eq_true h1, decide_eq_true h2]
  rfl
theorem Th.qD {S : Sto} (q : Rat) : Th S (qD q) := Th.tup fun e he => by
  simp only [List.mem_cons, List.not_mem_nil, or_false] at he
  rcases he with rfl | rfl <;> exact trivial
theorem divInt_cross {t b : Int} (hb : b ≠ 0) : (Rat.divInt t b).num * b = t * (Rat.divInt t b).den := by
  have := (Rat.divInt_eq_divInt_iff hb (den_ne (Rat.divInt t b))).mp (rat_as (Rat.divInt t b)).symm
  exact this.symm

/-- two numbers compared -/
theorem eqv_pair {a b c d : Int} : PyData.eqv (.tuple [.int a, .int b]) (.tuple [.int c, .int d]) = (decide (a = c) && decide (b = d)) := by
  simp [PyData.eqv, PyData.eqvAll]
  rfl
theorem qD_eqv {p q : Rat} : PyData.eqv (.tuple [.int p.num, .int p.den]) (.tuple [.int q.num, .int q.den]) = decide (p = q) := by
  rw [eqv_pair, Bool.eq_iff_iff, Bool.and_eq_true, decide_eq_true_iff, decide_eq_true_iff, decide_eq_true_iff]
  constructor
  · rintro ⟨h1, h2⟩
    exact Rat.ext h1 (by omega)
  · rintro rfl
    exact ⟨rfl, rfl⟩
theorem Sn.qD {S : Sto} {p : Rat} : Sn S (qD p) (.tuple [.int p.num, .int p.den]) := .tup (.cons (.int _) (.cons (.int _) .nil))
theorem okP_pair {a b : Int} : okP (.tuple [.int a, .int b]) := by unfold okP; rfl
/-- behind two numbers' equality -/
theorem Br.eqQ {p q : Rat} {A B : Prop} (h : p = q) (k : A) : Br (if false = true then !PyData.eqv (.tuple [.int p.num, .int p.den]) (.tuple [.int q.num, .int q.den]) else PyData.eqv (.tuple [.int p.num, .int p.den]) (.tuple [.int q.num, .int q.den])) A B := by
  rw [if_neg Bool.false_ne_true, qD_eqv, decide_eq_true h]
  exact br_t k
theorem Br.neQ {p q : Rat} {A B : Prop} (h : p = q) (k : B) : Br (if true = true then !PyData.eqv (.tuple [.int p.num, .int p.den]) (.tuple [.int q.num, .int q.den]) else PyData.eqv (.tuple [.int p.num, .int p.den]) (.tuple [.int q.num, .int q.den])) A B := by
  rw [if_pos rfl, qD_eqv, decide_eq_true h]
  exact br_f k
theorem eqQ_if {p q : Rat} : (if false = true then !PyData.eqv (.tuple [.int p.num, .int p.den]) (.tuple [.int q.num, .int q.den]) else PyData.eqv (.tuple [.int p.num, .int p.den]) (.tuple [.int q.num, .int q.den])) = decide (p = q) := by
  rw [if_neg Bool.false_ne_true, qD_eqv]
theorem neQ_if {p q : Rat} : (if true = true then !PyData.eqv (.tuple [.int p.num, .int p.den]) (.tuple [.int q.num, .int q.den]) else PyData.eqv (.tuple [.int p.num, .int p.den]) (.tuple [.int q.num, .int q.den])) = !decide (p = q) := by
  rw [if_pos rfl, qD_eqv]
end R3

namespace R3
open PySem PySem.Spec PyProof.Rows L2
local macro_rules | `(tactic| walk_at "draw") => `(tactic| refine ⟨_, _, _, _, rfl, (by first | assumption | exact put_same), (by assumption), (by omega), (by decide), (small (n := 250) (by decide) (by decide)).mono (by decide), ?_⟩)
/-- under: slots 0 one 1 other -/
def w_under : TS3 :=
 wRet (w2 fLt (w2 fMul (w2 fIx (wV 0) (wC (.int 0))) (w2 fIx (wV 1) (wC (.int 1)))) (w2 fMul (w2 fIx (wV 1) (wC (.int 0))) (w2 fIx (wV 0) (wC (.int 1)))))
def sp_under : Sp3 := fun ds S R _ => ∃ (p q : Rat) (n : Nat), ds = [qD p, qD q] ∧ QB n p ∧ QB n q ∧ n ≤ 4400 ∧ R (.bl (decide (p < q))) S
theorem lt_as {p q : Rat} : decide (p.num * q.den < q.num * p.den) = decide (p < q) := by
  rw [Bool.eq_iff_iff, decide_eq_true_iff, decide_eq_true_iff]
  exact (Rat.lt_iff _ _).symm
theorem vc_under : ∀ ds S R G, sp_under ds S R G → w_under (endsOf R G) (start3 ["one", "other"] ds) S := by
  rintro ds S R G ⟨p, q, n, rfl, hp, hq, hn, h⟩
  refine ⟨_, rfl, _, rfl, mulOk hp.1 hq.2 (by omega), _, rfl, _, rfl, mulOk hq.1 hp.2 (by omega), S, Le.refl _, ?_⟩
  rw [lt_as]
  exact h
/-- over: slots 0 one 1 other -/
def w_over : TS3 :=
 wRet (wCall sp_fraction [w2 fMul (w2 fIx (wV 0) (wC (.int 0))) (w2 fIx (wV 1) (wC (.int 1))), w2 fMul (w2 fIx (wV 0) (wC (.int 1))) (w2 fIx (wV 1) (wC (.int 0)))])
def sp_over : Sp3 := fun ds S R G => ∃ (p q : Rat) (n : Nat), ds = [qD p, qD q] ∧ QB n p ∧ QB n q ∧ n ≤ 4400 ∧ (q = 0 → G .number S) ∧ (q ≠ 0 → R (qD (p / q)) S)
theorem vc_over : ∀ ds S R G, sp_over ds S R G → w_over (endsOf R G) (start3 ["one", "other"] ds) S := by
  rintro ds S R G ⟨p, q, n, rfl, hp, hq, hn, hx, h⟩
  refine ⟨_, rfl, _, rfl, mulOk hp.1 hq.2 (by omega), _, rfl, _, rfl, mulOk hp.2 hq.1 (by omega), _, _, rfl, fun e => ⟨S, Le.refl _, hx ?_⟩, fun e => ⟨(hp.2.mul hq.1).mono (by omega), S, Le.refl _, ?_⟩⟩
  · rcases Int.mul_eq_zero.mp e with e | e
    · exact absurd e (den_ne p)
    · exact Rat.num_eq_zero.mp e
  · rw [div_as]
    exact h fun z => e (by rw [z]; exact Int.mul_zero _)
end R3

/-! data as a whole -/
namespace R3
open PySem PySem.Spec PyProof.Rows L2

/-- data of that depth at most, that may be compared -/
def OkAt (n : Nat) (p : PyData) : Prop := p.canLay0 = true ∧ p.depth ≤ n
theorem OkAt.ok {n : Nat} {p : PyData} (h : OkAt n p) (l : n ≤ 64 := by decide) : okP p := by
  unfold okP SeqAt.shaped
  rw [h.1, Bool.true_and]
  exact decide_eq_true (Nat.le_trans h.2 l)
theorem OkAt.mono {n m : Nat} {p : PyData} (h : OkAt n p) (l : n ≤ m) : OkAt m p := ⟨h.1, Nat.le_trans h.2 l⟩
theorem OkAt.non {n : Nat} : OkAt n .none := ⟨rfl, Nat.zero_le _⟩
theorem OkAt.bl {n : Nat} {b : Bool} : OkAt n (.bool b) := ⟨rfl, Nat.zero_le _⟩
theorem OkAt.int {n : Nat} {i : Int} : OkAt n (.int i) := ⟨rfl, Nat.zero_le _⟩
theorem OkAt.str {n : Nat} {x : Str} (h : PyData.strOk x = true) : OkAt n (.str x) := ⟨by unfold PyData.canLay0; exact h, Nat.zero_le _⟩
theorem canAll {ps : List PyData} (h : ∀ p ∈ ps, p.canLay0 = true) : PyData.canLayAll0 ps = true := by
  induction ps with
  | nil => rfl
  | cons p ps ih =>
    unfold PyData.canLayAll0
    rw [h p List.mem_cons_self, ih fun q hq => h q (List.mem_cons_of_mem _ hq)]
    rfl
theorem depAll {n : Nat} {ps : List PyData} (h : ∀ p ∈ ps, p.depth ≤ n) : PyData.depthAll ps ≤ n := by
  induction ps with
  | nil => exact Nat.zero_le _
  | cons p ps ih =>
    unfold PyData.depthAll
    exact Nat.max_le.mpr ⟨h p List.mem_cons_self, ih fun q hq => h q (List.mem_cons_of_mem _ hq)⟩
theorem OkAt.list {n : Nat} {ps : List PyData} (h : ∀ p ∈ ps, OkAt n p) : OkAt (n + 1) (.list ps) := ⟨by unfold PyData.canLay0; exact canAll fun p hp => (h p hp).1, by unfold PyData.depth; exact Nat.succ_le_succ (depAll fun p hp => (h p hp).2)⟩
theorem OkAt.tup {n : Nat} {ps : List PyData} (h : ∀ p ∈ ps, OkAt n p) : OkAt (n + 1) (.tuple ps) := ⟨by unfold PyData.canLay0; exact canAll fun p hp => (h p hp).1, by unfold PyData.depth; exact Nat.succ_le_succ (depAll fun p hp => (h p hp).2)⟩
/-- data are like themselves -/
theorem eqv_self : ∀ {p : PyData}, p.canLay0 = true → PyData.eqv p p = true
  | .none, _ => by unfold PyData.eqv; rfl
  | .bool b, _ => by unfold PyData.eqv; exact beq_self_eq_true b
  | .int i, _ => by unfold PyData.eqv; exact beq_self_eq_true i
  | .str x, _ => by unfold PyData.eqv; exact beq_self_eq_true x
  | .list ps, h => by unfold PyData.eqv; exact eqvAll_self (by unfold PyData.canLay0 at h; exact h)
  | .tuple ps, h => by unfold PyData.eqv; exact eqvAll_self (by unfold PyData.canLay0 at h; exact h)
  | .dict _, h => by unfold PyData.canLay0 at h; cases h
where eqvAll_self : ∀ {ps : List PyData}, PyData.canLayAll0 ps = true → PyData.eqvAll ps ps = true
  | [], _ => by unfold PyData.eqvAll; rfl
  | p :: ps, h => by
    unfold PyData.canLayAll0 at h
    rw [Bool.and_eq_true] at h
    unfold PyData.eqvAll
    rw [eqv_self h.1, eqvAll_self h.2]
    rfl
theorem eqvAll_map {α : Type} [DecidableEq α] {f : α → PyData} (h : ∀ a b, PyData.eqv (f a) (f b) = decide (a = b)) : ∀ {xs ys : List α}, PyData.eqvAll (xs.map f) (ys.map f) = decide (xs = ys)
  | [], [] => by unfold PyData.eqvAll; rfl
  | [], _ :: _ => by rw [List.map_nil, List.map_cons]; unfold PyData.eqvAll; rfl
  | _ :: _, [] => by rw [List.map_nil, List.map_cons]; unfold PyData.eqvAll; rfl
  | a :: xs, b :: ys => by
    rw [List.map_cons, List.map_cons]
    unfold PyData.eqvAll
    rw [h, eqvAll_map h, Bool.eq_iff_iff, Bool.and_eq_true, decide_eq_true_iff, decide_eq_true_iff, decide_eq_true_iff, List.cons.injEq]
theorem eqv_str {x y : Str} : PyData.eqv (.str x) (.str y) = decide (x = y) := by
  unfold PyData.eqv
  rw [Bool.eq_iff_iff, beq_iff_eq, decide_eq_true_iff]
theorem eqv_int {x y : Int} : PyData.eqv (.int x) (.int y) = decide (x = y) := by
  unfold PyData.eqv
  rw [Bool.eq_iff_iff, beq_iff_eq, decide_eq_true_iff]
/-- snapshots of lists and tuples -/
theorem SnL.map {α : Type} {S : Sto} {f : α → D} {g : α → PyData} (h : ∀ a, Sn S (f a) (g a)) : ∀ xs : List α, SnL S (xs.map f) (xs.map g)
  | [] => .nil
  | x :: xs => .cons (h x) (SnL.map h xs)
theorem SnL.all {S : Sto} : ∀ {ds : List D} (g : D → PyData), (∀ d ∈ ds, Sn S d (g d)) → SnL S ds (ds.map g)
  | [], _, _ => .nil
  | d :: ds, g, h => .cons (h d List.mem_cons_self) (SnL.all g fun e he => h e (List.mem_cons_of_mem _ he))
theorem Sn.its {S : Sto} {d : D} {l : List D} {ps : List PyData} (h : Its S d l) (r : SnL S l ps) : Sn S d (.list ps) ∨ Sn S d (.tuple ps) := by
  cases d with
  | ref a => exact .inl (.lst h r)
  | fl m => cases (show m = l from h); exact .inl (.fl r)
  | tup m => cases (show m = l from h); exact .inr (.tup r)
  | _ => exact h.elim
end R3

/-! yards in plain terms: lines between unlike stretches -/
namespace R3

section
variable {α β : Type} [DecidableEq β]
/-- lines with the label behind each; a line between like labels goes -/
def keep (p : β) : List (α × β) → List (α × β)
  | [] => []
  | (x, l) :: r => if l = p then keep p r else (x, l) :: keep l r
/-- no line between like labels -/
def TidyL (p : β) : List (α × β) → Prop
  | [] => True
  | (_, l) :: r => l ≠ p ∧ TidyL l r
theorem keep_tidy : ∀ (ps : List (α × β)) (p : β), TidyL p (keep p ps)
  | [], _ => trivial
  | (x, l) :: r, p => by
    unfold keep
    by_cases h : l = p
    · rw [if_pos h]; exact keep_tidy r p
    · rw [if_neg h]; exact ⟨h, keep_tidy r l⟩
theorem keep_of_tidy : ∀ {ps : List (α × β)} {p : β}, TidyL p ps → keep p ps = ps
  | [], _, _ => rfl
  | (x, l) :: r, p, h => by
    unfold keep
    rw [if_neg h.1, keep_of_tidy h.2]
theorem keep_sub : ∀ (ps : List (α × β)) (p : β), (keep p ps).Sublist ps
  | [], _ => .slnil
  | (x, l) :: r, p => by
    unfold keep
    by_cases h : l = p
    · rw [if_pos h]; exact (keep_sub r p).cons _
    · rw [if_neg h]; exact (keep_sub r l).cons_cons _
theorem keep_mem : ∀ (ps : List (α × β)) (p : β) (q : α × β), q ∈ ps → q.2 = p ∨ q.2 ∈ (keep p ps).map (·.2)
  | (x, l) :: r, p, q, h => by
    unfold keep
    by_cases e : l = p
    · rw [if_pos e]
      rcases List.mem_cons.mp h with rfl | h
      · exact .inl e
      · exact keep_mem r p q h
    · rw [if_neg e, List.map_cons]
      rcases List.mem_cons.mp h with rfl | h
      · exact .inr List.mem_cons_self
      · rcases keep_mem r l q h with z | z
        · rw [z]; exact .inr List.mem_cons_self
        · exact .inr (List.mem_cons_of_mem _ z)
/-- the label at the end -/
def endL (p : β) : List (α × β) → β
  | [] => p
  | (_, l) :: r => endL l r
theorem keep_end : ∀ (ps : List (α × β)) (p : β), endL p (keep p ps) = endL p ps
  | [], _ => rfl
  | (x, l) :: r, p => by
    unfold keep
    by_cases e : l = p
    · rw [if_pos e, keep_end r p]; subst e; rfl
    · rw [if_neg e]; exact keep_end r l
theorem endL_zip : ∀ {xs : List α} {ls : List β} {p b : β}, xs.length = ls.length + 1 → endL p (xs.zip (ls ++ [b])) = b
  | [x], [], _, _, _ => rfl
  | _ :: _ :: _, [], _, _, h => by simp at h
  | x :: xs, l :: ls, p, b, h => by
    show endL l (xs.zip (ls ++ [b])) = b
    exact endL_zip (by simpa using h)
theorem zip_back : ∀ {r : List (α × β)} {p b : β}, endL p r = b → r = (r.map (·.1)).zip ((r.map (·.2)).dropLast ++ [b])
  | [], _, _, _ => rfl
  | [(x, l)], p, b, h => by
    cases (show l = b from h)
    rfl
  | (x, l) :: (y, m) :: r, p, b, h => by
    have ih := zip_back (r := (y, m) :: r) (p := l) (b := b) h
    show (x, l) :: (y, m) :: r = (x, l) :: _
    congr 1
/-- what is kept of lines and the labels between them -/
def tidy (xs : List α) (ls : List β) (b : β) : List α × List β := ((keep b (xs.zip (ls ++ [b]))).map (·.1), ((keep b (xs.zip (ls ++ [b]))).map (·.2)).dropLast)
theorem tidy_zip {xs : List α} {ls : List β} {b : β} (h : xs.length = ls.length + 1 ∨ xs = []) : (tidy xs ls b).1.zip ((tidy xs ls b).2 ++ [b]) = keep b (xs.zip (ls ++ [b])) := by
  have e : endL b (keep b (xs.zip (ls ++ [b]))) = b := by
    rw [keep_end]
    rcases h with h | h
    · exact endL_zip h
    · subst h; rfl
  exact (zip_back e).symm
theorem tidy_idem {xs : List α} {ls : List β} {b : β} (h : xs.length = ls.length + 1 ∨ xs = []) : tidy (tidy xs ls b).1 (tidy xs ls b).2 b = tidy xs ls b := by
  have e := tidy_zip (b := b) h
  have e2 := keep_of_tidy (keep_tidy (xs.zip (ls ++ [b])) b)
  show ((keep b ((tidy xs ls b).1.zip ((tidy xs ls b).2 ++ [b]))).map (·.1), ((keep b ((tidy xs ls b).1.zip ((tidy xs ls b).2 ++ [b]))).map (·.2)).dropLast) = _
  rw [e, e2]
  rfl
theorem tidy_len {xs : List α} {ls : List β} {b : β} : (tidy xs ls b).2.length = (tidy xs ls b).1.length - 1 := by
  unfold tidy
  rw [List.length_dropLast, List.length_map, List.length_map]
theorem zip_fst_sub {α β : Type} : ∀ (xs : List α) (ys : List β), ((xs.zip ys).map (·.1)).Sublist xs
  | [], _ => by simp
  | _ :: _, [] => by simp
  | x :: xs, y :: ys => by
    rw [List.zip_cons_cons, List.map_cons]
    exact (zip_fst_sub xs ys).cons_cons _
theorem tidy_subX {xs : List α} {ls : List β} {b : β} : (tidy xs ls b).1.Sublist xs := by
  have h := (keep_sub (xs.zip (ls ++ [b])) b).map (·.1)
  exact h.trans (zip_fst_sub _ _)
theorem tidy_subL {xs : List α} {ls : List β} {b : β} (h : xs.length ≤ ls.length + 1) {l : β} (hl : l ∈ (tidy xs ls b).2) : l ∈ ls ∨ l = b := by
  have h2 := (List.dropLast_sublist _).mem hl
  obtain ⟨q, hq, rfl⟩ := List.mem_map.mp h2
  have := (keep_sub _ _).mem hq
  have := List.of_mem_zip (a := q.1) (b := q.2) this
  rcases List.mem_append.mp this.2 with z | z
  · exact .inl z
  · exact .inr (by simpa using z)
theorem mem_dropLast_ne {l : List β} {x : β} (h : x ∈ l) (hn : l.getLast? ≠ some x) : x ∈ l.dropLast := by
  rcases List.eq_nil_or_concat l with rfl | ⟨m, y, rfl⟩
  · cases h
  · rw [List.concat_eq_append] at *
    rw [List.dropLast_concat]
    rw [List.getLast?_concat] at hn
    rcases List.mem_append.mp h with z | z
    · exact z
    · simp at z; subst z; exact absurd rfl hn
theorem endL_last : ∀ {r : List (α × β)} {p : β}, r ≠ [] → (r.map (·.2)).getLast? = some (endL p r)
  | [(x, l)], p, _ => rfl
  | (x, l) :: (y, m) :: r, p, _ => by
    have := endL_last (r := (y, m) :: r) (p := l) (by simp)
    simpa [endL] using this
/-- each label but the outer one is still there -/
theorem tidy_has {xs : List α} {ls : List β} {b : β} (h : xs.length = ls.length + 1) {l : β} (hl : l ∈ ls) (hb : l ≠ b) : l ∈ (tidy xs ls b).2 := by
  obtain ⟨i, hi, e⟩ := List.mem_iff_getElem.mp hl
  have hix : i < xs.length := by omega
  have hz : (xs[i], l) ∈ xs.zip (ls ++ [b]) := by
    rw [List.mem_iff_getElem]
    refine ⟨i, by rw [List.length_zip, List.length_append]; simp; omega, ?_⟩
    rw [List.getElem_zip, List.getElem_append_left hi, e]
  have hk : l ∈ (keep b (xs.zip (ls ++ [b]))).map (·.2) := by
    rcases keep_mem _ b _ hz with z | z
    · exact absurd z hb
    · exact z
  refine mem_dropLast_ne hk ?_
  have hne : keep b (xs.zip (ls ++ [b])) ≠ [] := fun e => by rw [e] at hk; cases hk
  rw [endL_last (p := b) hne, keep_end, endL_zip h]
  intro e
  exact hb (Option.some.inj e).symm
/-- neighbours are unlike, the first and the last not the outer one -/
theorem tidyL_get : ∀ {ps : List (α × β)} {p : β} (_ : TidyL p ps) (i : Nat) (h : i < ps.length), ps[i].2 ≠ (p :: ps.map (·.2))[i]'(by rw [List.length_cons, List.length_map]; omega)
  | (x, l) :: r, p, h, 0, _ => h.1
  | (x, l) :: r, p, h, i + 1, hi => by
    have := tidyL_get h.2 i (by simpa using hi)
    simpa using this
theorem tidy_lt {xs : List α} {ls : List β} {b : β} {i : Nat} (h : i < (tidy xs ls b).2.length) : i + 1 < (keep b (xs.zip (ls ++ [b]))).length := by
  unfold tidy at h
  rw [List.length_dropLast, List.length_map] at h
  omega
theorem tidy_get {xs : List α} {ls : List β} {b : β} {i : Nat} (h : i < (tidy xs ls b).2.length) : (tidy xs ls b).2[i] = ((keep b (xs.zip (ls ++ [b])))[i]'(by have := tidy_lt h; omega)).2 := by
  have h2 : i < ((keep b (xs.zip (ls ++ [b]))).map (·.2)).dropLast.length := h
  exact (show ((keep b (xs.zip (ls ++ [b]))).map (·.2)).dropLast[i] = _ by rw [List.getElem_dropLast, List.getElem_map])
theorem tidy_next {xs : List α} {ls : List β} {b : β} (i : Nat) (h : i + 1 < (tidy xs ls b).2.length) : (tidy xs ls b).2[i]'(by omega) ≠ (tidy xs ls b).2[i + 1] := by
  rw [tidy_get (Nat.lt_of_succ_lt h), tidy_get h]
  have := tidyL_get (keep_tidy (xs.zip (ls ++ [b])) b) (i + 1) (by have := tidy_lt h; omega)
  simpa using this.symm
theorem tidy_first {xs : List α} {ls : List β} {b : β} (h : 0 < (tidy xs ls b).2.length) : (tidy xs ls b).2[0] ≠ b := by
  rw [tidy_get h]
  have := tidyL_get (keep_tidy (xs.zip (ls ++ [b])) b) 0 (by have := tidy_lt h; omega)
  simpa using this
theorem tidy_last {xs : List α} {ls : List β} {b : β} (hx : xs.length = ls.length + 1 ∨ xs = []) (h : 0 < (tidy xs ls b).2.length) : (tidy xs ls b).2[(tidy xs ls b).2.length - 1]'(by omega) ≠ b := by
  rw [tidy_get]
  have e : endL b (keep b (xs.zip (ls ++ [b]))) = b := by
    rw [keep_end]
    rcases hx with h | h
    · exact endL_zip h
    · subst h; rfl
  have hh : (tidy xs ls b).2.length = (keep b (xs.zip (ls ++ [b]))).length - 1 := by
    unfold tidy
    rw [List.length_dropLast, List.length_map]
  obtain ⟨k, hk⟩ : ∃ k, (tidy xs ls b).2.length = k + 1 := ⟨_, (Nat.succ_pred_eq_of_pos h).symm⟩
  have hl : k + 1 < (keep b (xs.zip (ls ++ [b]))).length := by omega
  have t := tidyL_get (keep_tidy (xs.zip (ls ++ [b])) b) (k + 1) hl
  have hne : keep b (xs.zip (ls ++ [b])) ≠ [] := fun z => by rw [z] at hl; simp at hl
  have q := endL_last (p := b) hne
  rw [e, List.getLast?_eq_getElem?, List.length_map, show (keep b (xs.zip (ls ++ [b]))).length - 1 = k + 1 by omega, List.getElem?_map, List.getElem?_eq_getElem hl] at q
  have q2 : (keep b (xs.zip (ls ++ [b])))[k + 1].2 = b := Option.some.inj q
  rw [q2] at t
  simp only [hk, Nat.add_sub_cancel]
  simpa using t.symm
end
end R3

/-! yards in plain terms: rows and columns -/
namespace R3
abbrev Row := List Bool
def columns (n : Nat) (rows : List Row) : List Row := (List.range n).map fun k => rows.map fun r => r.getD k false
def blankRow (n : Nat) : Row := List.replicate n false
abbrev Yd (α : Type) := List α × List α × List Row
def ofRows {α : Type} (xs ys : List α) (rows : List Row) : Yd α :=
  if (tidy ys rows (blankRow (xs.length - 1))).2 = [] then ([], [], []) else
  ((tidy xs (columns (xs.length - 1) (tidy ys rows (blankRow (xs.length - 1))).2) (blankRow (tidy ys rows (blankRow (xs.length - 1))).2.length)).1, (tidy ys rows (blankRow (xs.length - 1))).1,
    columns (tidy ys rows (blankRow (xs.length - 1))).2.length (tidy xs (columns (xs.length - 1) (tidy ys rows (blankRow (xs.length - 1))).2) (blankRow (tidy ys rows (blankRow (xs.length - 1))).2.length)).2)
/-- rows that go with lines -/
structure Grid {α : Type} (xs ys : List α) (rows : List Row) : Prop where
  high : ys.length = rows.length + 1 ∨ ys = [] ∧ rows = []
  wide : ∀ r ∈ rows, r.length = xs.length - 1
theorem columns_len {n : Nat} {rows : List Row} : (columns n rows).length = n := by unfold columns; simp
theorem columns_get {n : Nat} {rows : List Row} {k : Nat} (h : k < (columns n rows).length) : (columns n rows)[k] = rows.map fun r => r.getD k false := by
  unfold columns
  simp
theorem columns_mem {n : Nat} {rows : List Row} {c : Row} (h : c ∈ columns n rows) : ∃ k, k < n ∧ c = rows.map fun r => r.getD k false := by
  unfold columns at h
  obtain ⟨k, hk, rfl⟩ := List.mem_map.mp h
  exact ⟨k, List.mem_range.mp hk, rfl⟩
theorem getD_map {rows : List Row} {k i : Nat} (hi : i < rows.length) : (rows.map fun r => r.getD k false).getD i false = rows[i].getD k false := by
  rw [List.getD_eq_getElem?_getD, List.getElem?_map, List.getElem?_eq_getElem hi]
  rfl
theorem columns_twice {n : Nat} {cols : List Row} (h : ∀ c ∈ cols, c.length = n) : columns cols.length (columns n cols) = cols := by
  apply List.ext_getElem
  · rw [columns_len]
  · intro i h1 h2
    rw [columns_get]
    apply List.ext_getElem
    · rw [List.length_map, columns_len, h _ (List.getElem_mem h2)]
    · intro j h3 h4
      rw [List.getElem_map, columns_get, getD_map h2, List.getD_eq_getElem?_getD, List.getElem?_eq_getElem h4]
      rfl
/-- of unlike rows some column tells -/
theorem row_apart {a b : Row} {n : Nat} (ha : a.length = n) (hb : b.length = n) (h : a ≠ b) : ∃ k, k < n ∧ a.getD k false ≠ b.getD k false := by
  apply Classical.byContradiction
  intro c
  apply h
  apply List.ext_getElem (by omega)
  intro i h1 h2
  apply Classical.byContradiction
  intro e
  apply c
  refine ⟨i, by omega, ?_⟩
  rw [List.getD_eq_getElem?_getD, List.getD_eq_getElem?_getD, List.getElem?_eq_getElem h1, List.getElem?_eq_getElem h2]
  exact e
theorem blank_getD {n k : Nat} : (blankRow n).getD k false = false := by
  unfold blankRow
  rw [List.getD_eq_getElem?_getD, List.getElem?_replicate]
  split <;> rfl
theorem tidyL_of {α β : Type} [DecidableEq β] : ∀ {ps : List (α × β)} {p : β}, (∀ (i : Nat) (h : i < ps.length), ps[i].2 ≠ (p :: ps.map (·.2))[i]'(by rw [List.length_cons, List.length_map]; omega)) → TidyL p ps
  | [], _, _ => trivial
  | (x, l) :: r, p, h => ⟨h 0 (by simp), tidyL_of fun i hi => h (i + 1) (by simpa using hi)⟩
/-- labels that are tidy already -/
structure Neat {β : Type} (b : β) (ls : List β) : Prop where
  some : 0 < ls.length
  first : ls[0] ≠ b
  next : ∀ i (h : i + 1 < ls.length), ls[i]'(by omega) ≠ ls[i + 1]
  last : ls[ls.length - 1]'(by omega) ≠ b
theorem Neat.tidyL {α β : Type} [DecidableEq β] {b : β} {ls : List β} {xs : List α} (n : Neat b ls) (h : xs.length = ls.length + 1) : TidyL b (xs.zip (ls ++ [b])) := by
  have e : (xs.zip (ls ++ [b])).map (·.2) = ls ++ [b] := by
    rw [← List.unzip_snd, List.unzip_zip (by simp [h])]
  apply tidyL_of
  intro i hi
  have hlen : (xs.zip (ls ++ [b])).length = ls.length + 1 := by rw [List.length_zip, List.length_append, h]; simp
  rw [hlen] at hi
  have e1 : (xs.zip (ls ++ [b]))[i].2 = (ls ++ [b])[i]'(by simp; omega) := by rw [List.getElem_zip]
  rw [e1]
  simp only [e]
  match i, hi with
  | 0, _ =>
    simp only [List.getElem_cons_zero]
    rw [List.getElem_append_left n.some]
    exact n.first
  | i + 1, hi =>
    simp only [List.getElem_cons_succ]
    by_cases hl : i + 1 < ls.length
    · rw [List.getElem_append_left hl, List.getElem_append_left (by omega)]
      exact (n.next i hl).symm
    · have : i + 1 = ls.length := by omega
      rw [List.getElem_append_right (by omega), List.getElem_append_left (by omega)]
      simp only [List.getElem_singleton]
      have e2 : i = ls.length - 1 := by omega
      subst e2
      exact n.last.symm
theorem Neat.tidy {α β : Type} [DecidableEq β] {b : β} {ls : List β} {xs : List α} (n : Neat b ls) (h : xs.length = ls.length + 1) : R3.tidy xs ls b = (xs, ls) := by
  unfold R3.tidy
  rw [keep_of_tidy (n.tidyL h)]
  have e : (xs.zip (ls ++ [b])).map (·.2) = ls ++ [b] := by rw [← List.unzip_snd, List.unzip_zip (by simp [h])]
  have e2 : (xs.zip (ls ++ [b])).map (·.1) = xs := by rw [← List.unzip_fst, List.unzip_zip (by simp [h])]
  rw [e, e2, List.dropLast_concat]
theorem tidy_neat {α β : Type} [DecidableEq β] {b : β} {ls : List β} {xs : List α} (h : xs.length = ls.length + 1 ∨ xs = []) (hn : (R3.tidy xs ls b).2 ≠ []) : Neat b (R3.tidy xs ls b).2 := by
  have hp : 0 < (R3.tidy xs ls b).2.length := List.length_pos_iff.mpr hn
  exact ⟨hp, tidy_first hp, fun i hi => tidy_next i hi, tidy_last h hp⟩

section
variable {α : Type} {xs ys : List α} {rows : List Row}
theorem Grid.ysH (g : Grid xs ys rows) : ys.length = rows.length + 1 ∨ ys = [] := by
  rcases g.high with h | h
  · exact .inl h
  · exact .inr h.1
theorem Grid.rowsW (g : Grid xs ys rows) {r : Row} (h : r ∈ (tidy ys rows (blankRow (xs.length - 1))).2) : r.length = xs.length - 1 := by
  rcases tidy_subL (by rcases g.high with h | ⟨h, h2⟩ <;> simp [h]) h with z | z
  · exact g.wide r z
  · rw [z]; unfold blankRow; simp
theorem xsH (rows : List Row) : xs.length = (columns (xs.length - 1) rows).length + 1 ∨ xs = [] := by
  rw [columns_len]
  cases xs with
  | nil => exact .inr rfl
  | cons x r => exact .inl (by simp)
/-- a yard told by ofRows -/
theorem ofRows_cases (g : Grid xs ys rows) : ofRows xs ys rows = ([], [], []) ∨ ∃ (rs cols : List Row), rs = (tidy ys rows (blankRow (xs.length - 1))).2 ∧ cols = (tidy xs (columns (xs.length - 1) rs) (blankRow rs.length)).2 ∧
    Neat (blankRow (xs.length - 1)) rs ∧ Neat (blankRow rs.length) cols ∧ (∀ r ∈ rs, r.length = xs.length - 1) ∧ (∀ c ∈ cols, c.length = rs.length) ∧
    ofRows xs ys rows = ((tidy xs (columns (xs.length - 1) rs) (blankRow rs.length)).1, (tidy ys rows (blankRow (xs.length - 1))).1, columns rs.length cols) ∧ (∀ c ∈ columns (xs.length - 1) rs, c ≠ blankRow rs.length → c ∈ cols) := by
  unfold ofRows
  by_cases h : (tidy ys rows (blankRow (xs.length - 1))).2 = []
  · rw [if_pos h]; exact .inl rfl
  · rw [if_neg h]
    right
    have nr := tidy_neat g.ysH h
    generalize ht : (tidy ys rows (blankRow (xs.length - 1))).2 = rs at h nr ⊢
    have wr : ∀ r ∈ rs, r.length = xs.length - 1 := fun r hr => g.rowsW (by rw [ht]; exact hr)
    have xw : xs ≠ [] := by
      rintro rfl
      have := nr.first
      apply this
      have hp := nr.some
      have e := wr (rs[0]'hp) (List.getElem_mem hp)
      simp at e
      rw [e]
      rfl
    have hx : xs.length = (columns (xs.length - 1) rs).length + 1 := (xsH rs).resolve_right xw
    have has : ∀ c ∈ columns (xs.length - 1) rs, c ≠ blankRow rs.length → c ∈ (tidy xs (columns (xs.length - 1) rs) (blankRow rs.length)).2 := fun c hc hn => tidy_has hx hc hn
    have nc : (tidy xs (columns (xs.length - 1) rs) (blankRow rs.length)).2 ≠ [] := by
      obtain ⟨k, hk, e⟩ := row_apart (wr _ (List.getElem_mem nr.some)) (by unfold blankRow; simp) nr.first
      rw [blank_getD] at e
      intro z
      have hc : (rs.map fun r => r.getD k false) ∈ columns (xs.length - 1) rs := by
        unfold columns
        exact List.mem_map.mpr ⟨k, List.mem_range.mpr hk, rfl⟩
      have := has _ hc (fun q => e (by rw [← getD_map nr.some, q, blank_getD]))
      rw [z] at this
      cases this
    refine ⟨rs, _, rfl, rfl, nr, tidy_neat (xsH rs) nc, wr, fun c hc => ?_, rfl, has⟩
    rcases tidy_subL (Nat.le_of_eq hx) hc with z | z
    · obtain ⟨k, _, rfl⟩ := columns_mem z
      simp
    · rw [z]; unfold blankRow; simp
theorem neat_rows {rs cols : List Row} {n : Nat} (nr : Neat (blankRow n) rs) (wr : ∀ r ∈ rs, r.length = n) (has : ∀ c ∈ columns n rs, c ≠ blankRow rs.length → c ∈ cols) : Neat (blankRow cols.length) (columns rs.length cols) := by
  have hlen : (columns rs.length cols).length = rs.length := columns_len
  have apart : ∀ (i : Nat) (hi : i < rs.length) (b : Row) (f : Row → Bool), b.length = n → rs[i] ≠ b → (∀ k, f (rs.map fun r => r.getD k false) = b.getD k false) → f (blankRow rs.length) = false → ∃ c ∈ cols, c.getD i false ≠ f c := by
    intro i hi b f hb hne hf hf0
    obtain ⟨k, hk, e⟩ := row_apart (wr _ (List.getElem_mem hi)) hb hne
    rw [← hf k, ← getD_map hi] at e
    have hc : (rs.map fun r => r.getD k false) ∈ columns n rs := by
      unfold columns
      exact List.mem_map.mpr ⟨k, List.mem_range.mpr hk, rfl⟩
    refine ⟨_, has _ hc (fun z => e ?_), e⟩
    rw [z, blank_getD, hf0]
  have unlike : ∀ (i : Nat) (hi : i < rs.length) (r : Row), (∃ c ∈ cols, c.getD i false ≠ r.getD (cols.idxOf c) false) → (columns rs.length cols)[i]'(by rw [hlen]; exact hi) ≠ r := by
    rintro i hi r ⟨c, hc, e⟩ z
    apply e
    rw [← z, columns_get, getD_map (List.idxOf_lt_length_of_mem hc), List.getElem_idxOf (List.idxOf_lt_length_of_mem hc)]
  refine ⟨by rw [hlen]; exact nr.some, ?_, fun i h => ?_, ?_⟩
  · apply unlike 0 nr.some
    obtain ⟨c, hc, e⟩ := apart 0 nr.some (blankRow n) (fun _ => false) (by unfold blankRow; simp) nr.first (fun k => by rw [blank_getD]) rfl
    exact ⟨c, hc, by rw [blank_getD]; exact e⟩
  · rw [hlen] at h
    apply unlike i (by omega)
    obtain ⟨c, hc, e⟩ := apart i (by omega) rs[i + 1] (fun c => c.getD (i + 1) false) (wr _ (List.getElem_mem h)) (nr.next i h) (fun k => getD_map h) blank_getD
    refine ⟨c, hc, ?_⟩
    rw [columns_get, getD_map (List.idxOf_lt_length_of_mem hc), List.getElem_idxOf (List.idxOf_lt_length_of_mem hc)]
    exact e
  · simp only [hlen]
    apply unlike _ (by have := nr.some; omega)
    obtain ⟨c, hc, e⟩ := apart (rs.length - 1) (by have := nr.some; omega) (blankRow n) (fun _ => false) (by unfold blankRow; simp) nr.last (fun k => by rw [blank_getD]) rfl
    exact ⟨c, hc, by rw [blank_getD]; exact e⟩
/-- what is told is tidy -/
theorem ofRows_idem (g : Grid xs ys rows) : ofRows (ofRows xs ys rows).1 (ofRows xs ys rows).2.1 (ofRows xs ys rows).2.2 = ofRows xs ys rows := by
  rcases ofRows_cases g with h | ⟨rs, cols, e1, e2, nr, nc, wr, wc, h, has⟩
  · rw [h]; rfl
  · rw [h]
    have lx : (tidy xs (columns (xs.length - 1) rs) (blankRow rs.length)).1.length - 1 = cols.length := by rw [e2, tidy_len]
    have ly : (tidy ys rows (blankRow (xs.length - 1))).1.length = rs.length + 1 := by
      have := tidy_len (xs := ys) (ls := rows) (b := blankRow (xs.length - 1))
      rw [← e1] at this
      have := nr.some
      omega
    have n2 := neat_rows nr wr has
    have t1 := n2.tidy (xs := (tidy ys rows (blankRow (xs.length - 1))).1) (by rw [columns_len]; exact ly)
    have t2 : tidy (tidy xs (columns (xs.length - 1) rs) (blankRow rs.length)).1 cols (blankRow rs.length) = tidy xs (columns (xs.length - 1) rs) (blankRow rs.length) := by
      have := tidy_idem (xs := xs) (ls := columns (xs.length - 1) rs) (b := blankRow rs.length) (xsH rs)
      rw [← e2] at this
      exact this
    show ofRows (tidy xs (columns (xs.length - 1) rs) (blankRow rs.length)).1 (tidy ys rows (blankRow (xs.length - 1))).1 (columns rs.length cols) = _
    unfold ofRows
    simp only [lx]
    rw [t1]
    have ne : columns rs.length cols ≠ [] := fun z => by
      have := n2.some
      rw [z] at this
      simp at this
    rw [if_neg ne]
    simp only []
    rw [columns_twice wc, columns_len, t2, ← e2]
end

/-! ### lines renamed -/
theorem keep_map {α β γ : Type} [DecidableEq β] (f : α → γ) : ∀ (ps : List (α × β)) (p : β), keep p (ps.map fun q => (f q.1, q.2)) = (keep p ps).map fun q => (f q.1, q.2)
  | [], _ => rfl
  | (x, l) :: r, p => by
    have e : keep p ((x, l) :: r) = if l = p then keep p r else (x, l) :: keep l r := rfl
    have e2 : keep p (((x, l) :: r).map fun q => (f q.1, q.2)) = if l = p then keep p (r.map fun q => (f q.1, q.2)) else (f x, l) :: keep l (r.map fun q => (f q.1, q.2)) := rfl
    rw [e, e2]
    by_cases h : l = p
    · rw [if_pos h, if_pos h, keep_map f r p]
    · rw [if_neg h, if_neg h, keep_map f r l]; rfl
theorem tidy_map {α β γ : Type} [DecidableEq β] (f : α → γ) {xs : List α} {ls : List β} {b : β} : tidy (xs.map f) ls b = ((tidy xs ls b).1.map f, (tidy xs ls b).2) := by
  have e : (xs.map f).zip (ls ++ [b]) = (xs.zip (ls ++ [b])).map fun q => (f q.1, q.2) := by
    rw [List.zip_map_left]
    rfl
  unfold tidy
  rw [e, keep_map, List.map_map, List.map_map, List.map_map]
  rfl
theorem ofRows_map {α γ : Type} (f : α → γ) {xs ys : List α} {rows : List Row} : ofRows (xs.map f) (ys.map f) rows = ((ofRows xs ys rows).1.map f, (ofRows xs ys rows).2.1.map f, (ofRows xs ys rows).2.2) := by
  unfold ofRows
  simp only [tidy_map, List.length_map]
  by_cases h : (tidy ys rows (blankRow (xs.length - 1))).2 = []
  · rw [if_pos h, if_pos h]; rfl
  · rw [if_neg h, if_neg h]
theorem Grid.map {α γ : Type} (f : α → γ) {xs ys : List α} {rows : List Row} (g : Grid xs ys rows) : Grid (xs.map f) (ys.map f) rows := by
  refine ⟨?_, fun r hr => by rw [List.length_map]; exact g.wide r hr⟩
  rcases g.high with h | ⟨h, h2⟩
  · exact .inl (by rw [List.length_map]; exact h)
  · exact .inr ⟨by rw [h]; rfl, h2⟩
end R3

/-! yards: the code -/
namespace R3
open PySem PySem.Spec PyProof.Rows L2

/-! ### rows as texts -/
def sgn (b : Bool) : Nat := if b then 35 else 46
def rowS (r : Row) : Str := ⟨(r.map sgn).toArray⟩
def rowD (r : Row) : D := .str (rowS r)
theorem sgn_inj {a b : Bool} (h : sgn a = sgn b) : a = b := by
  cases a <;> cases b <;> first | rfl | (exact absurd h (by decide))
theorem map_sgn_inj : ∀ {r s : Row}, r.map sgn = s.map sgn → r = s
  | [], [], _ => rfl
  | [], _ :: _, h => by simp at h
  | _ :: _, [], h => by simp at h
  | a :: r, b :: s, h => by
    rw [List.map_cons, List.map_cons] at h
    injection h with h1 h2
    rw [sgn_inj h1, map_sgn_inj h2]
theorem rowS_inj {r s : Row} (h : rowS r = rowS s) : r = s := by
  unfold rowS at h
  injection h with h
  exact map_sgn_inj (by simpa using h)
theorem rowS_len {r : Row} : (rowS r).length = r.length := by
  unfold rowS Str.length
  simp
theorem its_le {S S' : Sto} {d : D} {l : List D} (le : Le S S') (h : Its S d l) : Its S' d l := by
  cases d with
  | ref a => exact le _ _ h
  | _ => exact h
theorem itA_v {i : Nat} {d : D} {l : List D} {Y : GX} {z : Sl} {S : Sto} {C : List D → (Sto → Prop) → Sto → Prop} (hi : Its S d l) (h : ∀ G : Sto → Prop, (∀ S', Le S S' → G S') → C l G S) (hz : at3 z i = some d := by rfl) : wItA (wV i) Y z S C := by
  unfold wItA wV
  rw [hz]
  cases d with
  | ref a => exact ⟨l, hi, h _ fun S' le => le _ _ hi⟩
  | fl m => cases (show m = l from hi); exact h _ fun _ _ => trivial
  | tup m => cases (show m = l from hi); exact h _ fun _ _ => trivial
  | _ => exact hi.elim
theorem len_its {d : D} {l : List D} {S : Sto} {R : PD} (hi : Its S d l) (h : R (.int l.length) S) : fLen [d] S R := by
  cases d with
  | ref a => exact ⟨l, hi, h⟩
  | fl m => cases (show m = l from hi); exact h
  | tup m => cases (show m = l from hi); exact h
  | _ => exact hi.elim
theorem ix_its {d : D} {l : List D} {i : Int} {x : D} {S : Sto} {R : PD} (hi : Its S d l) (hx : atI l i = some x) (h : R x S) : fIx d (.int i) S R := by
  cases d with
  | ref a => exact ⟨l, x, hi, hx, h⟩
  | fl m => cases (show m = l from hi); exact ⟨x, hx, h⟩
  | tup m => cases (show m = l from hi); exact ⟨x, hx, h⟩
  | _ => exact hi.elim
/-! ### texts of signs -/
def sgD (b : Bool) : D := .str ⟨#[sgn b]⟩
theorem atI_row {r : Row} {k : Nat} (h : k < r.length) : atI (rowS r).cps.toList (k : Int) = some (sgn (r.getD k false)) := by
  refine atI_nat ?_
  unfold rowS
  simp [List.getD_eq_getElem?_getD, h]
theorem ix_row {r : Row} {k : Nat} {S : Sto} {R : PD} (h : k < r.length) (hz : r.length ≤ 1000) (hR : R (sgD (r.getD k false)) S) : fIx (rowD r) (.int k) S R :=
  ⟨_, by rw [rowS_len, sizeLine_eq]; omega, atI_row h, hR⟩
theorem join_fold : ∀ (ys : List Str) (a : Array Nat), (ys.foldl (fun acc p => acc ++ (Str.ofString "").cps ++ p.cps) a).toList = a.toList ++ (ys.map fun y => y.cps.toList).flatten
  | [], a => by simp
  | y :: r, a => by
    rw [List.foldl_cons, join_fold r]
    have e : (Str.ofString "").cps = #[] := rfl
    rw [e]
    simp
theorem join_empty (ys : List Str) : (Txt.join "" ys).cps.toList = (ys.map fun y => y.cps.toList).flatten := by
  cases ys with
  | nil => rfl
  | cons y r =>
    show (r.foldl (fun acc p => acc ++ (Str.ofString "").cps ++ p.cps) y.cps).toList = _
    rw [join_fold, List.map_cons, List.flatten_cons]
theorem flat_signs : ∀ r : Row, ((r.map fun b => (⟨#[sgn b]⟩ : Str)).map fun y => y.cps.toList).flatten = r.map sgn
  | [] => rfl
  | b :: r => by
    rw [List.map_cons, List.map_cons, List.flatten_cons, flat_signs r]
    rfl
theorem join_signs (r : Row) : Txt.join "" (r.map fun b => (⟨#[sgn b]⟩ : Str)) = rowS r := by
  have e := join_empty (r.map fun b => (⟨#[sgn b]⟩ : Str))
  rw [flat_signs] at e
  unfold rowS
  rw [← e]
theorem signs_size (r : Row) : ((r.map fun b => (⟨#[sgn b]⟩ : Str)).map (·.length)).sum = r.length := by
  induction r with
  | nil => rfl
  | cons b r ih =>
    rw [List.map_cons, List.map_cons, List.sum_cons, ih, List.length_cons]
    show 1 + r.length = r.length + 1
    omega
/-- ''.join of signs -/
theorem join_row {d : D} {r : Row} {S : Sto} {R : PD} (hd : Its S d (r.map sgD)) (hz : r.length ≤ 1000) (hR : R (rowD r) S) : fJoin (.str "") [d] S R := by
  refine ⟨r.map fun b => ⟨#[sgn b]⟩, ?_, ?_, ?_⟩
  · rw [List.map_map]
    exact hd
  · rw [signs_size, List.length_map]
    show r.length + r.length * 0 ≤ 16777216
    omega
  · rw [join_signs]
    exact hR
theorem range_get {α β : Type} {l : List α} {d : α} (f : α → β) : (List.range l.length).map (fun i => f (l.getD i d)) = l.map f := by
  apply List.ext_getElem
  · simp
  · intro i h1 h2
    simp only [List.length_map] at h2
    simp [List.getD_eq_getElem?_getD, h2]
theorem mul_dot {n : Nat} (h : n ≤ 1000) : Txt.mul "." (n : Int) = rowS (blankRow n) := by
  unfold Txt.mul
  by_cases h0 : n = 0
  · subst h0
    rfl
  · rw [if_neg (by omega)]
    by_cases h1 : n = 1
    · subst h1
      rfl
    · rw [if_neg (by simp; exact ⟨by omega, by decide⟩)]
      unfold rowS blankRow
      congr 1
      have fold : ∀ (m : Nat) (a : Array Nat), (List.replicate m (Str.ofString ".").cps).foldl (· ++ ·) a = a ++ (List.replicate m 46).toArray := by
        intro m
        induction m with
        | zero => intro a; simp
        | succ m ih =>
          intro a
          rw [List.replicate_succ, List.foldl_cons, ih, List.replicate_succ]
          have e : (Str.ofString ".").cps = #[46] := rfl
          rw [e]
          apply Array.ext'
          simp
      rw [fold]
      simp [sgn]
/-- columns_of: slots 0 rows 1 many 2 k 3 row -/
def w_columns_of : TS3 :=
 wRet (wLc (wRng1 (wV 1)) (cN 2) (tt1) (wF (wMs fJoin (wC (.str "")) [wLc (wItA (wV 0)) (cN 3) (tt1) (w2 fIx (wV 3) (wV 2)) [3]])) [2])
def sp_columns_of : Sp3 := fun ds S R _ => ∃ (d : D) (rows : List Row) (n : Nat), ds = [d, .int n] ∧ Its S d (rows.map rowD) ∧ n ≤ 1000 ∧ rows.length ≤ 1000 ∧ (∀ r ∈ rows, n ≤ r.length ∧ r.length ≤ 1000) ∧ ∀ p, S p = none → R (.ref p) (put S p (.lst ((columns n rows).map rowD)))
theorem vc_columns_of : ∀ ds S R G, sp_columns_of ds S R G → w_columns_of (endsOf R G) (start3 ["rows", "many", "k", "row"] ds) S := by
  rintro ds S R G ⟨d, rows, n, rfl, hi, hn, hr, hw, h⟩
  refine ⟨⟨by omega, by omega⟩, ?_⟩
  refine lc_map (fun k => rowD (rows.map fun r => r.getD k false)) (by rw [rngD_len]; omega) trivial (fun k d' K Q hk hK => ?_) (fun p hp => ?_)
  · obtain ⟨rfl, hk⟩ := rng0 hk
    refine br_t ⟨⟨_, rfl⟩, ?_⟩
    simp only [wArgs, wLc]
    refine itA_v (i := 0) hi fun G hG => ?_
    refine lc_map (fun j => sgD ((rows.getD j []).getD k false)) (by rw [List.length_map]; omega) (hG S (Le.refl S)) (fun j d' K' Q' hj hK' => ?_) (fun p hp => ?_)
    · have hj2 : j < rows.length := by
        have := (List.getElem?_eq_some_iff.mp hj).1
        rwa [List.length_map] at this
      have e : d' = rowD rows[j] := by
        rw [List.getElem?_map, List.getElem?_eq_getElem hj2] at hj
        exact (Option.some.inj hj).symm
      subst e
      have hw2 := hw rows[j] (List.getElem_mem hj2)
      refine br_t (ix_row (by omega) hw2.2 ?_)
      have e2 : rows.getD j [] = rows[j] := by rw [List.getD_eq_getElem?_getD, List.getElem?_eq_getElem hj2]; rfl
      rw [← e2]
      exact hK' S (Le.refl S)
    · have e : ((List.range (rows.map rowD).length).map fun j => sgD ((rows.getD j []).getD k false)) = (rows.map fun r => r.getD k false).map sgD := by
        rw [List.length_map, range_get (l := rows) (d := []) (fun (r : Row) => sgD (r.getD k false)), List.map_map]
        rfl
      rw [e]
      exact join_row put_same (by rw [List.length_map]; exact hr) ⟨S, Le.put hp, hK S (Le.refl S)⟩
  · refine ⟨_, Le.refl _, ?_⟩
    have e : ((List.range (rngD 0 (n : Int).toNat).length).map fun k => rowD (rows.map fun r => r.getD k false)) = (columns n rows).map rowD := by
      rw [rngD_len]
      unfold columns
      rw [List.map_map]
      rfl
    rw [e]
    exact h p hp

/-! ### tidied -/
/-- the places of the lines that are kept -/
def ixs {β : Type} [DecidableEq β] (p : β) (n : Nat) (ms : List β) : List Nat := (List.range n).filter fun k => decide ((p :: ms)[k]? ≠ ms[k]?)
theorem ixs_keep {α β : Type} [DecidableEq β] : ∀ (xs : List α) (ms : List β) (p : β), xs.length ≤ ms.length → (ixs p xs.length ms).map (fun k => (xs[k]?, ms[k]?)) = (keep p (xs.zip ms)).map fun q => (some q.1, some q.2)
  | [], _, _, _ => rfl
  | x :: xs, [], _, h => by simp at h
  | x :: xs, m :: ms, p, h => by
    have ih := ixs_keep xs ms m (by simpa using h)
    have e : ixs p (x :: xs).length (m :: ms) = (if m = p then [] else [0]) ++ (ixs m xs.length ms).map Nat.succ := by
      unfold ixs
      rw [List.length_cons, List.range_succ_eq_map, List.filter_cons, List.filter_map]
      have e2 : ((fun k => decide ((p :: m :: ms)[k]? ≠ (m :: ms)[k]?)) ∘ Nat.succ) = fun k => decide ((m :: ms)[k]? ≠ ms[k]?) := by
        funext k
        simp
      rw [e2]
      by_cases hm : m = p
      · subst hm
        simp
      · have hm2 : ¬ p = m := fun z => hm z.symm
        simp [hm, hm2]
    rw [e, List.map_append, List.map_map]
    have e3 : ((fun k => ((x :: xs)[k]?, (m :: ms)[k]?)) ∘ Nat.succ) = fun k => (xs[k]?, ms[k]?) := by
      funext k
      simp
    have e4 : keep p ((x, m) :: xs.zip ms) = if m = p then keep p (xs.zip ms) else (x, m) :: keep m (xs.zip ms) := rfl
    rw [e3, ih, List.zip_cons_cons, e4]
    by_cases hm : m = p
    · subst hm
      simp
    · simp [hm]
theorem ixs_lt {β : Type} [DecidableEq β] {p : β} {n : Nat} {ms : List β} {k : Nat} (h : k ∈ ixs p n ms) : k < n := List.mem_range.mp (List.mem_filter.mp h).1
theorem ixs_fst {α β : Type} [DecidableEq β] (xs : List α) (ms : List β) (p : β) (d : α) (h : xs.length ≤ ms.length) : (ixs p xs.length ms).map (fun k => xs.getD k d) = (keep p (xs.zip ms)).map (·.1) := by
  have e := congrArg (List.map fun q : Option α × Option β => q.1.getD d) (ixs_keep xs ms p h)
  rw [List.map_map, List.map_map] at e
  simpa [Function.comp_def, List.getD_eq_getElem?_getD] using e
theorem ixs_snd {α β : Type} [DecidableEq β] (xs : List α) (ms : List β) (p : β) (d : β) (h : xs.length ≤ ms.length) : (ixs p xs.length ms).map (fun k => ms.getD k d) = (keep p (xs.zip ms)).map (·.2) := by
  have e := congrArg (List.map fun q : Option α × Option β => q.2.getD d) (ixs_keep xs ms p h)
  rw [List.map_map, List.map_map] at e
  simpa [Function.comp_def, List.getD_eq_getElem?_getD] using e
theorem filter_ne {p : Row} {ms : List Row} {n : Nat} : (List.range n).filter (fun k => decide (¬ (p :: ms)[k]? = ms[k]?)) = ixs p n ms := rfl
/-- tidied: slots 0 lines 1 stretches 2 blank 3 held 4 kept 5 k -/
def w_tidied : TS3 :=
 wSeq (wSet 3 (w2 fAdd (w2 fAdd (wLst [wV 2]) (wBf fList [wV 1])) (wLst [wV 2])))
 (wSeq (wSet 4 (wLc (wRng1 (wBf fLen [wV 0])) (cN 5) (wB (w2 fNe (w2 fIx (wV 3) (wV 5)) (w2 fIx (wV 3) (w2 fAdd (wV 5) (wC (.int 1)))))) (wV 5) [5]))
 (wRet (wTup [wLc (wItA (wV 4)) (cN 5) (tt1) (w2 fIx (wV 0) (wV 5)) [5], wLc (wItA (wSl (wV 4) none (some (wC (.int (-1)))))) (cN 5) (tt1) (w2 fIx (wV 3) (w2 fAdd (wV 5) (wC (.int 1)))) [5]])))
/-- lines and texts: what tidied tells of them -/
def sp_tidied : Sp3 := fun ds S R _ => ∃ (dl dr : D) (lines : List D) (rows : List Row) (blank : Row), ds = [dl, dr, rowD blank] ∧ Its S dl lines ∧ Its S dr (rows.map rowD) ∧ lines.length ≤ rows.length + 1 ∧ rows.length ≤ 1000 ∧
  ∀ p q, S p = none → put S p (.lst (tidy lines rows blank).1) q = none → R (.tup [.ref p, .ref q]) (put (put S p (.lst (tidy lines rows blank).1)) q (.lst ((tidy lines rows blank).2.map rowD)))
theorem rowD_eq {a b : Row} : decide (rowS a = rowS b) = decide (a = b) := by
  rw [Bool.eq_iff_iff, decide_eq_true_iff, decide_eq_true_iff]
  exact ⟨rowS_inj, fun h => by rw [h]⟩
theorem get_map {α β : Type} {l : List α} {i : Nat} {f : α → β} {d : β} (h : (l.map f)[i]? = some d) : ∃ a, l[i]? = some a ∧ d = f a := by
  rw [List.getElem?_map] at h
  cases e : l[i]? with
  | none => rw [e] at h; cases h
  | some a => rw [e] at h; exact ⟨a, rfl, (Option.some.inj h).symm⟩
theorem getD_of {α : Type} {l : List α} {i : Nat} {a d : α} (h : l[i]? = some a) : l.getD i d = a := by rw [List.getD_eq_getElem?_getD, h]; rfl
theorem cutD_init {l : List D} : cutD l none (some (-1)) = l.dropLast := by
  unfold cutD HT.sIx
  rw [List.dropLast_eq_take]
  simp only [if_pos (show (-1 : Int) < 0 by decide), List.drop_zero, Nat.sub_zero]
  congr 1
  omega
theorem vc_tidied : ∀ ds S R G, sp_tidied ds S R G → w_tidied (endsOf R G) (start3 ["lines", "stretches", "blank", "held", "kept", "k"] ds) S := by
  rintro ds S R G ⟨dl, dr, lines, rows, blank, rfl, hl, hr, hn, hm, h⟩
  intro t1 h1
  refine ⟨rows.map rowD, its_le (Le.put h1) hr, fun t2 h2 => ?_⟩
  have n21 : t2 ≠ t1 := fun e => by subst e; rw [put_same] at h2; cases h2
  refine ⟨[rowD blank], rows.map rowD, by rw [IsL, put_ne (Ne.symm n21)]; exact put_same, put_same, by rw [List.length_map, sizeLine_eq]; simp; omega, fun t3 h3 => ?_⟩
  intro t4 h4
  have n43 : t4 ≠ t3 := fun e => by subst e; rw [put_same] at h4; cases h4
  refine ⟨_, _, by rw [IsL, put_ne (Ne.symm n43)]; exact put_same, put_same, by rw [List.length_append, List.length_map, sizeLine_eq]; simp; omega, fun t5 h5 => ?_⟩
  have hheld : ([rowD blank] ++ rows.map rowD ++ [rowD blank] : List D) = (blank :: (rows ++ [blank])).map rowD := by simp
  have le5 : ∀ {S'}, Le (put (put (put (put (put S t1 (.lst [rowD blank])) t2 (.lst (rows.map rowD))) t3 (.lst ([rowD blank] ++ rows.map rowD))) t4 (.lst [rowD blank])) t5 (.lst ([rowD blank] ++ rows.map rowD ++ [rowD blank]))) S' → Le S S' :=
    fun k => Le.put' h1 (Le.put' h2 (Le.put' h3 (Le.put' h4 (Le.put' h5 k))))
  generalize hS5 : put (put (put (put (put S t1 (.lst [rowD blank])) t2 (.lst (rows.map rowD))) t3 (.lst ([rowD blank] ++ rows.map rowD))) t4 (.lst [rowD blank])) t5 (.lst ([rowD blank] ++ rows.map rowD ++ [rowD blank])) = S5 at le5
  have hh : IsL S5 t5 ((blank :: (rows ++ [blank])).map rowD) := by rw [← hheld, ← hS5]; exact put_same
  have hl5 : Its S5 dl lines := its_le (le5 (Le.refl _)) hl
  have hlen : lines.length ≤ (rows ++ [blank]).length := by rw [List.length_append]; simpa using hn
  -- the places
  simp only [wSeq, wSet, wLc, wRng1, wBf, wArgs, wV, at3, start3, List.map, List.append, List.set, List.length, List.replicate]
  refine len_its hl5 ?_
  refine ⟨⟨by omega, by omega⟩, ?_⟩
  refine lc_filter (fun k => decide ((blank :: (rows ++ [blank]))[k]? ≠ (rows ++ [blank])[k]?)) (fun k => .int (k : Int)) (by rw [rngD_len]; omega) trivial (fun k d K Q hk hT hF => ?_) (fun t6 h6 => ?_)
  · obtain ⟨rfl, hk⟩ := rng0 hk
    have hk' : k < lines.length := by omega
    have k1 : k < (blank :: (rows ++ [blank])).length := by simp; omega
    have k2 : k < (rows ++ [blank]).length := by omega
    have g1 : ((blank :: (rows ++ [blank])).map rowD)[k]? = some (rowD (blank :: (rows ++ [blank]))[k]) := by rw [List.getElem?_map, List.getElem?_eq_getElem k1]; rfl
    have g2 : ((blank :: (rows ++ [blank])).map rowD)[k + 1]? = some (rowD (rows ++ [blank])[k]) := by rw [List.getElem?_map, List.getElem?_cons_succ, List.getElem?_eq_getElem k2]; rfl
    rw [List.getElem?_eq_getElem k1, List.getElem?_eq_getElem k2] at hT hF
    refine ⟨_, _, hh, atI_nat g1, _, _, hh, atI_nat (j := k + 1) g2, ?_⟩
    refine br_decN (fun e => hT (decide_eq_true fun z => e (by rw [Option.some.inj z])) S5 (Le.refl _)) (fun e => hF (decide_eq_false fun z => z (by rw [rowS_inj e])) S5 (Le.refl _))
  · rw [rngD_len, Int.toNat_natCast]
    have eK : ((List.range lines.length).filter fun k => decide ((blank :: (rows ++ [blank]))[k]? ≠ (rows ++ [blank])[k]?)) = ixs blank lines.length (rows ++ [blank]) := rfl
    rw [eK]
    have hlt : ∀ k ∈ ixs blank lines.length (rows ++ [blank]), k < lines.length := fun k hk => ixs_lt hk
    have hx := ixs_fst lines (rows ++ [blank]) blank D.non hlen
    have hy := ixs_snd lines (rows ++ [blank]) blank ([] : Row) hlen
    have hsz : (ixs blank lines.length (rows ++ [blank])).length ≤ lines.length := by
      unfold ixs
      exact Nat.le_trans (List.length_filter_le _ _) (by rw [List.length_range]; exact Nat.le_refl _)
    generalize ixs blank lines.length (rows ++ [blank]) = ks at hlt hx hy hsz
    have le6 : Le S5 (put S5 t6 (.lst (ks.map fun (k : Nat) => .int (k : Int)))) := Le.put h6
    have hk6 : IsL (put S5 t6 (.lst (ks.map fun (k : Nat) => .int (k : Int)))) t6 (ks.map fun (k : Nat) => .int (k : Int)) := put_same
    generalize put S5 t6 (.lst (ks.map fun (k : Nat) => .int (k : Int))) = S6 at le6 hk6
    have hl6 : Its S6 dl lines := its_le le6 hl5
    have hh6 := le6 _ _ hh
    simp only [wRet, wTup, wLc, wItA, wSl, wPart, wArgs, wC, wV, at3, List.append, List.set]
    refine ⟨_, hk6, ?_⟩
    refine lc_map (fun i => lines.getD (ks.getD i 0) .non) (by rw [List.length_map]; omega) hk6 (fun i d K Q hi hK => ?_) (fun p hp => ?_)
    · obtain ⟨k, hk, rfl⟩ := get_map hi
      have hkl := hlt k (List.mem_of_getElem? hk)
      refine br_t ?_
      simp only [w2, wV, at3, cN, wipe3, List.set]
      refine ix_its hl6 (atI_nat (List.getElem?_eq_getElem hkl)) ?_
      have := hK S6 (Le.refl _)
      rw [getD_of hk, getD_of (List.getElem?_eq_getElem hkl)] at this
      exact this
    · rw [List.length_map, range_get (l := ks) (d := 0) (fun k => lines.getD k D.non), hx]
      have hk7 := (Le.put hp (o := .lst ((keep blank (lines.zip (rows ++ [blank]))).map (·.1)))) _ _ hk6
      have hh7 := (Le.put hp (o := .lst ((keep blank (lines.zip (rows ++ [blank]))).map (·.1)))) _ _ hh6
      refine ⟨_, hk7, fun p8 h8 => ⟨_, put_same, ?_⟩⟩
      rw [cutD_init, ← List.map_dropLast]
      refine lc_map (fun i => rowD ((rows ++ [blank]).getD (ks.dropLast.getD i 0) [])) (by rw [List.length_map, List.length_dropLast]; omega) put_same (fun i d K Q hi hK => ?_) (fun q hq => ?_)
      · obtain ⟨k, hk, rfl⟩ := get_map hi
        have hkl := hlt k ((List.dropLast_sublist _).mem (List.mem_of_getElem? hk))
        have k2 : k < (rows ++ [blank]).length := by omega
        have g2 : ((blank :: (rows ++ [blank])).map rowD)[k + 1]? = some (rowD (rows ++ [blank])[k]) := by rw [List.getElem?_map, List.getElem?_cons_succ, List.getElem?_eq_getElem k2]; rfl
        refine br_t ⟨_, _, Le.put h8 _ _ hh7, atI_nat (j := k + 1) g2, ?_⟩
        have := hK _ (Le.refl _)
        rw [getD_of hk, getD_of (List.getElem?_eq_getElem k2)] at this
        exact this
      · have ey : ((List.range (ks.dropLast.map fun (k : Nat) => D.int (k : Int)).length).map fun i => rowD ((rows ++ [blank]).getD (ks.dropLast.getD i 0) [])) = (tidy lines rows blank).2.map rowD := by
          rw [List.length_map, range_get (l := ks.dropLast) (d := 0) (fun k => rowD ((rows ++ [blank]).getD k []))]
          unfold tidy
          rw [← hy, ← List.map_dropLast, List.map_map]
          rfl
        rw [ey]
        have leS : Le S S6 := (le5 (Le.refl _)).trans le6
        refine ⟨_, ?_, h p q (leS.none hp) ?_⟩
        · exact Le.puts ((Le.puts leS).trans (Le.put h8))
        · exact (Le.puts leS).none ((Le.put h8).none hq)

/-! ### of_rows -/
abbrev k_VOID : D := .tup [.tup [], .tup [], .tup []]
def yardD (Y : Yd D) : D := .tup [.tup Y.1, .tup Y.2.1, .tup (Y.2.2.map rowD)]
theorem mul_dot1 {n : Nat} (h : n ≤ 1000) : Txt.mul "." ((n : Int) - 1) = rowS (blankRow (n - 1)) := by
  cases n with
  | zero => rfl
  | succ n =>
    rw [show ((n + 1 : Nat) : Int) - 1 = (n : Int) by omega, Nat.add_sub_cancel]
    exact mul_dot (by omega)
theorem row_ok {r : Row} : PyData.strOk (rowS r) = true := by
  unfold PyData.strOk rowS
  rw [Array.all_eq_true]
  intro i h
  simp at h
  have : (r.map sgn)[i]'(by simpa using h) < 1114112 := by
    rw [List.getElem_map]
    unfold sgn
    split <;> decide
  simpa using this
def rowP (r : Row) : PyData := .str (rowS r)
theorem Sn.row {S : Sto} {r : Row} : Sn S (rowD r) (rowP r) := .str _
theorem rowP_eqv {a b : Row} : PyData.eqv (rowP a) (rowP b) = decide (a = b) := by
  unfold rowP
  rw [eqv_str, rowD_eq]
theorem rows_ok {rs : List Row} : okP (.list (rs.map rowP)) := (OkAt.list (n := 0) fun p hp => by
  obtain ⟨r, _, rfl⟩ := List.mem_map.mp hp
  exact .str row_ok).ok
/-- of_rows: slots 0 xs 1 ys 2 rows 3 tidy_ys 4 tidy_rows 5 tidy_xs 6 columns -/
def w_of_rows : TS3 :=
 wSeq (wAsg (wCall sp_tidied [wV 1, wV 2, w2 fMul (wC (.str ".")) (w2 fSub (wBf fLen [wV 0]) (wC (.int 1)))]) (gTup3 2 (gCons3 (gN 3) (gCons3 (gN 4) (gNil3)))))
 (wSeq (wIfS (wB (w2 fEq (wV 4) (wLst [])))
 (wRet (wC k_VOID))
 (wNext))
 (wSeq (wAsg (wCall sp_tidied [wV 0, wCall sp_columns_of [wV 4, w2 fSub (wBf fLen [wV 0]) (wC (.int 1))], w2 fMul (wC (.str ".")) (wBf fLen [wV 4])]) (gTup3 2 (gCons3 (gN 5) (gCons3 (gN 6) (gNil3)))))
 (wRet (wTup [wBf fTuple [wV 5], wBf fTuple [wV 3], wBf fTuple [wCall sp_columns_of [wV 6, wBf fLen [wV 4]]]]))))
def sp_of_rows : Sp3 := fun ds S R _ => ∃ (dx dy dr : D) (xs ys : List D) (rows : List Row), ds = [dx, dy, dr] ∧ Its S dx xs ∧ Its S dy ys ∧ Its S dr (rows.map rowD) ∧ Grid xs ys rows ∧ xs.length ≤ 1000 ∧ rows.length ≤ 999 ∧ R (yardD (ofRows xs ys rows)) S
theorem Grid.le {α : Type} {xs ys : List α} {rows : List Row} (g : Grid xs ys rows) : ys.length ≤ rows.length + 1 := by
  rcases g.high with h | ⟨h, h2⟩ <;> simp [h]
theorem tidy_small {α β : Type} [DecidableEq β] {xs : List α} {ls : List β} {b : β} : (tidy xs ls b).2.length ≤ ls.length ∨ xs.length > ls.length + 1 := by
  by_cases h : xs.length ≤ ls.length + 1
  · left
    have e : (tidy xs ls b).2.length = (tidy xs ls b).1.length - 1 := tidy_len
    have := (tidy_subX (xs := xs) (ls := ls) (b := b)).length_le
    omega
  · right; omega
theorem vc_of_rows : ∀ ds S R G, sp_of_rows ds S R G → w_of_rows (endsOf R G) (start3 ["xs", "ys", "rows", "tidy_ys", "tidy_rows", "tidy_xs", "columns"] ds) S := by
  rintro ds S R G ⟨dx, dy, dr, xs, ys, rows, rfl, hx, hy, hr, g, hxl, hrl, h⟩
  simp only [w_of_rows, wSeq, wAsg, wCall, wArgs, w2, wBf, wC, wV, at3, start3, List.map, List.append, List.length, List.replicate]
  refine len_its hx ?_
  refine ⟨⟨by decide, by omega, by omega⟩, ?_⟩
  rw [mul_dot1 hxl]
  refine ⟨dy, dr, ys, rows, blankRow (xs.length - 1), rfl, hy, hr, g.le, by omega, fun p q hp hq => ?_⟩
  have ts := (tidy_small (xs := ys) (ls := rows) (b := blankRow (xs.length - 1))).resolve_right (by have := g.le; omega)
  have wr : ∀ r ∈ (tidy ys rows (blankRow (xs.length - 1))).2, r.length = xs.length - 1 := fun r hr => g.rowsW hr
  have cs := ofRows_cases g
  have hv : (tidy ys rows (blankRow (xs.length - 1))).2 = [] → ofRows xs ys rows = ([], [], []) := fun e => by unfold ofRows; rw [if_pos e]
  have he : (tidy ys rows (blankRow (xs.length - 1))).2 ≠ [] → ofRows xs ys rows = ((tidy xs (columns (xs.length - 1) (tidy ys rows (blankRow (xs.length - 1))).2) (blankRow (tidy ys rows (blankRow (xs.length - 1))).2.length)).1, (tidy ys rows (blankRow (xs.length - 1))).1,
    columns (tidy ys rows (blankRow (xs.length - 1))).2.length (tidy xs (columns (xs.length - 1) (tidy ys rows (blankRow (xs.length - 1))).2) (blankRow (tidy ys rows (blankRow (xs.length - 1))).2.length)).2) := fun e => by unfold ofRows; rw [if_neg e]
  have hw0 : xs = [] → (tidy ys rows (blankRow (xs.length - 1))).2 = [] := fun e => by
    subst e
    apply Classical.byContradiction
    intro c
    have n := (tidy_neat g.ysH c).first
    have hp := (tidy_neat g.ysH c).some
    apply n
    have e2 := wr _ (List.getElem_mem hp)
    exact List.eq_nil_of_length_eq_zero e2
  generalize ht : tidy ys rows (blankRow (xs.length - 1)) = t at *
  obtain ⟨t1, rs⟩ := t
  simp only at hv he hw0 wr ts hp hq ⊢
  refine ⟨rfl, ?_⟩
  have npq : q ≠ p := fun e => by subst e; rw [put_same] at hq; cases hq
  have h1q : IsL (put (put S p (.lst t1)) q (.lst (rs.map rowD))) q (rs.map rowD) := put_same
  have h1p : IsL (put (put S p (.lst t1)) q (.lst (rs.map rowD))) p t1 := by rw [IsL, put_ne (Ne.symm npq)]; exact put_same
  have le1 : Le S (put (put S p (.lst t1)) q (.lst (rs.map rowD))) := Le.put' hp (Le.put' hq (Le.refl _))
  generalize put (put S p (.lst t1)) q (.lst (rs.map rowD)) = S1 at h1q h1p le1
  intro t2 ht2
  have le2 : Le S1 (put S1 t2 (.lst [])) := Le.put ht2
  have h2 : IsL (put S1 t2 (.lst [])) t2 [] := put_same
  generalize put S1 t2 (.lst []) = S2 at le2 h2
  refine ⟨.list (rs.map rowP), .list [], .lst (le2 _ _ h1q) (SnL.map (fun _ => Sn.row) rs), .lst h2 .nil, rows_ok, rows_ok (rs := []), ?_⟩
  have eqE : (if false = true then !PyData.eqv (.list (rs.map rowP)) (.list []) else PyData.eqv (.list (rs.map rowP)) (.list [])) = decide (rs = []) := by
    rw [if_neg Bool.false_ne_true]
    unfold PyData.eqv
    exact eqvAll_map (ys := []) (fun _ _ => rowP_eqv)
  rw [eqE]
  refine br_dec (fun e => ?_) (fun e => ?_)
  · rw [hv e] at h
    exact ⟨S, le1.trans le2, h⟩
  · have hx2 : Its S2 dx xs := its_le (le1.trans le2) hx
    have xne : xs ≠ [] := fun z => e (hw0 z)
    have xpos : 0 < xs.length := List.length_pos_iff.mpr xne
    simp only [wNext, wSeq, wAsg, wCall, wArgs, w2, wBf, wC, wV, at3, List.set]
    refine len_its hx2 ?_
    refine ⟨.ref q, rs, xs.length - 1, by rw [show (xs.length : Int) - 1 = ((xs.length - 1 : Nat) : Int) by omega], le2 _ _ h1q, by omega, by omega, fun r hr => by have := wr r hr; omega, fun p3 h3 => ?_⟩
    have h3q : IsL (put S2 p3 (.lst ((columns (xs.length - 1) rs).map rowD))) q (rs.map rowD) := Le.put h3 _ _ (le2 _ _ h1q)
    refine ⟨_, h3q, ⟨by decide, by rw [List.length_map]; omega, by rw [List.length_map]; omega⟩, ?_⟩
    rw [List.length_map, mul_dot (by omega)]
    have le3 : Le S2 (put S2 p3 (.lst ((columns (xs.length - 1) rs).map rowD))) := Le.put h3
    have h3' : IsL (put S2 p3 (.lst ((columns (xs.length - 1) rs).map rowD))) p3 ((columns (xs.length - 1) rs).map rowD) := put_same
    generalize put S2 p3 (.lst ((columns (xs.length - 1) rs).map rowD)) = S3 at h3q le3 h3'
    refine ⟨dx, .ref p3, xs, columns (xs.length - 1) rs, blankRow rs.length, rfl, its_le le3 hx2, h3', by rw [columns_len]; omega, by rw [columns_len]; omega, fun p4 q4 h4 h5 => ⟨rfl, ?_⟩⟩
    have n54 : q4 ≠ p4 := fun e => by subst e; rw [put_same] at h5; cases h5
    have us := (tidy_small (xs := xs) (ls := columns (xs.length - 1) rs) (b := blankRow rs.length)).resolve_right (by rw [columns_len]; omega)
    have wc : ∀ c ∈ (tidy xs (columns (xs.length - 1) rs) (blankRow rs.length)).2, c.length = rs.length := fun c hc => by
      rcases tidy_subL (by rw [columns_len]; omega) hc with z | z
      · obtain ⟨k, _, rfl⟩ := columns_mem z
        simp
      · rw [z]; unfold blankRow; simp
    rw [he e] at h
    generalize tidy xs (columns (xs.length - 1) rs) (blankRow rs.length) = u at us wc h h4 h5 ⊢
    obtain ⟨u1, cols⟩ := u
    simp only at us wc h h4 h5 ⊢
    rw [columns_len] at us
    have h5q : IsL (put (put S3 p4 (.lst u1)) q4 (.lst (cols.map rowD))) q4 (cols.map rowD) := put_same
    have h5p : IsL (put (put S3 p4 (.lst u1)) q4 (.lst (cols.map rowD))) p4 u1 := by rw [IsL, put_ne (Ne.symm n54)]; exact put_same
    have le5 : Le S3 (put (put S3 p4 (.lst u1)) q4 (.lst (cols.map rowD))) := Le.put' h4 (Le.put' h5 (Le.refl _))
    generalize put (put S3 p4 (.lst u1)) q4 (.lst (cols.map rowD)) = S5 at h5q h5p le5
    have leq : Le S1 S5 := le2.trans (le3.trans le5)
    refine ⟨u1, h5p, t1, leq _ _ h1p, _, leq _ _ h1q, ?_⟩
    refine ⟨.ref q4, cols, rs.length, by rw [List.length_map], h5q, by omega, by omega, fun c hc => by have := wc c hc; omega, fun p6 h6 => ?_⟩
    exact ⟨_, put_same, S, (le1.trans leq).trans (Le.put h6), h⟩
end R3

/-! yards: made, is_yard -/
namespace R3
open PySem PySem.Spec PyProof.Rows L2
abbrev k_FAR : D := .int 1000000000
abbrev k_MOST_LINES : D := .int 7

/-! ### signs -/
def sgOk (x : Str) : Bool := x.cps.toList.all fun c => decide (c ∈ (Str.ofString "#.").cps.toList)
def areSigns (d : D) (m : Int) : Bool := match d with
  | .str x => decide ((x.length : Int) = m) && sgOk x
  | _ => false
theorem areSigns_str {x : Str} {m : Int} : areSigns (.str x) m = (decide ((x.length : Int) = m) && sgOk x) := rfl
/-- are_signs: slots 0 thing 1 many 2 sign -/
def w_are_signs : TS3 :=
 wRet (wAndV (wIsi .str (wV 0)) (wAndV (w2 fEq (wBf fLen [wV 0]) (wV 1)) (wF (wBf fAll [wLc (wItA (wV 0)) (cN 2) (tt1) (w2 fIn (wV 2) (wC (.str "#."))) [2]]))))
def sp_are_signs : Sp3 := fun ds S R _ => ∃ (d : D) (m : Int), ds = [d, .int m] ∧ Tk S d ∧ (∀ x, d = .str x → x.length ≤ 1000) ∧ R (.bl (areSigns d m)) S
theorem vc_are_signs : ∀ ds S R G, sp_are_signs ds S R G → w_are_signs (endsOf R G) (start3 ["thing", "many", "sign"] ds) S := by
  rintro ds S R G ⟨d, m, rfl, hk, hz, h⟩
  cases d with
  | str x =>
    have hz := hz x rfl
    refine br_t ⟨by rw [sizeLine_eq]; omega, br_dec (fun e => ?_) (fun e => ?_)⟩
    · have hl : (sgn3 x).length = x.length := by rw [sgn_len]; rfl
      simp only [wF, wBf, wArgs, wLc, wItA, wV, at3, start3, List.map, List.append]
      refine lc_map (fun k => .bl (decide (x.cps.toList.getD k 0 ∈ (Str.ofString "#.").cps.toList))) (by rw [hl]; omega) trivial (fun k d K Q hi hK => ?_) (fun p hp => ?_)
      · unfold sgn3 at hi
        obtain ⟨c, hc, rfl⟩ := get_map hi
        refine br_t ⟨c, rfl, ?_⟩
        have := hK S (Le.refl _)
        rw [getD_of hc] at this
        exact this
      · refine ⟨x.cps.toList.map fun c => decide (c ∈ (Str.ofString "#.").cps.toList), ?_, S, Le.put hp, S, Le.refl _, ?_⟩
        · have e2 : (List.range (sgn3 x).length).map (fun k => D.bl (decide (x.cps.toList.getD k 0 ∈ (Str.ofString "#.").cps.toList))) = (x.cps.toList.map fun c => decide (c ∈ (Str.ofString "#.").cps.toList)).map D.bl := by
            rw [show (sgn3 x).length = x.cps.toList.length by rw [sgn_len]; simp, range_get (l := x.cps.toList) (d := 0) (fun c => D.bl (decide (c ∈ (Str.ofString "#.").cps.toList))), List.map_map]
            rfl
          rw [e2]
          exact put_same
        · rw [areSigns_str, decide_eq_true e, Bool.true_and] at h
          unfold sgOk at h
          rw [List.all_map]
          exact h
    · refine ⟨S, Le.refl _, ?_⟩
      rw [areSigns_str, decide_eq_false e, Bool.false_and] at h
      exact h
  | ref a => exact ⟨hk, br_f ⟨S, Le.refl _, h⟩⟩
  | ty _ => exact hk.elim
  | _ => exact br_f ⟨S, Le.refl _, h⟩
theorem sgOk_row {r : Row} : sgOk (rowS r) = true := by
  unfold sgOk rowS
  rw [List.all_eq_true]
  intro c hc
  simp only [List.mem_map] at hc
  obtain ⟨b, _, rfl⟩ := hc
  cases b <;> decide
theorem areSigns_row {r : Row} {m : Int} : areSigns (rowD r) m = decide ((r.length : Int) = m) := by
  unfold areSigns rowD
  simp only [sgOk_row, Bool.and_true, rowS_len]

/-! ### whole lines -/
def Wh (xs : List Int) : Prop := xs.length ≤ 7 ∧ (∀ x ∈ xs, x.natAbs ≤ 10 ^ 9) ∧ xs.Pairwise (· < ·)
/-- a list of whole lines as made takes it -/
def WhOk (S : Sto) (d : D) : Prop := ∃ a xs, d = .ref a ∧ IsL S a (xs.map D.int) ∧ Wh xs
/-- are_wholes: slots 0 thing 1 k -/
def w_are_wholes_1 : TS3 :=
 wIfS (wOr (wNot (wB (wCall sp_is_whole [w2 fIx (wV 0) (wV 1)]))) (wOr (wB (w2 fGt (wBf fAbs [w2 fIx (wV 0) (wV 1)]) (wC k_FAR))) (wAnd (wB (w2 fGt (wV 1) (wC (.int 0)))) (wB (w2 fLe (w2 fIx (wV 0) (wV 1)) (w2 fIx (wV 0) (w2 fSub (wV 1) (wC (.int 1)))))))))
 (wRet (wC (.bl false)))
 (wNext)
def w_are_wholes : TS3 :=
 wSeq (wIfS (wOr (wNot (wB (wIsi .list (wV 0)))) (wB (w2 fGt (wBf fLen [wV 0]) (wC k_MOST_LINES))))
 (wRet (wC (.bl false)))
 (wNext))
 (wSeq (wFor (wRng1 (wBf fLen [wV 0])) (gN 1)
 (w_are_wholes_1))
 (wRet (wC (.bl true))))
def sp_are_wholes : Sp3 := fun ds S R _ => ∃ (d : D) (b : Bool), ds = [d] ∧ Tk S d ∧ (∀ l, d ≠ .fl l) ∧ (∀ a l, d = .ref a → IsL S a l → ∀ e ∈ l, Tk S e) ∧ (b = true ↔ WhOk S d) ∧ R (.bl b) S
theorem pairwise_get {xs : List Int} (h : ∀ (k : Nat) (hk : k + 1 < xs.length), xs[k] < xs[k + 1]) : xs.Pairwise (· < ·) := by
  rw [List.pairwise_iff_getElem]
  intro i j hi hj hij
  induction j with
  | zero => omega
  | succ j ih =>
    have l := h j hj
    by_cases e : i = j
    · subst e; exact l
    · exact Int.lt_trans (ih (by omega) (by omega)) l
theorem vc_are_wholes : ∀ ds S R G, sp_are_wholes ds S R G → w_are_wholes (endsOf R G) (start3 ["thing", "k"] ds) S := by
  rintro ds S R G ⟨d, b, rfl, hk, hf, hi, hb, h⟩
  have no : ¬ WhOk S d → R (.bl false) S := fun n => by
    cases b with
    | false => exact h
    | true => exact absurd (hb.mp rfl) n
  have yes : WhOk S d → R (.bl true) S := fun n => by
    have e := hb.mpr n
    subst e
    exact h
  have bad : (∀ a, d ≠ .ref a) → R (.bl false) S := fun n => no fun ⟨a, _, e, _⟩ => n a e
  cases d with
  | ref a =>
    obtain ⟨l, hl⟩ := hk
    have hi := hi a l rfl hl
    have good : ∀ {P : Prop}, (∀ xs, l = xs.map D.int → ¬ Wh xs) → (R (.bl false) S → P) → P := fun n k => k (no fun ⟨a', xs, e1, e2, e3⟩ => by
      cases e1
      rw [IsL, hl] at e2
      have e4 : l = xs.map D.int := SO.lst.inj (Option.some.inj e2)
      exact n xs e4 e3)
    refine ⟨⟨l, hl⟩, br_f ⟨l, hl, br_dec (fun e => ?_) (fun e => ?_)⟩⟩
    · refine good (fun xs e1 e2 => ?_) (fun k => ⟨S, Le.refl _, k⟩)
      have := e2.1
      rw [e1, List.length_map] at e
      omega
    · refine ⟨l, hl, ⟨by omega, by omega⟩, ?_⟩
      refine ⟨fun i z S' => S' = S ∧ (∃ x, z = [some (.ref a), x]) ∧ ∃ xs : List Int, l.take i = xs.map D.int ∧ (∀ x ∈ xs, x.natAbs ≤ 10 ^ 9) ∧ ∀ (k : Nat) (hk : k + 1 < xs.length), xs[k] < xs[k + 1], ⟨rfl, ⟨_, rfl⟩, [], rfl, (fun _ h => nomatch h), fun k hk => by simp at hk⟩, fun _ _ _ _ _ => trivial, ?_, ?_⟩
      · rintro i d z S' hd ⟨rfl, ⟨x, rfl⟩, xs, e1, e2, e3⟩
        obtain ⟨rfl, hil⟩ := rng0 hd
        have hil : i < l.length := by omega
        have hxl : xs.length = i := by
          have := congrArg List.length e1
          rw [List.length_take, List.length_map] at this
          omega
        have hget : l[i]? = some l[i] := List.getElem?_eq_getElem hil
        have hmem : l[i] ∈ l := List.getElem_mem hil
        refine ⟨l, l[i], hl, atI_nat hget, l[i], rfl, hi _ hmem, ?_⟩
        cases q : isI l[i] with
        | false =>
          refine br_t (br_t (good (fun ys f1 _ => ?_) (fun k => ⟨S', Le.refl _, k⟩)))
          have : l[i]? = (ys.map D.int)[i]? := by rw [f1]
          rw [hget, List.getElem?_map] at this
          cases hy : ys[i]? with
          | none => rw [hy] at this; cases this
          | some y =>
            rw [hy] at this
            have e : l[i] = .int y := Option.some.inj this
            rw [e] at q
            cases q
        | true =>
          obtain ⟨v, hv⟩ := isI_int q
          rw [hv] at hget
          refine br_f ⟨l, .int v, hl, atI_nat hget, br_dec (fun f => ?_) (fun f => ?_)⟩
          · refine br_t (good (fun ys f1 f2 => ?_) (fun k => ⟨S', Le.refl _, k⟩))
            have hy : v ∈ ys := by
              have := List.mem_of_getElem? hget
              rw [f1] at this
              obtain ⟨y, hy, e⟩ := List.mem_map.mp this
              cases e
              exact hy
            have := f2.2.1 v hy
            rw [absI] at f
            omega
          · have va : v.natAbs ≤ 10 ^ 9 := by rw [absI] at f; omega
            have step : (∀ (h : 0 < xs.length), xs[xs.length - 1] < v) → nxt (fun i z S2 => S2 = S' ∧ (∃ x, z = [some (.ref a), x]) ∧ ∃ xs : List Int, l.take i = xs.map D.int ∧ (∀ x ∈ xs, x.natAbs ≤ 10 ^ 9) ∧ ∀ (k : Nat) (hk : k + 1 < xs.length), xs[k] < xs[k + 1]) (i + 1) [some (.ref a), some (.int (i : Int))] S' := fun q => by
              refine ⟨S', Le.refl _, rfl, ⟨_, rfl⟩, xs ++ [v], ?_, fun x hx => ?_, fun k hk => ?_⟩
              · rw [List.take_succ, hget, e1, List.map_append]
                rfl
              · rcases List.mem_append.mp hx with z | z
                · exact e2 x z
                · simp at z; subst z; exact va
              · rw [List.length_append, List.length_cons, List.length_nil] at hk
                by_cases hk2 : k + 1 < xs.length
                · rw [List.getElem_append_left (by omega), List.getElem_append_left hk2]
                  exact e3 k hk2
                · have hkl : k + 1 = xs.length := by omega
                  rw [List.getElem_append_left (by omega), List.getElem_append_right (by omega)]
                  simp only [List.getElem_singleton]
                  have := q (by omega)
                  have hk3 : k = xs.length - 1 := by omega
                  subst hk3
                  exact this
            refine br_dec (fun k0 => ?_) (fun k0 => ?_)
            · have hi0 : 0 < i := by omega
              have hw : l[i - 1]? = some (.int (xs[i - 1]'(by omega))) := by
                have h2 : (l.take i)[i - 1]? = l[i - 1]? := by rw [List.getElem?_take, if_pos (by omega)]
                rw [← h2, e1, List.getElem?_map, List.getElem?_eq_getElem (by omega)]
                rfl
              refine ⟨l, .int v, hl, atI_nat hget, l, .int (xs[i - 1]'(by omega)), hl, ?_, br_dec (fun f2 => ?_) (fun f2 => ?_)⟩
              · rw [show (i : Int) - 1 = ((i - 1 : Nat) : Int) by omega]
                exact atI_nat hw
              · refine good (fun ys f1 f3 => ?_) (fun k => ⟨S', Le.refl _, k⟩)
                have hyl : l.length = ys.length := by rw [f1, List.length_map]
                have y1 : ys[i]'(by omega) = v := by
                  rw [f1, List.getElem?_map, List.getElem?_eq_getElem (by omega)] at hget
                  exact D.int.inj (Option.some.inj hget)
                have y2 : ys[i - 1]'(by omega) = xs[i - 1]'(by omega) := by
                  rw [f1, List.getElem?_map, List.getElem?_eq_getElem (by omega)] at hw
                  exact D.int.inj (Option.some.inj hw)
                have := (List.pairwise_iff_getElem.mp f3.2.2) (i - 1) i (by omega) (by omega) (by omega)
                rw [y1, y2] at this
                omega
              · refine step fun h0 => ?_
                have : xs.length - 1 = i - 1 := by omega
                simp only [this]
                omega
            · exact br_f (step fun h0 => by omega)
      · rintro z S' ⟨rfl, ⟨x, rfl⟩, xs, e1, e2, e3⟩
        refine ⟨S', Le.refl _, yes ?_⟩
        rw [rngD_len, Int.toNat_natCast, List.take_length] at e1
        refine ⟨a, xs, rfl, by rw [← e1]; exact hl, ?_, e2, pairwise_get e3⟩
        rw [e1, List.length_map] at e
        omega
  | fl m => exact absurd rfl (hf m)
  | ty _ => exact hk.elim
  | _ => exact br_t (br_t ⟨S, Le.refl _, bad fun a e => nomatch e⟩)

/-! ### made -/
def yD (Y : Yd Rat) : D := yardD (Y.1.map qD, Y.2.1.map qD, Y.2.2)
def mq (x : Int) : Rat := (x : Rat)
theorem max0 {n : Nat} : (if (n : Int) - 1 > 0 then (n : Int) - 1 else 0) = ((n - 1 : Nat) : Int) := by split <;> omega
theorem sgOk_rowS {x : Str} (h : sgOk x = true) : ∃ r, x = rowS r := by
  unfold sgOk at h
  rw [List.all_eq_true] at h
  obtain ⟨cs⟩ := x
  have key : ∀ l : List Nat, (∀ c ∈ l, decide (c ∈ (Str.ofString "#.").cps.toList) = true) → ∃ r : Row, l = r.map sgn := by
    intro l
    induction l with
    | nil => exact fun _ => ⟨[], rfl⟩
    | cons c l ih =>
      intro hl
      obtain ⟨r, e⟩ := ih fun d hd => hl d (List.mem_cons_of_mem _ hd)
      have hc := of_decide_eq_true (hl c List.mem_cons_self)
      have hc2 : c = 35 ∨ c = 46 := by
        have e2 : (Str.ofString "#.").cps.toList = [35, 46] := rfl
        rw [e2] at hc
        simpa using hc
      rcases hc2 with rfl | rfl
      · exact ⟨true :: r, by rw [e]; rfl⟩
      · exact ⟨false :: r, by rw [e]; rfl⟩
  obtain ⟨r, e⟩ := key cs.toList h
  refine ⟨r, ?_⟩
  unfold rowS
  rw [← e]
/-- what made takes -/
def MadeOk (S : Sto) (dx dy dr : D) (xs ys : List Int) (rows : List Row) : Prop := ∃ a b c, dx = .ref a ∧ dy = .ref b ∧ dr = .ref c ∧ IsL S a (xs.map D.int) ∧ IsL S b (ys.map D.int) ∧ IsL S c (rows.map rowD) ∧ Wh xs ∧ Wh ys ∧ rows.length = ys.length - 1 ∧ ∀ r ∈ rows, r.length = xs.length - 1
/-- things that may be asked -/
structure Asked (S : Sto) (d : D) : Prop where
  tk : Tk S d
  fl : ∀ l, d ≠ .fl l
  its : ∀ a l, d = .ref a → IsL S a l → l.length ≤ 1000 ∧ ∀ e ∈ l, Tk S e ∧ ∀ x, e = .str x → x.length ≤ 1000
theorem Tk.int {S : Sto} {i : Int} : Tk S (.int i) := trivial
theorem Tk.row {S : Sto} {r : Row} : Tk S (rowD r) := trivial
theorem asked_ints {S : Sto} {a : Addr} {xs : List Int} (h : IsL S a (xs.map D.int)) (hz : xs.length ≤ 1000) : Asked S (.ref a) := ⟨⟨_, h⟩, (fun l e => nomatch e), fun b l e hl => by
  cases e
  rw [IsL, h] at hl
  have e4 : xs.map D.int = l := SO.lst.inj (Option.some.inj hl)
  subst e4
  refine ⟨by rw [List.length_map]; exact hz, fun e he => ?_⟩
  obtain ⟨i, _, rfl⟩ := List.mem_map.mp he
  exact ⟨trivial, (fun x e => nomatch e)⟩⟩
theorem asked_rows {S : Sto} {a : Addr} {xs : List Row} (h : IsL S a (xs.map rowD)) (hz : xs.length ≤ 1000) (hw : ∀ r ∈ xs, r.length ≤ 1000) : Asked S (.ref a) := ⟨⟨_, h⟩, (fun l e => nomatch e), fun b l e hl => by
  cases e
  rw [IsL, h] at hl
  have e4 : xs.map rowD = l := SO.lst.inj (Option.some.inj hl)
  subst e4
  refine ⟨by rw [List.length_map]; exact hz, fun e he => ?_⟩
  obtain ⟨i, hi, rfl⟩ := List.mem_map.mp he
  exact ⟨trivial, fun x e => by cases e; rw [rowS_len]; exact hw i hi⟩⟩
/-- made: slots 0 xs 1 ys 2 rows 3 x 4 y 5 row -/
def w_made : TS3 :=
 wSeq (wIfS (wOr (wNot (wB (wCall sp_are_wholes [wV 0]))) (wOr (wNot (wB (wCall sp_are_wholes [wV 1]))) (wOr (wNot (wB (wIsi .list (wV 2)))) (wB (w2 fNe (wBf fLen [wV 2]) (wBf fMax2 [wC (.int 0), w2 fSub (wBf fLen [wV 1]) (wC (.int 1))]))))))
 (wRaise .yard)
 (wNext))
 (wSeq (wIfS (wNot (wB (wF (wBf fAll [wLc (wItA (wV 2)) (cN 5) (tt1) (wCall sp_are_signs [wV 5, wBf fMax2 [wC (.int 0), w2 fSub (wBf fLen [wV 0]) (wC (.int 1))]]) [5]]))))
 (wRaise .yard)
 (wNext))
 (wRet (wCall sp_of_rows [wLc (wItA (wV 0)) (cN 3) (tt1) (wTup [wV 3, wC (.int 1)]) [3], wLc (wItA (wV 1)) (cN 4) (tt1) (wTup [wV 4, wC (.int 1)]) [4], wV 2])))
def sp_made : Sp3 := fun ds S R G => ∃ dx dy dr : D, ds = [dx, dy, dr] ∧ Asked S dx ∧ Asked S dy ∧ Asked S dr ∧ ((∀ xs ys rows, ¬ MadeOk S dx dy dr xs ys rows) → G .yard S) ∧ ∀ xs ys rows, MadeOk S dx dy dr xs ys rows → R (yD (ofRows (xs.map mq) (ys.map mq) rows)) S
theorem Wh.grid {xs ys : List Int} {rows : List Row} (h1 : rows.length = ys.length - 1) (h2 : ∀ r ∈ rows, r.length = xs.length - 1) : Grid xs ys rows := by
  refine ⟨?_, h2⟩
  cases ys with
  | nil => exact .inr ⟨rfl, List.length_eq_zero_iff.mp h1⟩
  | cons y r => exact .inl (by simp at h1; simp [h1])
theorem vc_made : ∀ ds S R G, sp_made ds S R G → w_made (endsOf R G) (start3 ["xs", "ys", "rows", "x", "y", "row"] ds) S := by
  rintro ds S R G ⟨dx, dy, dr, rfl, ax, ay, ar, hno, hyes⟩
  have bad : (∀ xs ys rows, ¬ MadeOk S dx dy dr xs ys rows) → ∃ S0, Le S0 S ∧ G .yard S0 := fun h => ⟨S, Le.refl _, hno h⟩
  have ask : ∀ {d : D}, Asked S d → (∃ b : Bool, (b = true ↔ WhOk S d)) := fun {d} _ => by
    by_cases h : WhOk S d
    · exact ⟨true, by simp [h]⟩
    · exact ⟨false, by simp [h]⟩
  obtain ⟨b1, hb1⟩ := ask ax
  obtain ⟨b2, hb2⟩ := ask ay
  refine ⟨dx, b1, rfl, ax.tk, ax.fl, fun a l e hl x hx => ((ax.its a l e hl).2 x hx).1, hb1, br_b (fun e1 => ?_) (fun e1 => ?_)⟩
  · refine br_t (bad fun xs ys rows ⟨a, b, c, h1, h2, h3, h4, h5, h6, h7, h8, _⟩ => ?_)
    have := hb1.mpr ⟨a, xs, h1, h4, h7⟩
    rw [not_t e1] at this
    cases this
  · obtain ⟨a, xs, rfl, hxs, wx⟩ := hb1.mp (not_f e1)
    refine ⟨dy, b2, rfl, ay.tk, ay.fl, fun a l e hl x hx => ((ay.its a l e hl).2 x hx).1, hb2, br_b (fun e2 => ?_) (fun e2 => ?_)⟩
    · refine br_t (bad fun xs ys rows ⟨a, b, c, h1, h2, h3, h4, h5, h6, h7, h8, _⟩ => ?_)
      have := hb2.mpr ⟨b, ys, h2, h5, h8⟩
      rw [not_t e2] at this
      cases this
    · obtain ⟨b, ys, rfl, hys, wy⟩ := hb2.mp (not_f e2)
      have notlist : (∀ c, dr ≠ .ref c) → ∃ S0, Le S0 S ∧ G .yard S0 := fun n => bad fun xs ys rows ⟨_, _, c, _, _, h3, _⟩ => n c h3
      have hxl : xs.length ≤ 7 := wx.1
      have hyl : ys.length ≤ 7 := wy.1
      cases dr with
      | ref c =>
        obtain ⟨l, hl⟩ := ar.tk
        obtain ⟨hll, hits⟩ := ar.its c l rfl hl
        have same : ∀ {xs2 ys2 : List Int} {rows : List Row}, MadeOk S (.ref a) (.ref b) (.ref c) xs2 ys2 rows → xs2 = xs ∧ ys2 = ys ∧ l = rows.map rowD := fun {xs2 ys2 rows} ⟨a2, b2, c2, h1, h2, h3, h4, h5, h6, _⟩ => by
          cases h1; cases h2; cases h3
          rw [IsL, hxs] at h4
          rw [IsL, hys] at h5
          rw [IsL, hl] at h6
          have inj : ∀ {u v : List Int}, u.map D.int = v.map D.int → u = v := fun {u v} e => by
            have := congrArg (List.map fun d => match d with | D.int i => i | _ => 0) e
            simpa [List.map_map, Function.comp_def] using this
          exact ⟨(inj (SO.lst.inj (Option.some.inj h4))).symm, (inj (SO.lst.inj (Option.some.inj h5))).symm, SO.lst.inj (Option.some.inj h6)⟩
        have emx : (if ((xs.map D.int).length : Int) - 1 > 0 then ((xs.map D.int).length : Int) - 1 else 0) = ((xs.length - 1 : Nat) : Int) := by rw [List.length_map, max0]
        have emy : (if ((ys.map D.int).length : Int) - 1 > 0 then ((ys.map D.int).length : Int) - 1 else 0) = ((ys.length - 1 : Nat) : Int) := by rw [List.length_map, max0]
        refine ⟨⟨l, hl⟩, br_f ⟨l, hl, ys.map D.int, hys, br_decN (fun e3 => ?_) (fun e3 => ?_)⟩⟩
        · rw [emy] at e3
          refine bad fun xs2 ys2 rows m => ?_
          obtain ⟨rfl, rfl, rfl⟩ := same m
          obtain ⟨_, _, _, _, _, _, _, _, _, _, _, hh, _⟩ := m
          rw [List.length_map] at e3
          omega
        · rw [emy] at e3
          have e3 : l.length = ys.length - 1 := by omega
          simp only [wNext, wSeq, wIfS, wNot, wB, wF, wBf, wArgs, wLc, wItA, wV, at3, start3, List.map, List.append]
          refine ⟨l, hl, lc_map (fun k => .bl (areSigns (l.getD k .non) ((xs.length - 1 : Nat) : Int))) (by omega) hl (fun k d K Q hk hK => ?_) (fun p hp => ?_)⟩
          · have hm := hits d (List.mem_of_getElem? hk)
            refine br_t ⟨xs.map D.int, hxs, d, _, rfl, hm.1, hm.2, ?_⟩
            have := hK S (Le.refl _)
            rw [getD_of hk] at this
            rw [emx]
            exact this
          · refine ⟨l.map fun d => areSigns d ((xs.length - 1 : Nat) : Int), ?_, S, Le.put hp, ?_⟩
            · rw [range_get (l := l) (d := .non) (fun d => D.bl (areSigns d ((xs.length - 1 : Nat) : Int)))]
              rw [show l.map (fun d => D.bl (areSigns d ((xs.length - 1 : Nat) : Int))) = (l.map fun d => areSigns d ((xs.length - 1 : Nat) : Int)).map D.bl by rw [List.map_map]; rfl]
              exact put_same
            · rw [List.all_map]
              refine br_b (fun e4 => ?_) (fun e4 => ?_)
              · refine bad fun xs2 ys2 rows m => ?_
                obtain ⟨rfl, rfl, rfl⟩ := same m
                obtain ⟨_, _, _, _, _, _, _, _, _, _, _, _, hw⟩ := m
                have e5 := not_t e4
                rw [List.all_map] at e5
                have : rows.all ((id ∘ fun d => areSigns d ((xs2.length - 1 : Nat) : Int)) ∘ rowD) = true := by
                  rw [List.all_eq_true]
                  intro r hr
                  show areSigns (rowD r) _ = true
                  rw [areSigns_row]
                  exact decide_eq_true (by rw [hw r hr])
                rw [this] at e5
                cases e5
              · have e5 := not_f e4
                rw [List.all_eq_true] at e5
                have hrow : ∃ rows : List Row, l = rows.map rowD ∧ ∀ r ∈ rows, r.length = xs.length - 1 := by
                  clear hl hits same e3 hll ar notlist bad hno hyes e4 emx emy; clear e3
                  induction l with
                  | nil => exact ⟨[], rfl, fun _ h => nomatch h⟩
                  | cons d l ih =>
                    obtain ⟨rows, e, hw⟩ := ih fun x hx => e5 x (List.mem_cons_of_mem _ hx)
                    have h0 := e5 d List.mem_cons_self
                    cases d with
                    | str x =>
                      have h0 : areSigns (.str x) ((xs.length - 1 : Nat) : Int) = true := h0
                      rw [areSigns_str, Bool.and_eq_true, decide_eq_true_iff] at h0
                      obtain ⟨r, rfl⟩ := sgOk_rowS h0.2
                      have hlen := h0.1
                      rw [rowS_len] at hlen
                      refine ⟨r :: rows, by rw [e]; rfl, fun q hq => ?_⟩
                      rcases List.mem_cons.mp hq with rfl | hq
                      · omega
                      · exact hw q hq
                    | _ => cases h0
                obtain ⟨rows, rfl, hw⟩ := hrow
                rw [List.length_map] at e3
                have mk : MadeOk S (.ref a) (.ref b) (.ref c) xs ys rows := ⟨a, b, c, rfl, rfl, rfl, hxs, hys, hl, wx, wy, e3, hw⟩
                have res := hyes xs ys rows mk
                have comp : ∀ (zs : List Int), (List.range (zs.map D.int).length).map (fun k => qD (mq (zs.getD k 0))) = (zs.map mq).map qD := fun zs => by
                  rw [List.length_map, range_get (l := zs) (d := 0) (fun z => qD (mq z)), List.map_map]
                  rfl
                refine ⟨xs.map D.int, hxs, lc_map (fun k => qD (mq (xs.getD k 0))) (by rw [List.length_map]; omega) hxs (fun k d K Q hk hK => ?_) (fun p1 h1 => ?_)⟩
                · obtain ⟨z, hz, rfl⟩ := get_map hk
                  refine br_t ?_
                  have := hK S (Le.refl _)
                  rw [getD_of hz] at this
                  exact this
                · rw [comp]
                  have hys1 := (Le.put h1 (o := .lst ((xs.map mq).map qD))) _ _ hys
                  have hl1 := (Le.put h1 (o := .lst ((xs.map mq).map qD))) _ _ hl
                  refine ⟨ys.map D.int, hys1, lc_map (fun k => qD (mq (ys.getD k 0))) (by rw [List.length_map]; omega) hys1 (fun k d K Q hk hK => ?_) (fun p2 h2 => ?_)⟩
                  · obtain ⟨z, hz, rfl⟩ := get_map hk
                    refine br_t ?_
                    have := hK _ (Le.refl _)
                    rw [getD_of hz] at this
                    exact this
                  · rw [comp]
                    have n21 : p2 ≠ p1 := fun e => by subst e; rw [put_same] at h2; cases h2
                    have g := (Wh.grid (xs := xs) e3 hw).map (fun x => qD (mq x))
                    refine ⟨.ref p1, .ref p2, .ref c, (xs.map mq).map qD, (ys.map mq).map qD, rows, rfl, by show IsL _ _ _; rw [IsL, put_ne (Ne.symm n21)]; exact put_same, put_same, (Le.put h2) _ _ hl1, ?_, by simp; omega, by omega, S, Le.put' h1 (Le.put' h2 (Le.refl _)), ?_⟩
                    · rw [List.map_map, List.map_map]
                      exact g
                    · rw [ofRows_map]
                      exact res
      | ty _ => exact ar.tk.elim
      | fl m => exact absurd rfl (ar.fl m)
      | _ => exact br_t (br_t (notlist fun c e => nomatch e))
end R3

/-! yards: is_yard of a yard -/
namespace R3
open PySem PySem.Spec PyProof.Rows L2

/-- a yard: rising lines, rows that go with them, told in one way -/
structure YOk (n : Nat) (Y : Yd Rat) : Prop where
  sx : Y.1.Pairwise (· < ·)
  sy : Y.2.1.Pairwise (· < ·)
  grid : Grid Y.1 Y.2.1 Y.2.2
  canon : ofRows Y.1 Y.2.1 Y.2.2 = Y
  bx : ∀ q ∈ Y.1, QB n q
  by' : ∀ q ∈ Y.2.1, QB n q
  lx : Y.1.length ≤ 500
  ly : Y.2.1.length ≤ 500
theorem Grid.rowsN {α : Type} {xs ys : List α} {rows : List Row} (g : Grid xs ys rows) : rows.length = ys.length - 1 := by
  rcases g.high with h | ⟨h, h2⟩
  · simp [h]
  · simp [h, h2]
theorem all_true {α : Type} {l : List α} : (l.map fun _ => true).all id = true := by
  induction l with
  | nil => rfl
  | cons a l ih => rw [List.map_cons, List.all_cons, ih]; rfl
theorem true_bls {l : List D} : ((List.range l.length).map fun _ => D.bl true) = (l.map fun _ => true).map D.bl := by
  rw [List.map_map]
  apply List.ext_getElem
  · simp
  · intro i h1 h2
    simp
/-- are_rising: slots 0 thing 1 k 2 part -/
def w_are_rising : TS3 :=
 wSeq (wIfS (wOr (wNot (wB (wIsi .tuple (wV 0)))) (wNot (wB (wF (wBf fAll [wLc (wItA (wV 0)) (cN 2) (tt1) (wCall sp_is_number [wV 2]) [2]])))))
 (wRet (wC (.bl false)))
 (wNext))
 (wRet (wF (wBf fAll [wLc (wRng1 (w2 fSub (wBf fLen [wV 0]) (wC (.int 1)))) (cN 1) (tt1) (wCall sp_under [w2 fIx (wV 0) (wV 1), w2 fIx (wV 0) (w2 fAdd (wV 1) (wC (.int 1)))]) [1]])))
def sp_are_rising : Sp3 := fun ds S R _ => ∃ (qs : List Rat) (n : Nat), ds = [.tup (qs.map qD)] ∧ qs.Pairwise (· < ·) ∧ (∀ q ∈ qs, QB n q) ∧ n ≤ 4000 ∧ qs.length ≤ 1000 ∧ R (.bl true) S
theorem vc_are_rising : ∀ ds S R G, sp_are_rising ds S R G → w_are_rising (endsOf R G) (start3 ["thing", "k", "part"] ds) S := by
  rintro ds S R G ⟨qs, n, rfl, hs, hb, hn, hl, h⟩
  refine br_f ?_
  simp only [wNot, wB, wF, wBf, wArgs, wLc, wItA, wV, at3, start3, List.map, List.append]
  refine lc_map (fun _ => .bl true) (by rw [List.length_map]; omega) trivial (fun k d K Q hk hK => ?_) (fun p hp => ?_)
  · obtain ⟨q, hq, rfl⟩ := get_map hk
    refine br_t ⟨qD q, rfl, Th.qD q, ?_⟩
    rw [isNum_qD]
    exact hK S (Le.refl _)
  · refine ⟨(qs.map qD).map fun _ => true, by rw [true_bls]; exact put_same, S, Le.put hp, ?_⟩
    rw [all_true]
    refine br_f ?_
    simp only [wNext, wSeq, wRet, wF, wBf, wArgs, wLc, wRng1, w2, wC, wV, at3]
    refine ⟨⟨by omega, by rw [List.length_map]; omega⟩, ?_⟩
    refine lc_map (fun _ => .bl true) (by rw [rngD_len, List.length_map]; omega) trivial (fun k d K Q hk hK => ?_) (fun p2 hp2 => ?_)
    · obtain ⟨rfl, hk⟩ := rng0 hk
      have hql : (qs.map qD).length = qs.length := List.length_map _
      have k1 : k + 1 < qs.length := by omega
      have k0 : k < qs.length := by omega
      refine br_t ⟨_, atI_nat (by rw [List.getElem?_map, List.getElem?_eq_getElem k0]; rfl), _, atI_nat (j := k + 1) (by rw [List.getElem?_map, List.getElem?_eq_getElem k1]; rfl), ?_⟩
      refine ⟨qs[k], qs[k + 1], n, rfl, hb _ (List.getElem_mem k0), hb _ (List.getElem_mem k1), by omega, ?_⟩
      rw [decide_eq_true ((List.pairwise_iff_getElem.mp hs) k (k + 1) k0 k1 (by omega))]
      exact hK S (Le.refl _)
    · refine ⟨(rngD 0 (((qs.map qD).length : Int) - 1).toNat).map fun _ => true, by rw [true_bls]; exact put_same, S, Le.put hp2, S, Le.refl _, ?_⟩
      rw [all_true]
      exact h
def qP (q : Rat) : PyData := .tuple [.int q.num, .int q.den]
def yP (Y : Yd Rat) : PyData := .tuple [.tuple (Y.1.map qP), .tuple (Y.2.1.map qP), .tuple (Y.2.2.map rowP)]
theorem Sn.yard {S : Sto} {Y : Yd Rat} : Sn S (yD Y) (yP Y) := by
  unfold yD yardD yP
  exact .tup (.cons (.tup (SnL.map (fun _ => Sn.qD) _)) (.cons (.tup (SnL.map (fun _ => Sn.qD) _)) (.cons (.tup (SnL.map (fun _ => Sn.row) _)) .nil)))
theorem qP_ok {q : Rat} : OkAt 1 (qP q) := OkAt.tup fun p hp => by
  simp only [List.mem_cons, List.not_mem_nil, or_false] at hp
  rcases hp with rfl | rfl <;> exact OkAt.int
theorem yP_ok {Y : Yd Rat} : OkAt 3 (yP Y) := OkAt.tup fun p hp => by
  simp only [List.mem_cons, List.not_mem_nil, or_false] at hp
  rcases hp with rfl | rfl | rfl
  · exact OkAt.tup fun p hp => by obtain ⟨q, _, rfl⟩ := List.mem_map.mp hp; exact qP_ok
  · exact OkAt.tup fun p hp => by obtain ⟨q, _, rfl⟩ := List.mem_map.mp hp; exact qP_ok
  · exact OkAt.tup fun p hp => by obtain ⟨r, _, rfl⟩ := List.mem_map.mp hp; exact OkAt.str row_ok
/-- is_yard: slots 0 thing 1 xs 2 ys 3 rows 4 row -/
def w_is_yard : TS3 :=
 wSeq (wIfS (wOr (wNot (wB (wIsi .tuple (wV 0)))) (wOr (wB (w2 fNe (wBf fLen [wV 0]) (wC (.int 3)))) (wOr (wNot (wB (wCall sp_are_rising [w2 fIx (wV 0) (wC (.int 0))]))) (wNot (wB (wCall sp_are_rising [w2 fIx (wV 0) (wC (.int 1))]))))))
 (wRet (wC (.bl false)))
 (wNext))
 (wSeq (wAsg (wV 0) (gTup3 3 (gCons3 (gN 1) (gCons3 (gN 2) (gCons3 (gN 3) (gNil3))))))
 (wSeq (wIfS (wOr (wNot (wB (wIsi .tuple (wV 3)))) (wB (w2 fNe (wBf fLen [wV 3]) (wBf fMax2 [wC (.int 0), w2 fSub (wBf fLen [wV 2]) (wC (.int 1))]))))
 (wRet (wC (.bl false)))
 (wNext))
 (wSeq (wIfS (wNot (wB (wF (wBf fAll [wLc (wItA (wV 3)) (cN 4) (tt1) (wCall sp_are_signs [wV 4, wBf fMax2 [wC (.int 0), w2 fSub (wBf fLen [wV 1]) (wC (.int 1))]]) [4]]))))
 (wRet (wC (.bl false)))
 (wNext))
 (wRet (w2 fEq (wCall sp_of_rows [wV 1, wV 2, wV 3]) (wV 0))))))
def sp_is_yard : Sp3 := fun ds S R _ => ∃ (Y : Yd Rat) (n : Nat), ds = [yD Y] ∧ YOk n Y ∧ n ≤ 4000 ∧ R (.bl true) S
theorem vc_is_yard : ∀ ds S R G, sp_is_yard ds S R G → w_is_yard (endsOf R G) (start3 ["thing", "xs", "ys", "rows", "row"] ds) S := by
  rintro ds S R G ⟨⟨xs, ys, rows⟩, n, rfl, ⟨sx, sy, g, hc, bx, byy, lx, ly⟩, hn, h⟩
  simp only at sx sy g hc bx byy lx ly
  have emx : (if ((xs.map qD).length : Int) - 1 > 0 then ((xs.map qD).length : Int) - 1 else 0) = ((xs.length - 1 : Nat) : Int) := by rw [List.length_map, max0]
  have emy : (if ((ys.map qD).length : Int) - 1 > 0 then ((ys.map qD).length : Int) - 1 else 0) = ((ys.length - 1 : Nat) : Int) := by rw [List.length_map, max0]
  have hrn := g.rowsN
  refine br_f (br_f ⟨_, rfl, xs, n, rfl, sx, bx, hn, by omega, br_f ⟨_, rfl, ys, n, rfl, sy, byy, hn, by omega, br_f ?_⟩⟩)
  refine ⟨rfl, br_f ?_⟩
  refine br_decN (fun e => absurd ?_ e) (fun _ => ?_)
  · rw [emy, List.length_map, hrn]
  · simp only [wNext, wSeq, wIfS, wNot, wB, wF, wBf, wArgs, wLc, wItA, wV, at3, start3, List.map, List.append, List.set]
    refine lc_map (fun _ => .bl true) (by rw [List.length_map]; omega) trivial (fun k d K Q hk hK => ?_) (fun p hp => ?_)
    · obtain ⟨r, hr, rfl⟩ := get_map hk
      have hw := g.wide r (List.mem_of_getElem? hr)
      refine br_t ⟨rowD r, _, rfl, trivial, fun x e => by cases e; rw [rowS_len]; omega, ?_⟩
      rw [emx, areSigns_row, decide_eq_true (by rw [hw])]
      exact hK S (Le.refl _)
    · refine ⟨(rows.map rowD).map fun _ => true, by rw [true_bls]; exact put_same, S, Le.put hp, ?_⟩
      rw [all_true]
      refine br_f ?_
      refine ⟨.tup (xs.map qD), .tup (ys.map qD), .tup (rows.map rowD), xs.map qD, ys.map qD, rows, rfl, rfl, rfl, rfl, g.map qD, by rw [List.length_map]; omega, by omega, ?_⟩
      rw [ofRows_map, hc]
      refine ⟨yP (xs, ys, rows), yP (xs, ys, rows), Sn.yard, Sn.yard, yP_ok.ok, yP_ok.ok, S, Le.refl _, ?_⟩
      rw [if_neg Bool.false_ne_true, eqv_self yP_ok.1]
      exact h
end R3

namespace R3
open PySem PySem.Spec PyProof.Rows L2
local macro_rules | `(tactic| walk_at "draw") => `(tactic| refine ⟨_, _, _, _, rfl, (by first | assumption | exact put_same), (by assumption), (by omega), (by omega), (small (n := 250) (by omega) (by omega)).mono (by decide), ?_⟩)

/-! ### lines drawn -/
/-- law_lines: slots 0 _law_feed_here 1 _law_way 2 _law_most 3 _law_found 4 _law_k -/
def w_law_lines_1 : TS3 :=
 wDrop (wMl fAppend (wV 3) [w2 fAdd (w2 fAdd (w2 fIx (wV 3) (wC (.int (-1)))) (wC (.int 1))) (wCall sp_law_next [wV 0, wV 2])])
def w_law_lines : TS3 :=
 wSeq (wSet 1 (wCall sp_law_next [wV 0, wC (.int 4)]))
 (wSeq (wIfS (wB (w2 fEq (wV 1) (wC (.int 0))))
 (wRet (wF (w2 fIx (wLst [wLst [], wLst [w1 fNeg (wC (.int 1000000000))], wLst [w1 fNeg (wC (.int 1000000000)), wC (.int 1000000000)], wLst [wC (.int 0), wC (.int 1)]]) (wCall sp_law_next [wV 0, wC (.int 4)]))))
 (wNext))
 (wSeq (wSet 2 (wF (w2 fIx (wLst [wC (.int 1), wC (.int 5), wC (.int 100000000)]) (w2 fSub (wV 1) (wC (.int 1))))))
 (wSeq (wSet 3 (wLst [w2 fSub (wCall sp_law_next [wV 0, w2 fAdd (w2 fMul (wC (.int 2)) (wV 2)) (wC (.int 1))]) (wV 2)]))
 (wSeq (wFor (wRng1 (wCall sp_law_next [wV 0, wC (.int 7)])) (gN 4)
 (w_law_lines_1))
 (wRet (wV 3))))))
def sp_law_lines : Sp3 := fun ds S R _ => ∃ (p : Addr) (t : Nat) (o : SO), ds = [.ref p] ∧ S p = some o ∧ FeedO t o ∧ t ≤ 10 ^ 8 ∧ ∀ q xs o', S q = none → FeedO (t + 20) o' → Wh xs → R (.ref q) (put (put S p o') q (.lst (xs.map D.int)))
theorem wh_add {xs : List Int} {m : Int} {v : Int} {n : Nat} (h1 : ∀ x ∈ xs, x < v) (h2 : xs.Pairwise (· < ·)) : (xs ++ [v]).Pairwise (· < ·) := by
  rw [List.pairwise_append]
  exact ⟨h2, List.pairwise_singleton _ _, fun a ha b hb => by simp at hb; subst hb; exact h1 a ha⟩
theorem le_pick {S Bs : Sto} {p q : Addr} {o1 o2 L : SO} (h : Le (put S p o1) Bs) (e : Bs q = some L) (n : q ≠ p) : Le (put (put S p o2) q L) (put Bs p o2) := fun a u ha => by
  by_cases h1 : a = q
  · subst h1
    rw [put_same] at ha
    rw [put_ne n, e]
    exact ha
  · rw [put_ne h1] at ha
    by_cases h2 : a = p
    · subst h2
      rw [put_same] at ha ⊢
      exact ha
    · rw [put_ne h2] at ha ⊢
      exact h a u (by rw [put_ne h2]; exact ha)
theorem atI_last {l : List D} {d : D} : atI (l ++ [d]) (-1) = some d := by
  unfold atI ixN
  have e : (-1 + ((l.length : Int) + 1)).toNat = l.length := by omega
  simp [e, show (1 : Int) ≤ (l.length : Int) + 1 by omega]
theorem vc_law_lines : ∀ ds S R G, sp_law_lines ds S R G → w_law_lines (endsOf R G) (start3 ["_law_feed_here", "_law_way", "_law_most", "_law_found", "_law_k"] ds) S := by
  rintro ds S R G ⟨p, t, o, rfl, hS, hO, ht, h⟩
  walk_at "draw"; intro w o1 w0 w1 hO1
  refine br_dec (fun h0 => ?_) (fun h0 => ?_)
  · intro q0 hq0; intro q1 hq1; intro q2 hq2; intro q3 hq3; intro q4 hq4
    have np : ∀ {q : Addr} {S1 : Sto}, Le (put S p o1) S1 → S1 q = none → q ≠ p := fun {q S1} le n e => by subst e; rw [le _ _ put_same] at n; cases n
    have hfp : put (put (put (put (put (put S p o1) q0 (.lst [])) q1 (.lst [.int (-1000000000)])) q2 (.lst [.int (-1000000000), .int 1000000000])) q3 (.lst [.int 0, .int 1])) q4 (.lst [.ref q0, .ref q1, .ref q2, .ref q3]) p = some o1 :=
      (Le.put' hq0 (Le.put' hq1 (Le.put' hq2 (Le.put' hq3 (Le.put' hq4 (Le.refl _)))))) _ _ put_same
    refine ⟨_, _, _, _, rfl, hfp, hO1, by omega, by decide, (small (n := 250) (by decide) (by decide)).mono (by decide), fun i o2 i0 i1 hO2 => ?_⟩
    have inj : ∀ {q : Addr} {L : SO}, q ≠ p → (put (put (put (put (put (put S p o1) q0 (.lst [])) q1 (.lst [.int (-1000000000)])) q2 (.lst [.int (-1000000000), .int 1000000000])) q3 (.lst [.int 0, .int 1])) q4 (.lst [.ref q0, .ref q1, .ref q2, .ref q3])) q = some L →
        Le (put (put S p o2) q L) (put (put (put (put (put (put (put S p o1) q0 (.lst [])) q1 (.lst [.int (-1000000000)])) q2 (.lst [.int (-1000000000), .int 1000000000])) q3 (.lst [.int 0, .int 1])) q4 (.lst [.ref q0, .ref q1, .ref q2, .ref q3])) p o2) :=
      fun {q L} n e => le_pick (Le.put' hq0 (Le.put' hq1 (Le.put' hq2 (Le.put' hq3 (Le.put' hq4 (Le.refl _)))))) e n
    have hq4l : (put (put (put (put (put (put (put S p o1) q0 (.lst [])) q1 (.lst [.int (-1000000000)])) q2 (.lst [.int (-1000000000), .int 1000000000])) q3 (.lst [.int 0, .int 1])) q4 (.lst [.ref q0, .ref q1, .ref q2, .ref q3])) p o2) q4 = some (.lst [.ref q0, .ref q1, .ref q2, .ref q3]) := by
      rw [put_ne (np (Le.put' hq0 (Le.put' hq1 (Le.put' hq2 (Le.put' hq3 (Le.refl _))))) hq4)]
      exact put_same
    have e3 := (Le.put' hq4 (o := .lst [.ref q0, .ref q1, .ref q2, .ref q3]) (Le.refl _)) _ _ (put_same (S := put (put (put (put S p o1) q0 (.lst [])) q1 (.lst [.int (-1000000000)])) q2 (.lst [.int (-1000000000), .int 1000000000])) (a := q3) (o := .lst [.int 0, .int 1]))
    have e2 := (Le.put' hq3 (o := .lst [.int 0, .int 1]) (Le.put' hq4 (o := .lst [.ref q0, .ref q1, .ref q2, .ref q3]) (Le.refl _))) _ _ (put_same (S := put (put (put S p o1) q0 (.lst [])) q1 (.lst [.int (-1000000000)])) (a := q2) (o := .lst [.int (-1000000000), .int 1000000000]))
    have e1 := (Le.put' hq2 (o := .lst [.int (-1000000000), .int 1000000000]) (Le.put' hq3 (o := .lst [.int 0, .int 1]) (Le.put' hq4 (o := .lst [.ref q0, .ref q1, .ref q2, .ref q3]) (Le.refl _)))) _ _ (put_same (S := put (put S p o1) q0 (.lst [])) (a := q1) (o := .lst [.int (-1000000000)]))
    have e0 := (Le.put' hq1 (o := .lst [.int (-1000000000)]) (Le.put' hq2 (o := .lst [.int (-1000000000), .int 1000000000]) (Le.put' hq3 (o := .lst [.int 0, .int 1]) (Le.put' hq4 (o := .lst [.ref q0, .ref q1, .ref q2, .ref q3]) (Le.refl _))))) _ _ (put_same (S := put S p o1) (a := q0) (o := .lst []))
    have n0 := np (Le.refl _) hq0
    have n1 := np (Le.put' hq0 (Le.refl _)) hq1
    have n2 := np (Le.put' hq0 (Le.put' hq1 (Le.refl _))) hq2
    have n3 := np (Le.put' hq0 (Le.put' hq1 (Le.put' hq2 (Le.refl _)))) hq3
    have s0 : S q0 = none := (put_none.mp hq0).2
    have s1 : S q1 = none := (put_none.mp (put_none.mp hq1).2).2
    have s2 : S q2 = none := (put_none.mp (put_none.mp (put_none.mp hq2).2).2).2
    have s3 : S q3 = none := (put_none.mp (put_none.mp (put_none.mp (put_none.mp hq3).2).2).2).2
    have hO2 := hO2.mono (show t + 1 + 1 ≤ t + 20 by omega)
    have fin : ∀ {q : Addr} {xs : List Int}, q ≠ p → S q = none → (put (put (put (put (put (put S p o1) q0 (.lst [])) q1 (.lst [.int (-1000000000)])) q2 (.lst [.int (-1000000000), .int 1000000000])) q3 (.lst [.int 0, .int 1])) q4 (.lst [.ref q0, .ref q1, .ref q2, .ref q3])) q = some (.lst (xs.map D.int)) → Wh xs → atI [D.ref q0, .ref q1, .ref q2, .ref q3] i = some (.ref q) → _ := fun {q xs} n s e wh hat =>
      (⟨_, _, hq4l, hat, put (put S p o2) q (.lst (xs.map D.int)), inj n e, _, Le.refl _, h q xs o2 s hO2 wh⟩ : ∃ l d, IsL _ q4 l ∧ atI l i = some d ∧ ∃ S0, Le S0 _ ∧ ∃ S1, Le S1 S0 ∧ R d S1)
    obtain ⟨n, rfl⟩ : ∃ n : Nat, i = n := ⟨i.toNat, by omega⟩
    have hn : n < 4 := by omega
    match n, hn with
    | 0, _ => exact fin (xs := []) n0 s0 e0 ⟨by decide, by decide, by decide⟩ rfl
    | 1, _ => exact fin (xs := [-1000000000]) n1 s1 e1 ⟨by decide, by decide, by decide⟩ rfl
    | 2, _ => exact fin (xs := [-1000000000, 1000000000]) n2 s2 e2 ⟨by decide, by decide, by decide⟩ rfl
    | 3, _ => exact fin (xs := [0, 1]) n3 s3 e3 ⟨by decide, by decide, by decide⟩ rfl
  · intro q hq
    obtain ⟨x, hx, m, rfl, m0, m1⟩ : ∃ x, atI [D.int 1, .int 5, .int 100000000] (w - 1) = some x ∧ ∃ m, x = .int m ∧ 1 ≤ m ∧ m ≤ 100000000 := by
      obtain ⟨n, e⟩ : ∃ n : Nat, w - 1 = n := ⟨(w - 1).toNat, by omega⟩
      rw [e]
      have hn : n < 3 := by omega
      match n, hn with
      | 0, _ => exact ⟨_, rfl, _, rfl, by decide⟩
      | 1, _ => exact ⟨_, rfl, _, rfl, by decide⟩
      | 2, _ => exact ⟨_, rfl, _, rfl, by decide⟩
    refine ⟨_, _, put_same, hx, put S p o1, Le.put hq, ?_⟩
    refine ⟨mulOk (n := 2) (m := 40) (small (by decide) (by decide)) (small (by omega) (by omega)) (by decide), ?_⟩
    walk_at "draw"; intro a o2 a0 a1 hO2
    intro q hq
    have nqp : q ≠ p := fun e => by subst e; rw [put_same] at hq; cases hq
    have sq : S q = none := (put_none.mp (put_none.mp hq).2).2
    refine ⟨p, _, _, o2, rfl, by rw [put_ne (Ne.symm nqp)]; exact put_same, hO2, by omega, by decide, small (by decide) (by decide), fun r o3 r0 r1 hO3 => ?_⟩
    have eS : put (put (put (put S p o1) p o2) q (.lst [.int (a - m)])) p o3 = put (put S p o3) q (.lst ([a - m].map D.int)) := by
      rw [put_put, put_comm nqp, put_put]
      rfl
    rw [eS]
    refine ⟨⟨by omega, by omega⟩, ?_⟩
    refine ⟨fun k z S' => ∃ a4 o xs b, z = [some (.ref p), some (.int w), some (.int m), some (.ref q), a4] ∧ S' = put (put S p o) q (.lst ((xs ++ [b]).map D.int)) ∧ FeedO (t + 3 + k) o ∧ xs.length = k ∧ (xs ++ [b]).Pairwise (· < ·) ∧ (∀ x ∈ xs ++ [b], -m ≤ x ∧ x ≤ b) ∧ b ≤ m + k * m, ?_, fun _ _ _ _ _ => trivial, ?_, ?_⟩
    · exact ⟨_, o3, [], a - m, rfl, rfl, hO3.mono (by omega), rfl, List.pairwise_singleton _ _, fun x hx => by simp at hx; subst hx; omega, by omega⟩
    · rintro k d z S' hd ⟨a4, o, xs, b, rfl, rfl, hO, hl, hp, hb, hbm⟩
      obtain ⟨rfl, hk⟩ := rng0 hd
      have hlast : atI ((xs ++ [b]).map D.int) (-1) = some (.int b) := by
        rw [List.map_append]
        exact atI_last
      refine ⟨⟨q, _, rfl, put_same⟩, _, _, put_same, hlast, ?_⟩
      refine ⟨p, _, _, o, rfl, by rw [put_ne (Ne.symm nqp)]; exact put_same, hO, by omega, by omega, (small (n := 40) (by omega) (by omega)).mono (by decide), fun v o2 v0 v1 hO2 => ?_⟩
      have eS2 : put (put (put S p o) q (.lst ((xs ++ [b]).map D.int))) p o2 = put (put S p o2) q (.lst ((xs ++ [b]).map D.int)) := by
        rw [put_comm nqp, put_put]
      rw [eS2]
      refine ⟨_, put_same, by rw [List.length_map, List.length_append, sizeLine_eq]; simp; omega, ?_⟩
      refine ⟨_, Le.refl _, _, o2, xs ++ [b], b + 1 + v, rfl, ?_, hO2.mono (by omega), by rw [List.length_append, hl]; rfl, wh_add (m := 0) (n := 0) (fun x hx => by have := hb x hx; omega) hp, fun x hx => ?_, ?_⟩
      · rw [put_put, List.map_append (l₁ := xs ++ [b])]
        rfl
      · rcases List.mem_append.mp hx with z | z
        · have := hb x z; omega
        · simp at z; subst z
          have := hb b (by simp)
          omega
      · have e1 : ((k + 1 : Nat) : Int) * m = (k : Int) * m + m := by
          rw [show ((k + 1 : Nat) : Int) = (k : Int) + 1 by omega, Int.add_mul, Int.one_mul]
        rw [e1]
        omega
    · rintro z S' ⟨a4, o, xs, b, rfl, rfl, hO, hl, hp, hb, hbm⟩
      rw [rngD_len] at hO hl hbm
      refine ⟨_, Le.refl _, h q (xs ++ [b]) o sq (hO.mono (by omega)) ⟨by rw [List.length_append, hl]; simp; omega, fun x hx => ?_, hp⟩⟩
      have h1 := hb x hx
      have h2 : ((r.toNat : Nat) : Int) * m ≤ 6 * m := Int.mul_le_mul_of_nonneg_right (by omega) (by omega)
      omega
end R3

/-! rows drawn -/
namespace R3
open PySem PySem.Spec PyProof.Rows L2
local macro_rules | `(tactic| walk_at "draw") => `(tactic| refine ⟨_, _, _, _, rfl, (by first | assumption | exact put_same), (by assumption), (by omega), (by omega), (small (n := 250) (by omega) (by omega)).mono (by decide), ?_⟩)
theorem sIx_one {n d : Nat} : HT.sIx n d (some 1) = min 1 n := HT.sIx_nat n d 1
theorem sIx_init {n d : Nat} : HT.sIx n d (some (-1)) = n - 1 := by
  show (if (-1 : Int) < 0 then ((-1 : Int) + (n : Int)).toNat else min (-1 : Int).toNat n) = n - 1
  rw [if_pos (by decide)]
  omega
theorem slice1 {r : Row} : Txt.slice (rowS r) none (some 1) = rowS (r.take 1) := by
  rw [← C8.cutS_slice]
  unfold cutS
  rw [sIx_one, HT.sIx_none, rowS_len, List.drop_zero, Nat.sub_zero]
  unfold rowS
  congr 2
  simp only [List.map_take]
  rw [show min 1 r.length = min 1 (r.map sgn).length by rw [List.length_map], ← List.take_eq_take_min]
theorem sliceI {r : Row} : Txt.slice (rowS r) none (some (-1)) = rowS r.dropLast := by
  rw [← C8.cutS_slice]
  unfold cutS
  rw [sIx_init, HT.sIx_none, rowS_len, List.drop_zero, Nat.sub_zero]
  unfold rowS
  rw [List.dropLast_eq_take, List.map_take]
theorem rowS_app {a b : Row} : rowS a ++ rowS b = rowS (a ++ b) := by
  show Str.append (rowS a) (rowS b) = _
  unfold rowS Str.append
  simp
def w_law_rows_1 : TS3 :=
 wIfS (wAnd (wB (w2 fGt (wV 5) (wC (.int 0)))) (wB (w2 fEq (wCall sp_law_next [wV 0, wC (.int 5)]) (wC (.int 0)))))
 (wDrop (wMl fAppend (wV 4) [w2 fIx (wV 4) (wC (.int (-1)))]))
 (wDrop (wMl fAppend (wV 4) [wF (wMs fJoin (wC (.str "")) [wLc (wRng1 (wV 1)) (cN 8) (tt1) (w2 fIx (wC (.str "#.")) (wBf fInt [w2 fGe (wCall sp_law_next [wV 0, wC (.int 5)]) (wV 3)])) [8]])]))
def w_law_rows_2 : TS3 :=
 wRet (wV 4)
def w_law_rows_3 : TS3 :=
 wSeq (wIfS (wAnd (wB (w2 fEq (wV 6) (wC (.int 2)))) (wB (w2 fGt (wV 2) (wC (.int 0)))))
 (wAsg (w2 fMul (wC (.str ".")) (wV 1)) (gSub3 (wV 4) (wCall sp_law_next [wV 0, wV 2]) fSetL))
 (wNext))
 (w_law_rows_2)
def w_law_rows_4 : TS3 :=
 wSeq (wIfS (wB (w2 fEq (wV 6) (wC (.int 1))))
 (wSet 4 (wLc (wItA (wV 4)) (cN 7) (tt1) (w2 fAdd (wSl (wV 7) none (some (wC (.int 1)))) (wSl (wV 7) none (some (wC (.int (-1)))))) [7]))
 (wNext))
 (w_law_rows_3)
def w_law_rows : TS3 :=
 wSeq (wSet 3 (wCall sp_law_next [wV 0, wC (.int 6)]))
 (wSeq (wSet 4 (wLst []))
 (wSeq (wFor (wRng1 (wV 2)) (gN 5)
 (w_law_rows_1))
 (wSeq (wSet 6 (wCall sp_law_next [wV 0, wC (.int 6)]))
 (wSeq (wIfS (wB (w2 fEq (wV 6) (wC (.int 0))))
 (wSet 4 (wLc (wItA (wV 4)) (cN 7) (tt1) (w2 fAdd (wSl (wV 7) none (some (wC (.int (-1))))) (wSl (wV 7) none (some (wC (.int 1))))) [7]))
 (wNext))
 (w_law_rows_4)))))
theorem lr3 {R : PD} {G : Ex → Sto → Prop} {S S0 : Sto} {p q : Addr} {o : SO} {rows : List Row} {w h t : Nat} {way : Int} {share a5 a7 a8 : Option D}
    (hp : S p = some o) (hO : FeedO t o) (ht : t ≤ 10 ^ 8 + 1000) (hq : S q = some (.lst (rows.map rowD))) (hl : rows.length = h) (hw : ∀ r ∈ rows, r.length = w) (nqp : q ≠ p) (sq : S0 q = none)
    (hle : Le (put (put S0 p o) q (.lst (rows.map rowD))) S) (w6 : w ≤ 7) (h6 : h ≤ 7)
    (hR : ∀ (q : Addr) (rows : List Row) (o' : SO), S0 q = none → FeedO (t + 1) o' → rows.length = h → (∀ r ∈ rows, r.length = w) → R (.ref q) (put (put S0 p o') q (.lst (rows.map rowD)))) :
    w_law_rows_3 (endsOf R G) [some (.ref p), some (.int w), some (.int h), share, some (.ref q), a5, some (.int way), a7, a8] S := by
  have B : w_law_rows_2 (endsOf R G) [some (.ref p), some (.int w), some (.int h), share, some (.ref q), a5, some (.int way), a7, a8] S := ⟨_, hle, hR q rows o sq (hO.mono (by omega)) hl hw⟩
  refine br_dec (fun e1 => br_dec (fun e2 => ?_) (fun e2 => B)) (fun e1 => br_f B)
  refine ⟨⟨by decide, by omega, by omega⟩, ?_⟩
  refine ⟨p, _, t, o, rfl, hp, hO, by omega, by omega, (small (n := 250) (by omega) (by omega)).mono (by decide), fun i o2 i0 i1 hO2 => ?_⟩
  refine ⟨rows.map rowD, i.toNat, by rw [put_ne nqp]; exact hq, by unfold ixN; rw [if_pos i0, if_pos (by rw [List.length_map]; omega)], ?_⟩
  rw [mul_dot (by omega)]
  have e : (rows.map rowD).set i.toNat (D.str (rowS (blankRow w))) = (rows.set i.toNat (blankRow w)).map rowD := by rw [List.map_set]; rfl
  rw [e]
  have le2 : Le (put (put S0 p o2) q (.lst ((rows.set i.toNat (blankRow w)).map rowD))) (put (put S p o2) q (.lst ((rows.set i.toNat (blankRow w)).map rowD))) := by
    have l2 := Le.puts (p := q) (o := .lst ((rows.set i.toNat (blankRow w)).map rowD)) (Le.puts (p := p) (o := o2) hle)
    rw [put_comm nqp, put_put, put_put] at l2
    exact l2
  refine ⟨_, le2, hR q _ o2 sq hO2 (by rw [List.length_set]; exact hl) fun r hr => ?_⟩
  rcases List.mem_or_eq_of_mem_set hr with z | z
  · exact hw r z
  · subst z; simp [blankRow]
theorem lr4 {R : PD} {G : Ex → Sto → Prop} {S S0 : Sto} {p q : Addr} {o : SO} {rows : List Row} {w h t : Nat} {way : Int} {share a5 a7 a8 : Option D}
    (hp : S p = some o) (hO : FeedO t o) (ht : t ≤ 10 ^ 8 + 1000) (hq : S q = some (.lst (rows.map rowD))) (hl : rows.length = h) (hw : ∀ r ∈ rows, r.length = w) (nqp : q ≠ p) (sq : S0 q = none) (s0 : S0 p ≠ none)
    (hle : Le (put (put S0 p o) q (.lst (rows.map rowD))) S) (w6 : w ≤ 7) (h6 : h ≤ 7)
    (hR : ∀ (q : Addr) (rows : List Row) (o' : SO), S0 q = none → FeedO (t + 1) o' → rows.length = h → (∀ r ∈ rows, r.length = w) → R (.ref q) (put (put S0 p o') q (.lst (rows.map rowD)))) :
    w_law_rows_4 (endsOf R G) [some (.ref p), some (.int w), some (.int h), share, some (.ref q), a5, some (.int way), a7, a8] S := by
  refine br_dec (fun e1 => ?_) (fun e1 => lr3 hp hO ht hq hl hw nqp sq hle w6 h6 hR)
  refine ⟨_, hq, ?_⟩
  refine lc_map (fun k => rowD ((rows.getD k []).take 1 ++ (rows.getD k []).dropLast)) (by rw [List.length_map]; omega) hq (fun k d K Q hk hK => ?_) (fun q2 hq2 => ?_)
  · obtain ⟨r, hr, rfl⟩ := get_map hk
    have rl := hw r (List.mem_of_getElem? hr)
    have rS : (rowS r).length ≤ sizeLine := by rw [rowS_len, sizeLine_eq]; omega
    refine br_t ⟨rS, rS, ?_⟩
    have := hK S (Le.refl _)
    rw [getD_of hr] at this
    rw [slice1, sliceI]
    refine ⟨by rw [rowS_len, rowS_len, sizeLine_eq, List.length_take, List.length_dropLast]; omega, ?_⟩
    rw [rowS_app]
    exact this
  · have n2p : q2 ≠ p := fun e => by subst e; rw [hp] at hq2; cases hq2
    have e2 : (List.range (rows.map rowD).length).map (fun k => rowD ((rows.getD k []).take 1 ++ (rows.getD k []).dropLast)) = (rows.map fun r => r.take 1 ++ r.dropLast).map rowD := by
      rw [List.length_map, range_get (fun r : Row => rowD (r.take 1 ++ r.dropLast)), List.map_map]
      rfl
    rw [e2]
    have sq2 : S0 q2 = none := by
      have := hle.none hq2
      exact (put_none.mp (put_none.mp this).2).2
    refine lr3 (by rw [put_ne (Ne.symm n2p)]; exact hp) hO ht put_same (by rw [List.length_map]; exact hl) (fun r hr => ?_) n2p sq2 ?_ w6 h6 hR
    · obtain ⟨r', hr', rfl⟩ := List.mem_map.mp hr
      have := hw r' hr'
      simp only [List.length_append, List.length_take, List.length_dropLast]
      omega
    · exact Le.puts (((Le.put (by rw [put_ne nqp]; exact sq)).trans hle))
def w_law_rows_0 : TS3 := wDrop (wMl fAppend (wV 4) [wF (wMs fJoin (wC (.str "")) [wLc (wRng1 (wV 1)) (cN 8) (tt1) (w2 fIx (wC (.str "#.")) (wBf fInt [w2 fGe (wCall sp_law_next [wV 0, wC (.int 5)]) (wV 3)])) [8]])])
theorem lr_row {E : Ends3} {S : Sto} {p q : Addr} {o : SO} {rows : List Row} {w t : Nat} {h share : Int} {a5 : Option D} (nqp : q ≠ p) (hO : FeedO t o) (ht : t ≤ 10 ^ 8 + 1000) (hw : w ≤ 7) (hr : rows.length ≤ 7)
    (fin : ∀ (o' : SO) (r : Row), FeedO (t + w) o' → r.length = w → E.nx [some (.ref p), some (.int w), some (.int h), some (.int share), some (.ref q), a5, none, none, none] (put (put S p o') q (.lst ((rows ++ [r]).map rowD)))) :
    w_law_rows_0 E [some (.ref p), some (.int w), some (.int h), some (.int share), some (.ref q), a5, none, none, none] (put (put S p o) q (.lst (rows.map rowD))) := by
  have two : D.str "#." = rowD [true, false] := rfl
  refine ⟨⟨q, _, rfl, put_same⟩, ⟨_, rfl⟩, ⟨by omega, by omega⟩, by rw [rngD_len, sizeLine_eq]; omega, ?_⟩
  refine ⟨fun i acc S' => ∃ (o : SO) (r : Row), S' = put (put S p o) q (.lst (rows.map rowD)) ∧ FeedO (t + i) o ∧ acc = r.map sgD ∧ r.length = i, ⟨o, [], rfl, hO, rfl, rfl⟩, fun _ _ _ _ _ => trivial, ?_, ?_⟩
  · rintro i d acc S' hd ⟨o, r, rfl, hO, rfl, hl⟩
    obtain ⟨rfl, hi⟩ := rng0 hd
    refine br_t ?_
    refine ⟨p, _, _, o, rfl, by rw [put_ne (Ne.symm nqp)]; exact put_same, hO, by omega, by decide, (small (n := 250) (by decide) (by decide)).mono (by decide), fun v o2 v0 v1 hO2 => ?_⟩
    have eS : put (put (put S p o) q (.lst (rows.map rowD))) p o2 = put (put S p o2) q (.lst (rows.map rowD)) := by rw [put_comm nqp, put_put]
    rw [eS]
    have K : ∀ b : Bool, ∃ S0, Le S0 (put (put S p o2) q (.lst (rows.map rowD))) ∧ ∃ (o : SO) (r' : Row), S0 = put (put S p o) q (.lst (rows.map rowD)) ∧ FeedO (t + (i + 1)) o ∧ r.map sgD ++ [sgD b] = r'.map sgD ∧ r'.length = i + 1 := fun b =>
      ⟨_, Le.refl _, o2, r ++ [b], rfl, hO2, by rw [List.map_append]; rfl, by rw [List.length_append, hl]; rfl⟩
    by_cases hv : v ≥ share
    · have e : (decide (v ≥ share)) = true := decide_eq_true hv
      simp only [wV, at3, wipe3, List.set, wArgs, fGe, fInt, List.foldl, List.getElem?_cons_succ, List.getElem?_cons_zero, Option.join_some, Option.join, Option.bind, id]
      rw [e]
      exact ix_row (r := [true, false]) (k := 1) (by decide) (by decide) (K false)
    · have e : (decide (v ≥ share)) = false := decide_eq_false hv
      simp only [wV, at3, wipe3, List.set, wArgs, fGe, fInt, List.foldl, List.getElem?_cons_succ, List.getElem?_cons_zero, Option.join_some, Option.join, Option.bind, id]
      rw [e]
      exact ix_row (r := [true, false]) (k := 0) (by decide) (by decide) (K true)
  · rintro acc S' ⟨o, r, rfl, hO, rfl, hl⟩ p2 hp2
    rw [rngD_len] at hO hl
    simp only [wArgs]
    refine join_row (d := .ref p2) (r := r) put_same (by omega) ?_
    refine ⟨_, Le.put hp2, ?_⟩
    refine ⟨_, put_same, by rw [List.length_map, sizeLine_eq]; omega, ?_⟩
    rw [put_put]
    have := fin o r (by rw [Int.toNat_natCast] at hO; exact hO) (by omega)
    rw [List.map_append] at this
    exact this
def sp_law_rows : Sp3 := fun ds S R _ => ∃ (p : Addr) (w h t : Nat) (o : SO), ds = [.ref p, .int w, .int h] ∧ S p = some o ∧ FeedO t o ∧ t ≤ 10 ^ 8 ∧ w ≤ 7 ∧ h ≤ 7 ∧ ∀ (q : Addr) (rows : List Row) (o' : SO), S q = none → FeedO (t + 70) o' → rows.length = h → (∀ r ∈ rows, r.length = w) → R (.ref q) (put (put S p o') q (.lst (rows.map rowD)))
theorem vc_law_rows : ∀ ds S R G, sp_law_rows ds S R G → w_law_rows (endsOf R G) (start3 ["_law_feed_here", "_law_wide", "_law_high", "_law_share", "_law_rows_here", "_law_j", "_law_way", "_law_row", "_law_k"] ds) S := by
  rintro ds S R G ⟨p, w, h, t, o, rfl, hS, hO, ht, hw, hh, hR⟩
  walk_at "draw"; intro share o1 s0 s1 hO1
  intro q hq
  have nqp : q ≠ p := fun e => by subst e; rw [put_same] at hq; cases hq
  have sq : S q = none := (put_none.mp hq).2
  refine ⟨⟨by omega, by omega⟩, ?_⟩
  refine ⟨fun k z S' => ∃ (a5 : Option D) (o : SO) (rows : List Row), z = [some (.ref p), some (.int w), some (.int h), some (.int share), some (.ref q), a5, none, none, none] ∧ S' = put (put S p o) q (.lst (rows.map rowD)) ∧ FeedO (t + 1 + 8 * k) o ∧ rows.length = k ∧ ∀ r ∈ rows, r.length = w, ⟨_, o1, [], rfl, rfl, hO1, rfl, fun r hr => by simp at hr⟩, fun _ _ _ _ _ => trivial, ?_, ?_⟩
  · rintro k d z S' hd ⟨a5, o, rows, rfl, rfl, hO, hl, hr⟩
    obtain ⟨rfl, hk⟩ := rng0 hd
    have step : ∀ (o' : SO) (r : Row) (t1 : Nat), FeedO (t1 + w) o' → t1 ≤ t + 2 + 8 * k → r.length = w → ∃ S0, Le S0 (put (put S p o') q (.lst ((rows ++ [r]).map rowD))) ∧ ∃ (a5' : Option D) (o2 : SO) (rows2 : List Row), [some (.ref p), some (D.int w), some (.int h), some (.int share), some (.ref q), some (.int k), none, none, none] = [some (.ref p), some (.int w), some (.int h), some (.int share), some (.ref q), a5', none, none, none] ∧ S0 = put (put S p o2) q (.lst (rows2.map rowD)) ∧ FeedO (t + 1 + 8 * (k + 1)) o2 ∧ rows2.length = k + 1 ∧ ∀ r ∈ rows2, r.length = w :=
      fun o' r t1 hO' ht1 hrw => ⟨_, Le.refl _, _, o', rows ++ [r], rfl, rfl, hO'.mono (by omega), by rw [List.length_append, hl]; rfl, fun x hx => by
        rcases List.mem_append.mp hx with z | z
        · exact hr x z
        · simp at z; subst z; exact hrw⟩
    refine br_dec (fun e1 => ?_) (fun e1 => br_f ?_)
    · refine ⟨p, _, _, o, rfl, by rw [put_ne (Ne.symm nqp)]; exact put_same, hO, by omega, by decide, (small (n := 250) (by decide) (by decide)).mono (by decide), fun v o2 v0 v1 hO2 => ?_⟩
      have eS : put (put (put S p o) q (.lst (rows.map rowD))) p o2 = put (put S p o2) q (.lst (rows.map rowD)) := by rw [put_comm nqp, put_put]
      rw [eS]
      refine br_dec (fun e2 => ?_) (fun e2 => ?_)
      · obtain ⟨rs, r, rfl⟩ : ∃ rs r, rows = rs ++ [r] := by
          rcases List.eq_nil_or_concat rows with z | ⟨rs, r, z⟩
          · subst z; simp at hl; omega
          · exact ⟨rs, r, by rw [z, List.concat_eq_append]⟩
        refine ⟨⟨q, _, rfl, put_same⟩, _, _, put_same, by rw [List.map_append]; exact atI_last, _, put_same, by rw [List.length_map, hl, sizeLine_eq]; omega, ?_⟩
        have := step o2 r (t + 1 + 8 * k + 1) (hO2.mono (by omega)) (by omega) (hr r (by simp))
        rw [List.map_append (l₁ := rs ++ [r])] at this
        rw [put_put]
        exact this
      · exact lr_row nqp hO2 (by omega) hw (by omega) fun o' r hO' hr' => step o' r _ hO' (by omega) hr'
    · exact lr_row nqp hO (by omega) hw (by omega) fun o' r hO' hr' => step o' r _ hO' (by omega) hr'
  · rintro z S' ⟨a5, o, rows, rfl, rfl, hO, hl, hr⟩
    rw [rngD_len, Int.toNat_natCast] at hO hl
    refine ⟨p, _, _, o, rfl, by rw [put_ne (Ne.symm nqp)]; exact put_same, hO, by omega, by decide, (small (n := 250) (by decide) (by decide)).mono (by decide), fun way o2 v0 v1 hO2 => ?_⟩
    have eS : put (put (put S p o) q (.lst (rows.map rowD))) p o2 = put (put S p o2) q (.lst (rows.map rowD)) := by rw [put_comm nqp, put_put]
    rw [eS]
    have hpo : put (put S p o2) q (.lst (rows.map rowD)) p = some o2 := by rw [put_ne (Ne.symm nqp)]; exact put_same
    have fin : ∀ (q : Addr) (rows : List Row) (o' : SO), S q = none → FeedO (t + 1 + 8 * h + 1 + 1) o' → rows.length = h → (∀ r ∈ rows, r.length = w) → R (.ref q) (put (put S p o') q (.lst (rows.map rowD))) := fun q rows o' a b c d => hR q rows o' a (b.mono (by omega)) c d
    refine br_dec (fun e1 => ?_) (fun e1 => lr4 hpo hO2 (by omega) put_same hl hr nqp sq (by rw [hS]; exact fun e => nomatch e) (Le.refl _) hw hh fin)
    refine ⟨_, put_same, ?_⟩
    refine lc_map (fun k => rowD ((rows.getD k []).dropLast ++ (rows.getD k []).take 1)) (by rw [List.length_map]; omega) put_same (fun k d K Q hk hK => ?_) (fun q2 hq2 => ?_)
    · obtain ⟨r, hr2, rfl⟩ := get_map hk
      have rl := hr r (List.mem_of_getElem? hr2)
      have rS : (rowS r).length ≤ sizeLine := by rw [rowS_len, sizeLine_eq]; omega
      refine br_t ⟨rS, rS, ?_⟩
      have := hK _ (Le.refl _)
      rw [getD_of hr2] at this
      rw [slice1, sliceI]
      refine ⟨by rw [rowS_len, rowS_len, sizeLine_eq, List.length_take, List.length_dropLast]; omega, ?_⟩
      rw [rowS_app]
      exact this
    · have n2p : q2 ≠ p := fun e => by subst e; rw [hpo] at hq2; cases hq2
      have e2 : (List.range (rows.map rowD).length).map (fun k => rowD ((rows.getD k []).dropLast ++ (rows.getD k []).take 1)) = (rows.map fun r => r.dropLast ++ r.take 1).map rowD := by
        rw [List.length_map, range_get (fun r : Row => rowD (r.dropLast ++ r.take 1)), List.map_map]
        rfl
      rw [e2]
      have sq2 : S q2 = none := (put_none.mp (put_none.mp hq2).2).2
      refine lr4 (by rw [put_ne (Ne.symm n2p)]; exact hpo) hO2 (by omega) put_same (by rw [List.length_map]; exact hl) (fun r hr2 => ?_) n2p sq2 (by rw [hS]; exact fun e => nomatch e) ?_ hw hh fin
      · obtain ⟨r', hr', rfl⟩ := List.mem_map.mp hr2
        have := hr r' hr'
        simp only [List.length_append, List.length_take, List.length_dropLast]
        omega
      · exact Le.puts (Le.put (by rw [put_ne nqp]; exact sq))
end R3

/-! yards in plain terms: what lies where -/
namespace R3
theorem rlt_trans {a b c : Rat} (h : a < b) (k : b < c) : a < c := by grind
theorem rlt_tri (a b : Rat) : a < b ∨ a = b ∨ b < a := by grind
theorem half_lt (a b : Int) : (2 * a < b) ↔ ((a : Rat) < (b : Rat) / 2) := by
  rw [Rat.lt_div_iff (by decide)]
  constructor
  · intro h
    have : ((2 * a : Int) : Rat) < (b : Rat) := Rat.intCast_lt_intCast.mpr h
    grind
  · intro h
    have : ((2 * a : Int) : Rat) < (b : Rat) := by grind
    exact Rat.intCast_lt_intCast.mp this
theorem lt_half (a b : Int) : (b < 2 * a) ↔ ((b : Rat) / 2 < (a : Rat)) := by
  rw [Rat.div_lt_iff (by decide)]
  constructor
  · intro h
    have : (b : Rat) < ((2 * a : Int) : Rat) := Rat.intCast_lt_intCast.mpr h
    grind
  · intro h
    have : (b : Rat) < ((2 * a : Int) : Rat) := by grind
    exact Rat.intCast_lt_intCast.mp this
/-- the label at t -/
def lab {β : Type} (p : β) : List (Rat × β) → Rat → β
  | [], _ => p
  | (x, l) :: r, t => if t < x then p else lab l r t
def Rise {β : Type} (ps : List (Rat × β)) : Prop := ps.Pairwise fun a b => a.1 < b.1
theorem lab_before {β : Type} {p : β} {ps : List (Rat × β)} {t : Rat} (h : ∀ q ∈ ps, t < q.1) : lab p ps t = p := by
  cases ps with
  | nil => rfl
  | cons q r =>
    obtain ⟨x, l⟩ := q
    show (if t < x then p else lab l r t) = p
    rw [if_pos (h _ List.mem_cons_self)]
theorem lab_keep {β : Type} [DecidableEq β] : ∀ (ps : List (Rat × β)) (p : β) (t : Rat), Rise ps → lab p (keep p ps) t = lab p ps t
  | [], _, _, _ => rfl
  | (x, l) :: r, p, t, h => by
    obtain ⟨h1, h2⟩ := List.pairwise_cons.mp h
    have e : keep p ((x, l) :: r) = if l = p then keep p r else (x, l) :: keep l r := rfl
    rw [e]
    show _ = if t < x then p else lab l r t
    by_cases c : l = p
    · subst c
      rw [if_pos rfl, lab_keep r l t h2]
      by_cases ht : t < x
      · rw [if_pos ht]
        exact lab_before fun q hq => rlt_trans ht (h1 q hq)
      · rw [if_neg ht]
    · rw [if_neg c]
      show (if t < x then p else lab l (keep l r) t) = _
      rw [lab_keep r l t h2]
/-- where t lies -/
theorem lab_ix {β : Type} : ∀ (ps : List (Rat × β)) (p : β) (t : Rat), Rise ps → (∀ q ∈ ps, q.1 ≠ t) → (lab p ps t = p ∧ ∀ q ∈ ps, t < q.1) ∨ ∃ (i : Nat) (h : i < ps.length), ps[i].1 < t ∧ (∀ h' : i + 1 < ps.length, t < ps[i + 1].1) ∧ lab p ps t = ps[i].2
  | [], _, _, _, _ => .inl ⟨rfl, fun _ h => nomatch h⟩
  | (x, l) :: r, p, t, h, hn => by
    obtain ⟨h1, h2⟩ := List.pairwise_cons.mp h
    by_cases ht : t < x
    · left
      refine ⟨?_, fun q hq => ?_⟩
      · show (if t < x then p else lab l r t) = p
        rw [if_pos ht]
      · rcases List.mem_cons.mp hq with rfl | hq
        · exact ht
        · exact rlt_trans ht (h1 q hq)
    · right
      have hx : x < t := by
        have hne : x ≠ t := hn (x, l) List.mem_cons_self
        rcases rlt_tri x t with z | z | z
        · exact z
        · exact absurd z hne
        · exact absurd z ht
      have e : lab p ((x, l) :: r) t = lab l r t := by
        show (if t < x then p else lab l r t) = _
        rw [if_neg ht]
      rcases lab_ix r l t h2 (fun q hq => hn q (List.mem_cons_of_mem _ hq)) with ⟨h3, h4⟩ | ⟨i, hi, h3, h4, h5⟩
      · refine ⟨0, by simp, hx, fun h' => h4 _ (by simp), by rw [e, h3]; rfl⟩
      · refine ⟨i + 1, by simpa using hi, h3, fun h' => h4 (by simpa using h'), by rw [e, h5]; rfl⟩
theorem lab_cell {β : Type} : ∀ (ps : List (Rat × β)) (p : β) (t : Rat) (i : Nat) (hi : i < ps.length), Rise ps → ps[i].1 < t → (∀ h' : i + 1 < ps.length, t < ps[i + 1].1) → lab p ps t = ps[i].2
  | (x, l) :: r, p, t, i, hi, h, h3, h4 => by
    obtain ⟨h1, h2⟩ := List.pairwise_cons.mp h
    have hx : x < t := by
      cases i with
      | zero => exact h3
      | succ i => exact rlt_trans (h1 _ (List.getElem_mem (by simpa using hi))) h3
    have ht : ¬ t < x := fun z => Rat.lt_irrefl (rlt_trans z hx)
    have e : lab p ((x, l) :: r) t = lab l r t := by
      show (if t < x then p else lab l r t) = _
      rw [if_neg ht]
    rw [e]
    match i, hi, h3, h4 with
    | 0, hi, h3, h4 =>
      show lab l r t = l
      refine lab_before fun q hq => ?_
      cases r with
      | nil => cases hq
      | cons q0 r =>
        have h0 : t < q0.1 := h4 (by simp)
        rcases List.mem_cons.mp hq with rfl | hq
        · exact h0
        · exact rlt_trans h0 ((List.pairwise_cons.mp h2).1 q hq)
    | i + 1, hi, h3, h4 =>
      show lab l r t = (r[i]'(by simpa using hi)).2
      exact lab_cell r l t i (by simpa using hi) h2 h3 (fun h' => h4 (by simpa using h'))

/-- the stretches in which t lies: one at most -/
def cellIx (xs : List Rat) (t : Rat) : List Nat := (List.range (xs.length - 1)).filter fun k => decide (xs.getD k 0 < t) && decide (t < xs.getD (k + 1) 0)
theorem filter_one {n c : Nat} {p : Nat → Bool} (hc : c < n) (h1 : p c = true) (h2 : ∀ k, k < n → p k = true → k = c) : (List.range n).filter p = [c] := by
  induction n with
  | zero => omega
  | succ n ih =>
    rw [List.range_succ, List.filter_append]
    by_cases e : c = n
    · subst e
      have : (List.range c).filter p = [] := by
        rw [List.filter_eq_nil_iff]
        intro k hk hp
        have := h2 k (by have := List.mem_range.mp hk; omega) hp
        have := List.mem_range.mp hk
        omega
      rw [this, List.filter_cons_of_pos h1]
      rfl
    · have hn : p n ≠ true := fun z => e (h2 n (by omega) z).symm
      rw [ih (by omega) fun k hk hp => h2 k (by omega) hp, List.filter_cons_of_neg hn]
      rfl
theorem getD_lt {xs : List Rat} {k : Nat} (h : k < xs.length) : xs.getD k 0 = xs[k] := by rw [List.getD_eq_getElem?_getD, List.getElem?_eq_getElem h]; rfl
theorem rise_get {xs : List Rat} (h : xs.Pairwise (· < ·)) {i j : Nat} (hi : i < xs.length) (hj : j < xs.length) (hij : i < j) : xs[i] < xs[j] := List.pairwise_iff_getElem.mp h i j hi hj hij
theorem cellIx_one {xs : List Rat} (hs : xs.Pairwise (· < ·)) {t : Rat} {c : Nat} (hc : c + 1 < xs.length) (h1 : xs[c] < t) (h2 : t < xs[c + 1]) : cellIx xs t = [c] := by
  refine filter_one (by omega) ?_ fun k hk hp => ?_
  · rw [getD_lt (by omega), getD_lt hc, decide_eq_true h1, decide_eq_true h2]
    rfl
  · rw [Bool.and_eq_true, decide_eq_true_iff, decide_eq_true_iff, getD_lt (by omega), getD_lt (by omega)] at hp
    rcases Nat.lt_trichotomy k c with z | z | z
    · have : xs[k + 1] ≤ xs[c] := by
        by_cases e : k + 1 = c
        · subst e; exact Rat.le_refl
        · exact Rat.le_of_lt (rise_get hs (by omega) (by omega) (by omega))
      have := hp.2
      grind
    · exact z
    · have : xs[c + 1] ≤ xs[k] := by
        by_cases e : c + 1 = k
        · subst e; exact Rat.le_refl
        · exact Rat.le_of_lt (rise_get hs (by omega) (by omega) (by omega))
      have := hp.1
      grind
theorem cellIx_none {xs : List Rat} {t : Rat} (h : ∀ (c : Nat) (hc : c + 1 < xs.length), ¬ (xs[c] < t ∧ t < xs[c + 1])) : cellIx xs t = [] := by
  unfold cellIx
  rw [List.filter_eq_nil_iff]
  intro k hk hp
  have hk := List.mem_range.mp hk
  rw [Bool.and_eq_true, decide_eq_true_iff, decide_eq_true_iff, getD_lt (by omega), getD_lt (by omega)] at hp
  exact h k (by omega) hp
/-- where a spot that is on no line lies among tidy lines: in a stretch, or its label is the outer one -/
theorem tidy_at {β : Type} [DecidableEq β] {xs : List Rat} {ls : List β} {b : β} {k : Nat} (hl : xs.length = ls.length + 1) (hs : xs.Pairwise (· < ·)) (hk : k < ls.length) {t : Rat} (h1 : xs[k]'(by omega) < t) (h2 : t < xs[k + 1]'(by omega)) :
    (cellIx (tidy xs ls b).1 t = [] ∧ ls[k] = b) ∨ ∃ c, cellIx (tidy xs ls b).1 t = [c] ∧ ∃ h : c < (tidy xs ls b).2.length, (tidy xs ls b).2[c] = ls[k] := by
  have hz : (xs.zip (ls ++ [b])).length = xs.length := by rw [List.length_zip, List.length_append]; simp; omega
  have rise : Rise (xs.zip (ls ++ [b])) := by
    unfold Rise
    rw [List.pairwise_iff_getElem]
    intro i j hi hj hij
    rw [List.getElem_zip, List.getElem_zip]
    exact rise_get hs (by omega) (by omega) hij
  have e0 : lab b (xs.zip (ls ++ [b])) t = ls[k] := by
    rw [lab_cell _ b t k (by omega) rise (by rw [List.getElem_zip]; exact h1) (fun h' => by rw [List.getElem_zip]; exact h2), List.getElem_zip, List.getElem_append_left hk]
  have hne : ∀ x ∈ xs, x ≠ t := by
    intro x hx e
    obtain ⟨i, hi, rfl⟩ := List.mem_iff_getElem.mp hx
    subst e
    rcases Nat.lt_or_ge k i with z | z
    · by_cases q : k + 1 = i
      · subst q; exact Rat.lt_irrefl h2
      · have := rise_get hs (by omega) hi (show k + 1 < i by omega)
        exact Rat.lt_irrefl (rlt_trans this h2)
    · by_cases q : i = k
      · subst q; exact Rat.lt_irrefl h1
      · have := rise_get hs hi (by omega) (show i < k by omega)
        exact Rat.lt_irrefl (rlt_trans this h1)
  have sub := tidy_subX (xs := xs) (ls := ls) (b := b)
  have hs' : (tidy xs ls b).1.Pairwise (· < ·) := hs.sublist sub
  have hk' : lab b (keep b (xs.zip (ls ++ [b]))) t = ls[k] := by rw [lab_keep _ _ _ rise, e0]
  have rise' : Rise (keep b (xs.zip (ls ++ [b]))) := List.Pairwise.sublist (keep_sub _ _) rise
  have fst : ∀ (i : Nat) (hi : i < (keep b (xs.zip (ls ++ [b]))).length), (keep b (xs.zip (ls ++ [b])))[i].1 = (tidy xs ls b).1[i]'(by unfold tidy; rw [List.length_map]; exact hi) := fun i hi => by
    unfold tidy
    simp
  have l1 : (tidy xs ls b).1.length = (keep b (xs.zip (ls ++ [b]))).length := by unfold tidy; rw [List.length_map]
  have l2 : (tidy xs ls b).2.length = (tidy xs ls b).1.length - 1 := tidy_len
  rcases lab_ix (keep b (xs.zip (ls ++ [b]))) b t rise' (fun q hq => hne _ ((zip_fst_sub xs (ls ++ [b])).mem (List.mem_map.mpr ⟨q, (keep_sub _ _).mem hq, rfl⟩))) with ⟨h3, h4⟩ | ⟨i, hi, h3, h4, h5⟩
  · left
    refine ⟨cellIx_none fun c hc ⟨z1, z2⟩ => ?_, by rw [← hk', h3]⟩
    have hc2 : c < (keep b (xs.zip (ls ++ [b]))).length := by omega
    have := h4 _ (List.getElem_mem hc2)
    rw [fst c hc2] at this
    exact Rat.lt_irrefl (rlt_trans this z1)
  · by_cases hlast : i + 1 < (keep b (xs.zip (ls ++ [b]))).length
    · right
      have hi2 : i < (tidy xs ls b).2.length := by omega
      refine ⟨i, cellIx_one hs' (by omega) (by rw [← fst i hi]; exact h3) (by rw [← fst (i + 1) hlast]; exact h4 hlast), hi2, ?_⟩
      rw [tidy_get hi2, ← hk', h5]
    · left
      have hilast : i = (keep b (xs.zip (ls ++ [b]))).length - 1 := by omega
      constructor
      · refine cellIx_none fun c hc ⟨z1, z2⟩ => ?_
        have hc2 : c + 1 < (keep b (xs.zip (ls ++ [b]))).length := by omega
        have : (tidy xs ls b).1[c + 1]'(by omega) ≤ (keep b (xs.zip (ls ++ [b])))[i].1 := by
          rw [fst i hi]
          by_cases q : c + 1 = i
          · subst q; exact Rat.le_refl
          · exact Rat.le_of_lt (rise_get hs' (by omega) (by omega) (by omega))
        grind
      · rw [← hk', h5]
        have hne2 : keep b (xs.zip (ls ++ [b])) ≠ [] := fun z => by rw [z] at hi; simp at hi
        have q := endL_last (p := b) hne2
        rw [keep_end, endL_zip hl, List.getLast?_eq_getElem?, List.length_map, ← hilast, List.getElem?_map, List.getElem?_eq_getElem hi] at q
        exact Option.some.inj q
/-- the sign of a yard at a spot -/
def signAt (Y : Yd Rat) (s t : Rat) : Bool := match cellIx Y.1 s, cellIx Y.2.1 t with
  | c :: _, r :: _ => (Y.2.2.getD r []).getD c false
  | _, _ => false
/-- each cell that was handed in has its sign -/
theorem sign_ofRows {xs ys : List Rat} {rows : List Row} (g : Grid xs ys rows) (hx : xs.Pairwise (· < ·)) (hy : ys.Pairwise (· < ·)) {k j : Nat} (hj : j < rows.length) (hk : k + 1 < xs.length) (hj2 : j + 1 < ys.length) {s t : Rat}
    (s1 : xs[k] < s) (s2 : s < xs[k + 1]) (t1 : ys[j] < t) (t2 : t < ys[j + 1]) : signAt (ofRows xs ys rows) s t = rows[j].getD k false := by
  have hyl : ys.length = rows.length + 1 := by
    rcases g.high with h | ⟨h, h2⟩
    · exact h
    · rw [h2] at hj; simp at hj
  have hw := g.wide rows[j] (List.getElem_mem hj)
  have ty := tidy_at (ls := rows) (b := blankRow (xs.length - 1)) hyl hy hj t1 t2
  unfold ofRows
  by_cases h0 : (tidy ys rows (blankRow (xs.length - 1))).2 = []
  · rw [if_pos h0]
    have e : rows[j] = blankRow (xs.length - 1) := by
      rcases ty with ⟨_, e⟩ | ⟨c, _, h, _⟩
      · exact e
      · rw [h0] at h; simp at h
    rw [e, blank_getD]
    rfl
  · rw [if_neg h0]
    generalize hrs : (tidy ys rows (blankRow (xs.length - 1))).2 = rs at h0 ty ⊢
    have hcl : xs.length = (columns (xs.length - 1) rs).length + 1 := by rw [columns_len]; omega
    have hkc : k < (columns (xs.length - 1) rs).length := by rw [columns_len]; omega
    have tx := tidy_at (ls := columns (xs.length - 1) rs) (b := blankRow rs.length) hcl hx hkc s1 s2
    show signAt (_, _, _) s t = _
    unfold signAt
    simp only
    rcases ty with ⟨e1, e2⟩ | ⟨r, e1, hr, e2⟩
    · rw [e1, e2, blank_getD]
      split <;> first | rfl | (rename_i h _; cases h) | (rename_i h; cases h)
    · rw [e1]
      rcases tx with ⟨f1, f2⟩ | ⟨c, f1, hc, f2⟩
      · rw [f1]
        show false = _
        rw [columns_get] at f2
        have := congrArg (fun l : Row => l.getD r false) f2
        simp only [blank_getD] at this
        rw [getD_map hr, e2] at this
        exact this.symm
      · rw [f1]
        show ((columns rs.length _).getD r []).getD c false = _
        have hrl : r < (columns rs.length (tidy xs (columns (xs.length - 1) rs) (blankRow rs.length)).2).length := by rw [columns_len]; exact hr
        have e3 : (columns rs.length (tidy xs (columns (xs.length - 1) rs) (blankRow rs.length)).2).getD r [] = (columns rs.length (tidy xs (columns (xs.length - 1) rs) (blankRow rs.length)).2)[r] := by
          rw [List.getD_eq_getElem?_getD, List.getElem?_eq_getElem hrl]; rfl
        rw [e3, columns_get, getD_map hc, f2, columns_get, getD_map hr, e2]
end R3

/-! what ofRows tells -/
namespace R3
theorem row_blank {r : Row} {n : Nat} (h : true ∉ r) (hl : r.length = n) : r = blankRow n := by
  unfold blankRow
  rw [List.eq_replicate_iff]
  refine ⟨hl, fun b hb => ?_⟩
  cases b with
  | false => rfl
  | true => exact absurd hb h
theorem row_hash {r : Row} {n : Nat} (h : r ≠ blankRow n) (hl : r.length = n) : true ∈ r := by
  apply Classical.byContradiction
  intro c
  exact h (row_blank c hl)
structure Told {α : Type} (xs ys : List α) (rows : List Row) (Y : Yd α) : Prop where
  sx : Y.1.Sublist xs
  sy : Y.2.1.Sublist ys
  grid : Grid Y.1 Y.2.1 Y.2.2
  canon : ofRows Y.1 Y.2.1 Y.2.2 = Y
  neat : Y = ([], [], []) ∨ Neat (blankRow (Y.1.length - 1)) Y.2.2 ∧ Neat (blankRow Y.2.2.length) (columns (Y.1.length - 1) Y.2.2)
  void : (∀ r ∈ rows, true ∉ r) → Y = ([], [], [])
theorem ofRows_told {α : Type} {xs ys : List α} {rows : List Row} (g : Grid xs ys rows) : Told xs ys rows (ofRows xs ys rows) := by
  have id := ofRows_idem g
  rcases ofRows_cases g with h | ⟨rs, cols, e1, e2, nr, nc, wr, wc, h, has⟩
  · rw [h] at id ⊢
    exact ⟨List.nil_sublist _, List.nil_sublist _, ⟨.inr ⟨rfl, rfl⟩, fun r hr => nomatch hr⟩, id, .inl rfl, fun _ => rfl⟩
  · have lx : (tidy xs (columns (xs.length - 1) rs) (blankRow rs.length)).1.length - 1 = cols.length := by rw [e2, tidy_len]
    have ly : (tidy ys rows (blankRow (xs.length - 1))).1.length = rs.length + 1 := by
      have := tidy_len (xs := ys) (ls := rows) (b := blankRow (xs.length - 1))
      rw [← e1] at this
      have := nr.some
      omega
    rw [h] at id ⊢
    refine ⟨tidy_subX, tidy_subX, ⟨.inl ?_, fun r hr => ?_⟩, id, .inr ⟨?_, ?_⟩, fun hv => ?_⟩
    · show (tidy ys rows (blankRow (xs.length - 1))).1.length = (columns rs.length cols).length + 1
      rw [columns_len]; exact ly
    · obtain ⟨k, hk, rfl⟩ := columns_mem hr
      show (cols.map _).length = _
      rw [List.length_map]
      exact lx.symm
    · simp only [lx]
      exact neat_rows nr wr has
    · simp only [lx]
      rw [columns_twice wc, columns_len]
      exact nc
    · exfalso
      apply nr.first
      have hm : rs[0]'nr.some ∈ (tidy ys rows (blankRow (xs.length - 1))).2 := by rw [← e1]; exact List.getElem_mem nr.some
      rcases tidy_subL (by rcases g.high with h | ⟨h, h2⟩ <;> simp [h]) hm with z | z
      · exact row_blank (hv _ z) (g.wide _ z)
      · exact z
end R3

namespace R3
open PySem PySem.Spec PyProof.Rows L2
local macro_rules | `(tactic| walk_at "draw") => `(tactic| refine ⟨_, _, _, _, rfl, (by first | assumption | exact put_same), (by assumption), (by omega), (by omega), (small (n := 250) (by omega) (by omega)).mono (by decide), ?_⟩)
/-- law_whole: slots 0 _law_thing -/
def w_law_whole : TS3 :=
 wRet (wAndV (wIsi .int (wV 0)) (wNotV (wIsi .bool (wV 0))))
def sp_law_whole : Sp3 := fun ds S R _ => ∃ k : Int, ds = [.int k] ∧ R (.bl true) S
theorem vc_law_whole : ∀ ds S R G, sp_law_whole ds S R G → w_law_whole (endsOf R G) (start3 ["_law_thing"] ds) S := by
  rintro ds S R G ⟨d, rfl, k⟩
  exact whole_law (d := .int d) trivial ⟨_, Le.refl _, k⟩
theorem qD_mq {z : Int} : qD (mq z) = .tup [.int z, .int 1] := rfl
theorem any_int {xs : List Int} {z : Int} (h : z ∈ xs) : ((xs.map PyData.int).any fun q => PyData.eqv q (.int z)) = true := by
  rw [List.any_map, List.any_eq_true]
  exact ⟨z, h, by show PyData.eqv (.int z) (.int z) = true; rw [eqv_int, decide_eq_true rfl]⟩
theorem ints_ok {xs : List Int} : okP (.list (xs.map PyData.int)) := (OkAt.list (n := 0) fun p hp => by
  obtain ⟨z, _, rfl⟩ := List.mem_map.mp hp
  exact OkAt.int).ok
/-- law_are_lines: slots 0 _law_found 1 _law_handed 2 _law_k 3 _law_line -/
def w_law_are_lines_1 : TS3 :=
 wSeq (wSet 3 (w2 fIx (wV 0) (wV 2)))
 (wSeq (wIfS (wOr (wNot (wB (wIsi .tuple (wV 3)))) (wOr (wB (w2 fNe (wBf fLen [wV 3]) (wC (.int 2)))) (wOr (wNot (wB (wCall sp_law_whole [w2 fIx (wV 3) (wC (.int 0))]))) (wNot (wB (wCall sp_law_whole [w2 fIx (wV 3) (wC (.int 1))]))))))
 (wRet (wC (.bl false)))
 (wNext))
 (wIfS (wOr (wB (w2 fNe (w2 fIx (wV 3) (wC (.int 1))) (wC (.int 1)))) (wOr (wB (w2 fNotIn (w2 fIx (wV 3) (wC (.int 0))) (wV 1))) (wAnd (wB (w2 fGt (wV 2) (wC (.int 0)))) (wB (w2 fLe (w2 fIx (wV 3) (wC (.int 0))) (w2 fIx (w2 fIx (wV 0) (w2 fSub (wV 2) (wC (.int 1)))) (wC (.int 0))))))))
 (wRet (wC (.bl false)))
 (wNext)))
def w_law_are_lines : TS3 :=
 wSeq (wIfS (wNot (wB (wIsi .tuple (wV 0))))
 (wRet (wC (.bl false)))
 (wNext))
 (wSeq (wFor (wRng1 (wBf fLen [wV 0])) (gN 2)
 (w_law_are_lines_1))
 (wRet (wC (.bl true))))
def sp_law_are_lines : Sp3 := fun ds S R _ => ∃ (zs xs : List Int) (a : Addr), ds = [.tup ((zs.map mq).map qD), .ref a] ∧ IsL S a (xs.map D.int) ∧ zs.Pairwise (· < ·) ∧ (∀ z ∈ zs, z ∈ xs) ∧ zs.length ≤ 1000 ∧ R (.bl true) S
theorem vc_law_are_lines : ∀ ds S R G, sp_law_are_lines ds S R G → w_law_are_lines (endsOf R G) (start3 ["_law_found", "_law_handed", "_law_k", "_law_line"] ds) S := by
  rintro ds S R G ⟨zs, xs, a, rfl, ha, hs, hm, hl, h⟩
  have zl : ((zs.map mq).map qD).length = zs.length := by rw [List.length_map, List.length_map]
  have get : ∀ k (hk : k < zs.length), atI ((zs.map mq).map qD) (k : Int) = some (.tup [.int zs[k], .int 1]) := fun k hk => by
    refine atI_nat ?_
    rw [List.map_map, List.getElem?_map, List.getElem?_eq_getElem hk]
    rfl
  refine br_f ⟨⟨by omega, by omega⟩, ?_⟩
  refine ⟨fun k z S' => ∃ a2 a3, z = [some (.tup ((zs.map mq).map qD)), some (.ref a), a2, a3] ∧ S' = S, ⟨_, _, rfl, rfl⟩, fun _ _ _ _ _ => trivial, ?_, ?_⟩
  · rintro k d z S' hd ⟨a2, a3, rfl, rfl⟩
    obtain ⟨rfl, hk⟩ := rng0 hd
    have hk : k < zs.length := by omega
    refine ⟨_, get k hk, ?_⟩
    refine br_f (br_f ⟨_, rfl, _, rfl, br_f ⟨_, rfl, _, rfl, br_f ?_⟩⟩)
    refine ⟨_, rfl, br_f ⟨_, rfl, ?_⟩⟩
    refine ⟨.int zs[k], xs.map .int, .int _, .lst ha (SnL.map (fun _ => .int _) xs), (OkAt.int (n := 0)).ok, ints_ok, ?_⟩
    rw [any_int (hm _ (List.getElem_mem hk))]
    refine br_f (br_dec (fun e => ?_) (fun e => br_f ⟨S', Le.refl _, _, _, rfl, rfl⟩))
    obtain ⟨m, rfl⟩ : ∃ m, k = m + 1 := ⟨k - 1, by omega⟩
    have em : ((m + 1 : Nat) : Int) - 1 = (m : Int) := by omega
    have gm := get m (by omega)
    rw [← em] at gm
    refine ⟨_, rfl, _, gm, _, rfl, ?_⟩
    refine br_dec (fun e2 => absurd (List.pairwise_iff_getElem.mp hs m (m + 1) (by omega) hk (by omega)) (by omega)) (fun e2 => ⟨S', Le.refl _, _, _, rfl, rfl⟩)
  · rintro z S' ⟨a2, a3, rfl, rfl⟩
    exact ⟨_, Le.refl _, h⟩
/-- law_sign: slots 0 _law_yard 1 _law_x 2 _law_y 3 _law_columns 4 _law_rows_here 5 _law_k 6 _law_j -/
def w_law_sign : TS3 :=
 wSeq (wSet 3 (wLc (wRng1 (w2 fSub (wBf fLen [w2 fIx (wV 0) (wC (.int 0))]) (wC (.int 1)))) (cN 5) (wB (wChain fLt fLt (w2 fMul (wC (.int 2)) (w2 fIx (w2 fIx (w2 fIx (wV 0) (wC (.int 0))) (wV 5)) (wC (.int 0)))) (wV 1) (w2 fMul (wC (.int 2)) (w2 fIx (w2 fIx (w2 fIx (wV 0) (wC (.int 0))) (w2 fAdd (wV 5) (wC (.int 1)))) (wC (.int 0)))))) (wV 5) [5]))
 (wSeq (wSet 4 (wLc (wRng1 (w2 fSub (wBf fLen [w2 fIx (wV 0) (wC (.int 1))]) (wC (.int 1)))) (cN 6) (wB (wChain fLt fLt (w2 fMul (wC (.int 2)) (w2 fIx (w2 fIx (w2 fIx (wV 0) (wC (.int 1))) (wV 6)) (wC (.int 0)))) (wV 2) (w2 fMul (wC (.int 2)) (w2 fIx (w2 fIx (w2 fIx (wV 0) (wC (.int 1))) (w2 fAdd (wV 6) (wC (.int 1)))) (wC (.int 0)))))) (wV 6) [6]))
 (wSeq (wIfS (wOr (wB (w2 fEq (wV 3) (wLst []))) (wB (w2 fEq (wV 4) (wLst []))))
 (wRet (wC (.str ".")))
 (wNext))
 (wRet (w2 fIx (w2 fIx (w2 fIx (wV 0) (wC (.int 2))) (w2 fIx (wV 4) (wC (.int 0)))) (w2 fIx (wV 3) (wC (.int 0)))))))
def inB (zs : List Int) (x : Int) (k : Nat) : Bool := decide (2 * zs.getD k 0 < x) && decide (x < 2 * zs.getD (k + 1) 0)
theorem getD_mq {zs : List Int} {k : Nat} (h : k < zs.length) : (zs.map mq).getD k 0 = mq (zs.getD k 0) := by
  simp [List.getD_eq_getElem?_getD, h]
theorem cellIx_int {zs : List Int} {x : Int} : cellIx (zs.map mq) ((x : Rat) / 2) = (List.range (zs.length - 1)).filter (inB zs x) := by
  unfold cellIx
  rw [List.length_map]
  refine List.filter_congr fun k hk => ?_
  have hk := List.mem_range.mp hk
  rw [getD_mq (by omega), getD_mq (by omega)]
  unfold inB mq
  rw [show (decide (2 * zs.getD k 0 < x)) = decide ((zs.getD k 0 : Rat) < (x : Rat) / 2) from decide_eq_decide.mpr (half_lt _ _)]
  rw [show (decide (x < 2 * zs.getD (k + 1) 0)) = decide ((x : Rat) / 2 < (zs.getD (k + 1) 0 : Rat)) from decide_eq_decide.mpr (lt_half _ _)]
theorem ints_nil {xs : List Int} : (if false = true then !PyData.eqv (.list (xs.map PyData.int)) (.list []) else PyData.eqv (.list (xs.map PyData.int)) (.list [])) = decide (xs = []) := by
  rw [if_neg Bool.false_ne_true]
  unfold PyData.eqv
  exact eqvAll_map (ys := []) (fun _ _ => eqv_int)
def cD (cs : List Nat) : List Int := cs.map fun (c : Nat) => (c : Int)
theorem cD_map {cs : List Nat} : cs.map (fun (k : Nat) => D.int k) = (cD cs).map D.int := by
  unfold cD
  rw [List.map_map]
  rfl
/-- a yard with whole lines -/
structure YI (zs ws : List Int) (rows : List Row) : Prop where
  lx : zs.length ≤ 7
  ly : ws.length ≤ 7
  bx : ∀ z ∈ zs, z.natAbs ≤ 10 ^ 9
  by' : ∀ z ∈ ws, z.natAbs ≤ 10 ^ 9
  high : rows.length = ws.length - 1
  wide : ∀ r ∈ rows, r.length = zs.length - 1
def yI (zs ws : List Int) (rows : List Row) : Yd Rat := (zs.map mq, ws.map mq, rows)
def sp_law_sign : Sp3 := fun ds S R _ => ∃ (zs ws : List Int) (rows : List Row) (x y : Int), ds = [yD (yI zs ws rows), .int x, .int y] ∧ YI zs ws rows ∧ R (sgD (signAt (yI zs ws rows) ((x : Rat) / 2) ((y : Rat) / 2))) S
theorem vc_law_sign : ∀ ds S R G, sp_law_sign ds S R G → w_law_sign (endsOf R G) (start3 ["_law_yard", "_law_x", "_law_y", "_law_columns", "_law_rows_here", "_law_k", "_law_j"] ds) S := by
  rintro ds S R G ⟨zs, ws, rows, x, y, rfl, ⟨lx, ly, bx, hby, high, wide⟩, h⟩
  have zl : ∀ zs : List Int, ((zs.map mq).map qD).length = zs.length := fun zs => by rw [List.length_map, List.length_map]
  have get : ∀ (zs : List Int) k (hk : k < zs.length), atI ((zs.map mq).map qD) (k : Int) = some (.tup [.int (zs.getD k 0), .int 1]) := fun zs k hk => by
    refine atI_nat ?_
    rw [List.map_map, List.getElem?_map, List.getElem?_eq_getElem hk, List.getD_eq_getElem?_getD, List.getElem?_eq_getElem hk]
    rfl
  have sm : ∀ (zs : List Int), (∀ z ∈ zs, z.natAbs ≤ 10 ^ 9) → ∀ k, k < zs.length → MulOk 2 (zs.getD k 0) := fun zs hz k hk => by
    have : zs.getD k 0 ∈ zs := by rw [List.getD_eq_getElem?_getD, List.getElem?_eq_getElem hk]; exact List.getElem_mem hk
    have := hz _ this
    exact mulOk (n := 2) (m := 40) (small (by decide) (by decide)) (small (by omega) (by omega)) (by decide)
  have en : ∀ zs : List Int, ((((zs.map mq).map qD).length : Int) - 1).toNat = zs.length - 1 := fun zs => by rw [zl]; omega
  change w_law_sign _ (start3 _ [.tup [.tup ((zs.map mq).map qD), .tup ((ws.map mq).map qD), .tup (rows.map rowD)], .int x, .int y]) S
  have col : ∀ (zs : List Int) (x : Int) (lx : zs.length ≤ 7), (((List.range (rngD 0 ((((zs.map mq).map qD).length : Int) - 1).toNat).length).filter (inB zs x)).map fun (k : Nat) => D.int k) = (cD (cellIx (zs.map mq) ((x : Rat) / 2))).map D.int := fun zs x lx => by
    rw [rngD_len, en, cellIx_int, cD_map]
  have cin : ∀ (zs : List Int) (x : Int) (c : Nat), c ∈ cellIx (zs.map mq) ((x : Rat) / 2) → c < zs.length - 1 := fun zs x c h => by
    unfold cellIx at h
    have := List.mem_range.mp (List.mem_filter.mp h).1
    rw [List.length_map] at this
    exact this
  refine ⟨_, rfl, ⟨by rw [zl]; omega, by rw [zl]; omega⟩, ?_⟩
  refine lc_filter (inB zs x) (fun k => .int k) (by rw [rngD_len, en]; omega) trivial (fun k d K Q hk h1 h0 => ?_) (fun p hp => ?_)
  · obtain ⟨rfl, hk⟩ := rng0 hk
    have hk : k + 1 < zs.length := by have := zl zs; omega
    refine ⟨_, rfl, _, get zs k (by omega), _, rfl, sm zs bx k (by omega), ?_⟩
    refine br_dec (fun e1 => ⟨_, rfl, _, get zs (k + 1) hk, _, rfl, sm zs bx _ hk, ?_⟩) (fun e1 => ?_)
    · refine br_dec (fun e2 => ?_) (fun e2 => ?_)
      · exact h1 (by unfold inB; rw [decide_eq_true e1, decide_eq_true e2]; rfl) _ (Le.refl _)
      · exact h0 (by unfold inB; rw [decide_eq_true e1, decide_eq_false e2]; rfl) _ (Le.refl _)
    · exact (show Br false _ (Q _) from br_f (h0 (by unfold inB; rw [decide_eq_false e1]; rfl) _ (Le.refl _)))
  · rw [col zs x lx]
    refine ⟨_, rfl, ⟨by rw [zl]; omega, by rw [zl]; omega⟩, ?_⟩
    refine lc_filter (inB ws y) (fun k => .int k) (by rw [rngD_len, en]; omega) trivial (fun k d K Q hk h1 h0 => ?_) (fun q hq => ?_)
    · obtain ⟨rfl, hk⟩ := rng0 hk
      have hk : k + 1 < ws.length := by have := zl ws; omega
      refine ⟨_, rfl, _, get ws k (by omega), _, rfl, sm ws hby k (by omega), ?_⟩
      refine br_dec (fun e1 => ⟨_, rfl, _, get ws (k + 1) hk, _, rfl, sm ws hby _ hk, ?_⟩) (fun e1 => ?_)
      · refine br_dec (fun e2 => ?_) (fun e2 => ?_)
        · exact h1 (by unfold inB; rw [decide_eq_true e1, decide_eq_true e2]; rfl) _ (Le.refl _)
        · exact h0 (by unfold inB; rw [decide_eq_true e1, decide_eq_false e2]; rfl) _ (Le.refl _)
      · exact (show Br false _ (Q _) from br_f (h0 (by unfold inB; rw [decide_eq_false e1]; rfl) _ (Le.refl _)))
    · rw [col ws y ly]
      have c1 := cin zs x
      have c2 := cin ws y
      have hh : signAt (yI zs ws rows) ((x : Rat) / 2) ((y : Rat) / 2) = match cellIx (zs.map mq) ((x : Rat) / 2), cellIx (ws.map mq) ((y : Rat) / 2) with
        | c :: _, r :: _ => (rows.getD r []).getD c false
        | _, _ => false := rfl
      rw [hh] at h
      generalize cellIx (zs.map mq) ((x : Rat) / 2) = cs at *
      generalize cellIx (ws.map mq) ((y : Rat) / 2) = rs at *
      have npq : q ≠ p := fun e => by subst e; rw [put_same] at hq; cases hq
      have hq' : IsL (put (put S p (.lst ((cD cs).map D.int))) q (.lst ((cD rs).map D.int))) q ((cD rs).map D.int) := put_same
      have hp' : IsL (put (put S p (.lst ((cD cs).map D.int))) q (.lst ((cD rs).map D.int))) p ((cD cs).map D.int) := by rw [IsL, put_ne (Ne.symm npq)]; exact put_same
      have le1 : Le S (put (put S p (.lst ((cD cs).map D.int))) q (.lst ((cD rs).map D.int))) := Le.put' hp (Le.put' hq (Le.refl _))
      generalize put (put S p (.lst ((cD cs).map D.int))) q (.lst ((cD rs).map D.int)) = S1 at *
      intro t1 ht1
      refine ⟨.list ((cD cs).map .int), .list [], .lst (Le.put ht1 _ _ hp') (SnL.map (fun _ => .int _) _), .lst put_same .nil, ints_ok, rows_ok (rs := []), ?_⟩
      rw [ints_nil]
      refine br_dec (fun e => br_t ?_) (fun e => ?_)
      · cases cs with
        | cons c cs => simp [cD] at e
        | nil => exact ⟨S, le1.trans (Le.put ht1), h⟩
      · intro t2 ht2
        have le2 : Le S1 (put (put S1 t1 (.lst [])) t2 (.lst [])) := Le.put' ht1 (Le.put' ht2 (Le.refl _))
        refine ⟨.list ((cD rs).map .int), .list [], .lst (le2 _ _ hq') (SnL.map (fun _ => .int _) _), .lst put_same .nil, ints_ok, rows_ok (rs := []), ?_⟩
        rw [ints_nil]
        cases cs with
        | nil => exact absurd rfl e
        | cons c cs =>
          refine br_dec (fun e => ?_) (fun e => ?_)
          · cases rs with
            | cons c cs => simp [cD] at e
            | nil => exact ⟨S, le1.trans le2, h⟩
          · cases rs with
            | nil => exact absurd rfl e
            | cons r rs =>
              have hc := c1 c (by simp)
              have hr := c2 r (by simp)
              have hrl : r < rows.length := by omega
              refine ⟨_, rfl, _, .int (r : Int), le2 _ _ hq', atI_nat (j := 0) rfl, rowD rows[r], atI_nat (j := r) (by rw [List.getElem?_map, List.getElem?_eq_getElem hrl]; rfl), _, .int (c : Int), le2 _ _ hp', atI_nat (j := 0) rfl, ?_⟩
              have hw := wide _ (List.getElem_mem hrl)
              have er : rows.getD r [] = rows[r] := by rw [List.getD_eq_getElem?_getD, List.getElem?_eq_getElem hrl]; rfl
              have h : R (sgD ((rows.getD r []).getD c false)) S := h
              rw [er] at h
              refine ix_row (r := rows[r]) (k := c) (by omega) (by omega) ?_
              exact ⟨S, le1.trans le2, h⟩
/-- law_tidy: slots 0 _law_rows_here 1 _law_k -/
def w_law_tidy_1 : TS3 :=
 wIfS (wB (w2 fEq (w2 fIx (wV 0) (wV 1)) (w2 fIx (wV 0) (w2 fSub (wV 1) (wC (.int 1))))))
 (wRet (wC (.bl false)))
 (wNext)
def w_law_tidy : TS3 :=
 wSeq (wFor (wRng2 (wC (.int 1)) (wBf fLen [wV 0])) (gN 1)
 (w_law_tidy_1))
 (wRet (wOrV (w2 fEq (wV 0) (wLst [])) (wAndV (w2 fIn (wC (.str "#")) (w2 fIx (wV 0) (wC (.int 0)))) (w2 fIn (wC (.str "#")) (w2 fIx (wV 0) (wC (.int (-1))))))))
theorem hash_in {r : Row} : (decide (35 ∈ (rowS r).cps.toList)) = decide (true ∈ r) := by
  apply decide_eq_decide.mpr
  unfold rowS
  simp only [List.mem_map]
  constructor
  · rintro ⟨b, hb, e⟩
    cases b with
    | true => exact hb
    | false => exact absurd e (by decide)
  · exact fun h => ⟨true, h, rfl⟩
/-- no equal neighbours, and a sign in the first and in the last -/
structure Tidy (rs : List Row) : Prop where
  next : ∀ k (h : k + 1 < rs.length), rs[k + 1] ≠ rs[k]
  first : ∀ h : 0 < rs.length, true ∈ rs[0]
  last : ∀ h : 0 < rs.length, true ∈ rs[rs.length - 1]
def sp_law_tidy : Sp3 := fun ds S R _ => ∃ (a : Addr) (rs : List Row), ds = [.ref a] ∧ IsL S a (rs.map rowD) ∧ Tidy rs ∧ rs.length ≤ 1000 ∧ (∀ r ∈ rs, r.length ≤ 1000) ∧ R (.bl true) S
theorem vc_law_tidy : ∀ ds S R G, sp_law_tidy ds S R G → w_law_tidy (endsOf R G) (start3 ["_law_rows_here", "_law_k"] ds) S := by
  rintro ds S R G ⟨a, rs, rfl, ha, ⟨hn, h1, h2⟩, hl, hw, h⟩
  have get : ∀ k (hk : k < rs.length), atI (rs.map rowD) (k : Int) = some (rowD rs[k]) := fun k hk => atI_nat (by rw [List.getElem?_map, List.getElem?_eq_getElem hk]; rfl)
  refine ⟨_, ha, ⟨by decide, by decide, by rw [List.length_map]; omega, by rw [List.length_map]; omega⟩, ?_⟩
  refine ⟨fun k z S' => ∃ a1, z = [some (.ref a), a1] ∧ S' = S, ⟨_, rfl, rfl⟩, fun _ _ _ _ _ => trivial, ?_, ?_⟩
  · rintro k d z S' hd ⟨a1, rfl, rfl⟩
    have hk := (List.getElem?_eq_some_iff.mp hd).1
    rw [rngD_len, List.length_map] at hk
    rw [rngD_get (by rw [List.length_map]; omega)] at hd
    have hd := (Option.some.inj hd).symm
    subst hd
    have e1 : (1 : Int) + (k : Int) = ((k + 1 : Nat) : Int) := by omega
    have e2 : (1 : Int) + (k : Int) - 1 = (k : Int) := by omega
    have g1 := get (k + 1) (by omega)
    have g0 := get k (by omega)
    rw [← e1] at g1
    rw [← e2] at g0
    refine ⟨_, rowD rs[k + 1], ha, g1, _, rowD rs[k], ha, g0, ?_⟩
    refine br_dec (fun e => absurd (rowS_inj e) (hn k (by omega))) (fun _ => ⟨S', Le.refl _, _, rfl, rfl⟩)
  · rintro z S' ⟨a1, rfl, rfl⟩
    intro t ht
    refine ⟨.list (rs.map rowP), .list [], .lst (Le.put ht _ _ ha) (SnL.map (fun _ => Sn.row) rs), .lst put_same .nil, rows_ok, rows_ok (rs := []), ?_⟩
    have eqE : (if false = true then !PyData.eqv (.list (rs.map rowP)) (.list []) else PyData.eqv (.list (rs.map rowP)) (.list [])) = decide (rs = []) := by
      rw [if_neg Bool.false_ne_true]
      unfold PyData.eqv
      exact eqvAll_map (ys := []) (fun _ _ => rowP_eqv)
    rw [eqE]
    refine br_dec (fun e => ⟨S', Le.put ht, h⟩) (fun e => ?_)
    have hp : 0 < rs.length := List.length_pos_iff.mpr e
    have gl : atI (rs.map rowD) (-1) = some (rowD rs[rs.length - 1]) := by
      have e3 : rs.map rowD = ((rs.map rowD).dropLast) ++ [rowD rs[rs.length - 1]] := by
        rw [← List.map_dropLast, ← List.map_singleton (f := rowD), ← List.map_append]
        congr 1
        rw [← List.getLast_eq_getElem e, List.dropLast_concat_getLast]
      rw [e3]
      exact atI_last
    refine ⟨_, rowD rs[0], Le.put ht _ _ ha, get 0 hp, 35, rfl, ?_⟩
    rw [hash_in, decide_eq_true (h1 hp)]
    refine br_t ⟨_, rowD rs[rs.length - 1], Le.put ht _ _ ha, gl, 35, rfl, ?_⟩
    rw [hash_in, decide_eq_true (h2 hp)]
    exact ⟨S', Le.put ht, h⟩
/-! ### the yard that was made -/
theorem mq_lt {a b : Int} : mq a < mq b ↔ a < b := Rat.intCast_lt_intCast
theorem rise_mq {zs : List Int} (h : zs.Pairwise (· < ·)) : (zs.map mq).Pairwise (· < ·) := by
  rw [List.pairwise_map]
  exact h.imp fun h => mq_lt.mpr h
theorem mq_b {z : Int} (h : z.natAbs ≤ 10 ^ 9) : QB 31 (mq z) := QB.int (small (by omega) (by omega)) (by decide)
theorem sum_le {m : Nat} : ∀ {rows : List Row}, (∀ r ∈ rows, r.length ≤ m) → ((rows.map rowS).map (·.length)).sum ≤ rows.length * m
  | [], _ => by simp
  | r :: rows, h => by
    have h1 := h r (by simp)
    have h2 := sum_le (rows := rows) fun x hx => h x (by simp [hx])
    have e : (rowS r).length = r.length := rowS_len
    simp only [List.map_cons, List.sum_cons, List.length_cons, Nat.add_mul, Nat.one_mul]
    omega
theorem hash_join {rows : List Row} : decide (35 ∈ (Txt.join "" (rows.map rowS)).cps.toList) = decide (∃ r ∈ rows, true ∈ r) := by
  apply decide_eq_decide.mpr
  rw [join_empty, List.map_map]
  simp only [List.mem_flatten, List.mem_map, Function.comp]
  constructor
  · rintro ⟨l, ⟨r, hr, rfl⟩, h⟩
    exact ⟨r, hr, decide_eq_decide.mp hash_in |>.mp h⟩
  · rintro ⟨r, hr, h⟩
    exact ⟨_, ⟨r, hr, rfl⟩, decide_eq_decide.mp hash_in |>.mpr h⟩
theorem join_rows {d : D} {rows : List Row} {S : Sto} {R : PD} (hd : Its S d (rows.map rowD)) (hz : rows.length ≤ 1000) (hw : ∀ r ∈ rows, r.length ≤ 1000) (hR : R (.str (Txt.join "" (rows.map rowS))) S) : fJoin (.str "") [d] S R := by
  refine ⟨rows.map rowS, ?_, ?_, hR⟩
  · rw [List.map_map]
    exact hd
  · have := sum_le hw
    rw [List.length_map]
    show _ + rows.length * 0 ≤ _
    have h2 : rows.length * 1000 ≤ 1000 * 1000 := Nat.mul_le_mul_right _ hz
    omega
theorem Neat.tidyR {rs : List Row} {n : Nat} (h : Neat (blankRow n) rs) (hw : ∀ r ∈ rs, r.length = n) : Tidy rs :=
  ⟨fun k hk e => h.next k hk e.symm, fun h0 => row_hash h.first (hw _ (List.getElem_mem _)), fun h0 => row_hash h.last (hw _ (List.getElem_mem _))⟩
theorem Tidy.none : Tidy [] := ⟨fun k h => absurd h (by simp), fun h => absurd h (by simp), fun h => absurd h (by simp)⟩
/-- the yard that was made, with whole lines -/
structure MY (xs ys : List Int) (rows : List Row) (zs ws : List Int) (rs : List Row) : Prop where
  eq : ofRows (xs.map mq) (ys.map mq) rows = yI zs ws rs
  ok : YOk 31 (yI zs ws rs)
  yi : YI zs ws rs
  sx : zs.Pairwise (· < ·)
  sy : ws.Pairwise (· < ·)
  inx : ∀ z ∈ zs, z ∈ xs
  iny : ∀ z ∈ ws, z ∈ ys
  tr : Tidy rs
  tc : Tidy (columns (zs.length - 1) rs)
  void : (∀ r ∈ rows, true ∉ r) → zs = [] ∧ ws = [] ∧ rs = []
theorem made_my {xs ys : List Int} {rows : List Row} (wx : Wh xs) (wy : Wh ys) (h1 : rows.length = ys.length - 1) (h2 : ∀ r ∈ rows, r.length = xs.length - 1) : ∃ zs ws rs, MY xs ys rows zs ws rs := by
  have g := Wh.grid (xs := xs) h1 h2
  have t := ofRows_told g
  obtain ⟨⟨zs, ws, rs⟩, e⟩ : ∃ Y, ofRows xs ys rows = Y := ⟨_, rfl⟩
  rw [e] at t
  obtain ⟨sx, sy, grid, canon, neat, void⟩ := t
  simp only at sx sy grid canon neat void
  have lx := sx.length_le
  have ly := sy.length_le
  have wl := wx.1
  have yl := wy.1
  have rx := List.Pairwise.sublist sx wx.2.2
  have ry := List.Pairwise.sublist sy wy.2.2
  have bx : ∀ z ∈ zs, z.natAbs ≤ 10 ^ 9 := fun z hz => wx.2.1 z (sx.subset hz)
  have byy : ∀ z ∈ ws, z.natAbs ≤ 10 ^ 9 := fun z hz => wy.2.1 z (sy.subset hz)
  refine ⟨zs, ws, rs, ?_, ⟨rise_mq rx, rise_mq ry, grid.map mq, ?_, ?_, ?_, ?_, ?_⟩, ⟨by omega, by omega, bx, byy, grid.rowsN, grid.wide⟩, rx, ry, fun z hz => sx.subset hz, fun z hz => sy.subset hz, ?_, ?_, fun hv => ?_⟩
  · rw [ofRows_map, e]; rfl
  · show ofRows (zs.map mq) (ws.map mq) rs = _
    rw [ofRows_map, canon]; rfl
  · intro q hq
    obtain ⟨z, hz, rfl⟩ := List.mem_map.mp hq
    exact mq_b (bx z hz)
  · intro q hq
    obtain ⟨z, hz, rfl⟩ := List.mem_map.mp hq
    exact mq_b (byy z hz)
  · show (zs.map mq).length ≤ 500
    rw [List.length_map]; omega
  · show (ws.map mq).length ≤ 500
    rw [List.length_map]; omega
  · rcases neat with n | n
    · simp only [Prod.mk.injEq] at n
      rw [n.2.2]; exact Tidy.none
    · exact n.1.tidyR grid.wide
  · rcases neat with n | n
    · simp only [Prod.mk.injEq] at n
      rw [n.1]; exact Tidy.none
    · refine n.2.tidyR fun r hr => ?_
      obtain ⟨k, hk, rfl⟩ := columns_mem hr
      rw [List.length_map]
  · have := void hv
    simpa [Prod.mk.injEq] using this
/-- law_right: slots 0 _law_found 1 _law_xs 2 _law_ys 3 _law_rows_here 4 _law_wide 5 _law_j 6 _law_k 7 _law_columns 8 _law_row -/
def w_law_right_1 : TS3 :=
 wIfS (wB (w2 fNe (wCall sp_law_sign [wV 0, w2 fAdd (w2 fIx (wV 1) (wV 6)) (w2 fIx (wV 1) (w2 fAdd (wV 6) (wC (.int 1)))), w2 fAdd (w2 fIx (wV 2) (wV 5)) (w2 fIx (wV 2) (w2 fAdd (wV 5) (wC (.int 1))))]) (w2 fIx (w2 fIx (wV 3) (wV 5)) (wV 6))))
 (wRet (wC (.bl false)))
 (wNext)
def w_law_right_2 : TS3 :=
 wFor (wRng1 (wBf fLen [w2 fIx (wV 3) (wV 5)])) (gN 6)
 (w_law_right_1)
def w_law_right : TS3 :=
 wSeq (wIfS (wOr (wNot (wB (wIsi .tuple (wV 0)))) (wOr (wB (w2 fNe (wBf fLen [wV 0]) (wC (.int 3)))) (wB (w2 fIsNot (wCall sp_is_yard [wV 0]) (wC (.bl true))))))
 (wRet (wC (.bl false)))
 (wNext))
 (wSeq (wIfS (wOr (wNot (wB (wCall sp_law_are_lines [w2 fIx (wV 0) (wC (.int 0)), wV 1]))) (wOr (wNot (wB (wCall sp_law_are_lines [w2 fIx (wV 0) (wC (.int 1)), wV 2]))) (wNot (wB (wIsi .tuple (w2 fIx (wV 0) (wC (.int 2))))))))
 (wRet (wC (.bl false)))
 (wNext))
 (wSeq (wSet 4 (wBf fMax2 [wC (.int 0), w2 fSub (wBf fLen [w2 fIx (wV 0) (wC (.int 0))]) (wC (.int 1))]))
 (wSeq (wIfS (wB (w2 fNe (wBf fLen [w2 fIx (wV 0) (wC (.int 2))]) (wBf fMax2 [wC (.int 0), w2 fSub (wBf fLen [w2 fIx (wV 0) (wC (.int 1))]) (wC (.int 1))])))
 (wRet (wC (.bl false)))
 (wNext))
 (wSeq (wIfS (wNot (wB (wF (wBf fAll [wLc (wItA (w2 fIx (wV 0) (wC (.int 2)))) (cN 8) (tt1) (wAndV (wIsi .str (wV 8)) (w2 fEq (wBf fLen [wV 8]) (wV 4))) [8]]))))
 (wRet (wC (.bl false)))
 (wNext))
 (wSeq (wFor (wRng1 (wBf fLen [wV 3])) (gN 5)
 (w_law_right_2))
 (wSeq (wSet 7 (wLc (wRng1 (wV 4)) (cN 6) (tt1) (wF (wMs fJoin (wC (.str "")) [wLc (wItA (w2 fIx (wV 0) (wC (.int 2)))) (cN 8) (tt1) (w2 fIx (wV 8) (wV 6)) [8]])) [6]))
 (wSeq (wIfS (wB (w2 fNotIn (wC (.str "#")) (wMs fJoin (wC (.str "")) [wV 3])))
 (wRet (w2 fEq (wV 0) (wTup [wTup [], wTup [], wTup []])))
 (wNext))
 (wRet (wAndV (wCall sp_law_tidy [wBf fList [w2 fIx (wV 0) (wC (.int 2))]]) (wCall sp_law_tidy [wV 7]))))))))))
def sp_law_right : Sp3 := fun ds S R _ => ∃ (xs ys : List Int) (rows : List Row) (a b c : Addr), ds = [yD (ofRows (xs.map mq) (ys.map mq) rows), .ref a, .ref b, .ref c] ∧ IsL S a (xs.map D.int) ∧ IsL S b (ys.map D.int) ∧ IsL S c (rows.map rowD) ∧ Wh xs ∧ Wh ys ∧ rows.length = ys.length - 1 ∧ (∀ r ∈ rows, r.length = xs.length - 1) ∧ R (.bl true) S
theorem mid {a b : Int} (h : a < b) : mq a < ((a + b : Int) : Rat) / 2 ∧ ((a + b : Int) : Rat) / 2 < mq b := by
  have h1 : (a : Rat) < (b : Rat) := Rat.intCast_lt_intCast.mpr h
  have e : ((a + b : Int) : Rat) = (a : Rat) + (b : Rat) := Rat.intCast_add a b
  unfold mq
  rw [e]
  constructor <;> grind
theorem vc_law_right : ∀ ds S R G, sp_law_right ds S R G → w_law_right (endsOf R G) (start3 ["_law_found", "_law_xs", "_law_ys", "_law_rows_here", "_law_wide", "_law_j", "_law_k", "_law_columns", "_law_row"] ds) S := by
  rintro ds S R G ⟨xs, ys, rows, a, b, c, rfl, ha, hb, hc, wx, wy, hrl, hrw, h⟩
  obtain ⟨zs, ws, rs, eq, ok, yi, sx, sy, inx, iny, tr, tc, void⟩ := made_my wx wy hrl hrw
  have g := Wh.grid (xs := xs) hrl hrw
  have signs : ∀ (j k : Nat) (hj : j < rows.length) (hk : k + 1 < xs.length) (hj2 : j + 1 < ys.length), signAt (yI zs ws rs) ((((xs[k]'(by omega)) + xs[k + 1] : Int) : Rat) / 2) ((((ys[j]'(by omega)) + ys[j + 1] : Int) : Rat) / 2) = rows[j].getD k false := fun j k hj hk hj2 => by
    have mx := mid (List.pairwise_iff_getElem.mp wx.2.2 k (k + 1) (by omega) hk (by omega))
    have my := mid (List.pairwise_iff_getElem.mp wy.2.2 j (j + 1) (by omega) hj2 (by omega))
    rw [← eq]
    exact sign_ofRows (g.map mq) (rise_mq wx.2.2) (rise_mq wy.2.2) hj (by rw [List.length_map]; exact hk) (by rw [List.length_map]; exact hj2) (by rw [List.getElem_map]; exact mx.1) (by rw [List.getElem_map]; exact mx.2) (by rw [List.getElem_map]; exact my.1) (by rw [List.getElem_map]; exact my.2)
  rw [eq]
  have lx := yi.lx
  have ly := yi.ly
  have wl := wx.1
  have yl := wy.1
  have zl : ∀ zs : List Int, ((zs.map mq).map qD).length = zs.length := fun zs => by rw [List.length_map, List.length_map]
  have emx : (if (((zs.map mq).map qD).length : Int) - 1 > 0 then (((zs.map mq).map qD).length : Int) - 1 else 0) = ((zs.length - 1 : Nat) : Int) := by rw [zl, max0]
  have emy : (if (((ws.map mq).map qD).length : Int) - 1 > 0 then (((ws.map mq).map qD).length : Int) - 1 else 0) = ((ws.length - 1 : Nat) : Int) := by rw [zl, max0]
  have rl : (rs.map rowD).length = ws.length - 1 := by rw [List.length_map]; exact yi.high
  change w_law_right _ (start3 _ [.tup [.tup ((zs.map mq).map qD), .tup ((ws.map mq).map qD), .tup (rs.map rowD)], .ref a, .ref b, .ref c]) S
  refine br_f (br_f ⟨yI zs ws rs, 31, rfl, ok, by decide, br_f ?_⟩)
  refine ⟨_, rfl, zs, xs, a, rfl, ha, sx, inx, by omega, br_f ⟨_, rfl, ws, ys, b, rfl, hb, sy, iny, by omega, br_f ⟨_, rfl, br_f ?_⟩⟩⟩
  refine ⟨_, rfl, ?_⟩
  refine ⟨_, rfl, _, rfl, ?_⟩
  refine br_decN (fun e => absurd ?_ e) (fun _ => ?_)
  · rw [emy, rl]
  · refine ⟨_, rfl, ?_⟩
    refine lc_map (fun _ => .bl true) (by rw [rl]; omega) trivial (fun k d K Q hk hK => ?_) (fun p hp => ?_)
    · obtain ⟨r, hr, rfl⟩ := get_map hk
      have hw := yi.wide r (List.mem_of_getElem? hr)
      refine br_t (br_t ⟨by rw [rowS_len, sizeLine_eq]; omega, ?_⟩)
      have e : decide (((rowS r).length : Int) = if (((zs.map mq).map qD).length : Int) - 1 > 0 then (((zs.map mq).map qD).length : Int) - 1 else 0) = true := by
        rw [emx, rowS_len, hw]
        exact decide_eq_true rfl
      show K (.bl (decide (((rowS r).length : Int) = if (((zs.map mq).map qD).length : Int) - 1 > 0 then (((zs.map mq).map qD).length : Int) - 1 else 0))) S
      rw [e]
      exact hK S (Le.refl _)
    · refine ⟨(rs.map rowD).map fun _ => true, by rw [true_bls]; exact put_same, S, Le.put hp, ?_⟩
      rw [all_true]
      refine br_f ⟨_, hc, ⟨by rw [List.length_map]; omega, by rw [List.length_map]; omega⟩, ?_⟩
      refine ⟨fun k z S' => ∃ a5 a6, z = [some (.tup [.tup ((zs.map mq).map qD), .tup ((ws.map mq).map qD), .tup (rs.map rowD)]), some (.ref a), some (.ref b), some (.ref c), some (.int ((zs.length - 1 : Nat) : Int)), a5, a6, none, none] ∧ S' = S, ⟨_, _, by rw [← emx]; rfl, rfl⟩, fun _ _ _ _ _ => trivial, ?_, ?_⟩
      · rintro j d z S' hd ⟨a5, a6, rfl, rfl⟩
        obtain ⟨rfl, hj⟩ := rng0 hd
        have hj : j < rows.length := by rw [List.length_map] at hj; omega
        have gr : atI (rows.map rowD) (j : Int) = some (rowD rows[j]) := atI_nat (by rw [List.getElem?_map, List.getElem?_eq_getElem hj]; rfl)
        have hw := hrw _ (List.getElem_mem hj)
        have hs : (rowS rows[j]).length = xs.length - 1 := by rw [rowS_len, hw]
        refine ⟨_, rowD rows[j], hc, gr, by rw [rowS_len, sizeLine_eq]; omega, ⟨by omega, by omega⟩, ?_⟩
        refine ⟨fun k z S2 => ∃ a6, z = [some (.tup [.tup ((zs.map mq).map qD), .tup ((ws.map mq).map qD), .tup (rs.map rowD)]), some (.ref a), some (.ref b), some (.ref c), some (.int ((zs.length - 1 : Nat) : Int)), some (.int j), a6, none, none] ∧ S2 = S', ⟨_, rfl, rfl⟩, fun _ _ _ _ _ => trivial, ?_, ?_⟩
        · rintro k d z S2 hd ⟨a6, rfl, rfl⟩
          obtain ⟨rfl, hk⟩ := rng0 hd
          have hk : k + 1 < xs.length := by omega
          have hj2 : j + 1 < ys.length := by omega
          have gx : ∀ i (hi : i < xs.length), atI (xs.map D.int) (i : Int) = some (.int xs[i]) := fun i hi => atI_nat (by rw [List.getElem?_map, List.getElem?_eq_getElem hi]; rfl)
          have gy : ∀ i (hi : i < ys.length), atI (ys.map D.int) (i : Int) = some (.int ys[i]) := fun i hi => atI_nat (by rw [List.getElem?_map, List.getElem?_eq_getElem hi]; rfl)
          refine ⟨_, .int xs[k], ha, gx k (by omega), _, .int xs[k + 1], ha, gx (k + 1) hk, _, .int ys[j], hb, gy j (by omega), _, .int ys[j + 1], hb, gy (j + 1) hj2, ?_⟩
          refine ⟨zs, ws, rs, _, _, rfl, yi, ?_⟩
          rw [signs j k hj hk hj2]
          refine ⟨_, rowD rows[j], hc, gr, ?_⟩
          simp only [wV, at3, List.set]
          refine ix_row (r := rows[j]) (k := k) (by omega) (by omega) ?_
          exact br_decN (fun e => absurd rfl e) (fun _ => ⟨S2, Le.refl _, _, rfl, rfl⟩)
        · rintro z S2 ⟨a6, rfl, rfl⟩
          exact ⟨S2, Le.refl _, _, _, rfl, rfl⟩
      · rintro z S' ⟨a5, a6, rfl, rfl⟩
        refine ⟨⟨by omega, by omega⟩, ?_⟩
        refine lc_map (fun k => rowD (rs.map fun r => r.getD k false)) (by rw [rngD_len]; omega) trivial (fun k d' K Q hk hK => ?_) (fun p hp => ?_)
        · obtain ⟨rfl, hk⟩ := rng0 hk
          refine br_t ⟨⟨_, rfl⟩, _, rfl, ?_⟩
          refine lc_map (fun j => sgD ((rs.getD j []).getD k false)) (by rw [List.length_map]; have := yi.high; omega) trivial (fun j d' K' Q' hj hK' => ?_) (fun p hp => ?_)
          · obtain ⟨r, hr, rfl⟩ := get_map hj
            have hw2 := yi.wide r (List.mem_of_getElem? hr)
            refine br_t ?_
            refine ix_row (r := r) (k := k) (by omega) (by omega) ?_
            have := hK' S' (Le.refl S')
            rw [getD_of hr] at this
            exact this
          · have e : ((List.range (rs.map rowD).length).map fun j => sgD ((rs.getD j []).getD k false)) = (rs.map fun r => r.getD k false).map sgD := by
              rw [List.length_map, range_get (l := rs) (d := []) (fun (r : Row) => sgD (r.getD k false)), List.map_map]
              rfl
            rw [e]
            simp only [wArgs]
            refine join_row (d := .ref p) put_same (by rw [List.length_map]; have := yi.high; omega) ?_
            exact ⟨S', Le.put hp, hK S' (Le.refl S')⟩
        · have e : ((List.range (rngD 0 ((zs.length - 1 : Nat) : Int).toNat).length).map fun k => rowD (rs.map fun r => r.getD k false)) = (columns (zs.length - 1) rs).map rowD := by
            rw [rngD_len]
            unfold columns
            rw [List.map_map]
            rfl
          rw [e]
          refine ⟨⟨_, rfl⟩, ?_⟩
          simp only [wArgs, wV, at3, List.set]
          refine join_rows (d := .ref c) (rows := rows) (Le.put hp _ _ hc) (by omega) (fun r hr => by have := hrw r hr; omega) ?_
          refine ⟨35, rfl, ?_⟩
          rw [hash_join]
          refine br_decN (fun e => ?_) (fun _ => ?_)
          · obtain ⟨e1, e2, e3⟩ := void fun r hr ht => e ⟨r, hr, ht⟩
            subst e1
            subst e2
            subst e3
            refine ⟨yP (yI [] [] []), yP (yI [] [] []), Sn.yard (Y := yI [] [] []), Sn.yard (Y := yI [] [] []), yP_ok.ok, yP_ok.ok, S', Le.put hp, ?_⟩
            rw [if_neg Bool.false_ne_true, eqv_self yP_ok.1]
            exact h
          · refine ⟨_, rfl, rs.map rowD, rfl, fun q hq => ?_⟩
            have nqp : q ≠ p := fun e => by subst e; rw [put_same] at hq; cases hq
            refine ⟨q, rs, rfl, put_same, tr, by have := yi.high; omega, fun r hr => by have := yi.wide r hr; omega, br_t ?_⟩
            refine ⟨p, columns (zs.length - 1) rs, rfl, by rw [IsL, put_ne (Ne.symm nqp)]; exact put_same, tc, by rw [columns_len]; omega, fun r hr => ?_, S', Le.put' hp (Le.put' hq (Le.refl _)), h⟩
            obtain ⟨k, hk, rfl⟩ := columns_mem hr
            rw [List.length_map]
            have := yi.high
            omega
end R3

namespace R3
open PySem PySem.Spec PyProof.Rows L2
theorem map_int_inj {a b : List Int} (h : a.map D.int = b.map D.int) : a = b := (List.map_inj_right (fun x y e => D.int.inj e)).mp h
theorem map_row_inj {a b : List Row} (h : a.map rowD = b.map rowD) : a = b := (List.map_inj_right (fun x y e => rowS_inj (D.str.inj e))).mp h
theorem made_use {S : Sto} {R : PD} {G : Ex → Sto → Prop} {a b c : Addr} {xs ys : List Int} {rows : List Row} (ha : IsL S a (xs.map D.int)) (hb : IsL S b (ys.map D.int)) (hc : IsL S c (rows.map rowD)) (wx : Wh xs) (wy : Wh ys) (h1 : rows.length = ys.length - 1) (h2 : ∀ r ∈ rows, r.length = xs.length - 1)
    (k : R (yD (ofRows (xs.map mq) (ys.map mq) rows)) S) : sp_made [.ref a, .ref b, .ref c] S R G := by
  have l1 := wx.1
  have l2 := wy.1
  refine ⟨_, _, _, rfl, asked_ints ha (by omega), asked_ints hb (by omega), asked_rows hc (by omega) (fun r hr => by have := h2 r hr; omega), fun no => absurd ⟨a, b, c, rfl, rfl, rfl, ha, hb, hc, wx, wy, h1, h2⟩ (no xs ys rows), ?_⟩
  rintro xs2 ys2 rows2 ⟨a2, b2, c2, e1, e2, e3, ha2, hb2, hc2, _⟩
  cases e1
  cases e2
  cases e3
  have q1 : xs2 = xs := map_int_inj (SO.lst.inj (Option.some.inj (ha2.symm.trans ha)))
  have q2 : ys2 = ys := map_int_inj (SO.lst.inj (Option.some.inj (hb2.symm.trans hb)))
  have q3 : rows2 = rows := map_row_inj (SO.lst.inj (Option.some.inj (hc2.symm.trans hc)))
  subst q1
  subst q2
  subst q3
  exact k
def w_law_last : TS3 :=
 (wIfS (wOr (wNot (wB (wCall sp_law_right [wV 7, wV 3, wV 4, wV 5]))) (wB (w2 fNe (wCall sp_made [wBf fList [wV 3], wBf fList [wV 4], wBf fList [wV 5]]) (wV 7))))
 (wRet (wC (.bl false)))
 (wNext))
def w_law_1 : TS3 :=
 wSeq (wSet 2 (wCall sp_law_feed [wV 0, wV 1]))
 (wSeq (wSet 3 (wCall sp_law_lines [wV 2]))
 (wSeq (wSet 4 (wCall sp_law_lines [wV 2]))
 (wSeq (wSet 5 (wCall sp_law_rows [wV 2, wBf fMax2 [wC (.int 0), w2 fSub (wBf fLen [wV 3]) (wC (.int 1))], wBf fMax2 [wC (.int 0), w2 fSub (wBf fLen [wV 4]) (wC (.int 1))]]))
 (wSeq (wSet 6 (wLst [wBf fList [wV 3], wBf fList [wV 4], wBf fList [wV 5]]))
 (wSeq (wSet 7 (wCall sp_made [w2 fIx (wV 6) (wC (.int 0)), w2 fIx (wV 6) (wC (.int 1)), w2 fIx (wV 6) (wC (.int 2))]))
 (wSeq (wIfS (wOr (wNot (wB (wCall sp_law_right [wV 7, wV 3, wV 4, wV 5]))) (wB (w2 fNe (wV 6) (wLst [wV 3, wV 4, wV 5]))))
 (wRet (wC (.bl false)))
 (wNext))
 (wSeq (wDrop (wMl fAppend (w2 fIx (wV 6) (wC (.int 0))) [w2 fAdd (wC (.int 1000000000)) (wC (.int 1))]))
 (wSeq (wDrop (wMl fClear (w2 fIx (wV 6) (wC (.int 1))) []))
 (wSeq (wDrop (wMl fAppend (w2 fIx (wV 6) (wC (.int 2))) [wC (.str "x")]))
 (wIfS (wOr (wNot (wB (wCall sp_law_right [wV 7, wV 3, wV 4, wV 5]))) (wB (w2 fNe (wCall sp_made [wBf fList [wV 3], wBf fList [wV 4], wBf fList [wV 5]]) (wV 7))))
 (wRet (wC (.bl false)))
 (wNext)))))))))))
def w_law : TS3 :=
 wSeq (wFor (wRng1 (w2 fAdd (wC (.int 1)) (wBf fMin2 [wC (.int 10), wBf fLen [wV 0]]))) (gN 1)
 (w_law_1))
 (wRet (wC (.bl true)))
theorem vc_law : ∀ ds S R G, sp_law ds S R G → w_law (endsOf R G) (start3 ["_law_script", "_law_k", "_law_feed_here", "_law_xs", "_law_ys", "_law_rows_here", "_law_handed", "_law_found"] ds) S := by
  rintro ds S R G ⟨ns, rfl, hn, hb, k⟩
  have hlen : (ns.map D.int).length = ns.length := List.length_map _
  refine ⟨⟨by rw [hlen]; split <;> omega, by rw [hlen]; split <;> omega⟩, fun i z S' => ∃ a1 a2 a3 a4 a5 a6 a7, z = [some (.fl (ns.map D.int)), a1, a2, a3, a4, a5, a6, a7], ⟨_, _, _, _, _, _, _, rfl⟩, fun _ _ _ _ _ => trivial, ?_, ?_⟩
  · rintro i d z S' hd ⟨a1, a2, a3, a4, a5, a6, a7, rfl⟩
    obtain ⟨rfl, hi⟩ := rng0 hd
    have hi2 : i ≤ 1000 := by
      rw [hlen] at hi
      split at hi <;> omega
    refine ⟨ns, i, rfl, hn, hi2, fun f o hf hO => ?_⟩
    refine ⟨f, 0, o, rfl, put_same, hO, by decide, fun a xs o1 na hO1 wx => ?_⟩
    have naf : a ≠ f := fun e => by subst e; rw [put_same] at na; cases na
    refine ⟨f, _, o1, rfl, by rw [put_ne (Ne.symm naf)]; exact put_same, hO1, by decide, fun b ys o2 nb hO2 wy => ?_⟩
    have nba : b ≠ a := fun e => by subst e; rw [put_same] at nb; cases nb
    have nbf : b ≠ f := fun e => by subst e; rw [put_ne (Ne.symm naf), put_same] at nb; cases nb
    have l1 := wx.1
    have l2 := wy.1
    have hfa : put (put (put (put (put S' f o) f o1) a (.lst (xs.map D.int))) f o2) b (.lst (ys.map D.int)) a = some (.lst (xs.map D.int)) := by rw [put_ne (Ne.symm nba), put_ne naf]; exact put_same
    refine ⟨_, hfa, _, put_same, ?_⟩
    refine ⟨f, xs.length - 1, ys.length - 1, _, o2, by rw [List.length_map, List.length_map, max0, max0], by rw [put_ne (Ne.symm nbf)]; exact put_same, hO2, by decide, by omega, by omega, fun c rows o3 nc hO3 hrl hrw => ?_⟩
    have nca : c ≠ a := fun e => by subst e; rw [hfa] at nc; cases nc
    have ncb : c ≠ b := fun e => by subst e; rw [put_same] at nc; cases nc
    have Ta : IsL (put (put (put (put (put (put (put S' f o) f o1) a (.lst (xs.map D.int))) f o2) b (.lst (ys.map D.int))) f o3) c (.lst (rows.map rowD))) a (xs.map D.int) := by
      rw [IsL, put_ne (Ne.symm nca), put_ne naf]
      exact hfa
    have Tb : IsL (put (put (put (put (put (put (put S' f o) f o1) a (.lst (xs.map D.int))) f o2) b (.lst (ys.map D.int))) f o3) c (.lst (rows.map rowD))) b (ys.map D.int) := by
      rw [IsL, put_ne (Ne.symm ncb), put_ne nbf]
      exact put_same
    have Tc : IsL (put (put (put (put (put (put (put S' f o) f o1) a (.lst (xs.map D.int))) f o2) b (.lst (ys.map D.int))) f o3) c (.lst (rows.map rowD))) c (rows.map rowD) := put_same
    generalize put (put (put (put (put (put (put S' f o) f o1) a (.lst (xs.map D.int))) f o2) b (.lst (ys.map D.int))) f o3) c (.lst (rows.map rowD)) = T at Ta Tb Tc
    refine ⟨_, Ta, fun a' ha' => ⟨_, Le.put ha' _ _ Tb, fun b' hb' => ⟨_, Le.put' ha' (Le.put hb') _ _ Tc, fun c' hc' h hh => ?_⟩⟩⟩
    have le1 := Le.put' ha' (o := .lst (xs.map D.int)) (Le.put' hb' (o := .lst (ys.map D.int)) (Le.put' hc' (o := .lst (rows.map rowD)) (Le.put hh (o := .lst [.ref a', .ref b', .ref c']))))
    have la' := (Le.put' hb' (o := .lst (ys.map D.int)) (Le.put' hc' (o := .lst (rows.map rowD)) (Le.put hh (o := .lst [.ref a', .ref b', .ref c'])))) _ _ (put_same (S := T) (a := a') (o := .lst (xs.map D.int)))
    have lb' := (Le.put' hc' (o := .lst (rows.map rowD)) (Le.put hh (o := .lst [.ref a', .ref b', .ref c']))) _ _ (put_same (S := put T a' (.lst (xs.map D.int))) (a := b') (o := .lst (ys.map D.int)))
    have lc' := (Le.put hh (o := .lst [.ref a', .ref b', .ref c'])) _ _ (put_same (S := put (put T a' (.lst (xs.map D.int))) b' (.lst (ys.map D.int))) (a := c') (o := .lst (rows.map rowD)))
    have lh : IsL (put (put (put (put T a' (.lst (xs.map D.int))) b' (.lst (ys.map D.int))) c' (.lst (rows.map rowD))) h (.lst [.ref a', .ref b', .ref c'])) h [.ref a', .ref b', .ref c'] := put_same
    have off : ∀ {q z : Addr} {l : List D} {S1 : Sto}, Le T S1 → S1 q = none → IsL T z l → z ≠ q := fun {q z l S1} le n e w => by subst w; rw [le _ _ e] at n; cases n
    have naa' := off (Le.refl _) ha' Ta
    have nba' := off (Le.refl _) ha' Tb
    have nca' := off (Le.refl _) ha' Tc
    have nab' := off (Le.put ha') hb' Ta
    have nbb' := off (Le.put ha') hb' Tb
    have ncb' := off (Le.put ha') hb' Tc
    have nac' := off (Le.put' ha' (Le.put hb')) hc' Ta
    have nbc' := off (Le.put' ha' (Le.put hb')) hc' Tb
    have ncc' := off (Le.put' ha' (Le.put hb')) hc' Tc
    have d1 : b' ≠ a' := fun e => by subst e; rw [put_same] at hb'; cases hb'
    have d2 : c' ≠ b' := fun e => by subst e; rw [put_same] at hc'; cases hc'
    have d3 : c' ≠ a' := fun e => by subst e; rw [put_ne (Ne.symm d1), put_same] at hc'; cases hc'
    have d4 : h ≠ c' := fun e => by subst e; rw [put_same] at hh; cases hh
    have d5 : h ≠ b' := fun e => by subst e; rw [put_ne (Ne.symm d2), put_same] at hh; cases hh
    have d6 : h ≠ a' := fun e => by subst e; rw [put_ne (Ne.symm d3), put_ne (Ne.symm d1), put_same] at hh; cases hh
    generalize put (put (put (put T a' (.lst (xs.map D.int))) b' (.lst (ys.map D.int))) c' (.lst (rows.map rowD))) h (.lst [.ref a', .ref b', .ref c']) = U at le1 la' lb' lc' lh
    have Ua := le1 _ _ Ta
    have Ub := le1 _ _ Tb
    have Uc := le1 _ _ Tc
    refine ⟨_, _, lh, rfl, _, _, lh, rfl, _, _, lh, rfl, ?_⟩
    simp only [wArgs]
    refine made_use la' lb' lc' wx wy hrl hrw ?_
    refine ⟨xs, ys, rows, a, b, c, rfl, Ua, Ub, Uc, wx, wy, hrl, hrw, br_f ?_⟩
    intro g hg
    have okl : OkAt 2 (.list [.list (xs.map PyData.int), .list (ys.map PyData.int), .list (rows.map rowP)]) := OkAt.list (n := 1) fun p hp => by
      simp only [List.mem_cons, List.not_mem_nil, or_false] at hp
      rcases hp with rfl | rfl | rfl
      · exact OkAt.list fun p hp => by obtain ⟨z, _, rfl⟩ := List.mem_map.mp hp; exact OkAt.int
      · exact OkAt.list fun p hp => by obtain ⟨z, _, rfl⟩ := List.mem_map.mp hp; exact OkAt.int
      · exact OkAt.list fun p hp => by obtain ⟨z, _, rfl⟩ := List.mem_map.mp hp; exact OkAt.str row_ok
    have lg := Le.put hg (o := .lst [.ref a, .ref b, .ref c])
    have si : ∀ {S : Sto} {l : List Int}, SnL S (l.map D.int) (l.map PyData.int) := fun {S l} => SnL.map (fun _ => .int _) l
    have sr : ∀ {S : Sto}, SnL S (rows.map rowD) (rows.map rowP) := fun {S} => SnL.map (fun _ => Sn.row) rows
    refine ⟨.list [.list (xs.map .int), .list (ys.map .int), .list (rows.map rowP)], .list [.list (xs.map .int), .list (ys.map .int), .list (rows.map rowP)],
      .lst (lg _ _ lh) (.cons (.lst (lg _ _ la') si) (.cons (.lst (lg _ _ lb') si) (.cons (.lst (lg _ _ lc') sr) .nil))),
      .lst put_same (.cons (.lst (lg _ _ Ua) si) (.cons (.lst (lg _ _ Ub) si) (.cons (.lst (lg _ _ Uc) sr) .nil))), okl.ok, okl.ok, ?_⟩
    rw [if_pos rfl, eqv_self okl.1]
    refine br_f ?_
    have la' := lg _ _ la'
    have lb' := lg _ _ lb'
    have lc' := lg _ _ lc'
    have lh := lg _ _ lh
    have Ua := lg _ _ Ua
    have Ub := lg _ _ Ub
    have Uc := lg _ _ Uc
    generalize put U g (.lst [.ref a, .ref b, .ref c]) = V at la' lb' lc' lh Ua Ub Uc
    refine ⟨_, .ref a', lh, rfl, ⟨_, _, rfl, la'⟩, _, la', by rw [List.length_map, sizeLine_eq]; omega, ?_⟩
    refine ⟨[.ref a', .ref b', .ref c'], .ref b', by rw [IsL, put_ne d6]; exact lh, rfl, ⟨b', ys.map D.int, rfl, by rw [IsL, put_ne d1]; exact lb'⟩, ys.map D.int, by rw [IsL, put_ne d1]; exact lb', ?_⟩
    refine ⟨[.ref a', .ref b', .ref c'], .ref c', by rw [IsL, put_ne d5, put_ne d6]; exact lh, rfl, ⟨c', rows.map rowD, rfl, by rw [IsL, put_ne d2, put_ne d3]; exact lc'⟩, rows.map rowD, by rw [IsL, put_ne d2, put_ne d3]; exact lc', by rw [List.length_map, sizeLine_eq]; omega, ?_⟩
    have Ua2 : IsL (put (put (put V a' (.lst (xs.map D.int ++ [.int (1000000000 + 1)]))) b' (.lst [])) c' (.lst (rows.map rowD ++ [.str "x"]))) a (xs.map D.int) := by
      rw [IsL, put_ne nac', put_ne nab', put_ne naa']; exact Ua
    have Ub2 : IsL (put (put (put V a' (.lst (xs.map D.int ++ [.int (1000000000 + 1)]))) b' (.lst [])) c' (.lst (rows.map rowD ++ [.str "x"]))) b (ys.map D.int) := by
      rw [IsL, put_ne nbc', put_ne nbb', put_ne nba']; exact Ub
    have Uc2 : IsL (put (put (put V a' (.lst (xs.map D.int ++ [.int (1000000000 + 1)]))) b' (.lst [])) c' (.lst (rows.map rowD ++ [.str "x"]))) c (rows.map rowD) := by
      rw [IsL, put_ne ncc', put_ne ncb', put_ne nca']; exact Uc
    generalize put (put (put V a' (.lst (xs.map D.int ++ [.int (1000000000 + 1)]))) b' (.lst [])) c' (.lst (rows.map rowD ++ [.str "x"])) = X at Ua2 Ub2 Uc2
    refine ⟨xs, ys, rows, a, b, c, ?_⟩
    refine ⟨rfl, Ua2, Ub2, Uc2, wx, wy, hrl, hrw, br_f ?_⟩
    refine ⟨_, Ua2, fun a3 h3 => ⟨_, Le.put h3 _ _ Ub2, fun b3 h4 => ⟨_, Le.put' h3 (Le.put h4) _ _ Uc2, fun c3 h5 => ?_⟩⟩⟩
    have ma := (Le.put' h4 (o := .lst (ys.map D.int)) (Le.put h5 (o := .lst (rows.map rowD)))) _ _ (put_same (S := X) (a := a3) (o := .lst (xs.map D.int)))
    have mb := (Le.put h5 (o := .lst (rows.map rowD))) _ _ (put_same (S := put X a3 (.lst (xs.map D.int))) (a := b3) (o := .lst (ys.map D.int)))
    simp only [wArgs, wV, at3, List.set]
    refine made_use (xs := xs) (ys := ys) (rows := rows) ma mb put_same wx wy hrl hrw ?_
    obtain ⟨zs, ws, rs, eq, _⟩ := made_my wx wy hrl hrw
    refine ⟨yP (ofRows (xs.map mq) (ys.map mq) rows), yP (ofRows (xs.map mq) (ys.map mq) rows), Sn.yard, Sn.yard, yP_ok.ok, yP_ok.ok, ?_⟩
    rw [if_pos rfl, eqv_self yP_ok.1]
    refine br_f ⟨X, Le.put' h3 (Le.put' h4 (Le.put h5)), _, _, _, _, _, _, _, rfl⟩
  · rintro z S' ⟨a1, a2, a3, a4, a5, a6, a7, rfl⟩
    exact ⟨S', Le.refl _, k S'⟩
end R3

namespace R3
open PySem PySem.Spec PyProof.Rows L2
def topS (i : Nat) : Stmt := PySem.Challenge.pw_roofridges_k04_yards_made.main.body.getD i (.Pass ⟨0, 0, 0, 0⟩)
abbrev s_is_whole : Stmt := topS 4
abbrev s_divisor : Stmt := topS 5
abbrev s_under : Stmt := topS 7
abbrev s_tidied : Stmt := topS 12
abbrev s_columns_of : Stmt := topS 13
abbrev s_are_signs : Stmt := topS 15
abbrev s_law_feed : Stmt := topS 21
abbrev s_law_next : Stmt := topS 22
abbrev s_law_whole : Stmt := topS 25
abbrev s_law_sign : Stmt := topS 27
abbrev s_law_tidy : Stmt := topS 28
abbrev s_is_number : Stmt := topS 6
abbrev s_of_rows : Stmt := topS 14
abbrev s_are_wholes : Stmt := topS 18
abbrev s_law_lines : Stmt := topS 23
abbrev s_law_rows : Stmt := topS 24
abbrev s_law_are_lines : Stmt := topS 26
abbrev s_are_rising : Stmt := topS 16
abbrev s_made : Stmt := topS 19
abbrev s_is_yard : Stmt := topS 17
abbrev s_law_right : Stmt := topS 29
abbrev s_law : Stmt := topS 30
structure Tx (K : PySem.W.Frag) (mg : Str → Option Value) : Prop where
  f_is_whole : Has K mg "is_whole" s_is_whole ["thing"]
  f_divisor : Has K mg "divisor" s_divisor ["one", "other"]
  f_under : Has K mg "under" s_under ["one", "other"]
  f_tidied : Has K mg "tidied" s_tidied ["lines", "stretches", "blank"]
  f_columns_of : Has K mg "columns_of" s_columns_of ["rows", "many"]
  f_are_signs : Has K mg "are_signs" s_are_signs ["thing", "many"]
  f_law_feed : Has K mg "_law_feed" s_law_feed ["_law_script", "_law_k"]
  f_law_next : Has K mg "_law_next" s_law_next ["_law_feed_here", "_law_many"]
  f_law_whole : Has K mg "_law_whole" s_law_whole ["_law_thing"]
  f_law_sign : Has K mg "_law_sign" s_law_sign ["_law_yard", "_law_x", "_law_y"]
  f_law_tidy : Has K mg "_law_tidy" s_law_tidy ["_law_rows_here"]
  f_is_number : Has K mg "is_number" s_is_number ["thing"]
  f_of_rows : Has K mg "of_rows" s_of_rows ["xs", "ys", "rows"]
  f_are_wholes : Has K mg "are_wholes" s_are_wholes ["thing"]
  f_law_lines : Has K mg "_law_lines" s_law_lines ["_law_feed_here"]
  f_law_rows : Has K mg "_law_rows" s_law_rows ["_law_feed_here", "_law_wide", "_law_high"]
  f_law_are_lines : Has K mg "_law_are_lines" s_law_are_lines ["_law_found", "_law_handed"]
  f_are_rising : Has K mg "are_rising" s_are_rising ["thing"]
  f_made : Has K mg "made" s_made ["xs", "ys", "rows"]
  f_is_yard : Has K mg "is_yard" s_is_yard ["thing"]
  f_law_right : Has K mg "_law_right" s_law_right ["_law_found", "_law_xs", "_law_ys", "_law_rows_here"]
  f_law : Has K mg "law" s_law ["_law_script"]
  z_abs : mg "abs" = none
  z_all : mg "all" = none
  z_bool : mg "bool" = none
  z_int : mg "int" = none
  z_isinstance : mg "isinstance" = none
  z_len : mg "len" = none
  z_list : mg "list" = none
  z_max : mg "max" = none
  z_min : mg "min" = none
  z_range : mg "range" = none
  z_str : mg "str" = none
  z_tuple : mg "tuple" = none
  g_FAR : GlobD K mg "FAR" k_FAR
  g_MOST_LINES : GlobD K mg "MOST_LINES" k_MOST_LINES
  g_VOID : GlobD K mg "VOID" k_VOID
  r_yard : RaiseF K mg .yard
section
variable {P : Program} {w : World} {K : PySem.W.Frag} {mg : Str → Option Value} {base : Heap}
theorem sc_is_whole : FnScope ["thing"] ["thing"] (defScope s_is_whole) := ⟨rfl, rfl, rfl, by decide +kernel, rfl, by decide +kernel, by decide +kernel⟩
theorem ok_is_whole (T : Tx K mg) : OkF P w K mg base 1 "is_whole" ["thing"] sp_is_whole :=
  OkF.def3 (k := 0) (t := w_is_whole) T.f_is_whole sc_is_whole vc_is_whole (fun f cdv A outer s H E W hr hU tk hp =>
    (s3_one (s3_ret (e3_and (e3_isi .int (by rfl) T.z_isinstance (by decide +kernel) (v3 0) (by rfl) T.z_int (by decide +kernel)) (e3_one (e3_not (e3_isi .bool (by rfl) T.z_isinstance (by decide +kernel) (v3 0) (by rfl) T.z_bool (by decide +kernel))))))))

theorem sc_divisor : FnScope ["one", "other"] ["one", "other"] (defScope s_divisor) := ⟨rfl, rfl, rfl, by decide +kernel, rfl, by decide +kernel, by decide +kernel⟩
theorem ok_divisor (T : Tx K mg) : OkF P w K mg base 1 "divisor" ["one", "other"] sp_divisor :=
  OkF.def3 (k := 0) (t := w_divisor) T.f_divisor sc_divisor vc_divisor (fun f cdv A outer s H E W hr hU tk hp =>
    (s3_cons (s3_while hp (t3_cmp o3_gt (v3 1) e3_int) (s3_one (s3_par (i := 0) (j := 1) rfl sc_divisor.nd rfl rfl (by decide) rfl rfl (a3_cons (v3 1) (a3_cons (e3_op o3_mod (v3 0) (v3 1)) a3_nil)) (by rfl))))
 (s3_one (s3_ret (v3 0)))))

theorem sc_under : FnScope ["one", "other"] ["one", "other"] (defScope s_under) := ⟨rfl, rfl, rfl, by decide +kernel, rfl, by decide +kernel, by decide +kernel⟩
theorem ok_under (T : Tx K mg) : OkF P w K mg base 1 "under" ["one", "other"] sp_under :=
  OkF.def3 (k := 0) (t := w_under) T.f_under sc_under vc_under (fun f cdv A outer s H E W hr hU tk hp =>
    (s3_one (s3_ret (e3_cmp o3_lt (e3_op o3_mul (e3_ix i3_ix (v3 0) e3_int) (e3_ix i3_ix (v3 1) e3_int)) (e3_op o3_mul (e3_ix i3_ix (v3 1) e3_int) (e3_ix i3_ix (v3 0) e3_int))))))

theorem sc_tidied : FnScope ["lines", "stretches", "blank", "held", "kept", "k"] ["lines", "stretches", "blank"] (defScope s_tidied) := ⟨rfl, rfl, rfl, by decide +kernel, rfl, by decide +kernel, by decide +kernel⟩
theorem ok_tidied (T : Tx K mg) : OkF P w K mg base 1 "tidied" ["lines", "stretches", "blank"] sp_tidied :=
  OkF.def3 (k := 0) (t := w_tidied) T.f_tidied sc_tidied vc_tidied (fun f cdv A outer s H E W hr hU tk hp =>
    (s3_cons (s3_set (i := 3) sc_tidied.nd rfl (.inr rfl) (e3_op o3_add (e3_op o3_add (e3_lst (a3_cons (v3 2) a3_nil)) (e3_bt c3_list (by rfl) T.z_list (by decide +kernel) (a3_cons (v3 1) a3_nil))) (e3_lst (a3_cons (v3 2) a3_nil))))
 (s3_cons (s3_setLc (i := 4) (own := [("k", 5)]) (ws := [5]) rfl sc_tidied.nd rfl rfl (sw_true rfl rfl rfl (by decide +kernel)) (i3_rng1 (by rfl) T.z_range (a3_cons (e3_bf c3_len (by rfl) T.z_len (by decide +kernel) (a3_cons (v3 0) a3_nil)) a3_nil)) (blkOk_by (N := ["lines", "stretches", "blank", "held", "kept", "k"]) (sc := defScope s_tidied) (by decide +kernel)) (by decide) (fun _ _ _ _ _ => (cg_name (i := 5) sc_tidied.nd rfl (.inl rfl) (by decide))) (fun _ _ _ _ _ => (pts3_one (t3_cmp (o3_ne (Nat.lt_of_le_of_lt (Nat.add_le_add_left (by decide) _) hU)) (e3_ix i3_ix (v3 3) (v3 5)) (e3_ix i3_ix (v3 3) (e3_op o3_add (v3 5) e3_int))))) (fun _ _ _ _ _ => (v3 5)))
 (s3_one (s3_ret (e3_tup (a3_cons (e3_lc (own := [("k", 5)]) (ws := [5]) rfl sc_tidied.nd (i3_any (v3 4)) (blkOk_by (N := ["lines", "stretches", "blank", "held", "kept", "k"]) (sc := defScope s_tidied) (by decide +kernel)) (by decide) (fun _ _ _ _ _ => (cg_name (i := 5) sc_tidied.nd rfl (.inl rfl) (by decide))) (fun _ _ _ _ _ => pts3_nil) (fun _ _ _ _ _ => (e3_ix i3_ix (v3 0) (v3 5)))) (a3_cons (e3_lc (own := [("k", 5)]) (ws := [5]) rfl sc_tidied.nd (i3_any (e3_slice (v3 4) p3_none (p3_some e3_negc))) (blkOk_by (N := ["lines", "stretches", "blank", "held", "kept", "k"]) (sc := defScope s_tidied) (by decide +kernel)) (by decide) (fun _ _ _ _ _ => (cg_name (i := 5) sc_tidied.nd rfl (.inl rfl) (by decide))) (fun _ _ _ _ _ => pts3_nil) (fun _ _ _ _ _ => (e3_ix i3_ix (v3 3) (e3_op o3_add (v3 5) e3_int)))) a3_nil))))))))

theorem sc_columns_of : FnScope ["rows", "many", "k", "row"] ["rows", "many"] (defScope s_columns_of) := ⟨rfl, rfl, rfl, by decide +kernel, rfl, by decide +kernel, by decide +kernel⟩
theorem ok_columns_of (T : Tx K mg) : OkF P w K mg base 1 "columns_of" ["rows", "many"] sp_columns_of :=
  OkF.def3 (k := 0) (t := w_columns_of) T.f_columns_of sc_columns_of vc_columns_of (fun f cdv A outer s H E W hr hU tk hp =>
    (s3_one (s3_ret (e3_lc (own := [("k", 2)]) (ws := [2]) rfl sc_columns_of.nd (i3_rng1 (by rfl) T.z_range (a3_cons (v3 1) a3_nil)) (blkOk_by (N := ["rows", "many", "k", "row"]) (sc := defScope s_columns_of) (by decide +kernel)) (by decide) (fun _ _ _ _ _ => (cg_name (i := 2) sc_columns_of.nd rfl (.inr rfl) (by decide))) (fun _ _ _ _ _ => pts3_nil) (fun _ _ _ _ _ => (e3_forget (e3_ms PySem.F.slot_str_join PySem.F.type_str_join m3_join e3_str (a3_cons (e3_lc (own := [("row", 3)]) (ws := [3]) rfl sc_columns_of.nd (i3_any (v3 0)) (blkOk_by (by rfl)) (by decide) (fun _ _ _ _ _ => (cg_name (i := 3) sc_columns_of.nd rfl (.inl rfl) (by decide))) (fun _ _ _ _ _ => pts3_nil) (fun _ _ _ _ _ => (e3_ix i3_ix (v3 3) (v3 2)))) a3_nil))))))))

theorem sc_are_signs : FnScope ["thing", "many", "sign"] ["thing", "many"] (defScope s_are_signs) := ⟨rfl, rfl, rfl, by decide +kernel, rfl, by decide +kernel, by decide +kernel⟩
theorem ok_are_signs (T : Tx K mg) : OkF P w K mg base 1 "are_signs" ["thing", "many"] sp_are_signs :=
  OkF.def3 (k := 0) (t := w_are_signs) T.f_are_signs sc_are_signs vc_are_signs (fun f cdv A outer s H E W hr hU tk hp =>
    (s3_one (s3_ret (e3_and (e3_isi .str (by rfl) T.z_isinstance (by decide +kernel) (v3 0) (by rfl) T.z_str (by decide +kernel)) (e3_and (e3_cmp (o3_eq (Nat.lt_of_le_of_lt (Nat.add_le_add_left (by decide) _) hU)) (e3_bf c3_len (by rfl) T.z_len (by decide +kernel) (a3_cons (v3 0) a3_nil)) (v3 1)) (e3_one (e3_forget (e3_bf (c3_all rfl) (by rfl) T.z_all (by decide +kernel) (a3_cons (e3_lc (own := [("sign", 2)]) (ws := [2]) rfl sc_are_signs.nd (i3_any (v3 0)) (blkOk_by (N := ["thing", "many", "sign"]) (sc := defScope s_are_signs) (by decide +kernel)) (by decide) (fun _ _ _ _ _ => (cg_name (i := 2) sc_are_signs.nd rfl (.inl rfl) (by decide))) (fun _ _ _ _ _ => pts3_nil) (fun _ _ _ _ _ => (e3_cmp (o3_in (Nat.lt_of_le_of_lt (Nat.add_le_add_left (by decide) _) hU)) (v3 2) e3_str))) a3_nil)))))))))

theorem sc_law_feed : FnScope ["_law_script", "_law_k", "_law_cell", "_law_great"] ["_law_script", "_law_k"] (defScope s_law_feed) := ⟨rfl, rfl, rfl, by decide +kernel, rfl, by decide +kernel, by decide +kernel⟩
theorem ok_law_feed (T : Tx K mg) : OkF P w K mg base 1 "_law_feed" ["_law_script", "_law_k"] sp_law_feed :=
  OkF.def3 (k := 0) (t := w_law_feed) T.f_law_feed sc_law_feed vc_law_feed (fun f cdv A outer s H E W hr hU tk hp =>
    (s3_cons (s3_set (i := 2) sc_law_feed.nd rfl (.inl rfl) e3_int)
 (s3_cons (s3_if (t3_cmp o3_lt (v3 1) (e3_bf c3_len (by rfl) T.z_len (by decide +kernel) (a3_cons (v3 0) a3_nil))) (s3_one (s3_set (i := 2) sc_law_feed.nd rfl (.inl rfl) (e3_ix i3_ix (v3 0) (v3 1)))) s3_nil)
 (s3_cons (s3_set (i := 3) sc_law_feed.nd rfl (.inl rfl) (e3_bf c3_abs (by rfl) T.z_abs (by decide +kernel) (a3_cons (v3 2) a3_nil)))
 (s3_cons (s3_if (t3_cmp o3_lt (v3 3) (e3_powc (k := 1000000000000000000) (by decide +kernel) (by decide))) (s3_one (s3_set (i := 3) sc_law_feed.nd rfl (.inl rfl) e3_int)) s3_nil)
 (s3_one (s3_ret (e3_lst (a3_cons (v3 3) (a3_cons (e3_op o3_mod (e3_op o3_add (e3_op o3_add (e3_op o3_mul (e3_op o3_mod (v3 2) e3_int) e3_int) (e3_op o3_mul e3_int (v3 1))) e3_int) e3_int) (a3_cons e3_int a3_nil)))))))))))

theorem sc_law_next : FnScope ["_law_feed_here", "_law_many", "_law_digit", "_law_step", "_law_mixed"] ["_law_feed_here", "_law_many"] (defScope s_law_next) := ⟨rfl, rfl, rfl, by decide +kernel, rfl, by decide +kernel, by decide +kernel⟩
theorem ok_law_next (T : Tx K mg) : OkF P w K mg base 1 "_law_next" ["_law_feed_here", "_law_many"] sp_law_next :=
  OkF.def3 (k := 0) (t := w_law_next) T.f_law_next sc_law_next vc_law_next (fun f cdv A outer s H E W hr hU tk hp =>
    (s3_cons (s3_if (t3_cmp o3_gt (e3_ix i3_ix (v3 0) e3_int) e3_int) (s3_cons (s3_set (i := 2) sc_law_next.nd rfl (.inl rfl) (e3_op o3_mod (e3_ix i3_ix (v3 0) e3_int) (v3 1)))
 (s3_cons (s3_asg (e3_op o3_div (e3_ix i3_ix (v3 0) e3_int) (v3 1)) (g3_sub (v3 0) e3_int p3_setL))
 (s3_one (s3_ret (v3 2))))) s3_nil)
 (s3_cons (s3_set (i := 3) sc_law_next.nd rfl (.inl rfl) (e3_op o3_add (e3_ix i3_ix (v3 0) e3_int) e3_int))
 (s3_cons (s3_asg (v3 3) (g3_sub (v3 0) e3_int p3_setL))
 (s3_cons (s3_set (i := 4) sc_law_next.nd rfl (.inl rfl) (e3_op o3_mod (e3_op o3_add (e3_op o3_add (e3_ix i3_ix (v3 0) e3_int) (e3_op o3_mul (e3_op o3_mul e3_int (v3 3)) (v3 3))) (e3_op o3_mul e3_int (v3 3))) e3_int))
 (s3_cons (s3_set (i := 4) sc_law_next.nd rfl (.inl rfl) (e3_op o3_mod (e3_op o3_add (e3_op o3_add (e3_op o3_mul (v3 4) (v3 4)) (e3_op o3_mul e3_int (v3 4))) (v3 3)) e3_int))
 (s3_cons (s3_set (i := 4) sc_law_next.nd rfl (.inl rfl) (e3_op o3_mod (e3_op o3_add (e3_op o3_mul (v3 4) (v3 4)) (e3_op o3_mul e3_int (v3 4))) e3_int))
 (s3_one (s3_ret (e3_op o3_mod (e3_op o3_div (v3 4) e3_int) (v3 1)))))))))))

theorem sc_law_whole : FnScope ["_law_thing"] ["_law_thing"] (defScope s_law_whole) := ⟨rfl, rfl, rfl, by decide +kernel, rfl, by decide +kernel, by decide +kernel⟩
theorem ok_law_whole (T : Tx K mg) : OkF P w K mg base 1 "_law_whole" ["_law_thing"] sp_law_whole :=
  OkF.def3 (k := 0) (t := w_law_whole) T.f_law_whole sc_law_whole vc_law_whole (fun f cdv A outer s H E W hr hU tk hp =>
    (s3_one (s3_ret (e3_and (e3_isi .int (by rfl) T.z_isinstance (by decide +kernel) (v3 0) (by rfl) T.z_int (by decide +kernel)) (e3_one (e3_not (e3_isi .bool (by rfl) T.z_isinstance (by decide +kernel) (v3 0) (by rfl) T.z_bool (by decide +kernel))))))))

theorem sc_law_sign : FnScope ["_law_yard", "_law_x", "_law_y", "_law_columns", "_law_rows_here", "_law_k", "_law_j"] ["_law_yard", "_law_x", "_law_y"] (defScope s_law_sign) := ⟨rfl, rfl, rfl, by decide +kernel, rfl, by decide +kernel, by decide +kernel⟩
theorem ok_law_sign (T : Tx K mg) : OkF P w K mg base 1 "_law_sign" ["_law_yard", "_law_x", "_law_y"] sp_law_sign :=
  OkF.def3 (k := 0) (t := w_law_sign) T.f_law_sign sc_law_sign vc_law_sign (fun f cdv A outer s H E W hr hU tk hp =>
    (s3_cons (s3_setLc (i := 3) (own := [("_law_k", 5)]) (ws := [5]) rfl sc_law_sign.nd rfl rfl (sw_true rfl rfl rfl (by decide +kernel)) (i3_rng1 (by rfl) T.z_range (a3_cons (e3_op o3_sub (e3_bf c3_len (by rfl) T.z_len (by decide +kernel) (a3_cons (e3_ix i3_ix (v3 0) e3_int) a3_nil)) e3_int) a3_nil)) (blkOk_by (N := ["_law_yard", "_law_x", "_law_y", "_law_columns", "_law_rows_here", "_law_k", "_law_j"]) (sc := defScope s_law_sign) (by decide +kernel)) (by decide) (fun _ _ _ _ _ => (cg_name (i := 5) sc_law_sign.nd rfl (.inl rfl) (by decide))) (fun _ _ _ _ _ => (pts3_one (t3_chain o3_lt o3_lt (e3_op o3_mul e3_int (e3_ix i3_ix (e3_ix i3_ix (e3_ix i3_ix (v3 0) e3_int) (v3 5)) e3_int)) (v3 1) (e3_op o3_mul e3_int (e3_ix i3_ix (e3_ix i3_ix (e3_ix i3_ix (v3 0) e3_int) (e3_op o3_add (v3 5) e3_int)) e3_int))))) (fun _ _ _ _ _ => (v3 5)))
 (s3_cons (s3_setLc (i := 4) (own := [("_law_j", 6)]) (ws := [6]) rfl sc_law_sign.nd rfl rfl (sw_true rfl rfl rfl (by decide +kernel)) (i3_rng1 (by rfl) T.z_range (a3_cons (e3_op o3_sub (e3_bf c3_len (by rfl) T.z_len (by decide +kernel) (a3_cons (e3_ix i3_ix (v3 0) e3_int) a3_nil)) e3_int) a3_nil)) (blkOk_by (N := ["_law_yard", "_law_x", "_law_y", "_law_columns", "_law_rows_here", "_law_k", "_law_j"]) (sc := defScope s_law_sign) (by decide +kernel)) (by decide) (fun _ _ _ _ _ => (cg_name (i := 6) sc_law_sign.nd rfl (.inl rfl) (by decide))) (fun _ _ _ _ _ => (pts3_one (t3_chain o3_lt o3_lt (e3_op o3_mul e3_int (e3_ix i3_ix (e3_ix i3_ix (e3_ix i3_ix (v3 0) e3_int) (v3 6)) e3_int)) (v3 2) (e3_op o3_mul e3_int (e3_ix i3_ix (e3_ix i3_ix (e3_ix i3_ix (v3 0) e3_int) (e3_op o3_add (v3 6) e3_int)) e3_int))))) (fun _ _ _ _ _ => (v3 6)))
 (s3_cons (s3_if (t3_w (w3_or (t3_cmp (o3_eq (Nat.lt_of_le_of_lt (Nat.add_le_add_left (by decide) _) hU)) (v3 3) (e3_lst a3_nil)) (w3_or1 (t3_cmp (o3_eq (Nat.lt_of_le_of_lt (Nat.add_le_add_left (by decide) _) hU)) (v3 4) (e3_lst a3_nil))))) (s3_one (s3_ret e3_str)) s3_nil)
 (s3_one (s3_ret (e3_ix i3_ix (e3_ix i3_ix (e3_ix i3_ix (v3 0) e3_int) (e3_ix i3_ix (v3 4) e3_int)) (e3_ix i3_ix (v3 3) e3_int))))))))

theorem sc_law_tidy : FnScope ["_law_rows_here", "_law_k"] ["_law_rows_here"] (defScope s_law_tidy) := ⟨rfl, rfl, rfl, by decide +kernel, rfl, by decide +kernel, by decide +kernel⟩
theorem ok_law_tidy (T : Tx K mg) : OkF P w K mg base 1 "_law_tidy" ["_law_rows_here"] sp_law_tidy :=
  OkF.def3 (k := 0) (t := w_law_tidy) T.f_law_tidy sc_law_tidy vc_law_tidy (fun f cdv A outer s H E W hr hU tk hp =>
    (s3_cons (s3_for hp rfl (i3_rng2 (by rfl) T.z_range (a3_cons e3_int (a3_cons (e3_bf c3_len (by rfl) T.z_len (by decide +kernel) (a3_cons (v3 0) a3_nil)) a3_nil))) (g3_name (i := 1) sc_law_tidy.nd rfl (.inl rfl)) (s3_one (s3_if (t3_cmp (o3_eq (Nat.lt_of_le_of_lt (Nat.add_le_add_left (by decide) _) hU)) (e3_ix i3_ix (v3 0) (v3 1)) (e3_ix i3_ix (v3 0) (e3_op o3_sub (v3 1) e3_int))) (s3_one (s3_ret e3_bl)) s3_nil)))
 (s3_one (s3_ret (e3_or (e3_cmp (o3_eq (Nat.lt_of_le_of_lt (Nat.add_le_add_left (by decide) _) hU)) (v3 0) (e3_lst a3_nil)) (e3_one (e3_and (e3_cmp (o3_in (Nat.lt_of_le_of_lt (Nat.add_le_add_left (by decide) _) hU)) e3_str (e3_ix i3_ix (v3 0) e3_int)) (e3_one (e3_cmp (o3_in (Nat.lt_of_le_of_lt (Nat.add_le_add_left (by decide) _) hU)) e3_str (e3_ix i3_ix (v3 0) e3_negc))))))))))

theorem sc_is_number : FnScope ["thing"] ["thing"] (defScope s_is_number) := ⟨rfl, rfl, rfl, by decide +kernel, rfl, by decide +kernel, by decide +kernel⟩
theorem ok_is_number (T : Tx K mg) (H_is_whole : OkF P w K mg base 1 "is_whole" ["thing"] sp_is_whole) (H_divisor : OkF P w K mg base 1 "divisor" ["one", "other"] sp_divisor) : OkF P w K mg base 2 "is_number" ["thing"] sp_is_number :=
  OkF.def3 (k := 1) (t := w_is_number) T.f_is_number sc_is_number vc_is_number (fun f cdv A outer s H E W hr hU tk hp =>
    (s3_cons (s3_if (t3_w (w3_or (t3_not (t3_val (e3_isi .tuple (by rfl) T.z_isinstance (by decide +kernel) (v3 0) (by rfl) T.z_tuple (by decide +kernel)))) (w3_or (t3_cmp (o3_ne (Nat.lt_of_le_of_lt (Nat.add_le_add_left (by decide) _) hU)) (e3_bf c3_len (by rfl) T.z_len (by decide +kernel) (a3_cons (v3 0) a3_nil)) e3_int) (w3_or (t3_not (t3_val (e3_callF H_is_whole tk (hr.mono (by decide)) (by rfl) (a3_cons (e3_ix i3_ix (v3 0) e3_int) a3_nil)))) (w3_or1 (t3_not (t3_val (e3_callF H_is_whole tk (hr.mono (by decide)) (by rfl) (a3_cons (e3_ix i3_ix (v3 0) e3_int) a3_nil))))))))) (s3_one (s3_ret e3_bl)) s3_nil)
 (s3_one (s3_ret (e3_and (e3_cmp o3_gt (e3_ix i3_ix (v3 0) e3_int) e3_int) (e3_one (e3_cmp (o3_eq (Nat.lt_of_le_of_lt (Nat.add_le_add_left (by decide) _) hU)) (e3_callF H_divisor tk (hr.mono (by decide)) (by rfl) (a3_cons (e3_bf c3_abs (by rfl) T.z_abs (by decide +kernel) (a3_cons (e3_ix i3_ix (v3 0) e3_int) a3_nil)) (a3_cons (e3_ix i3_ix (v3 0) e3_int) a3_nil))) e3_int)))))))

theorem sc_of_rows : FnScope ["xs", "ys", "rows", "tidy_ys", "tidy_rows", "tidy_xs", "columns"] ["xs", "ys", "rows"] (defScope s_of_rows) := ⟨rfl, rfl, rfl, by decide +kernel, rfl, by decide +kernel, by decide +kernel⟩
theorem ok_of_rows (T : Tx K mg) (H_tidied : OkF P w K mg base 1 "tidied" ["lines", "stretches", "blank"] sp_tidied) (H_columns_of : OkF P w K mg base 1 "columns_of" ["rows", "many"] sp_columns_of) : OkF P w K mg base 2 "of_rows" ["xs", "ys", "rows"] sp_of_rows :=
  OkF.def3 (k := 1) (t := w_of_rows) T.f_of_rows sc_of_rows vc_of_rows (fun f cdv A outer s H E W hr hU tk hp =>
    (s3_cons (s3_asg (e3_callF H_tidied tk (hr.mono (by decide)) (by rfl) (a3_cons (v3 1) (a3_cons (v3 2) (a3_cons (e3_op o3_mul e3_str (e3_op o3_sub (e3_bf c3_len (by rfl) T.z_len (by decide +kernel) (a3_cons (v3 0) a3_nil)) e3_int)) a3_nil)))) (g3_tup rfl (g3s_cons (g3_name (i := 3) sc_of_rows.nd rfl (.inl rfl)) (g3s_cons (g3_name (i := 4) sc_of_rows.nd rfl (.inl rfl)) g3s_nil))))
 (s3_cons (s3_if (t3_cmp (o3_eq (Nat.lt_of_le_of_lt (Nat.add_le_add_left (by decide) _) hU)) (v3 4) (e3_lst a3_nil)) (s3_one (s3_ret (e3_glob (by rfl) T.g_VOID))) s3_nil)
 (s3_cons (s3_asg (e3_callF H_tidied tk (hr.mono (by decide)) (by rfl) (a3_cons (v3 0) (a3_cons (e3_callF H_columns_of tk (hr.mono (by decide)) (by rfl) (a3_cons (v3 4) (a3_cons (e3_op o3_sub (e3_bf c3_len (by rfl) T.z_len (by decide +kernel) (a3_cons (v3 0) a3_nil)) e3_int) a3_nil))) (a3_cons (e3_op o3_mul e3_str (e3_bf c3_len (by rfl) T.z_len (by decide +kernel) (a3_cons (v3 4) a3_nil))) a3_nil)))) (g3_tup rfl (g3s_cons (g3_name (i := 5) sc_of_rows.nd rfl (.inl rfl)) (g3s_cons (g3_name (i := 6) sc_of_rows.nd rfl (.inl rfl)) g3s_nil))))
 (s3_one (s3_ret (e3_tup (a3_cons (e3_bt c3_tuple (by rfl) T.z_tuple (by decide +kernel) (a3_cons (v3 5) a3_nil)) (a3_cons (e3_bt c3_tuple (by rfl) T.z_tuple (by decide +kernel) (a3_cons (v3 3) a3_nil)) (a3_cons (e3_bt c3_tuple (by rfl) T.z_tuple (by decide +kernel) (a3_cons (e3_callF H_columns_of tk (hr.mono (by decide)) (by rfl) (a3_cons (v3 6) (a3_cons (e3_bf c3_len (by rfl) T.z_len (by decide +kernel) (a3_cons (v3 4) a3_nil)) a3_nil))) a3_nil)) a3_nil))))))))))

theorem sc_are_wholes : FnScope ["thing", "k"] ["thing"] (defScope s_are_wholes) := ⟨rfl, rfl, rfl, by decide +kernel, rfl, by decide +kernel, by decide +kernel⟩
theorem ok_are_wholes (T : Tx K mg) (H_is_whole : OkF P w K mg base 1 "is_whole" ["thing"] sp_is_whole) : OkF P w K mg base 2 "are_wholes" ["thing"] sp_are_wholes :=
  OkF.def3 (k := 1) (t := w_are_wholes) T.f_are_wholes sc_are_wholes vc_are_wholes (fun f cdv A outer s H E W hr hU tk hp =>
    (s3_cons (s3_if (t3_w (w3_or (t3_not (t3_val (e3_isi .list (by rfl) T.z_isinstance (by decide +kernel) (v3 0) (by rfl) T.z_list (by decide +kernel)))) (w3_or1 (t3_cmp o3_gt (e3_bf c3_len (by rfl) T.z_len (by decide +kernel) (a3_cons (v3 0) a3_nil)) (e3_glob (by rfl) T.g_MOST_LINES))))) (s3_one (s3_ret e3_bl)) s3_nil)
 (s3_cons (s3_for hp rfl (i3_rng1 (by rfl) T.z_range (a3_cons (e3_bf c3_len (by rfl) T.z_len (by decide +kernel) (a3_cons (v3 0) a3_nil)) a3_nil)) (g3_name (i := 1) sc_are_wholes.nd rfl (.inl rfl)) (s3_one (s3_if (t3_w (w3_or (t3_not (t3_val (e3_callF H_is_whole tk (hr.mono (by decide)) (by rfl) (a3_cons (e3_ix i3_ix (v3 0) (v3 1)) a3_nil)))) (w3_or (t3_cmp o3_gt (e3_bf c3_abs (by rfl) T.z_abs (by decide +kernel) (a3_cons (e3_ix i3_ix (v3 0) (v3 1)) a3_nil)) (e3_glob (by rfl) T.g_FAR)) (w3_or1 (t3_w (w3_and (t3_cmp o3_gt (v3 1) e3_int) (w3_and1 (t3_cmp o3_le (e3_ix i3_ix (v3 0) (v3 1)) (e3_ix i3_ix (v3 0) (e3_op o3_sub (v3 1) e3_int)))))))))) (s3_one (s3_ret e3_bl)) s3_nil)))
 (s3_one (s3_ret e3_bl)))))

theorem sc_law_lines : FnScope ["_law_feed_here", "_law_way", "_law_most", "_law_found", "_law_k"] ["_law_feed_here"] (defScope s_law_lines) := ⟨rfl, rfl, rfl, by decide +kernel, rfl, by decide +kernel, by decide +kernel⟩
theorem ok_law_lines (T : Tx K mg) (H_law_next : OkF P w K mg base 1 "_law_next" ["_law_feed_here", "_law_many"] sp_law_next) : OkF P w K mg base 2 "_law_lines" ["_law_feed_here"] sp_law_lines :=
  OkF.def3 (k := 1) (t := w_law_lines) T.f_law_lines sc_law_lines vc_law_lines (fun f cdv A outer s H E W hr hU tk hp =>
    (s3_cons (s3_set (i := 1) sc_law_lines.nd rfl (.inl rfl) (e3_callF H_law_next tk (hr.mono (by decide)) (by rfl) (a3_cons (v3 0) (a3_cons e3_int a3_nil))))
 (s3_cons (s3_if (t3_cmp (o3_eq (Nat.lt_of_le_of_lt (Nat.add_le_add_left (by decide) _) hU)) (v3 1) e3_int) (s3_one (s3_ret (e3_forget (e3_ix i3_ix (e3_lst (a3_cons (e3_lst a3_nil) (a3_cons (e3_lst (a3_cons (e3_un o3_neg (e3_powc (k := 1000000000) (by decide +kernel) (by decide))) a3_nil)) (a3_cons (e3_lst (a3_cons (e3_un o3_neg (e3_powc (k := 1000000000) (by decide +kernel) (by decide))) (a3_cons (e3_powc (k := 1000000000) (by decide +kernel) (by decide)) a3_nil))) (a3_cons (e3_lst (a3_cons e3_int (a3_cons e3_int a3_nil))) a3_nil))))) (e3_callF H_law_next tk (hr.mono (by decide)) (by rfl) (a3_cons (v3 0) (a3_cons e3_int a3_nil))))))) s3_nil)
 (s3_cons (s3_set (i := 2) sc_law_lines.nd rfl (.inl rfl) (e3_forget (e3_ix i3_ix (e3_lst (a3_cons e3_int (a3_cons e3_int (a3_cons (e3_powc (k := 100000000) (by decide +kernel) (by decide)) a3_nil)))) (e3_op o3_sub (v3 1) e3_int))))
 (s3_cons (s3_set (i := 3) sc_law_lines.nd rfl (.inl rfl) (e3_lst (a3_cons (e3_op o3_sub (e3_callF H_law_next tk (hr.mono (by decide)) (by rfl) (a3_cons (v3 0) (a3_cons (e3_op o3_add (e3_op o3_mul e3_int (v3 2)) e3_int) a3_nil))) (v3 2)) a3_nil)))
 (s3_cons (s3_for hp rfl (i3_rng1 (by rfl) T.z_range (a3_cons (e3_callF H_law_next tk (hr.mono (by decide)) (by rfl) (a3_cons (v3 0) (a3_cons e3_int a3_nil))) a3_nil)) (g3_name (i := 4) sc_law_lines.nd rfl (.inl rfl)) (s3_one (s3_expr (e3_ml PySem.F.slot_list_append PySem.F.type_list_append m3_append (v3 3) (a3_cons (e3_op o3_add (e3_op o3_add (e3_ix i3_ix (v3 3) e3_negc) e3_int) (e3_callF H_law_next tk (hr.mono (by decide)) (by rfl) (a3_cons (v3 0) (a3_cons (v3 2) a3_nil)))) a3_nil)))))
 (s3_one (s3_ret (v3 3)))))))))

theorem sc_law_rows : FnScope ["_law_feed_here", "_law_wide", "_law_high", "_law_share", "_law_rows_here", "_law_j", "_law_way", "_law_row", "_law_k"] ["_law_feed_here", "_law_wide", "_law_high"] (defScope s_law_rows) := ⟨rfl, rfl, rfl, by decide +kernel, rfl, by decide +kernel, by decide +kernel⟩
theorem ok_law_rows (T : Tx K mg) (H_law_next : OkF P w K mg base 1 "_law_next" ["_law_feed_here", "_law_many"] sp_law_next) : OkF P w K mg base 2 "_law_rows" ["_law_feed_here", "_law_wide", "_law_high"] sp_law_rows :=
  OkF.def3 (k := 1) (t := w_law_rows) T.f_law_rows sc_law_rows vc_law_rows (fun f cdv A outer s H E W hr hU tk hp =>
    (s3_cons (s3_set (i := 3) sc_law_rows.nd rfl (.inr rfl) (e3_callF H_law_next tk (hr.mono (by decide)) (by rfl) (a3_cons (v3 0) (a3_cons e3_int a3_nil))))
 (s3_cons (s3_set (i := 4) sc_law_rows.nd rfl (.inl rfl) (e3_lst a3_nil))
 (s3_cons (s3_for hp rfl (i3_rng1 (by rfl) T.z_range (a3_cons (v3 2) a3_nil)) (g3_name (i := 5) sc_law_rows.nd rfl (.inl rfl)) (s3_one (s3_if (t3_w (w3_and (t3_cmp o3_gt (v3 5) e3_int) (w3_and1 (t3_cmp (o3_eq (Nat.lt_of_le_of_lt (Nat.add_le_add_left (by decide) _) hU)) (e3_callF H_law_next tk (hr.mono (by decide)) (by rfl) (a3_cons (v3 0) (a3_cons e3_int a3_nil))) e3_int)))) (s3_one (s3_expr (e3_ml PySem.F.slot_list_append PySem.F.type_list_append m3_append (v3 4) (a3_cons (e3_ix i3_ix (v3 4) e3_negc) a3_nil)))) (s3_one (s3_expr (e3_ml PySem.F.slot_list_append PySem.F.type_list_append m3_append (v3 4) (a3_cons (e3_forget (e3_ms PySem.F.slot_str_join PySem.F.type_str_join m3_join e3_str (a3_cons (e3_lc (own := [("_law_k", 8)]) (ws := [8]) rfl sc_law_rows.nd (i3_rng1 (by rfl) T.z_range (a3_cons (v3 1) a3_nil)) (blkOk_by (N := ["_law_feed_here", "_law_wide", "_law_high", "_law_share", "_law_rows_here", "_law_j", "_law_way", "_law_row", "_law_k"]) (sc := defScope s_law_rows) (by decide +kernel)) (by decide) (fun _ _ _ _ _ => (cg_name (i := 8) sc_law_rows.nd rfl (.inl rfl) (by decide))) (fun _ _ _ _ _ => pts3_nil) (fun _ _ _ _ _ => (e3_ix i3_ix e3_str (e3_bt c3_int (by rfl) T.z_int (by decide +kernel) (a3_cons (e3_cmp o3_ge (e3_callF H_law_next takes0 (hr.mono (by decide)) (by rfl) (a3_cons (v3 0) (a3_cons e3_int a3_nil))) (v3 3)) a3_nil))))) a3_nil))) a3_nil)))))))
 (s3_cons (s3_set (i := 6) sc_law_rows.nd rfl (.inl rfl) (e3_callF H_law_next tk (hr.mono (by decide)) (by rfl) (a3_cons (v3 0) (a3_cons e3_int a3_nil))))
 (s3_cons (s3_if (t3_cmp (o3_eq (Nat.lt_of_le_of_lt (Nat.add_le_add_left (by decide) _) hU)) (v3 6) e3_int) (s3_one (s3_setLc (i := 4) (own := [("_law_row", 7)]) (ws := [7]) rfl sc_law_rows.nd rfl rfl (sw_true rfl rfl rfl (by decide +kernel)) (i3_any (v3 4)) (blkOk_by (N := ["_law_feed_here", "_law_wide", "_law_high", "_law_share", "_law_rows_here", "_law_j", "_law_way", "_law_row", "_law_k"]) (sc := defScope s_law_rows) (by decide +kernel)) (by decide) (fun _ _ _ _ _ => (cg_name (i := 7) sc_law_rows.nd rfl (.inl rfl) (by decide))) (fun _ _ _ _ _ => pts3_nil) (fun _ _ _ _ _ => (e3_op o3_add (e3_slice (v3 7) p3_none (p3_some e3_negc)) (e3_slice (v3 7) p3_none (p3_some e3_int)))))) s3_nil)
 (s3_cons (s3_if (t3_cmp (o3_eq (Nat.lt_of_le_of_lt (Nat.add_le_add_left (by decide) _) hU)) (v3 6) e3_int) (s3_one (s3_setLc (i := 4) (own := [("_law_row", 7)]) (ws := [7]) rfl sc_law_rows.nd rfl rfl (sw_true rfl rfl rfl (by decide +kernel)) (i3_any (v3 4)) (blkOk_by (N := ["_law_feed_here", "_law_wide", "_law_high", "_law_share", "_law_rows_here", "_law_j", "_law_way", "_law_row", "_law_k"]) (sc := defScope s_law_rows) (by decide +kernel)) (by decide) (fun _ _ _ _ _ => (cg_name (i := 7) sc_law_rows.nd rfl (.inl rfl) (by decide))) (fun _ _ _ _ _ => pts3_nil) (fun _ _ _ _ _ => (e3_op o3_add (e3_slice (v3 7) p3_none (p3_some e3_int)) (e3_slice (v3 7) p3_none (p3_some e3_negc)))))) s3_nil)
 (s3_cons (s3_if (t3_w (w3_and (t3_cmp (o3_eq (Nat.lt_of_le_of_lt (Nat.add_le_add_left (by decide) _) hU)) (v3 6) e3_int) (w3_and1 (t3_cmp o3_gt (v3 2) e3_int)))) (s3_one (s3_asg (e3_op o3_mul e3_str (v3 1)) (g3_sub (v3 4) (e3_callF H_law_next tk (hr.mono (by decide)) (by rfl) (a3_cons (v3 0) (a3_cons (v3 2) a3_nil))) p3_setL))) s3_nil)
 (s3_one (s3_ret (v3 4)))))))))))

theorem sc_law_are_lines : FnScope ["_law_found", "_law_handed", "_law_k", "_law_line"] ["_law_found", "_law_handed"] (defScope s_law_are_lines) := ⟨rfl, rfl, rfl, by decide +kernel, rfl, by decide +kernel, by decide +kernel⟩
theorem ok_law_are_lines (T : Tx K mg) (H_law_whole : OkF P w K mg base 1 "_law_whole" ["_law_thing"] sp_law_whole) : OkF P w K mg base 2 "_law_are_lines" ["_law_found", "_law_handed"] sp_law_are_lines :=
  OkF.def3 (k := 1) (t := w_law_are_lines) T.f_law_are_lines sc_law_are_lines vc_law_are_lines (fun f cdv A outer s H E W hr hU tk hp =>
    (s3_cons (s3_if (t3_not (t3_val (e3_isi .tuple (by rfl) T.z_isinstance (by decide +kernel) (v3 0) (by rfl) T.z_tuple (by decide +kernel)))) (s3_one (s3_ret e3_bl)) s3_nil)
 (s3_cons (s3_for hp rfl (i3_rng1 (by rfl) T.z_range (a3_cons (e3_bf c3_len (by rfl) T.z_len (by decide +kernel) (a3_cons (v3 0) a3_nil)) a3_nil)) (g3_name (i := 2) sc_law_are_lines.nd rfl (.inl rfl)) (s3_cons (s3_set (i := 3) sc_law_are_lines.nd rfl (.inl rfl) (e3_ix i3_ix (v3 0) (v3 2)))
 (s3_cons (s3_if (t3_w (w3_or (t3_not (t3_val (e3_isi .tuple (by rfl) T.z_isinstance (by decide +kernel) (v3 3) (by rfl) T.z_tuple (by decide +kernel)))) (w3_or (t3_cmp (o3_ne (Nat.lt_of_le_of_lt (Nat.add_le_add_left (by decide) _) hU)) (e3_bf c3_len (by rfl) T.z_len (by decide +kernel) (a3_cons (v3 3) a3_nil)) e3_int) (w3_or (t3_not (t3_val (e3_callF H_law_whole tk (hr.mono (by decide)) (by rfl) (a3_cons (e3_ix i3_ix (v3 3) e3_int) a3_nil)))) (w3_or1 (t3_not (t3_val (e3_callF H_law_whole tk (hr.mono (by decide)) (by rfl) (a3_cons (e3_ix i3_ix (v3 3) e3_int) a3_nil))))))))) (s3_one (s3_ret e3_bl)) s3_nil)
 (s3_one (s3_if (t3_w (w3_or (t3_cmp (o3_ne (Nat.lt_of_le_of_lt (Nat.add_le_add_left (by decide) _) hU)) (e3_ix i3_ix (v3 3) e3_int) e3_int) (w3_or (t3_cmp (o3_notin (Nat.lt_of_le_of_lt (Nat.add_le_add_left (by decide) _) hU)) (e3_ix i3_ix (v3 3) e3_int) (v3 1)) (w3_or1 (t3_w (w3_and (t3_cmp o3_gt (v3 2) e3_int) (w3_and1 (t3_cmp o3_le (e3_ix i3_ix (v3 3) e3_int) (e3_ix i3_ix (e3_ix i3_ix (v3 0) (e3_op o3_sub (v3 2) e3_int)) e3_int))))))))) (s3_one (s3_ret e3_bl)) s3_nil)))))
 (s3_one (s3_ret e3_bl)))))

theorem sc_are_rising : FnScope ["thing", "k", "part"] ["thing"] (defScope s_are_rising) := ⟨rfl, rfl, rfl, by decide +kernel, rfl, by decide +kernel, by decide +kernel⟩
theorem ok_are_rising (T : Tx K mg) (H_under : OkF P w K mg base 1 "under" ["one", "other"] sp_under) (H_is_number : OkF P w K mg base 2 "is_number" ["thing"] sp_is_number) : OkF P w K mg base 3 "are_rising" ["thing"] sp_are_rising :=
  OkF.def3 (k := 2) (t := w_are_rising) T.f_are_rising sc_are_rising vc_are_rising (fun f cdv A outer s H E W hr hU tk hp =>
    (s3_cons (s3_if (t3_w (w3_or (t3_not (t3_val (e3_isi .tuple (by rfl) T.z_isinstance (by decide +kernel) (v3 0) (by rfl) T.z_tuple (by decide +kernel)))) (w3_or1 (t3_not (t3_val (e3_forget (e3_bf (c3_all rfl) (by rfl) T.z_all (by decide +kernel) (a3_cons (e3_lc (own := [("part", 2)]) (ws := [2]) rfl sc_are_rising.nd (i3_any (v3 0)) (blkOk_by (N := ["thing", "k", "part"]) (sc := defScope s_are_rising) (by decide +kernel)) (by decide) (fun _ _ _ _ _ => (cg_name (i := 2) sc_are_rising.nd rfl (.inl rfl) (by decide))) (fun _ _ _ _ _ => pts3_nil) (fun _ _ _ _ _ => (e3_callF H_is_number takes0 (hr.mono (by decide)) (by rfl) (a3_cons (v3 2) a3_nil)))) a3_nil)))))))) (s3_one (s3_ret e3_bl)) s3_nil)
 (s3_one (s3_ret (e3_forget (e3_bf (c3_all rfl) (by rfl) T.z_all (by decide +kernel) (a3_cons (e3_lc (own := [("k", 1)]) (ws := [1]) rfl sc_are_rising.nd (i3_rng1 (by rfl) T.z_range (a3_cons (e3_op o3_sub (e3_bf c3_len (by rfl) T.z_len (by decide +kernel) (a3_cons (v3 0) a3_nil)) e3_int) a3_nil)) (blkOk_by (N := ["thing", "k", "part"]) (sc := defScope s_are_rising) (by decide +kernel)) (by decide) (fun _ _ _ _ _ => (cg_name (i := 1) sc_are_rising.nd rfl (.inl rfl) (by decide))) (fun _ _ _ _ _ => pts3_nil) (fun _ _ _ _ _ => (e3_callF H_under takes0 (hr.mono (by decide)) (by rfl) (a3_cons (e3_ix i3_ix (v3 0) (v3 1)) (a3_cons (e3_ix i3_ix (v3 0) (e3_op o3_add (v3 1) e3_int)) a3_nil))))) a3_nil)))))))

theorem sc_made : FnScope ["xs", "ys", "rows", "x", "y", "row"] ["xs", "ys", "rows"] (defScope s_made) := ⟨rfl, rfl, rfl, by decide +kernel, rfl, by decide +kernel, by decide +kernel⟩
theorem ok_made (T : Tx K mg) (H_are_signs : OkF P w K mg base 1 "are_signs" ["thing", "many"] sp_are_signs) (H_of_rows : OkF P w K mg base 2 "of_rows" ["xs", "ys", "rows"] sp_of_rows) (H_are_wholes : OkF P w K mg base 2 "are_wholes" ["thing"] sp_are_wholes) : OkF P w K mg base 3 "made" ["xs", "ys", "rows"] sp_made :=
  OkF.def3 (k := 2) (t := w_made) T.f_made sc_made vc_made (fun f cdv A outer s H E W hr hU tk hp =>
    (s3_cons (s3_if (t3_w (w3_or (t3_not (t3_val (e3_callF H_are_wholes tk (hr.mono (by decide)) (by rfl) (a3_cons (v3 0) a3_nil)))) (w3_or (t3_not (t3_val (e3_callF H_are_wholes tk (hr.mono (by decide)) (by rfl) (a3_cons (v3 1) a3_nil)))) (w3_or (t3_not (t3_val (e3_isi .list (by rfl) T.z_isinstance (by decide +kernel) (v3 2) (by rfl) T.z_list (by decide +kernel)))) (w3_or1 (t3_cmp (o3_ne (Nat.lt_of_le_of_lt (Nat.add_le_add_left (by decide) _) hU)) (e3_bf c3_len (by rfl) T.z_len (by decide +kernel) (a3_cons (v3 2) a3_nil)) (e3_bf (c3_max2 rfl) (by rfl) T.z_max (by decide +kernel) (a3_cons e3_int (a3_cons (e3_op o3_sub (e3_bf c3_len (by rfl) T.z_len (by decide +kernel) (a3_cons (v3 1) a3_nil)) e3_int) a3_nil))))))))) (s3_one (s3_raise .yard rfl tk T.r_yard (by rfl))) s3_nil)
 (s3_cons (s3_if (t3_not (t3_val (e3_forget (e3_bf (c3_all rfl) (by rfl) T.z_all (by decide +kernel) (a3_cons (e3_lc (own := [("row", 5)]) (ws := [5]) rfl sc_made.nd (i3_any (v3 2)) (blkOk_by (N := ["xs", "ys", "rows", "x", "y", "row"]) (sc := defScope s_made) (by decide +kernel)) (by decide) (fun _ _ _ _ _ => (cg_name (i := 5) sc_made.nd rfl (.inl rfl) (by decide))) (fun _ _ _ _ _ => pts3_nil) (fun _ _ _ _ _ => (e3_callF H_are_signs takes0 (hr.mono (by decide)) (by rfl) (a3_cons (v3 5) (a3_cons (e3_bf (c3_max2 rfl) (by rfl) T.z_max (by decide +kernel) (a3_cons e3_int (a3_cons (e3_op o3_sub (e3_bf c3_len (by rfl) T.z_len (by decide +kernel) (a3_cons (v3 0) a3_nil)) e3_int) a3_nil))) a3_nil))))) a3_nil))))) (s3_one (s3_raise .yard rfl tk T.r_yard (by rfl))) s3_nil)
 (s3_one (s3_ret (e3_callF H_of_rows tk (hr.mono (by decide)) (by rfl) (a3_cons (e3_lc (own := [("x", 3)]) (ws := [3]) rfl sc_made.nd (i3_any (v3 0)) (blkOk_by (N := ["xs", "ys", "rows", "x", "y", "row"]) (sc := defScope s_made) (by decide +kernel)) (by decide) (fun _ _ _ _ _ => (cg_name (i := 3) sc_made.nd rfl (.inl rfl) (by decide))) (fun _ _ _ _ _ => pts3_nil) (fun _ _ _ _ _ => (e3_tup (a3_cons (v3 3) (a3_cons e3_int a3_nil))))) (a3_cons (e3_lc (own := [("y", 4)]) (ws := [4]) rfl sc_made.nd (i3_any (v3 1)) (blkOk_by (N := ["xs", "ys", "rows", "x", "y", "row"]) (sc := defScope s_made) (by decide +kernel)) (by decide) (fun _ _ _ _ _ => (cg_name (i := 4) sc_made.nd rfl (.inl rfl) (by decide))) (fun _ _ _ _ _ => pts3_nil) (fun _ _ _ _ _ => (e3_tup (a3_cons (v3 4) (a3_cons e3_int a3_nil))))) (a3_cons (v3 2) a3_nil)))))))))

theorem sc_is_yard : FnScope ["thing", "xs", "ys", "rows", "row"] ["thing"] (defScope s_is_yard) := ⟨rfl, rfl, rfl, by decide +kernel, rfl, by decide +kernel, by decide +kernel⟩
theorem ok_is_yard (T : Tx K mg) (H_are_signs : OkF P w K mg base 1 "are_signs" ["thing", "many"] sp_are_signs) (H_of_rows : OkF P w K mg base 2 "of_rows" ["xs", "ys", "rows"] sp_of_rows) (H_are_rising : OkF P w K mg base 3 "are_rising" ["thing"] sp_are_rising) : OkF P w K mg base 4 "is_yard" ["thing"] sp_is_yard :=
  OkF.def3 (k := 3) (t := w_is_yard) T.f_is_yard sc_is_yard vc_is_yard (fun f cdv A outer s H E W hr hU tk hp =>
    (s3_cons (s3_if (t3_w (w3_or (t3_not (t3_val (e3_isi .tuple (by rfl) T.z_isinstance (by decide +kernel) (v3 0) (by rfl) T.z_tuple (by decide +kernel)))) (w3_or (t3_cmp (o3_ne (Nat.lt_of_le_of_lt (Nat.add_le_add_left (by decide) _) hU)) (e3_bf c3_len (by rfl) T.z_len (by decide +kernel) (a3_cons (v3 0) a3_nil)) e3_int) (w3_or (t3_not (t3_val (e3_callF H_are_rising tk (hr.mono (by decide)) (by rfl) (a3_cons (e3_ix i3_ix (v3 0) e3_int) a3_nil)))) (w3_or1 (t3_not (t3_val (e3_callF H_are_rising tk (hr.mono (by decide)) (by rfl) (a3_cons (e3_ix i3_ix (v3 0) e3_int) a3_nil))))))))) (s3_one (s3_ret e3_bl)) s3_nil)
 (s3_cons (s3_asg (v3 0) (g3_tup rfl (g3s_cons (g3_name (i := 1) sc_is_yard.nd rfl (.inr rfl)) (g3s_cons (g3_name (i := 2) sc_is_yard.nd rfl (.inl rfl)) (g3s_cons (g3_name (i := 3) sc_is_yard.nd rfl (.inl rfl)) g3s_nil)))))
 (s3_cons (s3_if (t3_w (w3_or (t3_not (t3_val (e3_isi .tuple (by rfl) T.z_isinstance (by decide +kernel) (v3 3) (by rfl) T.z_tuple (by decide +kernel)))) (w3_or1 (t3_cmp (o3_ne (Nat.lt_of_le_of_lt (Nat.add_le_add_left (by decide) _) hU)) (e3_bf c3_len (by rfl) T.z_len (by decide +kernel) (a3_cons (v3 3) a3_nil)) (e3_bf (c3_max2 rfl) (by rfl) T.z_max (by decide +kernel) (a3_cons e3_int (a3_cons (e3_op o3_sub (e3_bf c3_len (by rfl) T.z_len (by decide +kernel) (a3_cons (v3 2) a3_nil)) e3_int) a3_nil))))))) (s3_one (s3_ret e3_bl)) s3_nil)
 (s3_cons (s3_if (t3_not (t3_val (e3_forget (e3_bf (c3_all rfl) (by rfl) T.z_all (by decide +kernel) (a3_cons (e3_lc (own := [("row", 4)]) (ws := [4]) rfl sc_is_yard.nd (i3_any (v3 3)) (blkOk_by (N := ["thing", "xs", "ys", "rows", "row"]) (sc := defScope s_is_yard) (by decide +kernel)) (by decide) (fun _ _ _ _ _ => (cg_name (i := 4) sc_is_yard.nd rfl (.inl rfl) (by decide))) (fun _ _ _ _ _ => pts3_nil) (fun _ _ _ _ _ => (e3_callF H_are_signs takes0 (hr.mono (by decide)) (by rfl) (a3_cons (v3 4) (a3_cons (e3_bf (c3_max2 rfl) (by rfl) T.z_max (by decide +kernel) (a3_cons e3_int (a3_cons (e3_op o3_sub (e3_bf c3_len (by rfl) T.z_len (by decide +kernel) (a3_cons (v3 1) a3_nil)) e3_int) a3_nil))) a3_nil))))) a3_nil))))) (s3_one (s3_ret e3_bl)) s3_nil)
 (s3_one (s3_ret (e3_cmp (o3_eq (Nat.lt_of_le_of_lt (Nat.add_le_add_left (by decide) _) hU)) (e3_callF H_of_rows tk (hr.mono (by decide)) (by rfl) (a3_cons (v3 1) (a3_cons (v3 2) (a3_cons (v3 3) a3_nil)))) (v3 0)))))))))

theorem sc_law_right : FnScope ["_law_found", "_law_xs", "_law_ys", "_law_rows_here", "_law_wide", "_law_j", "_law_k", "_law_columns", "_law_row"] ["_law_found", "_law_xs", "_law_ys", "_law_rows_here"] (defScope s_law_right) := ⟨rfl, rfl, rfl, by decide +kernel, rfl, by decide +kernel, by decide +kernel⟩
theorem ok_law_right (T : Tx K mg) (H_law_sign : OkF P w K mg base 1 "_law_sign" ["_law_yard", "_law_x", "_law_y"] sp_law_sign) (H_law_tidy : OkF P w K mg base 1 "_law_tidy" ["_law_rows_here"] sp_law_tidy) (H_law_are_lines : OkF P w K mg base 2 "_law_are_lines" ["_law_found", "_law_handed"] sp_law_are_lines) (H_is_yard : OkF P w K mg base 4 "is_yard" ["thing"] sp_is_yard) : OkF P w K mg base 5 "_law_right" ["_law_found", "_law_xs", "_law_ys", "_law_rows_here"] sp_law_right :=
  OkF.def3 (k := 4) (t := w_law_right) T.f_law_right sc_law_right vc_law_right (fun f cdv A outer s H E W hr hU tk hp =>
    (s3_cons (s3_if (t3_w (w3_or (t3_not (t3_val (e3_isi .tuple (by rfl) T.z_isinstance (by decide +kernel) (v3 0) (by rfl) T.z_tuple (by decide +kernel)))) (w3_or (t3_cmp (o3_ne (Nat.lt_of_le_of_lt (Nat.add_le_add_left (by decide) _) hU)) (e3_bf c3_len (by rfl) T.z_len (by decide +kernel) (a3_cons (v3 0) a3_nil)) e3_int) (w3_or1 (t3_cmp o3_isnot (e3_callF H_is_yard tk (hr.mono (by decide)) (by rfl) (a3_cons (v3 0) a3_nil)) e3_bl))))) (s3_one (s3_ret e3_bl)) s3_nil)
 (s3_cons (s3_if (t3_w (w3_or (t3_not (t3_val (e3_callF H_law_are_lines tk (hr.mono (by decide)) (by rfl) (a3_cons (e3_ix i3_ix (v3 0) e3_int) (a3_cons (v3 1) a3_nil))))) (w3_or (t3_not (t3_val (e3_callF H_law_are_lines tk (hr.mono (by decide)) (by rfl) (a3_cons (e3_ix i3_ix (v3 0) e3_int) (a3_cons (v3 2) a3_nil))))) (w3_or1 (t3_not (t3_val (e3_isi .tuple (by rfl) T.z_isinstance (by decide +kernel) (e3_ix i3_ix (v3 0) e3_int) (by rfl) T.z_tuple (by decide +kernel)))))))) (s3_one (s3_ret e3_bl)) s3_nil)
 (s3_cons (s3_set (i := 4) sc_law_right.nd rfl (.inr rfl) (e3_bf (c3_max2 rfl) (by rfl) T.z_max (by decide +kernel) (a3_cons e3_int (a3_cons (e3_op o3_sub (e3_bf c3_len (by rfl) T.z_len (by decide +kernel) (a3_cons (e3_ix i3_ix (v3 0) e3_int) a3_nil)) e3_int) a3_nil))))
 (s3_cons (s3_if (t3_cmp (o3_ne (Nat.lt_of_le_of_lt (Nat.add_le_add_left (by decide) _) hU)) (e3_bf c3_len (by rfl) T.z_len (by decide +kernel) (a3_cons (e3_ix i3_ix (v3 0) e3_int) a3_nil)) (e3_bf (c3_max2 rfl) (by rfl) T.z_max (by decide +kernel) (a3_cons e3_int (a3_cons (e3_op o3_sub (e3_bf c3_len (by rfl) T.z_len (by decide +kernel) (a3_cons (e3_ix i3_ix (v3 0) e3_int) a3_nil)) e3_int) a3_nil)))) (s3_one (s3_ret e3_bl)) s3_nil)
 (s3_cons (s3_if (t3_not (t3_val (e3_forget (e3_bf (c3_all rfl) (by rfl) T.z_all (by decide +kernel) (a3_cons (e3_lc (own := [("_law_row", 8)]) (ws := [8]) rfl sc_law_right.nd (i3_any (e3_ix i3_ix (v3 0) e3_int)) (blkOk_by (N := ["_law_found", "_law_xs", "_law_ys", "_law_rows_here", "_law_wide", "_law_j", "_law_k", "_law_columns", "_law_row"]) (sc := defScope s_law_right) (by decide +kernel)) (by decide) (fun _ _ _ _ _ => (cg_name (i := 8) sc_law_right.nd rfl (.inl rfl) (by decide))) (fun _ _ _ _ _ => pts3_nil) (fun _ _ _ _ _ => (e3_and (e3_isi .str (by rfl) T.z_isinstance (by decide +kernel) (v3 8) (by rfl) T.z_str (by decide +kernel)) (e3_one (e3_cmp (o3_eq (Nat.lt_of_le_of_lt (Nat.add_le_add_left (by decide) _) hU)) (e3_bf c3_len (by rfl) T.z_len (by decide +kernel) (a3_cons (v3 8) a3_nil)) (v3 4)))))) a3_nil))))) (s3_one (s3_ret e3_bl)) s3_nil)
 (s3_cons (s3_for hp rfl (i3_rng1 (by rfl) T.z_range (a3_cons (e3_bf c3_len (by rfl) T.z_len (by decide +kernel) (a3_cons (v3 3) a3_nil)) a3_nil)) (g3_name (i := 5) sc_law_right.nd rfl (.inl rfl)) (s3_one (s3_for hp rfl (i3_rng1 (by rfl) T.z_range (a3_cons (e3_bf c3_len (by rfl) T.z_len (by decide +kernel) (a3_cons (e3_ix i3_ix (v3 3) (v3 5)) a3_nil)) a3_nil)) (g3_name (i := 6) sc_law_right.nd rfl (.inl rfl)) (s3_one (s3_if (t3_cmp (o3_ne (Nat.lt_of_le_of_lt (Nat.add_le_add_left (by decide) _) hU)) (e3_callF H_law_sign tk (hr.mono (by decide)) (by rfl) (a3_cons (v3 0) (a3_cons (e3_op o3_add (e3_ix i3_ix (v3 1) (v3 6)) (e3_ix i3_ix (v3 1) (e3_op o3_add (v3 6) e3_int))) (a3_cons (e3_op o3_add (e3_ix i3_ix (v3 2) (v3 5)) (e3_ix i3_ix (v3 2) (e3_op o3_add (v3 5) e3_int))) a3_nil)))) (e3_ix i3_ix (e3_ix i3_ix (v3 3) (v3 5)) (v3 6))) (s3_one (s3_ret e3_bl)) s3_nil)))))
 (s3_cons (s3_setLc (i := 7) (own := [("_law_k", 6)]) (ws := [6]) rfl sc_law_right.nd rfl rfl (sw_true rfl rfl rfl (by decide +kernel)) (i3_rng1 (by rfl) T.z_range (a3_cons (v3 4) a3_nil)) (blkOk_by (N := ["_law_found", "_law_xs", "_law_ys", "_law_rows_here", "_law_wide", "_law_j", "_law_k", "_law_columns", "_law_row"]) (sc := defScope s_law_right) (by decide +kernel)) (by decide) (fun _ _ _ _ _ => (cg_name (i := 6) sc_law_right.nd rfl (.inr rfl) (by decide))) (fun _ _ _ _ _ => pts3_nil) (fun _ _ _ _ _ => (e3_forget (e3_ms PySem.F.slot_str_join PySem.F.type_str_join m3_join e3_str (a3_cons (e3_lc (own := [("_law_row", 8)]) (ws := [8]) rfl sc_law_right.nd (i3_any (e3_ix i3_ix (v3 0) e3_int)) (blkOk_by (by rfl)) (by decide) (fun _ _ _ _ _ => (cg_name (i := 8) sc_law_right.nd rfl (.inl rfl) (by decide))) (fun _ _ _ _ _ => pts3_nil) (fun _ _ _ _ _ => (e3_ix i3_ix (v3 8) (v3 6)))) a3_nil)))))
 (s3_cons (s3_if (t3_cmp (o3_notin (Nat.lt_of_le_of_lt (Nat.add_le_add_left (by decide) _) hU)) e3_str (e3_ms PySem.F.slot_str_join PySem.F.type_str_join m3_join e3_str (a3_cons (v3 3) a3_nil))) (s3_one (s3_ret (e3_cmp (o3_eq (Nat.lt_of_le_of_lt (Nat.add_le_add_left (by decide) _) hU)) (v3 0) (e3_tup (a3_cons (e3_tup a3_nil) (a3_cons (e3_tup a3_nil) (a3_cons (e3_tup a3_nil) a3_nil))))))) s3_nil)
 (s3_one (s3_ret (e3_and (e3_callF H_law_tidy tk (hr.mono (by decide)) (by rfl) (a3_cons (e3_bt c3_list (by rfl) T.z_list (by decide +kernel) (a3_cons (e3_ix i3_ix (v3 0) e3_int) a3_nil)) a3_nil)) (e3_one (e3_callF H_law_tidy tk (hr.mono (by decide)) (by rfl) (a3_cons (v3 7) a3_nil)))))))))))))))

theorem sc_law : FnScope ["_law_script", "_law_k", "_law_feed_here", "_law_xs", "_law_ys", "_law_rows_here", "_law_handed", "_law_found"] ["_law_script"] (defScope s_law) := ⟨rfl, rfl, rfl, by decide +kernel, rfl, by decide +kernel, by decide +kernel⟩
theorem ok_law (T : Tx K mg) (H_law_feed : OkF P w K mg base 1 "_law_feed" ["_law_script", "_law_k"] sp_law_feed) (H_law_lines : OkF P w K mg base 2 "_law_lines" ["_law_feed_here"] sp_law_lines) (H_law_rows : OkF P w K mg base 2 "_law_rows" ["_law_feed_here", "_law_wide", "_law_high"] sp_law_rows) (H_made : OkF P w K mg base 3 "made" ["xs", "ys", "rows"] sp_made) (H_law_right : OkF P w K mg base 5 "_law_right" ["_law_found", "_law_xs", "_law_ys", "_law_rows_here"] sp_law_right) : OkF P w K mg base 6 "law" ["_law_script"] sp_law :=
  OkF.def3 (k := 5) (t := w_law) T.f_law sc_law vc_law (fun f cdv A outer s H E W hr hU tk hp =>
    (s3_cons (s3_for hp rfl (i3_rng1 (by rfl) T.z_range (a3_cons (e3_op o3_add e3_int (e3_bf (c3_min2 rfl) (by rfl) T.z_min (by decide +kernel) (a3_cons e3_int (a3_cons (e3_bf c3_len (by rfl) T.z_len (by decide +kernel) (a3_cons (v3 0) a3_nil)) a3_nil)))) a3_nil)) (g3_name (i := 1) sc_law.nd rfl (.inl rfl)) (s3_cons (s3_set (i := 2) sc_law.nd rfl (.inl rfl) (e3_callF H_law_feed tk (hr.mono (by decide)) (by rfl) (a3_cons (v3 0) (a3_cons (v3 1) a3_nil))))
 (s3_cons (s3_set (i := 3) sc_law.nd rfl (.inl rfl) (e3_callF H_law_lines tk (hr.mono (by decide)) (by rfl) (a3_cons (v3 2) a3_nil)))
 (s3_cons (s3_set (i := 4) sc_law.nd rfl (.inl rfl) (e3_callF H_law_lines tk (hr.mono (by decide)) (by rfl) (a3_cons (v3 2) a3_nil)))
 (s3_cons (s3_set (i := 5) sc_law.nd rfl (.inl rfl) (e3_callF H_law_rows tk (hr.mono (by decide)) (by rfl) (a3_cons (v3 2) (a3_cons (e3_bf (c3_max2 rfl) (by rfl) T.z_max (by decide +kernel) (a3_cons e3_int (a3_cons (e3_op o3_sub (e3_bf c3_len (by rfl) T.z_len (by decide +kernel) (a3_cons (v3 3) a3_nil)) e3_int) a3_nil))) (a3_cons (e3_bf (c3_max2 rfl) (by rfl) T.z_max (by decide +kernel) (a3_cons e3_int (a3_cons (e3_op o3_sub (e3_bf c3_len (by rfl) T.z_len (by decide +kernel) (a3_cons (v3 4) a3_nil)) e3_int) a3_nil))) a3_nil)))))
 (s3_cons (s3_set (i := 6) sc_law.nd rfl (.inl rfl) (e3_lst (a3_cons (e3_bt c3_list (by rfl) T.z_list (by decide +kernel) (a3_cons (v3 3) a3_nil)) (a3_cons (e3_bt c3_list (by rfl) T.z_list (by decide +kernel) (a3_cons (v3 4) a3_nil)) (a3_cons (e3_bt c3_list (by rfl) T.z_list (by decide +kernel) (a3_cons (v3 5) a3_nil)) a3_nil)))))
 (s3_cons (s3_set (i := 7) sc_law.nd rfl (.inl rfl) (e3_callF H_made tk (hr.mono (by decide)) (by rfl) (a3_cons (e3_ix i3_ix (v3 6) e3_int) (a3_cons (e3_ix i3_ix (v3 6) e3_int) (a3_cons (e3_ix i3_ix (v3 6) e3_int) a3_nil)))))
 (s3_cons (s3_if (t3_w (w3_or (t3_not (t3_val (e3_callF H_law_right tk (hr.mono (by decide)) (by rfl) (a3_cons (v3 7) (a3_cons (v3 3) (a3_cons (v3 4) (a3_cons (v3 5) a3_nil))))))) (w3_or1 (t3_cmp (o3_ne (Nat.lt_of_le_of_lt (Nat.add_le_add_left (by decide) _) hU)) (v3 6) (e3_lst (a3_cons (v3 3) (a3_cons (v3 4) (a3_cons (v3 5) a3_nil)))))))) (s3_one (s3_ret e3_bl)) s3_nil)
 (s3_cons (s3_expr (e3_ml PySem.F.slot_list_append PySem.F.type_list_append m3_append (e3_ix i3_ix (v3 6) e3_int) (a3_cons (e3_op o3_add (e3_powc (k := 1000000000) (by decide +kernel) (by decide)) e3_int) a3_nil)))
 (s3_cons (s3_expr (e3_ml0 PySem.F.slot_list_clear PySem.F.type_list_clear m3_clear (e3_ix i3_ix (v3 6) e3_int)))
 (s3_cons (s3_expr (e3_ml PySem.F.slot_list_append PySem.F.type_list_append m3_append (e3_ix i3_ix (v3 6) e3_int) (a3_cons e3_str a3_nil)))
 (s3_one (s3_if (t3_w (w3_or (t3_not (t3_val (e3_callF H_law_right tk (hr.mono (by decide)) (by rfl) (a3_cons (v3 7) (a3_cons (v3 3) (a3_cons (v3 4) (a3_cons (v3 5) a3_nil))))))) (w3_or1 (t3_cmp (o3_ne (Nat.lt_of_le_of_lt (Nat.add_le_add_left (by decide) _) hU)) (e3_callF H_made tk (hr.mono (by decide)) (by rfl) (a3_cons (e3_bt c3_list (by rfl) T.z_list (by decide +kernel) (a3_cons (v3 3) a3_nil)) (a3_cons (e3_bt c3_list (by rfl) T.z_list (by decide +kernel) (a3_cons (v3 4) a3_nil)) (a3_cons (e3_bt c3_list (by rfl) T.z_list (by decide +kernel) (a3_cons (v3 5) a3_nil)) a3_nil)))) (v3 7))))) (s3_one (s3_ret e3_bl)) s3_nil)))))))))))))
 (s3_one (s3_ret e3_bl))))
end
theorem all_ok {P : Program} {w : World} {K : PySem.W.Frag} {mg : Str → Option Value} {base : Heap} (T : Tx K mg) : OkF P w K mg base 6 "law" ["_law_script"] sp_law :=
  have H_is_whole := ok_is_whole (P := P) (w := w) (base := base) T
  have H_divisor := ok_divisor (P := P) (w := w) (base := base) T
  have H_under := ok_under (P := P) (w := w) (base := base) T
  have H_tidied := ok_tidied (P := P) (w := w) (base := base) T
  have H_columns_of := ok_columns_of (P := P) (w := w) (base := base) T
  have H_are_signs := ok_are_signs (P := P) (w := w) (base := base) T
  have H_law_feed := ok_law_feed (P := P) (w := w) (base := base) T
  have H_law_next := ok_law_next (P := P) (w := w) (base := base) T
  have H_law_whole := ok_law_whole (P := P) (w := w) (base := base) T
  have H_law_sign := ok_law_sign (P := P) (w := w) (base := base) T
  have H_law_tidy := ok_law_tidy (P := P) (w := w) (base := base) T
  have H_is_number := ok_is_number (P := P) (w := w) (base := base) T H_is_whole H_divisor
  have H_of_rows := ok_of_rows (P := P) (w := w) (base := base) T H_tidied H_columns_of
  have H_are_wholes := ok_are_wholes (P := P) (w := w) (base := base) T H_is_whole
  have H_law_lines := ok_law_lines (P := P) (w := w) (base := base) T H_law_next
  have H_law_rows := ok_law_rows (P := P) (w := w) (base := base) T H_law_next
  have H_law_are_lines := ok_law_are_lines (P := P) (w := w) (base := base) T H_law_whole
  have H_are_rising := ok_are_rising (P := P) (w := w) (base := base) T H_under H_is_number
  have H_made := ok_made (P := P) (w := w) (base := base) T H_are_signs H_of_rows H_are_wholes
  have H_is_yard := ok_is_yard (P := P) (w := w) (base := base) T H_are_signs H_of_rows H_are_rising
  have H_law_right := ok_law_right (P := P) (w := w) (base := base) T H_law_sign H_law_tidy H_law_are_lines H_is_yard
  ok_law T H_law_feed H_law_lines H_law_rows H_made H_law_right
theorem all_mk {w : World} {K : PySem.W.Frag} {h : Heap} {mg : Str → Option Value} (X : K.In h) (G : h.Ns mainGlobals mg) {f1 f2 f3 f4 f5 f6 f7 f8 f9 f10 f11 f12 f13 f14 f15 f16 f17 f18 f19 f20 f21 f22 : Addr}
    {od1 an1 : Option Addr} {sl1 : Array (Option Value)} {oc1 kV1 dc1 pm1 cd1 ct1 : Value}
    (a1 : PySem.W.nsIn K mainGlobals "is_whole" = some (some (.ref f1))) (l1 : K.lookup f1 = some ⟨oc1, od1, .func (PySem.W.fnOf "is_whole" "is_whole" (defArgs s_is_whole) (defBody s_is_whole) (defScope s_is_whole) .none kV1 dc1 pm1 an1 cd1 ct1), sl1⟩) (c1 : PySem.W.codeIn K cd1 "is_whole" = true) (k1 : PySem.W.keepIn K (.ref f1) = true)
    {od2 an2 : Option Addr} {sl2 : Array (Option Value)} {oc2 kV2 dc2 pm2 cd2 ct2 : Value}
    (a2 : PySem.W.nsIn K mainGlobals "divisor" = some (some (.ref f2))) (l2 : K.lookup f2 = some ⟨oc2, od2, .func (PySem.W.fnOf "divisor" "divisor" (defArgs s_divisor) (defBody s_divisor) (defScope s_divisor) .none kV2 dc2 pm2 an2 cd2 ct2), sl2⟩) (c2 : PySem.W.codeIn K cd2 "divisor" = true) (k2 : PySem.W.keepIn K (.ref f2) = true)
    {od3 an3 : Option Addr} {sl3 : Array (Option Value)} {oc3 kV3 dc3 pm3 cd3 ct3 : Value}
    (a3 : PySem.W.nsIn K mainGlobals "under" = some (some (.ref f3))) (l3 : K.lookup f3 = some ⟨oc3, od3, .func (PySem.W.fnOf "under" "under" (defArgs s_under) (defBody s_under) (defScope s_under) .none kV3 dc3 pm3 an3 cd3 ct3), sl3⟩) (c3 : PySem.W.codeIn K cd3 "under" = true) (k3 : PySem.W.keepIn K (.ref f3) = true)
    {od4 an4 : Option Addr} {sl4 : Array (Option Value)} {oc4 kV4 dc4 pm4 cd4 ct4 : Value}
    (a4 : PySem.W.nsIn K mainGlobals "tidied" = some (some (.ref f4))) (l4 : K.lookup f4 = some ⟨oc4, od4, .func (PySem.W.fnOf "tidied" "tidied" (defArgs s_tidied) (defBody s_tidied) (defScope s_tidied) .none kV4 dc4 pm4 an4 cd4 ct4), sl4⟩) (c4 : PySem.W.codeIn K cd4 "tidied" = true) (k4 : PySem.W.keepIn K (.ref f4) = true)
    {od5 an5 : Option Addr} {sl5 : Array (Option Value)} {oc5 kV5 dc5 pm5 cd5 ct5 : Value}
    (a5 : PySem.W.nsIn K mainGlobals "columns_of" = some (some (.ref f5))) (l5 : K.lookup f5 = some ⟨oc5, od5, .func (PySem.W.fnOf "columns_of" "columns_of" (defArgs s_columns_of) (defBody s_columns_of) (defScope s_columns_of) .none kV5 dc5 pm5 an5 cd5 ct5), sl5⟩) (c5 : PySem.W.codeIn K cd5 "columns_of" = true) (k5 : PySem.W.keepIn K (.ref f5) = true)
    {od6 an6 : Option Addr} {sl6 : Array (Option Value)} {oc6 kV6 dc6 pm6 cd6 ct6 : Value}
    (a6 : PySem.W.nsIn K mainGlobals "are_signs" = some (some (.ref f6))) (l6 : K.lookup f6 = some ⟨oc6, od6, .func (PySem.W.fnOf "are_signs" "are_signs" (defArgs s_are_signs) (defBody s_are_signs) (defScope s_are_signs) .none kV6 dc6 pm6 an6 cd6 ct6), sl6⟩) (c6 : PySem.W.codeIn K cd6 "are_signs" = true) (k6 : PySem.W.keepIn K (.ref f6) = true)
    {od7 an7 : Option Addr} {sl7 : Array (Option Value)} {oc7 kV7 dc7 pm7 cd7 ct7 : Value}
    (a7 : PySem.W.nsIn K mainGlobals "_law_feed" = some (some (.ref f7))) (l7 : K.lookup f7 = some ⟨oc7, od7, .func (PySem.W.fnOf "_law_feed" "_law_feed" (defArgs s_law_feed) (defBody s_law_feed) (defScope s_law_feed) .none kV7 dc7 pm7 an7 cd7 ct7), sl7⟩) (c7 : PySem.W.codeIn K cd7 "_law_feed" = true) (k7 : PySem.W.keepIn K (.ref f7) = true)
    {od8 an8 : Option Addr} {sl8 : Array (Option Value)} {oc8 kV8 dc8 pm8 cd8 ct8 : Value}
    (a8 : PySem.W.nsIn K mainGlobals "_law_next" = some (some (.ref f8))) (l8 : K.lookup f8 = some ⟨oc8, od8, .func (PySem.W.fnOf "_law_next" "_law_next" (defArgs s_law_next) (defBody s_law_next) (defScope s_law_next) .none kV8 dc8 pm8 an8 cd8 ct8), sl8⟩) (c8 : PySem.W.codeIn K cd8 "_law_next" = true) (k8 : PySem.W.keepIn K (.ref f8) = true)
    {od9 an9 : Option Addr} {sl9 : Array (Option Value)} {oc9 kV9 dc9 pm9 cd9 ct9 : Value}
    (a9 : PySem.W.nsIn K mainGlobals "_law_whole" = some (some (.ref f9))) (l9 : K.lookup f9 = some ⟨oc9, od9, .func (PySem.W.fnOf "_law_whole" "_law_whole" (defArgs s_law_whole) (defBody s_law_whole) (defScope s_law_whole) .none kV9 dc9 pm9 an9 cd9 ct9), sl9⟩) (c9 : PySem.W.codeIn K cd9 "_law_whole" = true) (k9 : PySem.W.keepIn K (.ref f9) = true)
    {od10 an10 : Option Addr} {sl10 : Array (Option Value)} {oc10 kV10 dc10 pm10 cd10 ct10 : Value}
    (a10 : PySem.W.nsIn K mainGlobals "_law_sign" = some (some (.ref f10))) (l10 : K.lookup f10 = some ⟨oc10, od10, .func (PySem.W.fnOf "_law_sign" "_law_sign" (defArgs s_law_sign) (defBody s_law_sign) (defScope s_law_sign) .none kV10 dc10 pm10 an10 cd10 ct10), sl10⟩) (c10 : PySem.W.codeIn K cd10 "_law_sign" = true) (k10 : PySem.W.keepIn K (.ref f10) = true)
    {od11 an11 : Option Addr} {sl11 : Array (Option Value)} {oc11 kV11 dc11 pm11 cd11 ct11 : Value}
    (a11 : PySem.W.nsIn K mainGlobals "_law_tidy" = some (some (.ref f11))) (l11 : K.lookup f11 = some ⟨oc11, od11, .func (PySem.W.fnOf "_law_tidy" "_law_tidy" (defArgs s_law_tidy) (defBody s_law_tidy) (defScope s_law_tidy) .none kV11 dc11 pm11 an11 cd11 ct11), sl11⟩) (c11 : PySem.W.codeIn K cd11 "_law_tidy" = true) (k11 : PySem.W.keepIn K (.ref f11) = true)
    {od12 an12 : Option Addr} {sl12 : Array (Option Value)} {oc12 kV12 dc12 pm12 cd12 ct12 : Value}
    (a12 : PySem.W.nsIn K mainGlobals "is_number" = some (some (.ref f12))) (l12 : K.lookup f12 = some ⟨oc12, od12, .func (PySem.W.fnOf "is_number" "is_number" (defArgs s_is_number) (defBody s_is_number) (defScope s_is_number) .none kV12 dc12 pm12 an12 cd12 ct12), sl12⟩) (c12 : PySem.W.codeIn K cd12 "is_number" = true) (k12 : PySem.W.keepIn K (.ref f12) = true)
    {od13 an13 : Option Addr} {sl13 : Array (Option Value)} {oc13 kV13 dc13 pm13 cd13 ct13 : Value}
    (a13 : PySem.W.nsIn K mainGlobals "of_rows" = some (some (.ref f13))) (l13 : K.lookup f13 = some ⟨oc13, od13, .func (PySem.W.fnOf "of_rows" "of_rows" (defArgs s_of_rows) (defBody s_of_rows) (defScope s_of_rows) .none kV13 dc13 pm13 an13 cd13 ct13), sl13⟩) (c13 : PySem.W.codeIn K cd13 "of_rows" = true) (k13 : PySem.W.keepIn K (.ref f13) = true)
    {od14 an14 : Option Addr} {sl14 : Array (Option Value)} {oc14 kV14 dc14 pm14 cd14 ct14 : Value}
    (a14 : PySem.W.nsIn K mainGlobals "are_wholes" = some (some (.ref f14))) (l14 : K.lookup f14 = some ⟨oc14, od14, .func (PySem.W.fnOf "are_wholes" "are_wholes" (defArgs s_are_wholes) (defBody s_are_wholes) (defScope s_are_wholes) .none kV14 dc14 pm14 an14 cd14 ct14), sl14⟩) (c14 : PySem.W.codeIn K cd14 "are_wholes" = true) (k14 : PySem.W.keepIn K (.ref f14) = true)
    {od15 an15 : Option Addr} {sl15 : Array (Option Value)} {oc15 kV15 dc15 pm15 cd15 ct15 : Value}
    (a15 : PySem.W.nsIn K mainGlobals "_law_lines" = some (some (.ref f15))) (l15 : K.lookup f15 = some ⟨oc15, od15, .func (PySem.W.fnOf "_law_lines" "_law_lines" (defArgs s_law_lines) (defBody s_law_lines) (defScope s_law_lines) .none kV15 dc15 pm15 an15 cd15 ct15), sl15⟩) (c15 : PySem.W.codeIn K cd15 "_law_lines" = true) (k15 : PySem.W.keepIn K (.ref f15) = true)
    {od16 an16 : Option Addr} {sl16 : Array (Option Value)} {oc16 kV16 dc16 pm16 cd16 ct16 : Value}
    (a16 : PySem.W.nsIn K mainGlobals "_law_rows" = some (some (.ref f16))) (l16 : K.lookup f16 = some ⟨oc16, od16, .func (PySem.W.fnOf "_law_rows" "_law_rows" (defArgs s_law_rows) (defBody s_law_rows) (defScope s_law_rows) .none kV16 dc16 pm16 an16 cd16 ct16), sl16⟩) (c16 : PySem.W.codeIn K cd16 "_law_rows" = true) (k16 : PySem.W.keepIn K (.ref f16) = true)
    {od17 an17 : Option Addr} {sl17 : Array (Option Value)} {oc17 kV17 dc17 pm17 cd17 ct17 : Value}
    (a17 : PySem.W.nsIn K mainGlobals "_law_are_lines" = some (some (.ref f17))) (l17 : K.lookup f17 = some ⟨oc17, od17, .func (PySem.W.fnOf "_law_are_lines" "_law_are_lines" (defArgs s_law_are_lines) (defBody s_law_are_lines) (defScope s_law_are_lines) .none kV17 dc17 pm17 an17 cd17 ct17), sl17⟩) (c17 : PySem.W.codeIn K cd17 "_law_are_lines" = true) (k17 : PySem.W.keepIn K (.ref f17) = true)
    {od18 an18 : Option Addr} {sl18 : Array (Option Value)} {oc18 kV18 dc18 pm18 cd18 ct18 : Value}
    (a18 : PySem.W.nsIn K mainGlobals "are_rising" = some (some (.ref f18))) (l18 : K.lookup f18 = some ⟨oc18, od18, .func (PySem.W.fnOf "are_rising" "are_rising" (defArgs s_are_rising) (defBody s_are_rising) (defScope s_are_rising) .none kV18 dc18 pm18 an18 cd18 ct18), sl18⟩) (c18 : PySem.W.codeIn K cd18 "are_rising" = true) (k18 : PySem.W.keepIn K (.ref f18) = true)
    {od19 an19 : Option Addr} {sl19 : Array (Option Value)} {oc19 kV19 dc19 pm19 cd19 ct19 : Value}
    (a19 : PySem.W.nsIn K mainGlobals "made" = some (some (.ref f19))) (l19 : K.lookup f19 = some ⟨oc19, od19, .func (PySem.W.fnOf "made" "made" (defArgs s_made) (defBody s_made) (defScope s_made) .none kV19 dc19 pm19 an19 cd19 ct19), sl19⟩) (c19 : PySem.W.codeIn K cd19 "made" = true) (k19 : PySem.W.keepIn K (.ref f19) = true)
    {od20 an20 : Option Addr} {sl20 : Array (Option Value)} {oc20 kV20 dc20 pm20 cd20 ct20 : Value}
    (a20 : PySem.W.nsIn K mainGlobals "is_yard" = some (some (.ref f20))) (l20 : K.lookup f20 = some ⟨oc20, od20, .func (PySem.W.fnOf "is_yard" "is_yard" (defArgs s_is_yard) (defBody s_is_yard) (defScope s_is_yard) .none kV20 dc20 pm20 an20 cd20 ct20), sl20⟩) (c20 : PySem.W.codeIn K cd20 "is_yard" = true) (k20 : PySem.W.keepIn K (.ref f20) = true)
    {od21 an21 : Option Addr} {sl21 : Array (Option Value)} {oc21 kV21 dc21 pm21 cd21 ct21 : Value}
    (a21 : PySem.W.nsIn K mainGlobals "_law_right" = some (some (.ref f21))) (l21 : K.lookup f21 = some ⟨oc21, od21, .func (PySem.W.fnOf "_law_right" "_law_right" (defArgs s_law_right) (defBody s_law_right) (defScope s_law_right) .none kV21 dc21 pm21 an21 cd21 ct21), sl21⟩) (c21 : PySem.W.codeIn K cd21 "_law_right" = true) (k21 : PySem.W.keepIn K (.ref f21) = true)
    {od22 an22 : Option Addr} {sl22 : Array (Option Value)} {oc22 kV22 dc22 pm22 cd22 ct22 : Value}
    (a22 : PySem.W.nsIn K mainGlobals "law" = some (some (.ref f22))) (l22 : K.lookup f22 = some ⟨oc22, od22, .func (PySem.W.fnOf "law" "law" (defArgs s_law) (defBody s_law) (defScope s_law) .none kV22 dc22 pm22 an22 cd22 ct22), sl22⟩) (c22 : PySem.W.codeIn K cd22 "law" = true) (k22 : PySem.W.keepIn K (.ref f22) = true)
    (z_abs : PySem.W.nsIn K mainGlobals "abs" = some none)
    (z_all : PySem.W.nsIn K mainGlobals "all" = some none)
    (z_bool : PySem.W.nsIn K mainGlobals "bool" = some none)
    (z_int : PySem.W.nsIn K mainGlobals "int" = some none)
    (z_isinstance : PySem.W.nsIn K mainGlobals "isinstance" = some none)
    (z_len : PySem.W.nsIn K mainGlobals "len" = some none)
    (z_list : PySem.W.nsIn K mainGlobals "list" = some none)
    (z_max : PySem.W.nsIn K mainGlobals "max" = some none)
    (z_min : PySem.W.nsIn K mainGlobals "min" = some none)
    (z_range : PySem.W.nsIn K mainGlobals "range" = some none)
    (z_str : PySem.W.nsIn K mainGlobals "str" = some none)
    (z_tuple : PySem.W.nsIn K mainGlobals "tuple" = some none)
    {C_NoYard : Addr}
    (q_NoYard : PySem.W.nsIn K mainGlobals (PySem.Str.ofString "NoYard") = some (some (.ref C_NoYard)))
    (e_NoYard : PySem.W.excIn K C_NoYard [.type "ValueError", .type "Exception", .type "BaseException", .type "object"] "ValueError.__new__" = true)
    (kp_NoYard : PySem.W.keepIn K (.ref C_NoYard) = true)
    (sb_NoYard : PySem.W.subIn K (.ref C_NoYard) (.type "BaseException") = some true)
    (ty_NoYard : PySem.W.typeIn K (.ref C_NoYard) = some (.type "type"))
    {kt_FAR_1 : Tok}
    (kg_FAR : PySem.W.nsIn K mainGlobals (PySem.Str.ofString "FAR") = some (some (.int 1000000000 kt_FAR_1)))
    {kt_MOST_LINES_1 : Tok}
    (kg_MOST_LINES : PySem.W.nsIn K mainGlobals (PySem.Str.ofString "MOST_LINES") = some (some (.int 7 kt_MOST_LINES_1)))
    {ka_VOID_2 : Addr} {kd_VOID_2 : Option Addr} {kn_VOID_2 : Nat} {ks_VOID_2 : Array (Option Value)}
    {ka_VOID_3 : Addr} {kd_VOID_3 : Option Addr} {kn_VOID_3 : Nat} {ks_VOID_3 : Array (Option Value)}
    {ka_VOID_4 : Addr} {kd_VOID_4 : Option Addr} {kn_VOID_4 : Nat} {ks_VOID_4 : Array (Option Value)}
    {ka_VOID_1 : Addr} {kd_VOID_1 : Option Addr} {kn_VOID_1 : Nat} {ks_VOID_1 : Array (Option Value)}
    (kg_VOID : PySem.W.nsIn K mainGlobals (PySem.Str.ofString "VOID") = some (some (.ref ka_VOID_1)))
    (kl_VOID_1 : K.lookup ka_VOID_1 = some ⟨.type "tuple", kd_VOID_1, .seq ([.ref ka_VOID_2, .ref ka_VOID_3, .ref ka_VOID_4] : List Value).toArray kn_VOID_1, ks_VOID_1⟩)
    (kl_VOID_4 : K.lookup ka_VOID_4 = some ⟨.type "tuple", kd_VOID_4, .seq ([] : List Value).toArray kn_VOID_4, ks_VOID_4⟩)
    (kl_VOID_3 : K.lookup ka_VOID_3 = some ⟨.type "tuple", kd_VOID_3, .seq ([] : List Value).toArray kn_VOID_3, ks_VOID_3⟩)
    (kl_VOID_2 : K.lookup ka_VOID_2 = some ⟨.type "tuple", kd_VOID_2, .seq ([] : List Value).toArray kn_VOID_2, ks_VOID_2⟩)
    : Tx K mg :=
  { f_is_whole := has_mk (st := s_is_whole) (PySem.W.mg_of X G a1) l1 c1 k1 (fun _ _ _ _ _ _ us hl => match us, hl with | [_], _ => rfl),
    f_divisor := has_mk (st := s_divisor) (PySem.W.mg_of X G a2) l2 c2 k2 (fun _ _ _ _ _ _ us hl => match us, hl with | [_, _], _ => rfl),
    f_under := has_mk (st := s_under) (PySem.W.mg_of X G a3) l3 c3 k3 (fun _ _ _ _ _ _ us hl => match us, hl with | [_, _], _ => rfl),
    f_tidied := has_mk (st := s_tidied) (PySem.W.mg_of X G a4) l4 c4 k4 (fun _ _ _ _ _ _ us hl => match us, hl with | [_, _, _], _ => rfl),
    f_columns_of := has_mk (st := s_columns_of) (PySem.W.mg_of X G a5) l5 c5 k5 (fun _ _ _ _ _ _ us hl => match us, hl with | [_, _], _ => rfl),
    f_are_signs := has_mk (st := s_are_signs) (PySem.W.mg_of X G a6) l6 c6 k6 (fun _ _ _ _ _ _ us hl => match us, hl with | [_, _], _ => rfl),
    f_law_feed := has_mk (st := s_law_feed) (PySem.W.mg_of X G a7) l7 c7 k7 (fun _ _ _ _ _ _ us hl => match us, hl with | [_, _], _ => rfl),
    f_law_next := has_mk (st := s_law_next) (PySem.W.mg_of X G a8) l8 c8 k8 (fun _ _ _ _ _ _ us hl => match us, hl with | [_, _], _ => rfl),
    f_law_whole := has_mk (st := s_law_whole) (PySem.W.mg_of X G a9) l9 c9 k9 (fun _ _ _ _ _ _ us hl => match us, hl with | [_], _ => rfl),
    f_law_sign := has_mk (st := s_law_sign) (PySem.W.mg_of X G a10) l10 c10 k10 (fun _ _ _ _ _ _ us hl => match us, hl with | [_, _, _], _ => rfl),
    f_law_tidy := has_mk (st := s_law_tidy) (PySem.W.mg_of X G a11) l11 c11 k11 (fun _ _ _ _ _ _ us hl => match us, hl with | [_], _ => rfl),
    f_is_number := has_mk (st := s_is_number) (PySem.W.mg_of X G a12) l12 c12 k12 (fun _ _ _ _ _ _ us hl => match us, hl with | [_], _ => rfl),
    f_of_rows := has_mk (st := s_of_rows) (PySem.W.mg_of X G a13) l13 c13 k13 (fun _ _ _ _ _ _ us hl => match us, hl with | [_, _, _], _ => rfl),
    f_are_wholes := has_mk (st := s_are_wholes) (PySem.W.mg_of X G a14) l14 c14 k14 (fun _ _ _ _ _ _ us hl => match us, hl with | [_], _ => rfl),
    f_law_lines := has_mk (st := s_law_lines) (PySem.W.mg_of X G a15) l15 c15 k15 (fun _ _ _ _ _ _ us hl => match us, hl with | [_], _ => rfl),
    f_law_rows := has_mk (st := s_law_rows) (PySem.W.mg_of X G a16) l16 c16 k16 (fun _ _ _ _ _ _ us hl => match us, hl with | [_, _, _], _ => rfl),
    f_law_are_lines := has_mk (st := s_law_are_lines) (PySem.W.mg_of X G a17) l17 c17 k17 (fun _ _ _ _ _ _ us hl => match us, hl with | [_, _], _ => rfl),
    f_are_rising := has_mk (st := s_are_rising) (PySem.W.mg_of X G a18) l18 c18 k18 (fun _ _ _ _ _ _ us hl => match us, hl with | [_], _ => rfl),
    f_made := has_mk (st := s_made) (PySem.W.mg_of X G a19) l19 c19 k19 (fun _ _ _ _ _ _ us hl => match us, hl with | [_, _, _], _ => rfl),
    f_is_yard := has_mk (st := s_is_yard) (PySem.W.mg_of X G a20) l20 c20 k20 (fun _ _ _ _ _ _ us hl => match us, hl with | [_], _ => rfl),
    f_law_right := has_mk (st := s_law_right) (PySem.W.mg_of X G a21) l21 c21 k21 (fun _ _ _ _ _ _ us hl => match us, hl with | [_, _, _, _], _ => rfl),
    f_law := has_mk (st := s_law) (PySem.W.mg_of X G a22) l22 c22 k22 (fun _ _ _ _ _ _ us hl => match us, hl with | [_], _ => rfl),
    z_abs := PySem.W.mg_none_of X G z_abs,
    z_all := PySem.W.mg_none_of X G z_all,
    z_bool := PySem.W.mg_none_of X G z_bool,
    z_int := PySem.W.mg_none_of X G z_int,
    z_isinstance := PySem.W.mg_none_of X G z_isinstance,
    z_len := PySem.W.mg_none_of X G z_len,
    z_list := PySem.W.mg_none_of X G z_list,
    z_max := PySem.W.mg_none_of X G z_max,
    z_min := PySem.W.mg_none_of X G z_min,
    z_range := PySem.W.mg_none_of X G z_range,
    z_str := PySem.W.mg_none_of X G z_str,
    z_tuple := PySem.W.mg_none_of X G z_tuple,
    r_yard := ⟨C_NoYard, q_NoYard, PySem.W.mg_of X G q_NoYard, e_NoYard, kp_NoYard, sb_NoYard, ty_NoYard⟩,
    g_FAR := ⟨_, PySem.W.mg_of X G kg_FAR, (.int _ _)⟩,
    g_MOST_LINES := ⟨_, PySem.W.mg_of X G kg_MOST_LINES, (.int _ _)⟩,
    g_VOID := ⟨_, PySem.W.mg_of X G kg_VOID, (.tup kl_VOID_1 (by first | decide | simp) (.cons (.tup kl_VOID_2 (by first | decide | simp) .nil) (.cons (.tup kl_VOID_3 (by first | decide | simp) .nil) (.cons (.tup kl_VOID_4 (by first | decide | simp) .nil) .nil))))⟩ }
end R3
open PySem PySem.W PyProof.Rows
set_option maxRecDepth 100000 in
set_option maxHeartbeats 0 in
theorem PySem.Challenge.cw_roofridges_k04_yards_made_holds : PySem.Challenge.rw_roofridges_k04_yards_made.Holds := by
  w_on; o_law; k_head; (case hw => w_witness2)
  k_fill
  refine R3.law_of (l := PySem.Challenge.rw_roofridges_k04_yards_made) (k := 6) (x := "_law_script") rfl rfl ⟨rfl, by decide, by decide⟩ (fun w h Y => PySem.W.kIn_of Y) ?F
  case F =>
    intro w mg fa h KX G hmg
    refine' (fun T => ⟨_, R3.Tx.f_law T, fun base _ _ => R3.all_ok T⟩ : R3.Tx _ mg → _) (R3.all_mk (w := w) KX G ?a1 ?l1 ?c1 ?k1 ?a2 ?l2 ?c2 ?k2 ?a3 ?l3 ?c3 ?k3 ?a4 ?l4 ?c4 ?k4 ?a5 ?l5 ?c5 ?k5 ?a6 ?l6 ?c6 ?k6 ?a7 ?l7 ?c7 ?k7 ?a8 ?l8 ?c8 ?k8 ?a9 ?l9 ?c9 ?k9 ?a10 ?l10 ?c10 ?k10 ?a11 ?l11 ?c11 ?k11 ?a12 ?l12 ?c12 ?k12 ?a13 ?l13 ?c13 ?k13 ?a14 ?l14 ?c14 ?k14 ?a15 ?l15 ?c15 ?k15 ?a16 ?l16 ?c16 ?k16 ?a17 ?l17 ?c17 ?k17 ?a18 ?l18 ?c18 ?k18 ?a19 ?l19 ?c19 ?k19 ?a20 ?l20 ?c20 ?k20 ?a21 ?l21 ?c21 ?k21 ?a22 ?l22 ?c22 ?k22 ?z_abs ?z_all ?z_bool ?z_int ?z_isinstance ?z_len ?z_list ?z_max ?z_min ?z_range ?z_str ?z_tuple ?q_NoYard ?e_NoYard ?kp_NoYard ?sb_NoYard ?ty_NoYard ?kg_FAR ?kg_MOST_LINES ?kg_VOID ?kl_VOID_1 ?kl_VOID_4 ?kl_VOID_3 ?kl_VOID_2)
    (case a1 => k_is)
    (case l1 => k_is)
    (case c1 => k_is)
    (case k1 => k_is)
    (case a2 => k_is)
    (case l2 => k_is)
    (case c2 => k_is)
    (case k2 => k_is)
    (case a3 => k_is)
    (case l3 => k_is)
    (case c3 => k_is)
    (case k3 => k_is)
    (case a4 => k_is)
    (case l4 => k_is)
    (case c4 => k_is)
    (case k4 => k_is)
    (case a5 => k_is)
    (case l5 => k_is)
    (case c5 => k_is)
    (case k5 => k_is)
    (case a6 => k_is)
    (case l6 => k_is)
    (case c6 => k_is)
    (case k6 => k_is)
    (case a7 => k_is)
    (case l7 => k_is)
    (case c7 => k_is)
    (case k7 => k_is)
    (case a8 => k_is)
    (case l8 => k_is)
    (case c8 => k_is)
    (case k8 => k_is)
    (case a9 => k_is)
    (case l9 => k_is)
    (case c9 => k_is)
    (case k9 => k_is)
    (case a10 => k_is)
    (case l10 => k_is)
    (case c10 => k_is)
    (case k10 => k_is)
    (case a11 => k_is)
    (case l11 => k_is)
    (case c11 => k_is)
    (case k11 => k_is)
    (case a12 => k_is)
    (case l12 => k_is)
    (case c12 => k_is)
    (case k12 => k_is)
    (case a13 => k_is)
    (case l13 => k_is)
    (case c13 => k_is)
    (case k13 => k_is)
    (case a14 => k_is)
    (case l14 => k_is)
    (case c14 => k_is)
    (case k14 => k_is)
    (case a15 => k_is)
    (case l15 => k_is)
    (case c15 => k_is)
    (case k15 => k_is)
    (case a16 => k_is)
    (case l16 => k_is)
    (case c16 => k_is)
    (case k16 => k_is)
    (case a17 => k_is)
    (case l17 => k_is)
    (case c17 => k_is)
    (case k17 => k_is)
    (case a18 => k_is)
    (case l18 => k_is)
    (case c18 => k_is)
    (case k18 => k_is)
    (case a19 => k_is)
    (case l19 => k_is)
    (case c19 => k_is)
    (case k19 => k_is)
    (case a20 => k_is)
    (case l20 => k_is)
    (case c20 => k_is)
    (case k20 => k_is)
    (case a21 => k_is)
    (case l21 => k_is)
    (case c21 => k_is)
    (case k21 => k_is)
    (case a22 => k_is)
    (case l22 => k_is)
    (case c22 => k_is)
    (case k22 => k_is)
    (case z_abs => k_is)
    (case z_all => k_is)
    (case z_bool => k_is)
    (case z_int => k_is)
    (case z_isinstance => k_is)
    (case z_len => k_is)
    (case z_list => k_is)
    (case z_max => k_is)
    (case z_min => k_is)
    (case z_range => k_is)
    (case z_str => k_is)
    (case z_tuple => k_is)
    (case q_NoYard => k_is)
    (case e_NoYard => k_exc)
    (case kp_NoYard => k_is)
    (case sb_NoYard => k_is)
    (case ty_NoYard => k_is)
    (case kg_FAR => k_is)
    (case kg_MOST_LINES => k_is)
    (case kg_VOID => k_is)
    (case kl_VOID_1 => k_is)
    (case kl_VOID_4 => k_is)
    (case kl_VOID_3 => k_is)
    (case kl_VOID_2 => k_is)
