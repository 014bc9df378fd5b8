import PyProof.Rows.All
import Wide.All
import OpenK.AllK
import Wide.FinOn
import HandS.ForMost
import HandS.ForExc
import HandS.Walk
import HandS.Wide
import HandS.TupAny
import HandS.NoneIn
import PyProof.Rows.StrMul
import HandS.ExcOwn
import HandS.ExcIs
import HandS.ExcValue
import HandS.IsInst
import HandS.TupLe
import HandS.Deep
import HandS.EndBits
import HandS.RaiseMore
import KE.KIsAll
import PySem.Challenge.RW_roofridges_k02_sums_of_numbers
set_option Elab.async false
set_option linter.all false
set_option maxRecDepth 100000
set_option maxHeartbeats 4000000
set_option exponentiation.threshold 10000
/-! R3, part A: readings over data. A tuple is a value (D.tup); what can change (lists, dicts) stands in a store S by its address. -/
namespace R3
open PySem PySem.Spec PyProof.Rows L2
abbrev St : Type := List (Option V)

/-! ### data, the store -/
inductive D where
  | non | bl (b : Bool) | int (i : Int) | str (x : Str) | tup (l : List D) | ref (a : Addr) | ty (n : String) | fl (l : List D)

/-- a list that never changes: the script, or one of the module's own -/
def SqF (K : PySem.W.Frag) (H : Hp) (a : Addr) (xs : List V) : Prop :=
  (∃ o, H a = some (.frz o (.lst xs))) ∨ ∃ (o : Obj) (its : Array Value) (n : Nat), K.lookup a = some o ∧ o.cls = .type "list" ∧ o.dict = none ∧ o.data = .seq its n ∧ its.size ≤ sizeLine ∧ Vals xs its.toList
theorem SqF.seqL {K : PySem.W.Frag} {H : Hp} {a : Addr} {xs : List V} (h : SqF K H a xs) : SqL K H a xs := by
  rcases h with ⟨o, h⟩ | h
  · exact .inl (.inr ⟨o, h⟩)
  · exact .inr h
mutual
inductive Rv (K : PySem.W.Frag) (H : Hp) : V → D → Prop
  | non : Rv K H .non .non
  | bl (b : Bool) : Rv K H (.bl b) (.bl b)
  | int (i : Int) : Rv K H (.int i) (.int i)
  | str (x : Str) : Rv K H (.str x) (.str x)
  | ref (a : Addr) : Rv K H (.ref a) (.ref a)
  | ty (n : String) : Rv K H (.ty n) (.ty n)
  | tup {a : Addr} {xs : List V} {ds : List D} : SqT K H a xs → RvL K H xs ds → Rv K H (.ref a) (.tup ds)
  | fl {a : Addr} {xs : List V} {ds : List D} : SqF K H a xs → RvL K H xs ds → Rv K H (.ref a) (.fl ds)
inductive RvL (K : PySem.W.Frag) (H : Hp) : List V → List D → Prop
  | nil : RvL K H [] []
  | cons {v : V} {vs : List V} {d : D} {ds : List D} : Rv K H v d → RvL K H vs ds → RvL K H (v :: vs) (d :: ds)
end

/-- the heap has grown: tuples and frozen things stand, nothing is gone -/
structure Gr (H H' : Hp) : Prop where
  tup : ∀ a xs, H a = some (.tup xs) → H' a = some (.tup xs)
  frz : ∀ a o u, H a = some (.frz o u) → H' a = some (.frz o u)
  dom : ∀ a, H' a = none → H a = none
theorem Gr.refl (H : Hp) : Gr H H := ⟨fun _ _ h => h, fun _ _ _ h => h, fun _ h => h⟩
theorem Gr.trans {H H1 H2 : Hp} (a : Gr H H1) (b : Gr H1 H2) : Gr H H2 := ⟨fun c x h => b.tup c x (a.tup c x h), fun c o u h => b.frz c o u (a.frz c o u h), fun c h => a.dom c (b.dom c h)⟩
theorem Gr.seqT {K : PySem.W.Frag} {H H' : Hp} {a : Addr} {xs : List V} (g : Gr H H') (h : SqT K H a xs) : SqT K H' a xs := by
  rcases h with (h | ⟨o, h⟩) | h
  · exact .inl (.inl (g.tup _ _ h))
  · exact .inl (.inr ⟨o, g.frz _ _ _ h⟩)
  · exact .inr h
theorem Gr.seqF {K : PySem.W.Frag} {H H' : Hp} {a : Addr} {xs : List V} (g : Gr H H') (h : SqF K H a xs) : SqF K H' a xs := by
  rcases h with ⟨o, h⟩ | h
  · exact .inl ⟨o, g.frz _ _ _ h⟩
  · exact .inr h
theorem Gr.new {H : Hp} {p : Addr} {o : HO} (h : H p = none) : Gr H (upd H p o) := by
  refine ⟨fun a xs e => ?_, fun a o' u e => ?_, fun a e => ?_⟩
  · rw [upd_ne (ne_of_none e h)]; exact e
  · rw [upd_ne (ne_of_none e h)]; exact e
  · by_cases q : a = p
    · subst q; exact h
    · rw [upd_ne q] at e; exact e
theorem Gr.set {H : Hp} {p : Addr} {o u : HO} (h : H p = some o) (ht : ∀ xs, o ≠ .tup xs) (hf : ∀ q v, o ≠ .frz q v) : Gr H (upd H p u) := by
  refine ⟨fun a xs e => ?_, fun a o' v e => ?_, fun a e => ?_⟩
  · have : a ≠ p := by rintro rfl; rw [h] at e; exact ht _ (Option.some.inj e)
    rw [upd_ne this]; exact e
  · have : a ≠ p := by rintro rfl; rw [h] at e; exact hf _ _ (Option.some.inj e)
    rw [upd_ne this]; exact e
  · by_cases q : a = p
    · subst q; rw [upd_same] at e; cases e
    · rw [upd_ne q] at e; exact e

section
variable {K : PySem.W.Frag} {H H' : Hp}
mutual
theorem Rv.mono (g : Gr H H') : ∀ {v : V} {d : D}, Rv K H v d → Rv K H' v d
  | _, _, .non => .non
  | _, _, .bl b => .bl b
  | _, _, .int i => .int i
  | _, _, .str x => .str x
  | _, _, .ref a => .ref a
  | _, _, .ty n => .ty n
  | _, _, .tup h r => .tup (g.seqT h) (RvL.mono g r)
  | _, _, .fl h r => .fl (g.seqF h) (RvL.mono g r)
theorem RvL.mono (g : Gr H H') : ∀ {vs : List V} {ds : List D}, RvL K H vs ds → RvL K H' vs ds
  | _, _, .nil => .nil
  | _, _, .cons h r => .cons (Rv.mono g h) (RvL.mono g r)
end
theorem RvL.length : ∀ {vs : List V} {ds : List D}, RvL K H vs ds → vs.length = ds.length
  | _, _, .nil => rfl
  | _, _, .cons _ r => by rw [List.length_cons, List.length_cons, RvL.length r]
theorem RvL.get : ∀ {vs : List V} {ds : List D} {i : Nat} {d : D}, RvL K H vs ds → ds[i]? = some d → ∃ v, vs[i]? = some v ∧ Rv K H v d
  | _, _, _, _, .nil, e => by simp at e
  | _, _, 0, _, .cons h _, e => by simp at e; subst e; exact ⟨_, rfl, h⟩
  | _, _, i + 1, d, .cons _ r, e => by
    obtain ⟨v, h1, h2⟩ := RvL.get (i := i) (d := d) r (by simpa using e)
    exact ⟨v, by simpa using h1, h2⟩
theorem RvL.getV : ∀ {vs : List V} {ds : List D} {i : Nat} {v : V}, RvL K H vs ds → vs[i]? = some v → ∃ d, ds[i]? = some d ∧ Rv K H v d
  | _, _, _, _, .nil, e => by simp at e
  | _, _, 0, _, .cons h _, e => by simp at e; subst e; exact ⟨_, rfl, h⟩
  | _, _, i + 1, v, .cons _ r, e => by
    obtain ⟨d, h1, h2⟩ := RvL.getV (i := i) (v := v) r (by simpa using e)
    exact ⟨d, by simpa using h1, h2⟩
theorem RvL.append : ∀ {vs us : List V} {ds es : List D}, RvL K H vs ds → RvL K H us es → RvL K H (vs ++ us) (ds ++ es)
  | _, _, _, _, .nil, s => s
  | _, _, _, _, .cons h r, s => .cons h (RvL.append r s)
theorem RvL.set {v : V} {d : D} (h : Rv K H v d) : ∀ {vs : List V} {ds : List D} (i : Nat), RvL K H vs ds → RvL K H (vs.set i v) (ds.set i d)
  | _, _, _, .nil => .nil
  | _, _, 0, .cons _ r => .cons h r
  | _, _, i + 1, .cons q r => .cons q (RvL.set h i r)
theorem RvL.take : ∀ {vs : List V} {ds : List D} (n : Nat), RvL K H vs ds → RvL K H (vs.take n) (ds.take n)
  | _, _, 0, _ => .nil
  | _, _, _ + 1, .nil => .nil
  | _, _, n + 1, .cons h r => .cons h (RvL.take n r)
theorem RvL.drop : ∀ {vs : List V} {ds : List D} (n : Nat), RvL K H vs ds → RvL K H (vs.drop n) (ds.drop n)
  | _, _, 0, r => r
  | _, _, _ + 1, .nil => .nil
  | _, _, n + 1, .cons _ r => RvL.drop n r
theorem RvL.reverse : ∀ {vs : List V} {ds : List D}, RvL K H vs ds → RvL K H vs.reverse ds.reverse
  | _, _, .nil => .nil
  | _, _, .cons h r => by rw [List.reverse_cons, List.reverse_cons]; exact (RvL.reverse r).append (.cons h .nil)
theorem RvL.ints : ∀ {vs : List V} {ns : List Int}, RvL K H vs (ns.map D.int) → vs = ns.map V.int
  | _, [], .nil => rfl
  | _, n :: ns, .cons h r => by cases h; rw [RvL.ints r]; rfl
theorem RvL.ofInts : ∀ {ns : List Int}, RvL K H (ns.map V.int) (ns.map D.int)
  | [] => .nil
  | n :: ns => .cons (.int n) RvL.ofInts
theorem RvL.strs : ∀ {vs : List V} {ns : List Str}, RvL K H vs (ns.map D.str) → vs = ns.map V.str
  | _, [], .nil => rfl
  | _, n :: ns, .cons h r => by cases h; rw [RvL.strs r]; rfl
theorem RvL.ofStrs : ∀ {ns : List Str}, RvL K H (ns.map V.str) (ns.map D.str)
  | [] => .nil
  | n :: ns => .cons (.str n) RvL.ofStrs
theorem RvL.bls : ∀ {vs : List V} {ns : List Bool}, RvL K H vs (ns.map D.bl) → vs = ns.map V.bl
  | _, [], .nil => rfl
  | _, n :: ns, .cons h r => by cases h; rw [RvL.bls r]; rfl
end

/-- the program's own errors -/
inductive Ex where
  | number | yard | point | text | row | name
def Ex.nm : Ex → String
  | .number => "NoNumber" | .yard => "NoYard" | .point => "NoPoint" | .text => "NoText" | .row => "NoRow" | .name => "NoName"
instance : DecidableEq Ex := fun a b => by cases a <;> cases b <;> first | exact isTrue rfl | exact isFalse (fun h => nomatch h)
/-- the class that stands by the error's name -/
def ClsA (K : PySem.W.Frag) (n : Ex) (C : Addr) : Prop := PySem.W.nsIn K mainGlobals (PySem.Str.ofString n.nm) = some (some (.ref C))
theorem ClsA.one {K : PySem.W.Frag} {n : Ex} {C C' : Addr} (a : ClsA K n C) (b : ClsA K n C') : C = C' := by
  have e := a.symm.trans b
  injection e with e
  injection e with e
  injection e
/-- an error caught, held -/
def ExH (cls : Value) (a : Addr) : HO := .ext fun h => ∃ (oe : Obj) (vs : Array Value), h.get? a = some oe ∧ Zc cls none oe ∧ oe.data = .fields vs
inductive SO where
  | lst (l : List D)
  | exn (n : Ex)
abbrev Sto := Addr → Option SO
def put (S : Sto) (a : Addr) (o : SO) : Sto := fun b => if b = a then some o else S b
theorem put_same {S : Sto} {a : Addr} {o : SO} : put S a o a = some o := by unfold put; rw [if_pos rfl]
theorem put_ne {S : Sto} {a b : Addr} {o : SO} (h : b ≠ a) : put S a o b = S b := by unfold put; rw [if_neg h]
theorem put_put {S : Sto} {a : Addr} {o u : SO} : put (put S a o) a u = put S a u := by
  funext b; unfold put; split <;> rfl
theorem put_comm {S : Sto} {a b : Addr} {o u : SO} (h : a ≠ b) : put (put S a o) b u = put (put S b u) a o := by
  funext c; unfold put
  by_cases h1 : c = b
  · subst h1; rw [if_pos rfl, if_neg (Ne.symm h), if_pos rfl]
  · rw [if_neg h1, if_neg h1]
theorem put_none {S : Sto} {a b : Addr} {o : SO} : put S a o b = none ↔ b ≠ a ∧ S b = none := by
  unfold put
  by_cases h : b = a
  · subst h; simp
  · rw [if_neg h]; simp [h]
def Le (S S' : Sto) : Prop := ∀ a o, S a = some o → S' a = some o
theorem Le.refl (S : Sto) : Le S S := fun _ _ h => h
theorem Le.trans {S S1 S2 : Sto} (a : Le S S1) (b : Le S1 S2) : Le S S2 := fun c o h => b c o (a c o h)
theorem Le.put {S : Sto} {p : Addr} {o : SO} (h : S p = none) : Le S (put S p o) := fun a u e => by
  have : a ≠ p := by rintro rfl; rw [h] at e; cases e
  rw [put_ne this]; exact e
theorem Le.puts {S S' : Sto} {p : Addr} {o : SO} (h : Le S S') : Le (R3.put S p o) (R3.put S' p o) := fun a u e => by
  by_cases q : a = p
  · subst q; rw [put_same] at e ⊢; exact e
  · rw [put_ne q] at e ⊢; exact h a u e
/-- a list that may be read -/
def IsL (S : Sto) (a : Addr) (l : List D) : Prop := S a = some (.lst l)

def RO (K : PySem.W.Frag) (H : Hp) (a : Addr) : SO → Prop
  | .lst l => ∃ xs, H a = some (.lst xs) ∧ RvL K H xs l
  | .exn n => ∃ C, ClsA K n C ∧ H a = some (ExH (.ref C) a)
def RS (K : PySem.W.Frag) (S : Sto) (H : Hp) : Prop := ∀ a o, S a = some o → RO K H a o
section
variable {K : PySem.W.Frag} {H H' : Hp} {S S' : Sto}
theorem RO.mono {a : Addr} {o : SO} (g : Gr H H') (e : H' a = H a) (h : RO K H a o) : RO K H' a o := by
  cases o with
  | lst l => obtain ⟨xs, h1, h2⟩ := h; exact ⟨xs, e.trans h1, h2.mono g⟩
  | exn n => obtain ⟨C, h1, h2⟩ := h; exact ⟨C, h1, e.trans h2⟩
theorem RO.there {a : Addr} {o : SO} (h : RO K H a o) : ∃ u, H a = some u := by
  cases o with
  | lst l => obtain ⟨xs, h1, h2⟩ := h; exact ⟨_, h1⟩
  | exn n => obtain ⟨C, h1, h2⟩ := h; exact ⟨_, h2⟩
theorem RS.free (r : RS K S H) {p : Addr} (h : H p = none) : S p = none := by
  cases e : S p with
  | none => rfl
  | some o => obtain ⟨u, q⟩ := (r p o e).there; rw [h] at q; cases q
theorem RS.le (r : RS K S' H) (h : Le S S') : RS K S H := fun a o e => r a o (h a o e)
/-- a new thing that the store does not hold -/
theorem RS.new0 {p : Addr} {o : HO} (r : RS K S H) (h : H p = none) : RS K S (upd H p o) := fun a u e => by
  have : a ≠ p := by rintro rfl; rw [r.free h] at e; cases e
  exact (r a u e).mono (Gr.new h) (upd_ne this)
theorem RS.newL {p : Addr} {xs : List V} {l : List D} (r : RS K S H) (h : H p = none) (v : RvL K H xs l) : RS K (put S p (.lst l)) (upd H p (.lst xs)) := fun a u e => by
  by_cases q : a = p
  · subst q; rw [put_same] at e; cases e; exact ⟨xs, upd_same, v.mono (Gr.new h)⟩
  · rw [put_ne q] at e; exact (r a u e).mono (Gr.new h) (upd_ne q)
theorem RS.setL {p : Addr} {xs ys : List V} {l : List D} (r : RS K S H) (h : H p = some (.lst xs)) (v : RvL K H ys l) : RS K (put S p (.lst l)) (upd H p (.lst ys)) := fun a u e => by
  have g : Gr H (upd H p (.lst ys)) := Gr.set h (by intro z; simp) (by intro z y; simp)
  by_cases q : a = p
  · subst q; rw [put_same] at e; cases e; exact ⟨ys, upd_same, v.mono g⟩
  · rw [put_ne q] at e; exact (r a u e).mono g (upd_ne q)
theorem RS.seqL (r : RS K S H) {a : Addr} {l : List D} (h : IsL S a l) : ∃ xs, SqL K H a xs ∧ RvL K H xs l := by
  obtain ⟨xs, h1, h2⟩ := r _ _ h
  exact ⟨xs, SqL.of h1, h2⟩
end

/-- what stood in the heap untracked stays untracked -/
def Kp (S S' : Sto) (H : Hp) : Prop := ∀ b, H b ≠ none → S b = none → S' b = none
theorem Kp.refl (S : Sto) (H : Hp) : Kp S S H := fun _ _ h => h
theorem Kp.trans {S S1 S2 : Sto} {H H1 : Hp} (a : Kp S S1 H) (g : Gr H H1) (b : Kp S1 S2 H1) : Kp S S2 H := fun c h1 h2 => b c (fun e => h1 (g.dom c e)) (a c h1 h2)
theorem Kp.new {S : Sto} {H : Hp} {p : Addr} {o : SO} (h : H p = none) : Kp S (put S p o) H := fun b h1 h2 => by
  have : b ≠ p := by rintro rfl; exact h1 h
  rw [put_ne this]; exact h2
theorem Kp.set {S : Sto} {H : Hp} {p : Addr} {o u : SO} (h : S p = some u) : Kp S (put S p o) H := fun b h1 h2 => by
  have : b ≠ p := by rintro rfl; rw [h] at h2; cases h2
  rw [put_ne this]; exact h2
theorem Kp.le {S S' S0 : Sto} {H : Hp} (h : Kp S S' H) (l : Le S0 S') : Kp S S0 H := fun b h1 h2 => by
  cases e : S0 b with
  | none => rfl
  | some o => have := l b o e; rw [h b h1 h2] at this; cases this

/-! ### slots -/
abbrev Sl := List (Option D)
def at3 : Sl → Nat → Option D
  | [], _ => none
  | x :: _, 0 => x
  | _ :: r, i + 1 => at3 r i
theorem at3_get : ∀ {z : Sl} {i : Nat} {d : D}, at3 z i = some d → z[i]? = some (some d)
  | [], _, _, h => by cases h
  | x :: r, 0, d, h => by simpa [at3] using h
  | x :: r, i + 1, d, h => by simpa using at3_get (z := r) (i := i) h
structure Rel (K : PySem.W.Frag) (H : Hp) (σ : St) (S : Sto) (z : Sl) : Prop where
  len : σ.length = z.length
  sl : ∀ (i : Nat) (d : D), z[i]? = some (some d) → ∃ v, σ[i]? = some (some v) ∧ Rv K H v d
  st : RS K S H
section
variable {K : PySem.W.Frag} {H H' : Hp} {S S' : Sto} {σ : St} {z : Sl}
theorem Rel.grow (r : Rel K H σ S z) (g : Gr H H') (s : RS K S' H') : Rel K H' σ S' z := ⟨r.len, fun i d e => let ⟨v, h1, h2⟩ := r.sl i d e; ⟨v, h1, h2.mono g⟩, s⟩
theorem Rel.setS (r : Rel K H σ S z) {i : Nat} {v : V} {d : D} (h : Rv K H v d) : Rel K H (σ.set i (some v)) S (z.set i (some d)) := by
  refine ⟨by rw [List.length_set, List.length_set]; exact r.len, fun j e q => ?_, r.st⟩
  by_cases c : i = j
  · subst c
    by_cases hi : i < z.length
    · rw [List.getElem?_set_self hi] at q
      cases q
      exact ⟨v, by rw [List.getElem?_set_self (by rw [r.len]; exact hi)], h⟩
    · rw [List.getElem?_eq_none (by rw [List.length_set]; omega)] at q; cases q
  · rw [List.getElem?_set_ne c] at q ⊢
    exact r.sl j e q
theorem Rel.unset (r : Rel K H σ S z) {i : Nat} {o : Option V} : Rel K H (σ.set i o) S (z.set i none) := by
  refine ⟨by rw [List.length_set, List.length_set]; exact r.len, fun j e q => ?_, r.st⟩
  by_cases c : i = j
  · subst c
    by_cases hi : i < z.length
    · rw [List.getElem?_set_self hi] at q; cases q
    · rw [List.getElem?_eq_none (by rw [List.length_set]; omega)] at q; cases q
  · rw [List.getElem?_set_ne c] at q ⊢
    exact r.sl j e q
theorem Rel.le (r : Rel K H σ S' z) (h : Le S S') : Rel K H σ S z := ⟨r.len, r.sl, r.st.le h⟩
end

/-! ### readings -/
abbrev PD := D → Sto → Prop
/-- the ways by an error -/
abbrev GX := Sl → Ex → Sto → Prop
abbrev TE3 := GX → Sl → Sto → PD → Prop
abbrev TT3 := GX → Sl → Sto → (Bool → Sto → Prop) → Prop
abbrev TA3 := GX → Sl → Sto → (List D → Sto → Prop) → Prop
structure Ends3 where
  nx : Sl → Sto → Prop
  rt : PD
  bk : Sl → Sto → Prop
  ct : Sl → Sto → Prop
  xc : GX
abbrev TS3 := Ends3 → Sl → Sto → Prop
abbrev TG3 := GX → D → Sl → Sto → (Sl → Sto → Prop) → Prop

/-- what an error of the reading's ways leaves is wished -/
def XDown (K : PySem.W.Frag) (W : WX) (G : GX) (S : Sto) (H : Hp) : Prop := ∀ z n C S' σ' H', G z n S' → ClsA K n C → Rel K H' σ' S' z → Gr H H' → Kp S S' H → W (.ref C) none σ' H'
theorem XDown.on {K : PySem.W.Frag} {W : WX} {G : GX} {S S1 : Sto} {H H1 : Hp} (d : XDown K W G S H) (g : Gr H H1) (k : Kp S S1 H) : XDown K W G S1 H1 :=
  fun z n C S' σ' H' h c r g' k' => d z n C S' σ' H' h c r (g.trans g') (k.trans g k')
structure RelX (K : PySem.W.Frag) (W : WX) (G : GX) (H : Hp) (σ : St) (S : Sto) (z : Sl) : Prop extends Rel K H σ S z where
  xd : XDown K W G S H
theorem RelX.grow {K : PySem.W.Frag} {W : WX} {G : GX} {H H' : Hp} {σ : St} {S S' : Sto} {z : Sl} (r : RelX K W G H σ S z) (g : Gr H H') (s : RS K S' H') (k : Kp S S' H) : RelX K W G H' σ S' z := ⟨r.toRel.grow g s, r.xd.on g k⟩
def Post (K : PySem.W.Frag) (R : PD) (S : Sto) (H : Hp) (Q : VK) : Prop := ∀ d S' v H', R d S' → Rv K H' v d → RS K S' H' → Gr H H' → Kp S S' H → Q v H'
def up (K : PySem.W.Frag) (W : WX) (t : TE3) : TE := fun σ H Q => ∃ G z S R, RelX K W G H σ S z ∧ t G z S R ∧ Post K R S H Q
def upT (K : PySem.W.Frag) (W : WX) (t : TT3) : TT := fun σ H Q => ∃ G z S R, RelX K W G H σ S z ∧ t G z S R ∧ ∀ b S' H', R b S' → RS K S' H' → Gr H H' → Kp S S' H → Q b H'
def upA (K : PySem.W.Frag) (W : WX) (t : TA3) : TA := fun σ H Q => ∃ G z S R, RelX K W G H σ S z ∧ t G z S R ∧ ∀ ds S' vs H', R ds S' → RvL K H' vs ds → RS K S' H' → Gr H H' → Kp S S' H → Q vs H'
def upG (K : PySem.W.Frag) (W : WX) (t : TG3) : TG := fun v σ H Q => ∃ G d z S R, Rv K H v d ∧ RelX K W G H σ S z ∧ t G d z S R ∧ ∀ z' S' σ' H', R z' S' → Rel K H' σ' S' z' → Gr H H' → Kp S S' H → Q σ' H'
structure Down (K : PySem.W.Frag) (W : WX) (B : Ends3) (D : Ends) (S : Sto) (H : Hp) : Prop where
  nx : ∀ z S' σ' H', B.nx z S' → Rel K H' σ' S' z → Gr H H' → Kp S S' H → D.nx σ' H'
  rt : ∀ d S' v H', B.rt d S' → Rv K H' v d → RS K S' H' → Gr H H' → Kp S S' H → D.rt v H'
  bk : ∀ z S' σ' H', B.bk z S' → Rel K H' σ' S' z → Gr H H' → Kp S S' H → D.bk σ' H'
  ct : ∀ z S' σ' H', B.ct z S' → Rel K H' σ' S' z → Gr H H' → Kp S S' H → D.ct σ' H'
  xc : XDown K W B.xc S H
def upS (K : PySem.W.Frag) (W : WX) (t : TS3) : TS := fun D σ H => ∃ z S B, Rel K H σ S z ∧ t B z S ∧ Down K W B D S H
theorem Down.on {K : PySem.W.Frag} {W : WX} {B : Ends3} {D : Ends} {S S1 : Sto} {H H1 : Hp} (d : Down K W B D S H) (g : Gr H H1) (k : Kp S S1 H) : Down K W B D S1 H1 :=
  ⟨fun z S' σ' H' h r g' k' => d.nx z S' σ' H' h r (g.trans g') (k.trans g k'), fun e S' v H' h r s g' k' => d.rt e S' v H' h r s (g.trans g') (k.trans g k'),
   fun z S' σ' H' h r g' k' => d.bk z S' σ' H' h r (g.trans g') (k.trans g k'), fun z S' σ' H' h r g' k' => d.ct z S' σ' H' h r (g.trans g') (k.trans g k'), d.xc.on g k⟩

abbrev E3 (X : Cx) (W : WX) (e : Expr) (t : TE3) : Prop := PE X e (up X.K W t)
abbrev T3 (X : Cx) (W : WX) (e : Expr) (t : TT3) : Prop := PT X e (upT X.K W t)
abbrev W3 (X : Cx) (W : WX) (e : Expr) (t : TT3) : Prop := PW X e (upT X.K W t)
abbrev G3 (X : Cx) (W : WX) (e : Expr) (t : TG3) : Prop := PG X e (upG X.K W t)
abbrev S3 (X : Cx) (W : WX) (s : Stmt) (t : TS3) : Prop := PS X s (upS X.K W t)
abbrev S3s (X : Cx) (W : WX) (s : List Stmt) (t : TS3) : Prop := PSs X s (upS X.K W t)

section
variable {X : Cx}
theorem PEimp {e : Expr} {t t' : TE} (h : PE X e t) (f : ∀ σ H Q, t' σ H Q → t σ H Q) : PE X e t' := ⟨fun pins s σ H Q I q => h.run pins s σ H Q I (f σ H Q q)⟩
theorem PTimp {e : Expr} {t t' : TT} (h : PT X e t) (f : ∀ σ H Q, t' σ H Q → t σ H Q) : PT X e t' := ⟨fun pins s σ H Q I q => h.run pins s σ H Q I (f σ H Q q)⟩
theorem PWimp {e : Expr} {t t' : TT} (h : PW X e t) (f : ∀ σ H Q, t' σ H Q → t σ H Q) : PW X e t' := ⟨fun w pins s σ H Q I q => h.run w pins s σ H Q I (f σ H Q q)⟩
theorem PAimp {e : List Expr} {t t' : TA} (h : PA X e t) (f : ∀ σ H Q, t' σ H Q → t σ H Q) : PA X e t' := ⟨fun p pins s σ H Q I q => h.run p pins s σ H Q I (f σ H Q q)⟩
theorem PGimp {e : Expr} {t t' : TG} (h : PG X e t) (f : ∀ v σ H Q, t' v σ H Q → t v σ H Q) : PG X e t' := ⟨fun pins s σ H v u Q I r q => h.run pins s σ H v u Q I r (f v σ H Q q)⟩
theorem PSimp {e : Stmt} {t t' : TS} (h : PS X e t) (f : ∀ D σ H, t' D σ H → t D σ H) : PS X e t' := ⟨fun pins s σ H D I q => h.run pins s σ H D I (f D σ H q)⟩
theorem PSsimp {e : List Stmt} {t t' : TS} (h : PSs X e t) (f : ∀ D σ H, t' D σ H → t D σ H) : PSs X e t' := ⟨fun pins s σ H D I q => h.run pins s σ H D I (f D σ H q)⟩
end

/-- a way that a bool decides -/
structure Br (b : Bool) (P Q : Prop) : Prop where
  t : b = true → P
  f : b = false → Q
theorem br_dec {p : Prop} [Decidable p] {P Q : Prop} (h1 : p → P) (h2 : ¬ p → Q) : Br (decide p) P Q := ⟨fun h => h1 (of_decide_eq_true h), fun h => h2 (of_decide_eq_false h)⟩
theorem br_decN {p : Prop} [Decidable p] {P Q : Prop} (h1 : ¬ p → P) (h2 : p → Q) : Br (!decide p) P Q := ⟨fun h => h1 (by simpa using h), fun h => h2 (by simpa using h)⟩
theorem br_t {P Q : Prop} (h : P) : Br true P Q := ⟨fun _ => h, (fun e => nomatch e)⟩
theorem br_f {P Q : Prop} (h : Q) : Br false P Q := ⟨(fun e => nomatch e), fun _ => h⟩
theorem Br.ite {b : Bool} {P Q : Prop} (h : Br b P Q) : if b = true then P else Q := by
  cases b with
  | true => exact h.t rfl
  | false => exact h.f rfl

/-! ### expressions -/
def wV (i : Nat) : TE3 := fun Y z S R => match at3 z i with
  | some d => R d S
  | none => False
def wC (d : D) : TE3 := fun _ _ S R => R d S
abbrev F2 := D → D → Sto → PD → Prop
def w2 (f : F2) (ta tb : TE3) : TE3 := fun Y z S R => ta Y z S fun x S1 => tb Y z S1 fun y S2 => f x y S2 R
def w1 (f : D → Sto → PD → Prop) (ta : TE3) : TE3 := fun Y z S R => ta Y z S fun x S1 => f x S1 R
def Up2 (K : PySem.W.Frag) (f : F2) : R2 := fun x y H Q => ∃ d e S R, Rv K H x d ∧ Rv K H y e ∧ RS K S H ∧ f d e S R ∧ Post K R S H Q
def Up1 (K : PySem.W.Frag) (f : D → Sto → PD → Prop) : V → Hp → VK → Prop := fun x H Q => ∃ d S R, Rv K H x d ∧ RS K S H ∧ f d S R ∧ Post K R S H Q
theorem Post.now {K : PySem.W.Frag} {R : PD} {S : Sto} {H : Hp} {Q : VK} {d : D} {v : V} (p : Post K R S H Q) (h : R d S) (r : Rv K H v d) (s : RS K S H) : Q v H := p d S v H h r s (Gr.refl H) (Kp.refl S H)
/-- a new tuple -/
theorem Post.tup {K : PySem.W.Frag} {R : PD} {S : Sto} {H : Hp} {Q : VK} {ds : List D} {xs : List V} {q : Addr} (p : Post K R S H Q) (h : R (.tup ds) S) (n : H q = none) (r : RvL K H xs ds) (s : RS K S H) : Q (.ref q) (upd H q (.tup xs)) :=
  p (.tup ds) S (.ref q) _ h (.tup (SqT.of upd_same) (r.mono (Gr.new n))) (s.new0 n) (Gr.new n) (Kp.refl S H)
/-- a new list -/
theorem Post.lst {K : PySem.W.Frag} {R : PD} {S : Sto} {H : Hp} {Q : VK} {ds : List D} {xs : List V} {q : Addr} (p : Post K R S H Q) (h : ∀ q, S q = none → R (.ref q) (put S q (.lst ds))) (n : H q = none) (r : RvL K H xs ds) (s : RS K S H) : Q (.ref q) (upd H q (.lst xs)) :=
  p (.ref q) _ (.ref q) _ (h q (s.free n)) (.ref q) (s.newL n r) (Gr.new n) (Kp.new n)

section
variable {X : Cx} {W : WX} {a b c : Expr} {ta tb tc : TE3} {pos : Pos}
theorem e3_of_tC {v : V} {d : D} {e : Expr} (h : PE X e (tC v)) (r : ∀ K H, Rv K H v d) : E3 X W e (wC d) := PEimp h fun σ H Q ⟨Y, z, S, R, rel, h1, post⟩ => post.now h1 (r _ _) rel.st
theorem e3_int {i j pos} : E3 X W (.Constant (.int i) j pos) (wC (.int i)) := e3_of_tC pe_int fun _ _ => .int i
theorem e3_bl {b j pos} : E3 X W (.Constant (.bool b) j pos) (wC (.bl b)) := e3_of_tC pe_bl fun _ _ => .bl b
theorem e3_non {j pos} : E3 X W (.Constant .none j pos) (wC .non) := e3_of_tC pe_non fun _ _ => .non
theorem e3_str {x j pos} : E3 X W (.Constant (.str x) j pos) (wC (.str x)) := e3_of_tC pe_str fun _ _ => .str x
theorem v3 (i : Nat) {x : Str} {pos : Pos} (hN : X.N[i]? = some x := by rfl) (hv : Vis X.env.scope x := by first | exact Or.inl rfl | exact Or.inr (Or.inl rfl) | exact Or.inr (Or.inr rfl)) (hd : (x == ("__debug__" : Str)) = false := by decide)
    (hcd : (x == ("__classdict__" : Str)) = false := by decide) : E3 X W (.Name x pos) (wV i) := PEimp (pe_var hN hv hd hcd) fun σ H Q ⟨Y, z, S, R, rel, h1, post⟩ => by
  unfold wV at h1
  cases e : at3 z i with
  | none => rw [e] at h1; exact h1.elim
  | some d =>
    rw [e] at h1
    obtain ⟨v, e1, r⟩ := rel.sl i d (at3_get e)
    exact ⟨v, e1, post.now h1 r rel.st⟩
theorem bin3 {f : F2} (ha : E3 X W a ta) (hb : E3 X W b tb) {σ : St} {H : Hp} {Q : VK} (h : up X.K W (w2 f ta tb) σ H Q) : up X.K W ta σ H fun x H1 => up X.K W tb σ H1 fun y H2 => Up2 X.K f x y H2 Q := by
  obtain ⟨Y, z, S, R, rel, h, post⟩ := h
  refine ⟨Y, z, S, _, rel, h, fun d S1 v H1 h1 rv rs g k => ?_⟩
  refine ⟨Y, z, S1, _, rel.grow g rs k, h1, fun e S2 u H2 h2 ru rs2 g2 k2 => ?_⟩
  exact ⟨d, e, S2, R, rv.mono g2, ru, rs2, h2, fun d' S' v' H' h' r' s' g' k' => post d' S' v' H' h' r' s' (g.trans (g2.trans g')) (k.trans g (k2.trans g2 k'))⟩
theorem e3_op {op : Operator} {f : F2} (ho : OpR X (binaryOp op) (Up2 X.K f)) (ha : E3 X W a ta) (hb : E3 X W b tb) : E3 X W (.BinOp a op b pos) (w2 f ta tb) := PEimp (pe_op ho ha hb) fun _ _ _ h => bin3 ha hb h
theorem e3_cmp {op : CmpOp} {f : F2} (ho : OpR X (compareOp op) (Up2 X.K f)) (ha : E3 X W a ta) (hb : E3 X W b tb) (hm : behindInMarks op b = false := by first | exact nobehind _ (by decide) (by decide) | rfl) : E3 X W (.Compare a [op] [b] pos) (w2 f ta tb) :=
  PEimp (pe_cmpR ho ha hb hm) fun _ _ _ h => bin3 ha hb h
theorem e3_un {op : UnaryOp} {f : D → Sto → PD → Prop} (ho : UnR X (unaryOp op) (Up1 X.K f)) (ha : E3 X W a ta) : E3 X W (.UnaryOp op a pos) (w1 f ta) := PEimp (pe_un ho ha) fun σ H Q ⟨Y, z, S, R, rel, h, post⟩ =>
  ⟨Y, z, S, _, rel, h, fun d S1 v H1 h1 rv rs g k => ⟨d, S1, R, rv, rs, h1, fun d' S' v' H' h' r' s' g' k' => post d' S' v' H' h' r' s' (g.trans g') (k.trans g k')⟩⟩
theorem e3_ix {f : F2} (ho : IxR X (Up2 X.K f)) (ha : E3 X W a ta) (hb : E3 X W b tb) (hs : PlainIx b := by exact (fun _ _ => rfl)) : E3 X W (.Subscript a b pos) (w2 f ta tb) := PEimp (pe_ix ho ha hb hs) fun _ _ _ h => bin3 ha hb h
end

/-! ### tests -/
def wB (t : TE3) : TT3 := fun Y z S R => t Y z S fun x S1 => match x with
  | .bl b => R b S1
  | _ => False
def wAnd (t u : TT3) : TT3 := fun Y z S R => t Y z S fun b S1 => Br b (u Y z S1 R) (R false S1)
def wOr (t u : TT3) : TT3 := fun Y z S R => t Y z S fun b S1 => Br b (R true S1) (u Y z S1 R)
def wNot (t : TT3) : TT3 := fun Y z S R => t Y z S fun b S1 => R (!b) S1
section
variable {X : Cx} {W : WX} {a b c : Expr} {ta tb tc : TE3} {u v : TT3} {pos : Pos} {rest : List Expr}
theorem upT_wB {σ : St} {H : Hp} {Q : Bool → Hp → Prop} {K : PySem.W.Frag} {t : TE3} (h : upT K W (wB t) σ H Q) : tB (up K W t) σ H Q := by
  obtain ⟨Y, z, S, R, rel, h, post⟩ := h
  refine ⟨Y, z, S, _, rel, h, fun d S1 v H1 h1 rv rs g k => ?_⟩
  cases rv with
  | bl b => exact ⟨b, rfl, post b S1 H1 h1 rs g k⟩
  | _ => exact h1.elim
theorem t3_val {e : Expr} {t : TE3} (h : E3 X W e t) (he : ∀ whole, isTrue e X.env whole = (do let v ← whole; standAt e.pos; holding [v] (truthy v)) := by intro _; rfl) : T3 X W e (wB t) := PTimp (pt_val h he) fun _ _ _ h => upT_wB h
theorem t3_cmp {op : CmpOp} {f : F2} (ho : OpR X (compareOp op) (Up2 X.K f)) (ha : E3 X W a ta) (hb : E3 X W b tb) (hm : behindInMarks op b = false := by first | exact nobehind _ (by decide) (by decide) | rfl) : T3 X W (.Compare a [op] [b] pos) (wB (w2 f ta tb)) :=
  PTimp (pt_cmpR ho ha hb hm) fun σ H Q h => by
    obtain ⟨Y, z, S, R, rel, h, post⟩ := upT_wB h
    exact bin3 ha hb ⟨Y, z, S, R, rel, h, post⟩
theorem seqT {σ : St} {H : Hp} {Q : Bool → Hp → Prop} {K : PySem.W.Frag} {W : WX} {t : TT3} {k : Bool → TT3} (h : upT K W (fun Y z S R => t Y z S fun b S1 => k b Y z S1 R) σ H Q) : upT K W t σ H fun b H1 => upT K W (k b) σ H1 Q := by
  obtain ⟨Y, z, S, R, rel, h, post⟩ := h
  refine ⟨Y, z, S, _, rel, h, fun d S1 H1 h1 rs g kk => ⟨Y, z, S1, R, rel.grow g rs kk, h1, fun b S' H' h' rs' g' k' => post b S' H' h' rs' (g.trans g') (kk.trans g k')⟩⟩
theorem upT_br {σ : St} {H : Hp} {Q : Bool → Hp → Prop} {K : PySem.W.Frag} {b : Bool} {t u : TT3} (h : upT K W (fun Y z S R => Br b (t Y z S R) (u Y z S R)) σ H Q) : if b = true then upT K W t σ H Q else upT K W u σ H Q := by
  obtain ⟨Y, z, S, R, rel, h, post⟩ := h
  cases b with
  | true => exact ⟨Y, z, S, R, rel, h.t rfl, post⟩
  | false => exact ⟨Y, z, S, R, rel, h.f rfl, post⟩
theorem upT_c {σ : St} {H : Hp} {Q : Bool → Hp → Prop} {K : PySem.W.Frag} {b : Bool} (h : upT K W (fun Y z S R => R b S) σ H Q) : Q b H := by
  obtain ⟨Y, z, S, R, rel, h, post⟩ := h
  exact post b S H h rel.st (Gr.refl _) (Kp.refl _ _)
theorem mapT {σ : St} {H : Hp} {Q Q' : Bool → Hp → Prop} {K : PySem.W.Frag} {t : TT3} (h : upT K W t σ H Q) (f : ∀ b H', Q b H' → Q' b H') : upT K W t σ H Q' := by
  obtain ⟨Y, z, S, R, rel, h, post⟩ := h
  exact ⟨Y, z, S, R, rel, h, fun b S' H' h' rs' g' k' => f _ _ (post b S' H' h' rs' g' k')⟩
theorem w3_and1 (ha : T3 X W a u) : W3 X W (.BoolOp .And [a] pos) u := pw_and1 ha
theorem w3_or1 (ha : T3 X W a u) : W3 X W (.BoolOp .Or [a] pos) u := pw_or1 ha
theorem w3_and (ha : T3 X W a u) (hb : W3 X W (.BoolOp .And (b :: rest) pos) v) : W3 X W (.BoolOp .And (a :: b :: rest) pos) (wAnd u v) := PWimp (pw_and ha hb) fun σ H Q h =>
  mapT (seqT (t := u) (k := fun b Y z S1 R => Br b (v Y z S1 R) (R false S1)) h) fun b H' h' => by
    have h2 := upT_br (u := fun Y z S R => R false S) h'
    cases b with
    | true => exact h2
    | false => exact upT_c h2
theorem w3_or (ha : T3 X W a u) (hb : W3 X W (.BoolOp .Or (b :: rest) pos) v) : W3 X W (.BoolOp .Or (a :: b :: rest) pos) (wOr u v) := PWimp (pw_or ha hb) fun σ H Q h =>
  mapT (seqT (t := u) (k := fun b Y z S1 R => Br b (R true S1) (v Y z S1 R)) h) fun b H' h' => by
    have h2 := upT_br (t := fun Y z S R => R true S) h'
    cases b with
    | true => exact upT_c h2
    | false => exact h2
theorem t3_w (h : W3 X W a u) : T3 X W a u := PW.pt h
theorem t3_not (ha : T3 X W a u) : T3 X W (.UnaryOp .Not a pos) (wNot u) := PTimp (pt_not ha) fun σ H Q ⟨Y, z, S, R, rel, h, post⟩ => ⟨Y, z, S, _, rel, h, fun b S' H' h' rs' g' k' => post _ S' H' h' rs' g' k'⟩
/-- and, or, not as values of bools -/
def wAndV (ta tb : TE3) : TE3 := fun Y z S R => ta Y z S fun x S1 => match x with
  | .bl b => Br b (tb Y z S1 R) (R (.bl false) S1)
  | _ => False
def wOrV (ta tb : TE3) : TE3 := fun Y z S R => ta Y z S fun x S1 => match x with
  | .bl b => Br b (R (.bl true) S1) (tb Y z S1 R)
  | _ => False
def wNotV (ta : TE3) : TE3 := fun Y z S R => ta Y z S fun x S1 => match x with
  | .bl b => R (.bl (!b)) S1
  | _ => False
theorem e3_one {op} (h : E3 X W a ta) : E3 X W (.BoolOp op [a] pos) ta := pe_one h
theorem e3_and (ha : E3 X W a ta) (hb : E3 X W (.BoolOp .And (b :: rest) pos) tb) : E3 X W (.BoolOp .And (a :: b :: rest) pos) (wAndV ta tb) := PEimp (pe_and ha hb) fun σ H Q ⟨Y, z, S, R, rel, h, post⟩ => by
  refine ⟨Y, z, S, _, rel, h, fun d S1 v H1 h1 rv rs g k => ?_⟩
  cases rv with
  | bl b =>
    refine ⟨b, rfl, ?_⟩
    cases b with
    | true => exact ⟨Y, z, S1, R, rel.grow g rs k, h1.t rfl, fun d' S' v' H' h' r' s' g' k' => post d' S' v' H' h' r' s' (g.trans g') (k.trans g k')⟩
    | false => exact post _ S1 _ H1 (h1.f rfl) (.bl false) rs g k
  | _ => exact h1.elim
theorem e3_or (ha : E3 X W a ta) (hb : E3 X W (.BoolOp .Or (b :: rest) pos) tb) : E3 X W (.BoolOp .Or (a :: b :: rest) pos) (wOrV ta tb) := PEimp (pe_or ha hb) fun σ H Q ⟨Y, z, S, R, rel, h, post⟩ => by
  refine ⟨Y, z, S, _, rel, h, fun d S1 v H1 h1 rv rs g k => ?_⟩
  cases rv with
  | bl b =>
    refine ⟨b, rfl, ?_⟩
    cases b with
    | false => exact ⟨Y, z, S1, R, rel.grow g rs k, h1.f rfl, fun d' S' v' H' h' r' s' g' k' => post d' S' v' H' h' r' s' (g.trans g') (k.trans g k')⟩
    | true => exact post _ S1 _ H1 (h1.t rfl) (.bl true) rs g k
  | _ => exact h1.elim
theorem e3_not (ha : E3 X W a ta) : E3 X W (.UnaryOp .Not a pos) (wNotV ta) := PEimp (pe_not ha) fun σ H Q ⟨Y, z, S, R, rel, h, post⟩ => by
  refine ⟨Y, z, S, _, rel, h, fun d S1 v H1 h1 rv rs g k => ?_⟩
  cases rv with
  | bl b => exact ⟨b, rfl, post _ S1 _ H1 h1 (.bl _) rs g k⟩
  | _ => exact h1.elim
def wIf (t : TT3) (ta tb : TE3) : TE3 := fun Y z S R => t Y z S fun b S1 => Br b (ta Y z S1 R) (tb Y z S1 R)
theorem e3_ifExp {cc : Expr} (hc : T3 X W cc u) (ha : E3 X W a ta) (hb : E3 X W b tb) : E3 X W (.IfExp cc a b pos) (wIf u ta tb) := PEimp (pe_ifExp hc ha hb) fun σ H Q ⟨Y, z, S, R, rel, h, post⟩ => by
  refine ⟨Y, z, S, _, rel, h, fun b S1 H1 h1 rs g k => ?_⟩
  have po : Post X.K R S1 H1 Q := fun d' S' v' H' h' r' s' g' k' => post d' S' v' H' h' r' s' (g.trans g') (k.trans g k')
  cases b with
  | true => exact ⟨Y, z, S1, R, rel.grow g rs k, h1.t rfl, po⟩
  | false => exact ⟨Y, z, S1, R, rel.grow g rs k, h1.f rfl, po⟩
end

/-! ### argument lists, tuples, lists -/
def wArgs : List TE3 → TA3
  | [] => fun _ _ S R => R [] S
  | t :: ts => fun Y z S R => t Y z S fun x S1 => wArgs ts Y z S1 fun xs S2 => R (x :: xs) S2
/-- an argument list's reading; its length is known -/
def upL (K : PySem.W.Frag) (W : WX) (ts : List TE3) : TA := fun σ H Q => upA K W (wArgs ts) σ H fun vs H' => vs.length = ts.length → Q vs H'
abbrev A3 (X : Cx) (W : WX) (es : List Expr) (ts : List TE3) : Prop := PA X es (upL X.K W ts)
def wTup (ts : List TE3) : TE3 := fun Y z S R => wArgs ts Y z S fun ds S1 => R (.tup ds) S1
def wLst (ts : List TE3) : TE3 := fun Y z S R => wArgs ts Y z S fun ds S1 => ∀ p, S1 p = none → R (.ref p) (put S1 p (.lst ds))
section
variable {X : Cx} {W : WX} {e : Expr} {es : List Expr} {te : TE3} {ts : List TE3} {pos : Pos}
theorem a3_nil : A3 X W [] [] := PAimp pa_nil fun σ H Q ⟨Y, z, S, R, rel, h, post⟩ => post [] S [] H h .nil rel.st (Gr.refl _) (Kp.refl _ _) rfl
theorem a3_cons (he : E3 X W e te) (hr : A3 X W es ts) (hs : starEach (e :: es) X.env = (false, eval e X.env) :: starEach es X.env := by rfl) : A3 X W (e :: es) (te :: ts) := PAimp (pa_cons he hr hs) fun σ H Q ⟨Y, z, S, R, rel, h, post⟩ =>
  ⟨Y, z, S, _, rel, h, fun d S1 v H1 h1 rv rs g k => ⟨Y, z, S1, _, rel.grow g rs k, h1, fun ds S2 vs H2 h2 rvs rs2 g2 k2 hl => post _ S2 _ H2 h2 (.cons (rv.mono g2) rvs) rs2 (g.trans g2) (k.trans g k2) (by rw [List.length_cons, List.length_cons, hl])⟩⟩
theorem e3_tup {k : Nat} (h : A3 X W es ts) (hl : ts.length ≤ 1000 := by exact Nat.le_of_ble_eq_true rfl) : E3 X W (.Tuple es k pos) (wTup ts) := PEimp (pe_tup h) fun σ H Q ⟨Y, z, S, R, rel, h, post⟩ =>
  ⟨Y, z, S, _, rel, h, fun ds S1 vs H1 h1 rvs rs g k hle => ⟨by rw [hle]; exact Nat.le_trans hl (by decide), fun p hp => post (.tup ds) S1 (.ref p) _ h1 (.tup (SqT.of upd_same) (rvs.mono (Gr.new hp))) (rs.new0 hp) (g.trans (Gr.new hp)) k⟩⟩
theorem e3_lst (h : A3 X W es ts) (hl : ts.length ≤ 1000 := by exact Nat.le_of_ble_eq_true rfl) : E3 X W (.List es pos) (wLst ts) := PEimp (pe_lst h) fun σ H Q ⟨Y, z, S, R, rel, h, post⟩ =>
  ⟨Y, z, S, _, rel, h, fun ds S1 vs H1 h1 rvs rs g k hle => ⟨by rw [hle]; exact Nat.le_trans hl (by decide), fun p hp => post _ _ (.ref p) _ (h1 p (rs.free hp)) (.ref p) (rs.newL hp rvs) (g.trans (Gr.new hp)) (k.trans g (Kp.new hp))⟩⟩
end
end R3

/-! R3, part B: operators on ints, statements, loops, calls and defs. -/
namespace R3
open PySem PySem.Spec PyProof.Rows L2

/-! ### sizes of ints -/
/-- a number of at most n bits -/
def Bits (n : Nat) (i : Int) : Prop := i.natAbs < 2 ^ n
theorem Bits.mono {n m : Nat} {i : Int} (h : Bits n i) (l : n ≤ m) : Bits m i := Nat.lt_of_lt_of_le h (Nat.pow_le_pow_right (by decide) l)
theorem Bits.mul {n m : Nat} {i j : Int} (h : Bits n i) (k : Bits m j) : Bits (n + m) (i * j) := wide_lt h k
theorem Bits.add {n m : Nat} {i j : Int} (h : Bits n i) (k : Bits m j) : Bits (max n m + 1) (i + j) := by
  have a := h.mono (Nat.le_max_left n m)
  have b := k.mono (Nat.le_max_right n m)
  unfold Bits at a b ⊢
  rw [Nat.pow_succ]
  omega
theorem Bits.neg {n : Nat} {i : Int} (h : Bits n i) : Bits n (-i) := by unfold Bits; rw [Int.natAbs_neg]; exact h
theorem Bits.sub {n m : Nat} {i j : Int} (h : Bits n i) (k : Bits m j) : Bits (max n m + 1) (i - j) := by rw [Int.sub_eq_add_neg]; exact h.add k.neg
theorem Bits.of_le {n : Nat} {i j : Int} (h : Bits n j) (l : i.natAbs ≤ j.natAbs) : Bits n i := Nat.lt_of_le_of_lt l h
theorem Bits.of_lt {n : Nat} {i : Int} (h1 : -(2 ^ n : Int) < i) (h2 : i < (2 ^ n : Int)) : Bits n i := by
  have e : ((2 ^ n : Nat) : Int) = (2 ^ n : Int) := by rw [Int.natCast_pow]; rfl
  unfold Bits
  omega
theorem Bits.lt {n : Nat} {i : Int} (h : Bits n i) : i < (2 ^ n : Int) ∧ -(2 ^ n : Int) < i := by
  have e : ((2 ^ n : Nat) : Int) = (2 ^ n : Int) := by rw [Int.natCast_pow]; rfl
  unfold Bits at h
  omega
/-- two factors that may be multiplied -/
def MulOk (i j : Int) : Prop := ∃ n m, Bits n i ∧ Bits m j ∧ n + m ≤ 900000
theorem MulOk.ok {i j : Int} (h : MulOk i j) : IntMulOk i j := by
  obtain ⟨n, m, a, b, l⟩ := h
  exact CMulW.ok (wide_mul (a := n + 1) (b := m + 1) (a.mono (Nat.le_succ n)) (b.mono (Nat.le_succ m)) (Nat.succ_pos _) (Nat.succ_pos _) (by omega))
/-- a divisor that may divide -/
def DivOk (j : Int) : Prop := j ≠ 0 ∧ ∃ n, Bits n j ∧ n ≤ 8900
/-- sizes reckoned by the term -/
class Bd (i : Int) (n : outParam Nat) : Prop where
  h : Bits n i
instance {i j : Int} {n m : Nat} [a : Bd i n] [b : Bd j m] : Bd (i * j) (n + m) := ⟨a.h.mul b.h⟩
instance {i j : Int} {n m : Nat} [a : Bd i n] [b : Bd j m] : Bd (i + j) (max n m + 1) := ⟨a.h.add b.h⟩
instance {i j : Int} {n m : Nat} [a : Bd i n] [b : Bd j m] : Bd (i - j) (max n m + 1) := ⟨a.h.sub b.h⟩
instance {i : Int} {n : Nat} [a : Bd i n] : Bd (-i) n := ⟨a.h.neg⟩
theorem MulOk.bd {i j : Int} {n m : Nat} (a : Bd i n) (b : Bd j m) (h : n + m ≤ 900000 := by decide) : MulOk i j := ⟨n, m, a.h, b.h, h⟩

/-! ### operators -/
def fAdd : F2 := fun x y S R => match x, y with
  | .int i, .int j => R (.int (i + j)) S
  | .str i, .str j => i.length + j.length ≤ sizeLine ∧ R (.str (i ++ j)) S
  | .tup l, .tup m => l.length + m.length ≤ sizeLine ∧ R (.tup (l ++ m)) S
  | .ref a, .ref b => ∃ l m, IsL S a l ∧ IsL S b m ∧ l.length + m.length ≤ sizeLine ∧ ∀ p, S p = none → R (.ref p) (put S p (.lst (l ++ m)))
  | _, _ => False
def fSub : F2 := fun x y S R => match x, y with
  | .int i, .int j => R (.int (i - j)) S
  | _, _ => False
def fMul : F2 := fun x y S R => match x, y with
  | .int i, .int j => MulOk i j ∧ R (.int (i * j)) S
  | .str x, .int j => (x.length ≤ 16 ∧ -(2 ^ 63 : Int) ≤ j ∧ j ≤ 1048576) ∧ R (.str (Txt.mul x j)) S
  | _, _ => False
def fDiv : F2 := fun x y S R => match x, y with
  | .int i, .int j => DivOk j ∧ R (.int (i.fdiv j)) S
  | _, _ => False
def fMod : F2 := fun x y S R => match x, y with
  | .int i, .int j => j ≠ 0 ∧ R (.int (i.fmod j)) S
  | _, _ => False
def fPow : F2 := fun x y S R => match x, y with
  | .int i, .int j => (0 ≤ j ∧ j ≤ 1000 ∧ i.natAbs < 2 ^ 64) ∧ R (.int (i ^ j.toNat)) S
  | _, _ => False
def fLt : F2 := fun x y S R => match x, y with
  | .int i, .int j => R (.bl (decide (i < j))) S
  | _, _ => False
def fLe : F2 := fun x y S R => match x, y with
  | .int i, .int j => R (.bl (decide (i ≤ j))) S
  | _, _ => False
def fGt : F2 := fun x y S R => match x, y with
  | .int i, .int j => R (.bl (decide (j < i))) S
  | _, _ => False
def fGe : F2 := fun x y S R => match x, y with
  | .int i, .int j => R (.bl (decide (j ≤ i))) S
  | _, _ => False
def fNeg : D → Sto → PD → Prop := fun x S R => match x with
  | .int i => R (.int (-i)) S
  | _ => False
section
variable {X : Cx} {W : WX}
theorem o3_add : OpR X (binaryOp .Add) (Up2 X.K fAdd) := by
  rintro pins s σ H x y v u Q I rx ry ⟨d, e, S, R, rd, re, rs, h, post⟩
  cases rd with
  | int i =>
    cases re <;> first | exact h.elim | skip
    exact op_add pins s σ H _ _ v u Q I rx ry ⟨_, _, rfl, rfl, post.now h (.int _) rs⟩
  | str i =>
    cases re <;> first | exact h.elim | skip
    exact op_add_str pins s σ H _ _ v u Q I rx ry ⟨_, _, rfl, rfl, h.1, post.now h.2 (.str _) rs⟩
  | tup hq hr =>
    cases re <;> first | exact h.elim | skip
    rename_i hq2 hr2
    obtain ⟨hz, h⟩ := h
    refine op_catA pins s σ H _ _ v u Q I rx ry ⟨_, _, _, _, rfl, rfl, hq, hq2, by rw [hr.length, hr2.length]; exact hz, fun e => ?_, fun _ e => ?_, fun _ _ p hp => ?_⟩
    · subst e
      cases hr
      exact post.now h (.tup hq2 hr2) rs
    · subst e
      cases hr2
      rw [List.append_nil] at h
      exact post.now h (.tup hq hr) rs
    · exact post.tup h hp (hr.append hr2) rs
  | ref a =>
    cases re <;> first | exact h.elim | skip
    obtain ⟨l, m, hl, hm, hz, h⟩ := h
    obtain ⟨xs, h1, h2⟩ := rs _ _ hl
    obtain ⟨ys, h3, h4⟩ := rs _ _ hm
    exact op_cat pins s σ H _ _ v u Q I rx ry ⟨_, _, xs, ys, rfl, rfl, h1, h3, by rw [h2.length, h4.length]; exact hz, fun p hp => post.lst h hp (h2.append h4) rs⟩
  | _ => cases re <;> exact h.elim
theorem o3_sub : OpR X (binaryOp .Sub) (Up2 X.K fSub) := by
  rintro pins s σ H x y v u Q I rx ry ⟨d, e, S, R, rd, re, rs, h, post⟩
  cases rd <;> cases re <;> first | exact h.elim | skip
  exact op_sub pins s σ H _ _ v u Q I rx ry ⟨_, _, rfl, rfl, post.now h (.int _) rs⟩
theorem op_mulO : OpR X (binaryOp .Mult) (rI IntMulOk fun i j => .int (i * j)) := opI fun _ _ _ _ _ _ _ hc q => mul_int q hc
theorem op_divO : OpR X (binaryOp .FloorDiv) (rI (fun _ j => j ≠ 0 ∧ j.natAbs.log2 < 9000) fun i j => .int (i.fdiv j)) := opI fun _ _ _ _ _ _ _ hc q => floordiv_int hc.1 q (.inl (PyProof.noPylong_of_log2 hc.2))
theorem o3_mul : OpR X (binaryOp .Mult) (Up2 X.K fMul) := by
  rintro pins s σ H x y v u Q I rx ry ⟨d, e, S, R, rd, re, rs, h, post⟩
  cases rd <;> cases re <;> first | exact h.elim | skip
  · exact op_mulO pins s σ H _ _ v u Q I rx ry ⟨_, _, rfl, rfl, h.1.ok, post.now h.2 (.int _) rs⟩
  · obtain ⟨t, rfl⟩ := rx
    obtain ⟨t2, rfl⟩ := ry
    obtain ⟨⟨h1, h2, h3⟩, h⟩ := h
    exact SB.mul (mulOk_of 16 1048576 h1 h3 h2 (by decide) (by decide)) fun t' k => ⟨.str _, H, I.tok k, ⟨_, rfl⟩, post.now h (.str _) rs⟩
theorem o3_div : OpR X (binaryOp .FloorDiv) (Up2 X.K fDiv) := by
  rintro pins s σ H x y v u Q I rx ry ⟨d, e, S, R, rd, re, rs, h, post⟩
  cases rd <;> cases re <;> first | exact h.elim | skip
  obtain ⟨⟨h0, n, hb, hn⟩, h⟩ := h
  exact op_divO pins s σ H _ _ v u Q I rx ry ⟨_, _, rfl, rfl, ⟨h0, Nat.lt_of_lt_of_le (PySem.Flt.log2_lt_of (Nat.succ_pos n) (hb.mono (Nat.le_succ n))) (by omega)⟩, post.now h (.int _) rs⟩
theorem o3_mod : OpR X (binaryOp .Mod) (Up2 X.K fMod) := by
  rintro pins s σ H x y v u Q I rx ry ⟨d, e, S, R, rd, re, rs, h, post⟩
  cases rd <;> cases re <;> first | exact h.elim | skip
  exact op_modN pins s σ H _ _ v u Q I rx ry ⟨_, _, rfl, rfl, h.1, post.now h.2 (.int _) rs⟩
theorem o3_pow : OpR X (binaryOp .Pow) (Up2 X.K fPow) := by
  rintro pins s σ H x y v u Q I rx ry ⟨d, e, S, R, rd, re, rs, h, post⟩
  cases rd <;> cases re <;> first | exact h.elim | skip
  exact op_pow pins s σ H _ _ v u Q I rx ry ⟨_, _, rfl, rfl, ⟨h.1.1, Int.le_trans h.1.2.1 (by decide), h.1.2.2⟩, post.now h.2 (.int _) rs⟩
theorem o3_lt : OpR X (compareOp .Lt) (Up2 X.K fLt) := by
  rintro pins s σ H x y v u Q I rx ry ⟨d, e, S, R, rd, re, rs, h, post⟩
  cases rd <;> cases re <;> first | exact h.elim | skip
  exact op_lt pins s σ H _ _ v u Q I rx ry ⟨_, _, rfl, rfl, post.now h (.bl _) rs⟩
theorem o3_le : OpR X (compareOp .LtE) (Up2 X.K fLe) := by
  rintro pins s σ H x y v u Q I rx ry ⟨d, e, S, R, rd, re, rs, h, post⟩
  cases rd <;> cases re <;> first | exact h.elim | skip
  exact op_le pins s σ H _ _ v u Q I rx ry ⟨_, _, rfl, rfl, post.now h (.bl _) rs⟩
theorem o3_gt : OpR X (compareOp .Gt) (Up2 X.K fGt) := by
  rintro pins s σ H x y v u Q I rx ry ⟨d, e, S, R, rd, re, rs, h, post⟩
  cases rd <;> cases re <;> first | exact h.elim | skip
  exact op_gt pins s σ H _ _ v u Q I rx ry ⟨_, _, rfl, rfl, post.now h (.bl _) rs⟩
theorem o3_ge : OpR X (compareOp .GtE) (Up2 X.K fGe) := by
  rintro pins s σ H x y v u Q I rx ry ⟨d, e, S, R, rd, re, rs, h, post⟩
  cases rd <;> cases re <;> first | exact h.elim | skip
  exact op_ge pins s σ H _ _ v u Q I rx ry ⟨_, _, rfl, rfl, post.now h (.bl _) rs⟩
theorem o3_neg : UnR X (unaryOp .USub) (Up1 X.K fNeg) := by
  rintro pins s σ H x v Q I rx ⟨d, S, R, rd, rs, h, post⟩
  cases rd <;> first | exact h.elim | skip
  exact un_neg pins s σ H _ v Q I rx ⟨_, rfl, post.now h (.int _) rs⟩
end

/-! ### subscripts -/
def fIx : F2 := fun x y S R => match x, y with
  | .tup l, .int i => ∃ d, atI l i = some d ∧ R d S
  | .ref a, .int i => ∃ l d, IsL S a l ∧ atI l i = some d ∧ R d S
  | .fl l, .int i => ∃ d, atI l i = some d ∧ R d S
  | .str s, .int i => ∃ c, s.length ≤ sizeLine ∧ atI s.cps.toList i = some c ∧ R (.str ⟨#[c]⟩) S
  | _, _ => False
theorem atI_rel {K : PySem.W.Frag} {H : Hp} {xs : List V} {l : List D} {i : Int} {d : D} (r : RvL K H xs l) (h : atI l i = some d) : ∃ v, atI xs i = some v ∧ Rv K H v d := by
  unfold atI at h ⊢
  rw [r.length]
  cases e : ixN l.length i with
  | none => rw [e] at h; cases h
  | some j =>
    rw [e] at h
    obtain ⟨v, h1, h2⟩ := r.get (i := j) (d := d) h
    exact ⟨v, h1, h2⟩
section
variable {X : Cx} {W : WX}
theorem i3_ix : IxR X (Up2 X.K fIx) := by
  refine fun va sl pins s σ H x y v u Q I rx ry h0 hs => ix_seq va sl pins s σ H x y v u Q I rx ry ?_ hs
  obtain ⟨d, e, S, R, rd, re, rs, h, post⟩ := h0
  cases rd with
  | ref a =>
    cases re <;> first | exact h.elim | skip
    obtain ⟨l, d, hl, ha, h⟩ := h
    obtain ⟨xs, h1, h2⟩ := rs.seqL hl
    obtain ⟨v, h3, h4⟩ := atI_rel h2 ha
    exact .inl ⟨a, xs, _, v, rfl, rfl, h1, h3, post.now h h4 rs⟩
  | tup hq hr =>
    cases re <;> first | exact h.elim | skip
    obtain ⟨d, ha, h⟩ := h
    obtain ⟨v, h3, h4⟩ := atI_rel hr ha
    exact .inr (.inl ⟨_, _, _, v, rfl, rfl, hq, h3, post.now h h4 rs⟩)
  | fl hq hr =>
    cases re <;> first | exact h.elim | skip
    obtain ⟨d, ha, h⟩ := h
    obtain ⟨v, h3, h4⟩ := atI_rel hr ha
    exact .inl ⟨_, _, _, v, rfl, rfl, hq.seqL, h3, post.now h h4 rs⟩
  | str x =>
    cases re <;> first | exact h.elim | skip
    obtain ⟨c, h1, h2, h⟩ := h
    exact .inr (.inr ⟨x, _, c, rfl, rfl, h1, h2, post.now h (.str _) rs⟩)
  | _ => exact h.elim
end

section
variable {X : Cx} {W : WX}
/-- i ** j, both written -/
theorem e3_powc {i j k : Int} {m1 m2 p1 p2 pos} (hk : i ^ j.toNat = k) (hc : 0 ≤ j ∧ j ≤ 1000 ∧ i.natAbs < 2 ^ 64) : E3 X W (.BinOp (.Constant (.int i) m1 p1) .Pow (.Constant (.int j) m2 p2) pos) (wC (.int k)) :=
  PEimp (e3_op o3_pow e3_int e3_int) fun σ H Q ⟨Y, z, S, R, rel, h, post⟩ => ⟨Y, z, S, R, rel, ⟨hc, by rw [hk]; exact h⟩, post⟩
theorem e3_negc {i : Int} {m1 p1 pos} : E3 X W (.UnaryOp .USub (.Constant (.int i) m1 p1) pos) (wC (.int (-i))) :=
  PEimp (e3_un o3_neg e3_int) fun σ H Q ⟨Y, z, S, R, rel, h, post⟩ => ⟨Y, z, S, R, rel, h, post⟩
end

/-! ### statements -/
def wNext : TS3 := fun B z S => B.nx z S
def wSeq (t u : TS3) : TS3 := fun B z S => t { B with nx := u B } z S
def wSet (i : Nat) (te : TE3) : TS3 := fun B z S => te B.xc z S fun d S1 => B.nx (z.set i (some d)) S1
def wDrop (te : TE3) : TS3 := fun B z S => te B.xc z S fun _ S1 => B.nx z S1
def wRet (te : TE3) : TS3 := fun B z S => te B.xc z S B.rt
def wRetN : TS3 := fun B _ S => B.rt .non S
def wIfS (c : TT3) (t u : TS3) : TS3 := fun B z S => c B.xc z S fun b S1 => Br b (t B z S1) (u B z S1)
section
variable {X : Cx} {W : WX} {st : Stmt} {rest : List Stmt} {t u : TS3} {e : Expr} {te : TE3} {pos : Pos}
theorem s3_nil : S3s X W [] wNext := PSsimp pss_nil fun D σ H ⟨z, S, B, rel, h, d⟩ => d.nx z S σ H h rel (Gr.refl _) (Kp.refl _ _)
theorem s3_cons (h1 : S3 X W st t) (h2 : S3s X W rest u) : S3s X W (st :: rest) (wSeq t u) := PSsimp (pss_cons h1 h2) fun D σ H ⟨z, S, B, rel, h, d⟩ =>
  ⟨z, S, { B with nx := u B }, rel, h, ⟨fun z' S' σ' H' hu r g k => ⟨z', S', B, r, hu, d.on g k⟩, d.rt, d.bk, d.ct, d.xc⟩⟩
theorem s3_one (h1 : S3 X W st t) : S3s X W [st] t := pss_one h1
theorem s3_pass : S3 X W (.Pass pos) wNext := PSimp ps_pass fun D σ H ⟨z, S, B, rel, h, d⟩ => d.nx z S σ H h rel (Gr.refl _) (Kp.refl _ _)
theorem s3_break : S3 X W (.Break pos) (fun B z S => B.bk z S) := PSimp ps_break fun D σ H ⟨z, S, B, rel, h, d⟩ => d.bk z S σ H h rel (Gr.refl _) (Kp.refl _ _)
theorem s3_cont : S3 X W (.Continue pos) (fun B z S => B.ct z S) := PSimp ps_continue fun D σ H ⟨z, S, B, rel, h, d⟩ => d.ct z S σ H h rel (Gr.refl _) (Kp.refl _ _)
theorem s3_set {i : Nat} {x : Str} {pos' : Pos} (hN : X.N.Nodup) (hi : X.N[i]? = some x) (hx : Loc X.env.scope x) (he : E3 X W e te) (hs : swapsWith e (some (.Name x pos')) pos.line X.env = pure false := by rfl) (hf : X.fn x = true ∨ X.env.scope.names.lookup x = some .local := by first | exact .inl rfl | exact .inr rfl | assumption) :
    S3 X W (.Assign [.Name x pos'] e pos) (wSet i te) := PSimp (ps_set hN hi hx he hs hf) fun D σ H ⟨z, S, B, rel, h, d⟩ =>
  ⟨B.xc, z, S, _, ⟨rel, d.xc⟩, h, fun e' S1 v H1 h1 rv rs g k => d.nx _ S1 _ H1 h1 ((rel.grow g rs).setS rv) g k⟩
theorem s3_expr (he : E3 X W e te) (hs : swapsWith e none pos.line X.env = pure false := by rfl) : S3 X W (.Expr e pos) (wDrop te) := PSimp (ps_expr he hs) fun D σ H ⟨z, S, B, rel, h, d⟩ =>
  ⟨B.xc, z, S, _, ⟨rel, d.xc⟩, h, fun e' S1 v H1 h1 rv rs g k => d.nx _ S1 _ H1 h1 (rel.grow g rs) g k⟩
theorem s3_ret (he : E3 X W e te) : S3 X W (.Return (some e) pos) (wRet te) := PSimp (ps_ret he) fun D σ H ⟨z, S, B, rel, h, d⟩ =>
  ⟨B.xc, z, S, _, ⟨rel, d.xc⟩, h, fun e' S1 v H1 h1 rv rs g k => d.rt _ S1 _ H1 h1 rv rs g k⟩
theorem s3_retN : S3 X W (.Return none pos) wRetN := PSimp ps_retN fun D σ H ⟨z, S, B, rel, h, d⟩ => d.rt .non S .non H h .non rel.st (Gr.refl _) (Kp.refl _ _)
theorem s3_if {c : Expr} {a b : List Stmt} {tc : TT3} (hc : T3 X W c tc) (ha : S3s X W a t) (hb : S3s X W b u) : S3 X W (.If c a b pos) (wIfS tc t u) := PSimp (ps_if hc ha hb) fun D σ H ⟨z, S, B, rel, h, d⟩ =>
  ⟨B.xc, z, S, _, ⟨rel, d.xc⟩, h, fun b S1 H1 h1 rs g k => by
    cases b with
    | true => exact ⟨z, S1, B, rel.grow g rs, h1.t rfl, d.on g k⟩
    | false => exact ⟨z, S1, B, rel.grow g rs, h1.f rfl, d.on g k⟩⟩
/-- a, b = x, y (two plain locals) -/
def wPar (i j : Nat) (ta tb : TE3) : TS3 := fun B z S => ta B.xc z S fun x S1 => tb B.xc z S1 fun y S2 => B.nx ((z.set i (some x)).set j (some y)) S2
def parP (B : Ends3) (z : Sl) (i j : Nat) (ds : List D) (S : Sto) : Prop := match ds with
  | [x, y] => B.nx ((z.set i (some x)).set j (some y)) S
  | _ => False
theorem s3_par {i j : Nat} {x y : Str} {a b : Expr} {ta tb : TE3} {px py pt : Pos} {kt k2 pt2} (hc : X.calm = true) (hN : X.N.Nodup) (hi : X.N[i]? = some x) (hj : X.N[j]? = some y) (hij : i ≠ j)
    (hx : X.env.scope.names.lookup x = some .local) (hy : X.env.scope.names.lookup y = some .local) (ha : A3 X W [a, b] [ta, tb])
    (hw : swappedStores [.Tuple [.Name x px, .Name y py] kt pt] (.Tuple [a, b] k2 pt2) X.env = pure (some [x, y]))
    (hs : swapsWithSole [.Tuple [.Name x px, .Name y py] kt pt] (.Tuple [a, b] k2 pt2) pos.line X.env = pure false := by rfl) :
    S3 X W (.Assign [.Tuple [.Name x px, .Name y py] kt pt] (.Tuple [a, b] k2 pt2) pos) (wPar i j ta tb) := PSimp (ps_par hc hN hi hj hij hx hy ha hw hs) fun _ _ _ ⟨z, S, B, rel, h, d⟩ =>
  ⟨B.xc, z, S, parP B z i j, ⟨rel, d.xc⟩, h, fun ds S1 vs H1 h1 rvs rs g k hl => by
    cases rvs with
    | nil => exact h1.elim
    | cons r1 r2 => cases r2 with
      | nil => exact h1.elim
      | cons r3 r4 => cases r4 with
        | nil => exact ⟨_, _, rfl, d.nx _ S1 _ H1 h1 (((rel.grow g rs).setS r1).setS r3) g k⟩
        | cons _ _ => exact h1.elim⟩
end

/-! ### while -/
/-- the loop: an invariant by a measure; behind a turn something may be forgotten -/
def wWhile (c : TT3) (tb : TS3) : TS3 := fun B z S => ∃ M : Nat → Sl → Sto → Prop, (∃ m, M m z S) ∧ ∀ m z S, M m z S →
  c B.xc z S fun b S1 => Br b (tb ⟨fun z' S' => ∃ m' S0, m' < m ∧ Le S0 S' ∧ M m' z' S0, B.rt, B.nx, fun z' S' => ∃ m' S0, m' < m ∧ Le S0 S' ∧ M m' z' S0, B.xc⟩ z S1) (B.nx z S1)
section
variable {X : Cx} {W : WX} {pos : Pos}
theorem s3_while {c : Expr} {body : List Stmt} {tc : TT3} {tb : TS3} (hp : PassesOwn (model X.prog X.w) X.A X.env X.xe) (hc : T3 X W c tc) (hb : S3s X W body tb) : S3 X W (.While c body [] pos) (wWhile tc tb) := PSimp (ps_while hp hc hb) fun D σ H ⟨z, S, B, rel, ⟨M, ⟨m0, w0⟩, turn⟩, d⟩ => by
  refine ⟨fun m σ' H' => ∃ z' S', Rel X.K H' σ' S' z' ∧ Gr H H' ∧ Kp S S' H ∧ M m z' S', ⟨m0, z, S, rel, Gr.refl _, Kp.refl _ _, w0⟩, ?_⟩
  rintro m σ1 H1 ⟨z1, S1, r1, g1, k1, w1⟩
  refine ⟨B.xc, z1, S1, _, ⟨r1, d.xc.on g1 k1⟩, turn m z1 S1 w1, fun b S2 H2 h2 rs2 g2 k2 => ?_⟩
  cases b with
  | false =>
    rw [if_neg Bool.false_ne_true]
    exact d.nx z1 S2 σ1 H2 (h2.f rfl) (r1.grow g2 rs2) (g1.trans g2) (k1.trans g1 k2)
  | true =>
    rw [if_pos rfl]
    have bk : ∀ z' S' σ' H', (∃ m' S0, m' < m ∧ Le S0 S' ∧ M m' z' S0) → Rel X.K H' σ' S' z' → Gr H2 H' → Kp S2 S' H2 → ∃ m', m' < m ∧ ∃ z'' S'', Rel X.K H' σ' S'' z'' ∧ Gr H H' ∧ Kp S S'' H ∧ M m' z'' S'' :=
      fun z' S' σ' H' ⟨m', S0, lt, le, w⟩ r g k => ⟨m', lt, z', S0, r.le le, g1.trans (g2.trans g), ((k1.trans g1 k2).trans (g1.trans g2) k).le le, w⟩
    refine ⟨fun σ' H' => ∃ m', m' < m ∧ ∃ z'' S'', Rel X.K H' σ' S'' z'' ∧ Gr H H' ∧ Kp S S'' H ∧ M m' z'' S'', fun _ _ h => h, z1, S2, _, r1.grow g2 rs2, h2.t rfl, ?_⟩
    have dd := d.on (g1.trans g2) (k1.trans g1 k2)
    exact ⟨bk, dd.rt, dd.nx, bk, dd.xc⟩
end

/-! ### what is walked -/
/-- the items, what must hold of the store at each turn, the store -/
abbrev TI3 := GX → Sl → Sto → (List D → (Sto → Prop) → Sto → Prop) → Prop
structure WalkD (K : PySem.W.Frag) (H1 : Hp) (J : It) (ds : List D) (G : Sto → Prop) : Prop where
  go : ∀ i S H, i < ds.length → G S → RS K S H → Gr H1 H → J.go i H
  stop : ∀ S H, G S → RS K S H → Gr H1 H → J.stop ds.length H
  yld : ∀ i S H x H', i < ds.length → G S → RS K S H → Gr H1 H → J.yld i H x H' → ∃ d, ds[i]? = some d ∧ Rv K H' x d ∧ RS K S H' ∧ Gr H H'
def upI (K : PySem.W.Frag) (W : WX) (t : TI3) : TI := fun σ H R => ∃ Y z S C, RelX K W Y H σ S z ∧ t Y z S C ∧ ∀ ds G S1 J H1, C ds G S1 → RS K S1 H1 → Gr H H1 → Kp S S1 H → WalkD K H1 J ds G → R J H1
abbrev I3 (X : Cx) (W : WX) (tg iter : Expr) (t : TI3) : Prop := PI X tg iter (upI X.K W t)
theorem PIimp {X : Cx} {tg iter : Expr} {t t' : TI} (h : PI X tg iter t) (f : ∀ σ H R, t' σ H R → t σ H R) : PI X tg iter t' := ⟨fun pins s σ H R I q => h.run pins s σ H R I (f σ H R q)⟩
def wItL (te : TE3) : TI3 := fun Y z S C => te Y z S fun d S1 => match d with
  | .ref a => ∃ l, IsL S1 a l ∧ C l (fun S => IsL S a l) S1
  | .fl l => C l (fun _ => True) S1
  | _ => False
def wItT (te : TE3) : TI3 := fun Y z S C => te Y z S fun d S1 => match d with
  | .tup l => C l (fun _ => True) S1
  | _ => False
/-- range(n), range(a, b): the bounds within 2 ^ 62 -/
def rngD (a : Int) (n : Nat) : List D := (List.range n).map fun (i : Nat) => D.int (a + (i : Int))
def wRng1 (te : TE3) : TI3 := fun Y z S C => te Y z S fun d S1 => match d with
  | .int j => (-(2 ^ 62) ≤ j ∧ j < 2 ^ 62) ∧ C (rngD 0 j.toNat) (fun _ => True) S1
  | _ => False
def wRng2 (ta tb : TE3) : TI3 := fun Y z S C => ta Y z S fun d S1 => tb Y z S1 fun e S2 => match d, e with
  | .int i, .int j => (-(2 ^ 62) ≤ i ∧ i < 2 ^ 62 ∧ -(2 ^ 62) ≤ j ∧ j < 2 ^ 62) ∧ C (rngD i (j - i).toNat) (fun _ => True) S2
  | _, _ => False
theorem rngD_len {a : Int} {n : Nat} : (rngD a n).length = n := by unfold rngD; simp
theorem rngD_get {a : Int} {n i : Nat} (h : i < n) : (rngD a n)[i]? = some (.int (a + (i : Int))) := by unfold rngD; simp [h]
section
variable {X : Cx} {W : WX} {tg e : Expr} {te : TE3}
theorem walkD_list {K : PySem.W.Frag} {H1 : Hp} {a : Addr} {l : List D} : WalkD K H1 (Itl K a) l (fun S => IsL S a l) := by
  refine ⟨fun i S H hi hG rs _ => ?_, fun S H hG rs _ => ?_, fun i S H x H' hi hG rs _ y => ?_⟩
  · obtain ⟨xs, h1, h2⟩ := rs.seqL hG
    exact ⟨xs, xs[i]'(by rw [h2.length]; exact hi), h1, by simp [h2.length, hi]⟩
  · obtain ⟨xs, h1, h2⟩ := rs.seqL hG
    exact ⟨xs, h1, by rw [h2.length]; exact Nat.le_refl _⟩
  · obtain ⟨xs, h1, h2⟩ := rs.seqL hG
    obtain ⟨rfl, y⟩ := y
    obtain ⟨d, h3, h4⟩ := h2.getV (y xs h1)
    exact ⟨d, h3, h4, rs, Gr.refl _⟩
theorem walkD_fl {K : PySem.W.Frag} {H1 : Hp} {a : Addr} {xs : List V} {l : List D} (hq : SqF K H1 a xs) (hr : RvL K H1 xs l) : WalkD K H1 (Itl K a) l (fun _ => True) := by
  refine ⟨fun i S H hi hG rs g => ⟨xs, xs[i]'(by rw [hr.length]; exact hi), (g.seqF hq).seqL, by simp [hr.length, hi]⟩, fun S H hG rs g => ⟨xs, (g.seqF hq).seqL, by rw [hr.length]; exact Nat.le_refl _⟩, fun i S H x H' hi hG rs g y => ?_⟩
  obtain ⟨rfl, y⟩ := y
  obtain ⟨d, h3, h4⟩ := (hr.mono g).getV (y xs (g.seqF hq).seqL)
  exact ⟨d, h3, h4, rs, Gr.refl _⟩
theorem walkD_tup {K : PySem.W.Frag} {H1 : Hp} {a : Addr} {xs : List V} {l : List D} (hq : SqT K H1 a xs) (hr : RvL K H1 xs l) : WalkD K H1 (Itt K a) l (fun _ => True) := by
  refine ⟨fun i S H hi hG rs g => ⟨xs, xs[i]'(by rw [hr.length]; exact hi), g.seqT hq, by simp [hr.length, hi]⟩, fun S H hG rs g => ⟨xs, g.seqT hq, by rw [hr.length]; exact Nat.le_refl _⟩, fun i S H x H' hi hG rs g y => ?_⟩
  obtain ⟨rfl, y⟩ := y
  obtain ⟨d, h3, h4⟩ := (hr.mono g).getV (y xs (g.seqT hq))
  exact ⟨d, h3, h4, rs, Gr.refl _⟩
theorem walkD_rng {K : PySem.W.Frag} {H1 : Hp} {lo : Int} {n : Nat} : WalkD K H1 (Itr lo n) (rngD lo n) (fun _ => True) := by
  refine ⟨fun i S H hi hG rs g => by rw [rngD_len] at hi; exact hi, fun S H hG rs g => by rw [rngD_len]; exact Nat.le_refl _, fun i S H x H' hi hG rs g y => ?_⟩
  obtain ⟨rfl, rfl⟩ := y
  rw [rngD_len] at hi
  exact ⟨_, rngD_get hi, .int _, rs, Gr.refl _⟩
theorem i3_list (h : E3 X W e te) : I3 X W tg e (wItL te) := PIimp (pi_list h) fun σ H R ⟨Y, z, S, C, rel, h, post⟩ => ⟨Y, z, S, _, rel, h, fun d S1 v H1 h1 rv rs g k => by
  cases rv with
  | ref a =>
    obtain ⟨l, hl, hC⟩ := h1
    obtain ⟨xs, h2, h3⟩ := rs.seqL hl
    exact ⟨a, rfl, ⟨xs, h2⟩, post l _ S1 _ H1 hC rs g k walkD_list⟩
  | fl hq hr => exact ⟨_, rfl, ⟨_, hq.seqL⟩, post _ _ S1 _ H1 h1 rs g k (walkD_fl hq hr)⟩
  | _ => exact h1.elim⟩
theorem i3_tup (h : E3 X W e te) : I3 X W tg e (wItT te) := PIimp (pi_tup h) fun σ H R ⟨Y, z, S, C, rel, h, post⟩ => ⟨Y, z, S, _, rel, h, fun d S1 v H1 h1 rv rs g k => by
  cases rv with
  | tup hq hr => exact ⟨_, rfl, ⟨_, hq⟩, post _ _ S1 _ H1 h1 rs g k (walkD_tup hq hr)⟩
  | _ => exact h1.elim⟩
def one3 (P : PD) (ds : List D) (S : Sto) : Prop := match ds with
  | [d] => P d S
  | _ => False
def two3 (P : D → D → Sto → Prop) (ds : List D) (S : Sto) : Prop := match ds with
  | [d, e] => P d e S
  | _ => False
theorem args1 {K : PySem.W.Frag} {te : TE3} {σ : St} {H : Hp} {z : Sl} {S : Sto} {P : PD} {W : WX} {Y : GX} (rel : RelX K W Y H σ S z) (h : te Y z S P) {Q : List V → Hp → Prop} (f : ∀ d S1 v H1, P d S1 → Rv K H1 v d → RS K S1 H1 → Gr H H1 → Kp S S1 H → Q [v] H1) : upL K W [te] σ H Q :=
  ⟨Y, z, S, one3 P, rel, h, fun ds S1 vs H1 p rvs rs g k _ => by
    cases rvs with
    | nil => exact p.elim
    | cons r1 r2 => cases r2 with
      | nil => exact f _ S1 _ H1 p r1 rs g k
      | cons _ _ => exact p.elim⟩
theorem args2 {K : PySem.W.Frag} {ta tb : TE3} {σ : St} {H : Hp} {z : Sl} {S : Sto} {P : D → D → Sto → Prop} {W : WX} {Y : GX} (rel : RelX K W Y H σ S z) (h : ta Y z S fun x S1 => tb Y z S1 fun y S2 => P x y S2) {Q : List V → Hp → Prop}
    (f : ∀ d e S1 v u H1, P d e S1 → Rv K H1 v d → Rv K H1 u e → RS K S1 H1 → Gr H H1 → Kp S S1 H → Q [v, u] H1) : upL K W [ta, tb] σ H Q :=
  ⟨Y, z, S, two3 P, rel, h, fun ds S1 vs H1 p rvs rs g k _ => by
    cases rvs with
    | nil => exact p.elim
    | cons r1 r2 => cases r2 with
      | nil => exact p.elim
      | cons r3 r4 => cases r4 with
        | nil => exact f _ _ S1 _ _ H1 p r1 r3 rs g k
        | cons _ _ => exact p.elim⟩
theorem i3_rng1 {a : Expr} {ta : TE3} {p pos : Pos} (hg : Gl X "range") (hm : X.mg "range" = none) (ha : A3 X W [a] [ta]) (hs : starEach [a] X.env = [(false, eval a X.env)] := by rfl) : I3 X W tg (.Call (.Name "range" p) [a] [] pos) (wRng1 ta) :=
  PIimp (pi_range1 hg hm ha hs) fun σ H R ⟨Y, z, S, C, rel, h, post⟩ => args1 rel h fun d S1 v H1 h1 rv rs g k => by
    cases rv with
    | int j => exact ⟨j, rfl, h1.1.1, h1.1.2, post _ _ S1 _ H1 h1.2 rs g k walkD_rng⟩
    | _ => exact h1.elim
theorem i3_rng2 {a b : Expr} {ta tb : TE3} {p pos : Pos} (hg : Gl X "range") (hm : X.mg "range" = none) (ha : A3 X W [a, b] [ta, tb]) (hs : starEach [a, b] X.env = [(false, eval a X.env), (false, eval b X.env)] := by rfl) (hs2 : starEach [b] X.env = [(false, eval b X.env)] := by rfl) :
    I3 X W tg (.Call (.Name "range" p) [a, b] [] pos) (wRng2 ta tb) :=
  PIimp (pi_range2 hg hm ha hs hs2) fun σ H R ⟨Y, z, S, C, rel, h, post⟩ => args2 rel h fun d e S1 v u H1 h1 rv ru rs g k => by
    cases rv with
    | int i => cases ru with
      | int j => exact ⟨i, j, rfl, h1.1, post _ _ S1 _ H1 h1.2 rs g k walkD_rng⟩
      | _ => exact h1.elim
    | _ => cases ru <;> exact h1.elim
end

/-! ### whatever is walked: a list, a tuple, a text -/
def sgn3 (x : Str) : List D := x.cps.toList.map fun c => D.str ⟨#[c]⟩
def wItA (te : TE3) : TI3 := fun Y z S C => te Y z S fun d S1 => match d with
  | .ref a => ∃ l, IsL S1 a l ∧ C l (fun S => IsL S a l) S1
  | .fl l => C l (fun _ => True) S1
  | .tup l => C l (fun _ => True) S1
  | .str x => C (sgn3 x) (fun _ => True) S1
  | _ => False
section
variable {X : Cx} {W : WX} {tg e : Expr} {te : TE3}
theorem walkD_str {K : PySem.W.Frag} {H1 : Hp} {x : Str} : WalkD K H1 (Its x) (sgn3 x) (fun _ => True) := by
  have len : (sgn3 x).length = x.cps.size := by unfold sgn3; simp
  refine ⟨fun i S H hi hG rs g => by rw [len] at hi; exact hi, fun S H hG rs g => by rw [len]; exact Nat.le_refl _, fun i S H v H' hi hG rs g y => ?_⟩
  obtain ⟨rfl, c, hc, rfl⟩ := y
  exact ⟨.str ⟨#[c]⟩, by unfold sgn3; simp [hc], .str _, rs, Gr.refl _⟩
theorem i3_any (h : E3 X W e te) : I3 X W tg e (wItA te) := by
  refine ⟨fun pins s σ H R I ⟨Y, z, S, C, rel, ht, post⟩ => ?_⟩
  refine thn (h.run pins s σ H (fun v H1 => ∃ d S1, Rv X.K H1 v d ∧ RS X.K S1 H1 ∧ Gr H H1 ∧ Kp S S1 H ∧ (match d with
    | .ref a => ∃ l, IsL S1 a l ∧ C l (fun S => IsL S a l) S1
    | .fl l => C l (fun _ => True) S1
    | .tup l => C l (fun _ => True) S1
    | .str x => C (sgn3 x) (fun _ => True) S1
    | _ => False)) I ⟨Y, z, S, _, rel, ht, fun d S1 v H1 h1 rv rs g k => ⟨d, S1, rv, rs, g, k, h1⟩⟩) fun v s1 ⟨x, H1, I1, r1, d, S1, rv, rs, g, k, hc⟩ => ?_
  have lst : ∀ a xs, v = .ref a → SqL X.K H1 a xs → R (Itl X.K a) H1 → wpAny (model X.prog X.w) X.A (pyIter v) (PIE X pins σ tg R) X.xe s1 := fun a xs e hq q => by
    subst e
    obtain ⟨its, rv, p, hz⟩ := I1.list hq
    refine wpAny_pyIter_list p.isList ?_
    refine ⟨s1.heap.objs.size, [s1.heap.objs.size], _, _, H1, rfl, I1.kept (t' := s1.toks) fun b o e => Heap.get?_push_of_some _ e, turn_list a _, ⟨_, Heap.get?_push_size _ rfl, rfl, rfl⟩, fun b hb => ?_, q⟩
    have e : b = s1.heap.objs.size := by simpa using hb
    subst e
    exact I1.fpOk (Nat.le_refl _) (I1.hok.fresh (Nat.le_refl _))
  cases rv with
  | ref a =>
    obtain ⟨l, hl, hC⟩ := hc
    obtain ⟨xs, h2, h3⟩ := rs.seqL hl
    exact lst a xs r1 h2 (post l _ S1 _ H1 hC rs g k walkD_list)
  | fl hq hr => exact lst _ _ r1 hq.seqL (post _ _ S1 _ H1 hc rs g k (walkD_fl hq hr))
  | tup hq hr =>
    cases r1
    obtain ⟨its, rv, p, hz⟩ := I1.tuple hq
    refine wpAny_pyIter_tuple (show s1.heap.IsTuple _ its.toArray from p) ?_
    refine ⟨s1.heap.objs.size, [s1.heap.objs.size], _, _, H1, rfl, I1.kept (t' := s1.toks) fun b o e => Heap.get?_push_of_some _ e, turn_tuple _ _, ⟨_, Heap.get?_push_size _ rfl, rfl, rfl⟩, fun b hb => ?_, post _ _ S1 _ H1 hc rs g k (walkD_tup hq hr)⟩
    have e : b = s1.heap.objs.size := by simpa using hb
    subst e
    exact I1.fpOk (Nat.le_refl _) (I1.hok.fresh (Nat.le_refl _))
  | str x =>
    obtain ⟨t, rfl⟩ := r1
    have q := post _ _ S1 _ H1 hc rs g k walkD_str
    cases ha : x.cps.all (· < 128)
    · exact wpAny_pyIter_wide ha (pi_one (tk := s1.toks) I1 _ (turn_str _ x t "str_iterator" (.inr rfl)) ⟨_, Heap.get?_push_size _ rfl, rfl, rfl⟩ q)
    · exact wpAny_pyIter_ascii ha (pi_one (tk := s1.toks) I1 _ (turn_str _ x t "str_ascii_iterator" (.inl rfl)) ⟨_, Heap.get?_push_size _ rfl, rfl, rfl⟩ q)
  | _ => exact hc.elim
end

/-! ### targets, for -/
def gN (i : Nat) : TG3 := fun _ d z S R => R (z.set i (some d)) S
abbrev TGs3 := GX → List D → Sl → Sto → (Sl → Sto → Prop) → Prop
def gNil3 : TGs3 := fun _ ds z S R => match ds with
  | [] => R z S
  | _ => False
def gCons3 (t : TG3) (u : TGs3) : TGs3 := fun Y ds z S R => match ds with
  | d :: r => t Y d z S fun z' S' => u Y r z' S' R
  | [] => False
/-- (a, b, ..) = a tuple -/
def gTup3 (n : Nat) (t : TGs3) : TG3 := fun Y d z S R => match d with
  | .tup ds => ds.length = n ∧ t Y ds z S R
  | .ref a => ∃ ds, IsL S a ds ∧ ds.length = n ∧ t Y ds z S R
  | .fl ds => ds.length = n ∧ t Y ds z S R
  | _ => False
def upGs (K : PySem.W.Frag) (W : WX) (t : TGs3) : TGs := fun vs σ H Q => ∃ Y ds z S R, RvL K H vs ds ∧ RelX K W Y H σ S z ∧ t Y ds z S R ∧ ∀ z' S' σ' H', R z' S' → Rel K H' σ' S' z' → Gr H H' → Kp S S' H → Q σ' H'
abbrev G3s (X : Cx) (W : WX) (es : List Expr) (t : TGs3) : Prop := PGs X es (upGs X.K W t)
theorem PGsimp {X : Cx} {es : List Expr} {t t' : TGs} (h : PGs X es t) (f : ∀ v σ H Q, t' v σ H Q → t v σ H Q) : PGs X es t' := ⟨fun pins s σ H v u Q I r q => h.run pins s σ H v u Q I r (f v σ H Q q)⟩
section
variable {X : Cx} {W : WX} {pos : Pos}
theorem g3_name {i : Nat} {x : Str} (hN : X.N.Nodup) (hi : X.N[i]? = some x) (hx : Loc X.env.scope x) (hf : X.fn x = true ∨ X.env.scope.names.lookup x = some .local := by first | exact .inl rfl | exact .inr rfl | assumption) : G3 X W (.Name x pos) (gN i) :=
  PGimp (pg_name hN hi hx hf) fun v σ H Q ⟨Y, d, z, S, R, rv, rel, h, post⟩ => post _ S _ H h (rel.toRel.setS rv) (Gr.refl _) (Kp.refl _ _)
theorem g3s_nil : G3s X W [] gNil3 := PGsimp pgs_nil fun vs σ H Q ⟨Y, ds, z, S, R, rv, rel, h, post⟩ => by
  cases rv with
  | nil => exact ⟨rfl, post z S σ H h rel.toRel (Gr.refl _) (Kp.refl _ _)⟩
  | cons _ _ => exact h.elim
theorem g3s_cons {e : Expr} {es : List Expr} {t : TG3} {u : TGs3} (h1 : G3 X W e t) (h2 : G3s X W es u)
    (hs : (assignEach (e :: es) X.env).map (·.2) = assign e X.env :: (assignEach es X.env).map (·.2) := by rfl) : G3s X W (e :: es) (gCons3 t u) := PGsimp (pgs_cons h1 h2 hs) fun vs σ H Q ⟨Y, ds, z, S, R, rv, rel, h, post⟩ => by
  cases rv with
  | nil => exact h.elim
  | cons r1 r2 =>
    refine ⟨_, _, rfl, Y, _, z, S, _, r1, rel, h, fun z' S' σ' H' h' rel' g k => ?_⟩
    exact ⟨Y, _, z', S', R, r2.mono g, ⟨rel', rel.xd.on g k⟩, h', fun z2 S2 σ2 H2 q r g2 k2 => post z2 S2 σ2 H2 q r (g.trans g2) (k.trans g k2)⟩
theorem g3_tup {es : List Expr} {k : Nat} {t : TGs3} {n : Nat} (hc : X.calm = true) (h : G3s X W es t)
    (hn : (assignEach es X.env).length = n := by rfl) (hst : (assignEach es X.env).findIdx? (·.1) = none := by rfl) : G3 X W (.Tuple es k pos) (gTup3 n t) := by
  refine ⟨fun pins s σ H v u Q I r ⟨Y, d, z, S, R, rv, rel, h', post⟩ => ?_⟩
  cases rv with
  | tup hq hr => exact (pg_tup hc h hn hst).run pins s σ H _ u Q I r ⟨_, _, rfl, hq, by rw [hr.length]; exact h'.1, Y, _, z, S, R, hr, rel, h'.2, post⟩
  | ref a =>
    obtain ⟨l, hl, hn', h'⟩ := h'
    obtain ⟨xs, h1, h2⟩ := rel.st.seqL hl
    exact (pg_unl hc h hn hst).run pins s σ H _ u Q I r ⟨_, _, rfl, h1, by rw [h2.length]; exact hn', Y, _, z, S, R, h2, rel, h', post⟩
  | fl hq hr => exact (pg_unl hc h hn hst).run pins s σ H _ u Q I r ⟨_, _, rfl, hq.seqL, by rw [hr.length]; exact h'.1, Y, _, z, S, R, hr, rel, h'.2, post⟩
  | _ => exact h'.elim
/-- target = e -/
def wAsg (te : TE3) (g : TG3) : TS3 := fun B z S => te B.xc z S fun d S1 => g B.xc d z S1 B.nx
theorem s3_asg {tg e : Expr} {te : TE3} {g : TG3} (he : E3 X W e te) (hg : G3 X W tg g) (hs : swapsWithSole [tg] e pos.line X.env = pure false := by rfl) (hw : swappedStores [tg] e X.env = pure none := by rfl)
    (h1 : (assignEach [tg] X.env).map (·.2) = [assign tg X.env] := by rfl) : S3 X W (.Assign [tg] e pos) (wAsg te g) := PSimp (ps_asg he hg hs hw h1) fun D σ H ⟨z, S, B, rel, h, d⟩ =>
  ⟨B.xc, z, S, _, ⟨rel, d.xc⟩, h, fun e' S1 v H1 h1 rv rs g k => ⟨B.xc, e', z, S1, B.nx, rv, ⟨rel.grow g rs, d.xc.on g k⟩, h1, (d.on g k).nx⟩⟩
/-- for: an invariant by the turn -/
def nxt (P : Nat → Sl → Sto → Prop) (i : Nat) (z : Sl) (S : Sto) : Prop := ∃ S0, Le S0 S ∧ P i z S0
def wFor (it : TI3) (g : TG3) (tb : TS3) : TS3 := fun B z S => it B.xc z S fun ds G S1 => ∃ P : Nat → Sl → Sto → Prop, P 0 z S1 ∧ (∀ i z S, i ≤ ds.length → P i z S → G S) ∧
  (∀ i d z S, ds[i]? = some d → P i z S → g B.xc d z S fun z2 S2 => tb ⟨nxt P (i + 1), B.rt, B.nx, nxt P (i + 1), B.xc⟩ z2 S2) ∧ (∀ z S, P ds.length z S → B.nx z S)
theorem s3_for {tg iter : Expr} {body : List Stmt} {wi : TI3} {g : TG3} {tb : TS3} (hp : PassesOwn (model X.prog X.w) X.A X.env X.xe) (hc : X.calm = true) (hi : I3 X W tg iter wi) (hg : G3 X W tg g) (hb : S3s X W body tb)
    (hs : ∀ x, foldedSetIterable iter X.env x = pure x := by intro _; rfl) : S3 X W (.For tg iter body [] pos) (wFor wi g tb) := PSimp (ps_for hp hc hi hg hb hs) fun D σ H ⟨z, S, B, rel, h, d⟩ => by
  refine ⟨B.xc, z, S, _, ⟨rel, d.xc⟩, h, fun ds G S1 J H1 ⟨P, p0, stay, turn, done⟩ rs g1 k1 wk => ?_⟩
  refine ⟨fun i m σ' H' => m = ds.length - i ∧ i ≤ ds.length ∧ ∃ z' S', Rel X.K H' σ' S' z' ∧ Gr H1 H' ∧ Kp S1 S' H1 ∧ P i z' S', ⟨ds.length, by simp, Nat.zero_le _, z, S1, rel.grow g1 rs, Gr.refl _, Kp.refl _ _, p0⟩, ?_⟩
  rintro i m σ' H' ⟨rfl, hi, z', S', r', g', k', p'⟩
  by_cases hlt : i < ds.length
  · have back : ∀ z2 S2 σ2 H2 S0 H0, nxt P (i + 1) z2 S2 → Rel X.K H2 σ2 S2 z2 → Gr H1 H0 → Kp S1 S0 H1 → Gr H0 H2 → Kp S0 S2 H0 → ∃ m', m' < ds.length - i ∧ m' = ds.length - (i + 1) ∧ i + 1 ≤ ds.length ∧ ∃ z'' S'', Rel X.K H2 σ2 S'' z'' ∧ Gr H1 H2 ∧ Kp S1 S'' H1 ∧ P (i + 1) z'' S'' :=
      fun z2 S2 σ2 H2 S0 H0 ⟨Sx, le, p⟩ r ga ka gb kb => ⟨ds.length - (i + 1), by omega, rfl, hlt, z2, Sx, r.le le, ga.trans gb, (ka.trans ga kb).le le, p⟩
    refine .inr ⟨wk.go i S' H' hlt (stay i z' S' hi p') r'.st g', fun σ2 H2 => ∃ m', m' < ds.length - i ∧ m' = ds.length - (i + 1) ∧ i + 1 ≤ ds.length ∧ ∃ z'' S'', Rel X.K H2 σ2 S'' z'' ∧ Gr H1 H2 ∧ Kp S1 S'' H1 ∧ P (i + 1) z'' S'', fun σ2 H2 ⟨m', lt, q⟩ => ⟨m', lt, q⟩, fun x H2 y => ?_⟩
    obtain ⟨dd, hd, rv, rs2, g2⟩ := wk.yld i S' H' x H2 hlt (stay i z' S' hi p') r'.st g' y
    refine ⟨B.xc, dd, z', S', _, rv, ⟨r'.grow g2 rs2, d.xc.on (g1.trans (g'.trans g2)) (k1.trans g1 k')⟩, turn i dd z' S' hd p', fun z3 S3 σ3 H3 h3 r3 g3 k3 => ?_⟩
    have gA : Gr H1 H3 := g'.trans (g2.trans g3)
    have kA : Kp S1 S3 H1 := k'.trans (g'.trans g2) k3
    have gB := g1.trans gA
    have kB := k1.trans g1 kA
    refine ⟨z3, S3, _, r3, h3, ⟨fun z4 S4 σ4 H4 h4 r4 g4 k4 => back z4 S4 σ4 H4 S3 H3 h4 r4 gA kA g4 k4, fun e S4 v H4 h4 rv4 rs4 g4 k4 => d.rt e S4 v H4 h4 rv4 rs4 (gB.trans g4) (kB.trans gB k4), fun z4 S4 σ4 H4 h4 r4 g4 k4 => d.nx z4 S4 σ4 H4 h4 r4 (gB.trans g4) (kB.trans gB k4), fun z4 S4 σ4 H4 h4 r4 g4 k4 => back z4 S4 σ4 H4 S3 H3 h4 r4 gA kA g4 k4, d.xc.on gB kB⟩⟩
  · have e : i = ds.length := by omega
    subst e
    exact .inl ⟨wk.stop S' H' (stay _ z' S' hi p') r'.st g', d.nx z' S' σ' H' (done z' S' p') r' (g1.trans g') (k1.trans g1 k')⟩
end

/-! ### calls -/
abbrev Sp3 := List D → Sto → PD → (Ex → Sto → Prop) → Prop
def upSp (K : PySem.W.Frag) (n : Nat) (s : Sp3) : Sp := fun vs H Q E => ∃ ds S R Y, RvL K H vs ds ∧ RS K S H ∧ vs.length = n ∧ s ds S R Y ∧ Post K R S H Q ∧ ∀ m C S' H', Y m S' → ClsA K m C → RS K S' H' → Gr H H' → Kp S S' H → E (.ref C) none H'
def wCall (s : Sp3) (ts : List TE3) : TE3 := fun Y z S R => wArgs ts Y z S fun ds S1 => s ds S1 R (Y z)
/-- a builtin by its values -/
def UpC (K : PySem.W.Frag) (f : List D → Sto → PD → Prop) : List V → Hp → VK → Prop := fun vs H Q => ∃ ds S R, RvL K H vs ds ∧ RS K S H ∧ f ds S R ∧ Post K R S H Q
def wBf (f : List D → Sto → PD → Prop) (ts : List TE3) : TE3 := fun Y z S R => wArgs ts Y z S fun ds S1 => f ds S1 R
section
variable {X : Cx} {W : WX} {k : Nat} {f : Addr} {fd : FuncData} {ps : List Str} {sp : Sp3} {x : Str} {p pos : Pos} {e : Expr} {es : List Expr} {ts : List TE3}
theorem e3_call (F : FnOk X.prog X.w X.K X.mg X.base (L2.CX X.prog X.w) k f fd ps (upSp X.K ps.length sp)) (hr : Room k X.A) (hg : Gl X x) (hm : X.mg x = some (.ref f)) (hk : PySem.W.keepIn X.K (.ref f) = true) (hb : Binds X.K fd ps []) (tk : Takes X W)
    (ha : A3 X W (e :: es) ts) (hn : ts.length = ps.length) (hdb : (x == ("__debug__" : Str)) = false := by decide) (he : starEach (e :: es) X.env = (false, eval e X.env) :: starEach es X.env := by rfl) (hpl : (backTo pos (starEach es X.env)).any (·.1) = false := by rfl) :
    E3 X W (.Call (.Name x p) (e :: es) [] pos) (wCall sp ts) := PEimp (pe_callS F hr hg hm hk hb (fun σ => passAt tk σ) ha hdb he hpl) fun σ H Q ⟨Y, z, S, R, rel, h, post⟩ =>
  ⟨Y, z, S, _, rel, h, fun ds S1 vs H1 h1 rvs rs g k hl => ⟨ds, S1, R, Y z, rvs, rs, by rw [hl, hn], h1, fun d' S' v' H' h' r' s' g' k' => post d' S' v' H' h' r' s' (g.trans g') (k.trans g k'),
    fun m C S' H' y c rs' g' k' => rel.xd z m C S' σ H' y c (rel.toRel.grow (g.trans g') rs') (g.trans g') (k.trans g k')⟩⟩
theorem e3_bf {id : String} {F : List D → Sto → PD → Prop} (hc : CallR X (.builtin id) (UpC X.K F)) (hg : Gl X x) (hm : X.mg x = none) (hv : bootBuiltins x = some (.builtin id)) (ha : A3 X W (e :: es) ts) (hn : x ≠ "__name__" := by decide) (hd : (x == ("__debug__" : Str)) = false := by decide)
    (he : starEach (e :: es) X.env = (false, eval e X.env) :: starEach es X.env := by rfl) (hpl : (backTo pos (starEach es X.env)).any (·.1) = false := by rfl) : E3 X W (.Call (.Name x p) (e :: es) [] pos) (wBf F ts) := PEimp (pe_callB hc hg hm hv ha hn hd he hpl) fun σ H Q ⟨Y, z, S, R, rel, h, post⟩ =>
  ⟨Y, z, S, _, rel, h, fun ds S1 vs H1 h1 rvs rs g k _ => ⟨ds, S1, R, rvs, rs, h1, fun d' S' v' H' h' r' s' g' k' => post d' S' v' H' h' r' s' (g.trans g') (k.trans g k')⟩⟩
theorem e3_bt {id : String} {F : List D → Sto → PD → Prop} (hc : CallR X (.type id) (UpC X.K F)) (hg : Gl X x) (hm : X.mg x = none) (hv : bootBuiltins x = some (.type id)) (ha : A3 X W (e :: es) ts) (hn : x ≠ "__name__" := by decide) (hd : (x == ("__debug__" : Str)) = false := by decide)
    (he : starEach (e :: es) X.env = (false, eval e X.env) :: starEach es X.env := by rfl) (hpl : (backTo pos (starEach es X.env)).any (·.1) = false := by rfl) : E3 X W (.Call (.Name x p) (e :: es) [] pos) (wBf F ts) := PEimp (pe_callTy hc hg hm hv ha hn hd he hpl) fun σ H Q ⟨Y, z, S, R, rel, h, post⟩ =>
  ⟨Y, z, S, _, rel, h, fun ds S1 vs H1 h1 rvs rs g k _ => ⟨ds, S1, R, rvs, rs, h1, fun d' S' v' H' h' r' s' g' k' => post d' S' v' H' h' r' s' (g.trans g') (k.trans g k')⟩⟩
end

/-! ### defs -/
def start3 (N : List Str) (ds : List D) : Sl := ds.map some ++ List.replicate (N.length - ds.length) none
theorem rel_start {K : PySem.W.Frag} {H : Hp} {S : Sto} {N : List Str} {vs : List V} {ds : List D} (r : RvL K H vs ds) (rs : RS K S H) : Rel K H (L2.start N vs) S (start3 N ds) := by
  refine ⟨?_, fun i d e => ?_, rs⟩
  · unfold L2.start start3
    rw [List.length_append, List.length_append, List.length_map, List.length_map, List.length_replicate, List.length_replicate, r.length]
  · unfold start3 at e
    unfold L2.start
    by_cases hi : i < ds.length
    · rw [List.getElem?_append_left (by rw [List.length_map]; exact hi), List.getElem?_map] at e
      cases q : ds[i]? with
      | none => rw [q] at e; cases e
      | some d' =>
        rw [q] at e
        have e' : d' = d := Option.some.inj (Option.some.inj e)
        subst e'
        obtain ⟨v, h1, h2⟩ := r.get q
        exact ⟨v, by rw [List.getElem?_append_left (by rw [List.length_map, r.length]; exact hi), List.getElem?_map, h1]; rfl, h2⟩
    · rw [List.getElem?_append_right (by rw [List.length_map]; omega), List.getElem?_replicate] at e
      split at e <;> cases e
/-- a def's ends: at its return something may be forgotten -/
def endsOf (R : PD) (Y : Ex → Sto → Prop) : Ends3 := ⟨fun _ S => ∃ S0, Le S0 S ∧ R .non S0, fun d S => ∃ S0, Le S0 S ∧ R d S0, fun _ _ => False, fun _ _ => False, fun _ n S => ∃ S0, Le S0 S ∧ Y n S0⟩
section
variable {P : Program} {w : World} {K : PySem.W.Frag} {mg : Str → Option Value} {base : Heap}
theorem down_def {R : PD} {Y : Ex → Sto → Prop} {S : Sto} {H : Hp} {Q : VK} {E : XK} (p : Post K R S H Q) (x : ∀ m C S' H', Y m S' → ClsA K m C → RS K S' H' → Gr H H' → Kp S S' H → E (.ref C) none H') : Down K (fun c d _ H => E c d H) (endsOf R Y) { nx := fun _ H' => Q .non H', rt := Q } S H :=
  ⟨fun z S' σ' H' ⟨S0, le, h⟩ r g k => p .non S0 .non H' h .non (r.st.le le) g (k.le le), fun d S' v H' ⟨S0, le, h⟩ rv rs g k => p d S0 v H' h rv (rs.le le) g (k.le le), fun _ _ _ _ h _ _ _ => h, fun _ _ _ _ h _ _ _ => h,
    fun z n C S' σ' H' ⟨S0, le, h⟩ c r g k => x n C S0 H' h c (r.st.le le) g (k.le le)⟩
end
end R3

/-! R3, part C: equality, in, is, len, isinstance, items stored, lists' methods. -/
namespace R3
open PySem PySem.Spec PyProof.Rows L2

/-! ### data as a whole, lists read out of the store -/
mutual
inductive Sn (S : Sto) : D → PyData → Prop
  | non : Sn S .non .none
  | bl (b : Bool) : Sn S (.bl b) (.bool b)
  | int (i : Int) : Sn S (.int i) (.int i)
  | str (x : Str) : Sn S (.str x) (.str x)
  | tup {ds : List D} {ps : List PyData} : SnL S ds ps → Sn S (.tup ds) (.tuple ps)
  | lst {a : Addr} {ds : List D} {ps : List PyData} : IsL S a ds → SnL S ds ps → Sn S (.ref a) (.list ps)
  | fl {ds : List D} {ps : List PyData} : SnL S ds ps → Sn S (.fl ds) (.list ps)
inductive SnL (S : Sto) : List D → List PyData → Prop
  | nil : SnL S [] []
  | cons {d : D} {ds : List D} {p : PyData} {ps : List PyData} : Sn S d p → SnL S ds ps → SnL S (d :: ds) (p :: ps)
end
section
variable {K : PySem.W.Frag} {H : Hp} {S : Sto}
mutual
theorem Sn.dp (rs : RS K S H) : ∀ {p : PyData} {d : D} {v : V}, Sn S d p → Rv K H v d → Dp K H v p
  | .none, _, _, h, r => by cases h; cases r; exact .non
  | .bool b, _, _, h, r => by cases h; cases r; exact .bl b
  | .int i, _, _, h, r => by cases h; cases r; exact .int i
  | .str x, _, _, h, r => by cases h; cases r; exact .str x
  | .tuple ps, _, _, h, r => by
    cases h with
    | tup hs => cases r with
      | tup hq hr => exact .tup hq (SnL.dp rs hs hr)
  | .list ps, _, _, h, r => by
    cases h with
    | lst hl hs =>
      cases r
      obtain ⟨xs, h1, h2⟩ := rs.seqL hl
      exact .lst h1 (SnL.dp rs hs h2)
    | fl hs => cases r with
      | fl hq hr => exact .lst hq.seqL (SnL.dp rs hs hr)
  | .dict _, _, _, h, _ => by cases h
theorem SnL.dp (rs : RS K S H) : ∀ {ps : List PyData} {ds : List D} {vs : List V}, SnL S ds ps → RvL K H vs ds → DpAll K H vs ps
  | [], _, _, h, r => by cases h; cases r; exact .nil
  | p :: ps, _, _, h, r => by
    cases h with
    | cons h1 h2 => cases r with
      | cons r1 r2 => exact .cons (Sn.dp rs h1 r1) (SnL.dp rs h2 r2)
end
end
def okP (p : PyData) : Prop := SeqAt.shaped p = true
/-- two things that == compares as data -/
def eqD (neg : Bool) (x y : D) (S : Sto) (R : PD) : Prop := ∃ p q, Sn S x p ∧ Sn S y q ∧ okP p ∧ okP q ∧ R (.bl (if neg then !PyData.eqv p q else PyData.eqv p q)) S
def fEq : F2 := fun x y S R => match x, y with
  | .int i, .int j => R (.bl (decide (i = j))) S
  | .str i, .str j => R (.bl (decide (i = j))) S
  | .bl i, .bl j => R (.bl (decide (i = j))) S
  | .non, .non => R (.bl true) S
  | x, y => eqD false x y S R
def fNe : F2 := fun x y S R => match x, y with
  | .int i, .int j => R (.bl (!decide (i = j))) S
  | .str i, .str j => R (.bl (!decide (i = j))) S
  | .bl i, .bl j => R (.bl (!decide (i = j))) S
  | .non, .non => R (.bl false) S
  | x, y => eqD true x y S R
/-- a is b: None, truths -/
def fIs : F2 := fun x y S R => match x, y with
  | .bl i, .bl j => R (.bl (decide (i = j))) S
  | .non, .non => R (.bl true) S
  | .bl _, .non => R (.bl false) S
  | .int _, .non => R (.bl false) S
  | .str _, .non => R (.bl false) S
  | .tup _, .non => R (.bl false) S
  | .ref _, .non => R (.bl false) S
  | .ty _, .non => R (.bl false) S
  | .fl _, .non => R (.bl false) S
  | _, _ => False
def fIsNot : F2 := fun x y S R => match x, y with
  | .bl i, .bl j => R (.bl (!decide (i = j))) S
  | .non, .non => R (.bl false) S
  | .bl _, .non => R (.bl true) S
  | .int _, .non => R (.bl true) S
  | .str _, .non => R (.bl true) S
  | .tup _, .non => R (.bl true) S
  | .ref _, .non => R (.bl true) S
  | .ty _, .non => R (.bl true) S
  | .fl _, .non => R (.bl true) S
  | _, _ => False
section
variable {X : Cx} {W : WX}
theorem dV_int {i j : Int} : decide (V.int i = V.int j) = decide (i = j) := by rw [Bool.eq_iff_iff]; simp
theorem dV_str {i j : Str} : decide (V.str i = V.str j) = decide (i = j) := by rw [Bool.eq_iff_iff]; simp
theorem dV_bl {i j : Bool} : decide (V.bl i = V.bl j) = decide (i = j) := by rw [Bool.eq_iff_iff]; simp
theorem o3_eq (hu : X.A.units + 64 < cLine) : OpR X (compareOp .Eq) (Up2 X.K fEq) := by
  rintro pins s σ H x y v u Q I rx ry ⟨d, e, S, R, rd, re, rs, h, post⟩
  have gen : eqD false d e S R → wpAny (model X.prog X.w) X.A (compareOp .Eq v u) (EP X pins σ Q) X.xe s := fun ⟨p, q, hp, hq, op, oq, hR⟩ =>
    op_eqD hu pins s σ H _ _ v u Q I rx ry ⟨p, q, hp.dp rs rd, hq.dp rs re, op, oq, post.now hR (.bl _) rs⟩
  cases rd <;> cases re <;> first
    | exact gen h
    | exact op_eq pins s σ H _ _ v u Q I rx ry ⟨rfl, by rw [dV_int]; exact post.now h (.bl _) rs⟩
    | exact op_eq pins s σ H _ _ v u Q I rx ry ⟨rfl, by rw [dV_str]; exact post.now h (.bl _) rs⟩
    | exact op_eq pins s σ H _ _ v u Q I rx ry ⟨rfl, by rw [dV_bl]; exact post.now h (.bl _) rs⟩
    | exact op_eq pins s σ H _ _ v u Q I rx ry ⟨rfl, post.now h (.bl _) rs⟩
theorem o3_ne (hu : X.A.units + 64 < cLine) : OpR X (compareOp .NotEq) (Up2 X.K fNe) := by
  rintro pins s σ H x y v u Q I rx ry ⟨d, e, S, R, rd, re, rs, h, post⟩
  have gen : eqD true d e S R → wpAny (model X.prog X.w) X.A (compareOp .NotEq v u) (EP X pins σ Q) X.xe s := fun ⟨p, q, hp, hq, op, oq, hR⟩ =>
    op_neD hu pins s σ H _ _ v u Q I rx ry ⟨p, q, hp.dp rs rd, hq.dp rs re, op, oq, post.now hR (.bl _) rs⟩
  cases rd <;> cases re <;> first
    | exact gen h
    | exact op_ne pins s σ H _ _ v u Q I rx ry ⟨rfl, by rw [dV_int]; exact post.now h (.bl _) rs⟩
    | exact op_ne pins s σ H _ _ v u Q I rx ry ⟨rfl, by rw [dV_str]; exact post.now h (.bl _) rs⟩
    | exact op_ne pins s σ H _ _ v u Q I rx ry ⟨rfl, by rw [dV_bl]; exact post.now h (.bl _) rs⟩
    | exact op_ne pins s σ H _ _ v u Q I rx ry ⟨rfl, post.now h (.bl _) rs⟩
theorem o3_is : OpR X (compareOp .Is) (Up2 X.K fIs) := by
  rintro pins s σ H x y v u Q I rx ry ⟨d, e, S, R, rd, re, rs, h, post⟩
  cases rd <;> cases re <;> first
    | exact h.elim
    | exact op_is_bl pins s σ H _ _ v u Q I rx ry ⟨_, _, rfl, rfl, post.now h (.bl _) rs⟩
    | exact op_isN pins s σ H _ _ v u Q I rx ry ⟨rfl, post.now h (.bl _) rs⟩
theorem o3_isnot : OpR X (compareOp .IsNot) (Up2 X.K fIsNot) := by
  rintro pins s σ H x y v u Q I rx ry ⟨d, e, S, R, rd, re, rs, h, post⟩
  cases rd <;> cases re <;> first
    | exact h.elim
    | exact op_isnot_bl pins s σ H _ _ v u Q I rx ry ⟨_, _, rfl, rfl, post.now h (.bl _) rs⟩
    | exact op_notN pins s σ H _ _ v u Q I rx ry ⟨rfl, post.now h (.bl _) rs⟩
end

/-! ### builtins -/
def fLen : List D → Sto → PD → Prop := fun ds S R => match ds with
  | [.str s] => s.length ≤ sizeLine ∧ R (.int s.length) S
  | [.tup l] => R (.int l.length) S
  | [.fl l] => R (.int l.length) S
  | [.ref a] => ∃ l, IsL S a l ∧ R (.int l.length) S
  | _ => False
def fAbs : List D → Sto → PD → Prop := fun ds S R => match ds with
  | [.int i] => R (.int (if i < 0 then -i else i)) S
  | _ => False
def fMin2 : List D → Sto → PD → Prop := fun ds S R => match ds with
  | [.int i, .int j] => R (.int (if j < i then j else i)) S
  | _ => False
def fMax2 : List D → Sto → PD → Prop := fun ds S R => match ds with
  | [.int i, .int j] => R (.int (if j > i then j else i)) S
  | _ => False
inductive C3 | int | bool | str | tuple | list
def C3.name : C3 → String
  | .int => "int" | .bool => "bool" | .str => "str" | .tuple => "tuple" | .list => "list"
def fIsi (c : C3) : D → Sto → PD → Prop := fun x S R => match x with
  | .ref a => (∃ l, IsL S a l) ∧ R (.bl (match c with | .list => true | _ => false)) S
  | .non => R (.bl false) S
  | .bl _ => R (.bl (match c with | .bool => true | .int => true | _ => false)) S
  | .int _ => R (.bl (match c with | .int => true | _ => false)) S
  | .str _ => R (.bl (match c with | .str => true | _ => false)) S
  | .tup _ => R (.bl (match c with | .tuple => true | _ => false)) S
  | .fl _ => R (.bl (match c with | .list => true | _ => false)) S
  | .ty _ => False
section
variable {X : Cx} {W : WX}
theorem c3_len : CallR X (.builtin "len") (UpC X.K fLen) := by
  rintro pins s σ H xs us Q I r ⟨ds, S, R, rv, rs, h, post⟩
  cases rv with
  | nil => exact h.elim
  | cons r1 r2 =>
    cases r2 with
    | cons _ _ => cases r1 <;> exact h.elim
    | nil =>
      cases r1 with
      | str x => exact call_len pins s σ H _ us Q I r ⟨_, _, rfl, ⟨h.1, rfl⟩, post.now h.2 (.int _) rs⟩
      | ref a =>
        obtain ⟨l, hl, h⟩ := h
        obtain ⟨xs, h1, h2⟩ := rs.seqL hl
        exact call_len pins s σ H _ us Q I r ⟨_, _, rfl, .inl ⟨xs, h1, rfl⟩, by rw [h2.length]; exact post.now h (.int _) rs⟩
      | tup hq hr => exact call_len pins s σ H _ us Q I r ⟨_, _, rfl, .inr ⟨_, hq, rfl⟩, by rw [hr.length]; exact post.now h (.int _) rs⟩
      | fl hq hr => exact call_len pins s σ H _ us Q I r ⟨_, _, rfl, .inl ⟨_, hq.seqL, rfl⟩, by rw [hr.length]; exact post.now h (.int _) rs⟩
      | _ => exact h.elim
theorem c3_abs : CallR X (.builtin "abs") (UpC X.K fAbs) := by
  rintro pins s σ H xs us Q I r ⟨ds, S, R, rv, rs, h, post⟩
  cases rv with
  | nil => exact h.elim
  | cons r1 r2 =>
    cases r2 with
    | cons _ _ => cases r1 <;> exact h.elim
    | nil =>
      cases r1 with
      | int i => exact call_abs pins s σ H _ us Q I r ⟨_, rfl, post.now h (.int _) rs⟩
      | _ => exact h.elim
theorem two_ints {K : PySem.W.Frag} {H : Hp} {xs : List V} {ds : List D} {P : List D → Prop} (r : RvL K H xs ds) (h : P ds) (no : ∀ ds, P ds → ∃ i j, ds = [.int i, .int j]) : ∃ i j, xs = [.int i, .int j] ∧ P [.int i, .int j] := by
  obtain ⟨i, j, rfl⟩ := no ds h
  cases r with
  | cons r1 r2 => cases r2 with
    | cons r3 r4 => cases r4; cases r1; cases r3; exact ⟨i, j, rfl, h⟩
theorem c3_min2 (hc : X.calm = true) : CallR X (.builtin "min") (UpC X.K fMin2) := by
  rintro pins s σ H xs us Q I r ⟨ds, S, R, rv, rs, h, post⟩
  obtain ⟨i, j, rfl, h⟩ := two_ints (P := fun ds => fMin2 ds S R) rv h (fun ds h => by
    unfold fMin2 at h
    split at h
    · exact ⟨_, _, rfl⟩
    · exact h.elim)
  exact call_min2 hc pins s σ H _ us Q I r ⟨_, _, rfl, post.now h (.int _) rs⟩
theorem c3_max2 (hc : X.calm = true) : CallR X (.builtin "max") (UpC X.K fMax2) := by
  rintro pins s σ H xs us Q I r ⟨ds, S, R, rv, rs, h, post⟩
  obtain ⟨i, j, rfl, h⟩ := two_ints (P := fun ds => fMax2 ds S R) rv h (fun ds h => by
    unfold fMax2 at h
    split at h
    · exact ⟨_, _, rfl⟩
    · exact h.elim)
  exact call_max2 hc pins s σ H _ us Q I r ⟨_, _, rfl, post.now h (.int _) rs⟩
theorem kitB_all (c : C3) : kitB "NoneType" c.name = some false ∧ kitB "bool" c.name = some (match c with | .bool => true | .int => true | _ => false) ∧ kitB "int" c.name = some (match c with | .int => true | _ => false) ∧
    kitB "str" c.name = some (match c with | .str => true | _ => false) ∧ kitB "tuple" c.name = some (match c with | .tuple => true | _ => false) ∧ kitB "list" c.name = some (match c with | .list => true | _ => false) := by
  cases c <;> decide +kernel
theorem c3_isi (c : C3) : CallR X (.builtin "isinstance") (fun vs H Q => ∃ d v S R, vs = [v, .ty c.name] ∧ Rv X.K H v d ∧ RS X.K S H ∧ fIsi c d S R ∧ Post X.K R S H Q) := by
  rintro pins s σ H xs us Q I r ⟨d, v, S, R, rfl, rv, rs, h, post⟩
  obtain ⟨k1, k2, k3, k4, k5, k6⟩ := kitB_all c
  cases rv with
  | non => exact call_isi pins s σ H _ us Q I r ⟨_, _, _, _, _, rfl, .ty _, .base .non, kit_ty k1, post.now h (.bl _) rs⟩
  | bl b => exact call_isi pins s σ H _ us Q I r ⟨_, _, _, _, _, rfl, .ty _, .base (.bl b), kit_ty k2, post.now h (.bl _) rs⟩
  | int i => exact call_isi pins s σ H _ us Q I r ⟨_, _, _, _, _, rfl, .ty _, .base (.int i), kit_ty k3, post.now h (.bl _) rs⟩
  | str x => exact call_isi pins s σ H _ us Q I r ⟨_, _, _, _, _, rfl, .ty _, .base (.str x), kit_ty k4, post.now h (.bl _) rs⟩
  | ref a =>
    obtain ⟨⟨l, hl⟩, h⟩ := h
    obtain ⟨xs, h1, h2⟩ := rs _ _ hl
    exact call_isi pins s σ H _ us Q I r ⟨_, _, _, _, _, rfl, .ty _, .base (.lst h1), kit_ty k6, post.now h (.bl _) rs⟩
  | fl hq hr =>
    have ty : ∀ {a xs}, SqF X.K H a xs → TyX X.K H (.ref a) (.type "list") := fun {a xs} q => by
      rcases q with ⟨o, q⟩ | ⟨o, its, n, q, hc, _⟩
      · exact .base (.frz q)
      · exact .kList q hc
    exact call_isi pins s σ H _ us Q I r ⟨_, _, _, _, _, rfl, .ty _, ty hq, kit_ty k6, post.now h (.bl _) rs⟩
  | ty n => exact h.elim
  | tup hq hr =>
    have ty : ∀ {a xs}, SqT X.K H a xs → TyX X.K H (.ref a) (.type "tuple") := fun {a xs} q => by
      rcases q with (q | ⟨o, q⟩) | ⟨o, its, n, q, hc, _⟩
      · exact .base (.tup q)
      · exact .fTuple q
      · exact .kTuple q hc
    exact call_isi pins s σ H _ us Q I r ⟨_, _, _, _, _, rfl, .ty _, ty hq, kit_ty k5, post.now h (.bl _) rs⟩
def wIsi (c : C3) (te : TE3) : TE3 := fun Y z S R => te Y z S fun d S1 => fIsi c d S1 R
theorem e3_isi (c : C3) {x : Str} {y : Str} {p p2 pos : Pos} {e : Expr} {te : TE3} (hg : Gl X x) (hm : X.mg x = none) (hv : bootBuiltins x = some (.builtin "isinstance")) (he : E3 X W e te) (hgy : Gl X y) (hmy : X.mg y = none) (hvy : bootBuiltins y = some (.type c.name))
    (hn : x ≠ "__name__" := by decide) (hd : (x == ("__debug__" : Str)) = false := by decide) (hny : y ≠ "__name__" := by decide) (hdy : (y == ("__debug__" : Str)) = false := by decide)
    (hs : starEach (e :: [.Name y p2]) X.env = (false, eval e X.env) :: starEach [.Name y p2] X.env := by rfl) (hpl : (backTo pos (starEach [.Name y p2] X.env)).any (·.1) = false := by rfl) :
    E3 X W (.Call (.Name x p) [e, .Name y p2] [] pos) (wIsi c te) := PEimp (pe_callB (c3_isi c) hg hm hv (pa_cons he (pa_cons (pe_bltn (v := .ty c.name) hgy hmy hvy rfl hny hdy) pa_nil) hs) hn hd hs hpl) fun σ H Q ⟨Y, z, S, R, rel, h, post⟩ =>
  ⟨Y, z, S, _, rel, h, fun d S1 v H1 h1 rv rs g k => ⟨d, v, S1, R, rfl, rv, rs, h1, fun d' S' v' H' h' r' s' g' k' => post d' S' v' H' h' r' s' (g.trans g') (k.trans g k')⟩⟩
end

/-! ### an item stored -/
def fSetL : D → D → D → Sto → (Sto → Prop) → Prop := fun o i v S R => match o, i with
  | .ref a, .int k => ∃ l j, S a = some (.lst l) ∧ ixN l.length k = some j ∧ R (put S a (.lst (l.set j v)))
  | _, _ => False
def gSub3 (to ti : TE3) (f : D → D → D → Sto → (Sto → Prop) → Prop) : TG3 := fun Y v z S R => to Y z S fun o S1 => ti Y z S1 fun i S2 => f o i v S2 fun S3 => R z S3
def UpSet (K : PySem.W.Frag) (f : D → D → D → Sto → (Sto → Prop) → Prop) : TSet := fun o i v H Q => ∃ d e g S R, Rv K H o d ∧ Rv K H i e ∧ Rv K H v g ∧ RS K S H ∧ f d e g S R ∧ ∀ S' H', R S' → RS K S' H' → Gr H H' → Kp S S' H → Q H'
section
variable {X : Cx} {W : WX} {pos : Pos}
theorem p3_setL : PSet X (UpSet X.K fSetL) := by
  rintro pins s σ H o i v ov iv u Q I ro ri rv ⟨d, e, g, S, R, rd, re, rg, rs, h, post⟩
  cases rd with
  | ref a =>
    cases re <;> first | exact h.elim | skip
    obtain ⟨l, j, h1, h2, h3⟩ := h
    obtain ⟨xs, q1, q2⟩ := rs _ _ h1
    refine set_list pins s σ H _ _ v ov iv u Q I ro ri rv ⟨a, xs, _, j, rfl, rfl, q1, by rw [q2.length]; exact h2, ?_⟩
    exact post _ _ h3 (rs.setL q1 (q2.set rg j)) (Gr.set q1 (by intro z; simp) (by intro z y; simp)) (Kp.set h1)
  | _ => exact h.elim
theorem g3_sub {o i : Expr} {to ti : TE3} {f : D → D → D → Sto → (Sto → Prop) → Prop} (ho : E3 X W o to) (hi : E3 X W i ti) (hs : PSet X (UpSet X.K f))
    (ha : ∀ v, assign (.Subscript o i pos) X.env v = (do
      let ov ← holding [v] (eval o X.env)
      let iv ← holding [v, ov] (eval i X.env)
      standAt pos
      holding [v, ov, iv] (setItem ov iv v)
      release [v, ov, iv] []) := by intro _; rfl) : G3 X W (.Subscript o i pos) (gSub3 to ti f) := PGimp (pg_sub ho hi hs ha) fun v σ H Q ⟨Y, g, z, S, R, rv, rel, h, post⟩ =>
  ⟨Y, z, S, _, rel, h, fun d S1 ov H1 h1 rd rs1 g1 k1 => ⟨Y, z, S1, _, rel.grow g1 rs1 k1, h1, fun e S2 iv H2 h2 re rs2 g2 k2 =>
    ⟨d, e, g, S2, fun S3 => R z S3, rd.mono g2, re, rv.mono (g1.trans g2), rs2, h2, fun S' H' h' rs' g' k' => post z S' σ H' h' (rel.toRel.grow (g1.trans (g2.trans g')) rs') (g1.trans (g2.trans g')) (k1.trans g1 (k2.trans g2 k'))⟩⟩⟩
end
end R3

/-! R3, part D: defs as the text has them, the law's end. -/
namespace R3
open PySem PySem.Spec PyProof.Rows L2

def wNever : TS3 := fun _ _ _ => False
theorem s3_never {X : Cx} {W : WX} {st : Stmt} : S3 X W st wNever := PSimp ps_never fun _ _ _ ⟨_, _, _, _, h, _⟩ => h.elim
theorem s3s_never {X : Cx} {W : WX} {st : List Stmt} : S3s X W st wNever := PSsimp pss_never fun _ _ _ ⟨_, _, _, _, h, _⟩ => h.elim

/-- something may be forgotten behind an expression -/
def wF (t : TE3) : TE3 := fun Y z S R => t Y z S fun d S1 => ∃ S0, Le S0 S1 ∧ R d S0
theorem e3_forget {X : Cx} {W : WX} {e : Expr} {t : TE3} (h : E3 X W e t) : E3 X W e (wF t) := PEimp h fun σ H Q ⟨Y, z, S, R, rel, h, post⟩ =>
  ⟨Y, z, S, _, rel, h, fun d S1 v H1 ⟨S0, le, h1⟩ rv rs g k => post d S0 v H1 h1 rv (rs.le le) g (k.le le)⟩
/-- but at n, all is as it was -/
def Lx (n : Addr) (S S' : Sto) : Prop := ∀ a o, a ≠ n → S a = some o → S' a = some o
theorem Lx.refl (n : Addr) (S : Sto) : Lx n S S := fun _ _ _ h => h
theorem Lx.own {n : Addr} {S S' : Sto} {o : SO} (h : Lx n S S') : Lx n S (put S' n o) := fun a u ne e => by rw [put_ne ne]; exact h a u ne e
theorem Lx.new {n p : Addr} {S S' : Sto} {o : SO} (h : Lx n S S') (hp : S' p = none) : Lx n S (put S' p o) := fun a u ne e => Le.put hp a u (h a u ne e)
theorem Lx.le {n : Addr} {S S' : Sto} {o : SO} (h : Lx n S S') : Le (put S n o) (put S' n o) := fun a u e => by
  by_cases q : a = n
  · subst q; rw [put_same] at e ⊢; exact e
  · rw [put_ne q] at e ⊢; exact h a u q e

/-- the function object at f -/
def IsFd (K : PySem.W.Frag) (f : Addr) (fd : FuncData) : Prop := ∃ oc od osl, K.lookup f = some ⟨oc, od, .func fd, osl⟩
theorem IsFd.one {K : PySem.W.Frag} {f : Addr} {fd gd : FuncData} (a : IsFd K f fd) (b : IsFd K f gd) : fd = gd := by
  obtain ⟨_, _, _, h1⟩ := a
  obtain ⟨_, _, _, h2⟩ := b
  rw [h1] at h2
  have e := Option.some.inj h2
  injection e with _ _ e3 _
  injection e3
/-- a def of the text, behind the top -/
def Has (K : PySem.W.Frag) (mg : Str → Option Value) (x : Str) (st : Stmt) (ps : List Str) : Prop :=
  ∃ f fd, mg x = some (.ref f) ∧ IsFd K f fd ∧ Fun K x x st f fd ∧ ∀ us : List Value, us.length = ps.length → bindArgs fd ⟨us, []⟩ = pure (ps.zip us)
theorem has_mk {K : PySem.W.Frag} {mg : Str → Option Value} {x : Str} {st : Stmt} {ps : List Str} {f : Addr} {oc : Value} {od an : Option Addr} {osl : Array (Option Value)} {kV doc pm cdv ct : Value}
    (m : mg x = some (.ref f)) (l : K.lookup f = some ⟨oc, od, .func (PySem.W.fnOf x x (defArgs st) (defBody st) (defScope st) .none kV doc pm an cdv ct), osl⟩)
    (c : PySem.W.codeIn K cdv x = true) (k : PySem.W.keepIn K (.ref f) = true)
    (h : ∀ (kV doc pm : Value) (an : Option Addr) (cdv ct : Value) (us : List Value), us.length = ps.length → bindArgs (PySem.W.fnOf x x (defArgs st) (defBody st) (defScope st) .none kV doc pm an cdv ct) ⟨us, []⟩ = pure (ps.zip us)) : Has K mg x st ps :=
  ⟨f, _, m, ⟨_, _, _, l⟩, fun_mk l c k, h kV doc pm an cdv ct⟩
/-- the def named x keeps the promise sp, by level k -/
def OkF (P : Program) (w : World) (K : PySem.W.Frag) (mg : Str → Option Value) (base : Heap) (k : Nat) (x : Str) (ps : List Str) (sp : Sp3) : Prop :=
  ∃ f fd, mg x = some (.ref f) ∧ IsFd K f fd ∧ PySem.W.keepIn K (.ref f) = true ∧ Binds K fd ps [] ∧ FnOk P w K mg base (L2.CX P w) k f fd ps (upSp K ps.length sp)
section
variable {P : Program} {w : World} {K : PySem.W.Frag} {mg : Str → Option Value} {base : Heap}
theorem OkF.mono {j k : Nat} {x : Str} {ps : List Str} {sp : Sp3} (h : OkF P w K mg base j x ps sp) (l : j ≤ k) : OkF P w K mg base k x ps sp := by
  obtain ⟨f, fd, h1, h2, h3, h4, h5⟩ := h
  exact ⟨f, fd, h1, h2, h3, h4, h5.mono l⟩
/-- a def; what it lets out is promised by its ways Y -/
theorem OkF.def3 {x : Str} {st : Stmt} {N ps : List Str} {k : Nat} {sp : Sp3} {t : TS3} (F : Has K mg x st ps) (S : FnScope N ps (defScope st))
    (vc : ∀ ds S R Y, sp ds S R Y → t (endsOf R Y) (start3 N ds) S)
    (hbody : ∀ (f : Addr) (cdv : Value) (A : Around) (outer : List Env) (s : Shared) (H : Hp) (E : XK) (W : WX), Room k (A.deeper (envOfC x (defScope st) s.heap.objs.size f cdv)) → (A.deeper (envOfC x (defScope st) s.heap.objs.size f cdv)).units + 70 < cLine →
      Takes (cxOf (L2.CX P w) P w K mg base N x (defScope st) f cdv A outer s H E) W → PassesOwn (model P w) (cxOf (L2.CX P w) P w K mg base N x (defScope st) f cdv A outer s H E).A (cxOf (L2.CX P w) P w K mg base N x (defScope st) f cdv A outer s H E).env (cxOf (L2.CX P w) P w K mg base N x (defScope st) f cdv A outer s H E).xe →
      S3s (cxOf (L2.CX P w) P w K mg base N x (defScope st) f cdv A outer s H E) W (defBody st) t) : OkF P w K mg base (k + 1) x ps sp := by
  obtain ⟨f, fd, h1, h2, h3, h4⟩ := F
  refine ⟨f, fd, h1, h2, h3.kp, .all h4, ?_⟩
  refine h3.okX S (fun vs H Q E ⟨ds, S, R, Y, rv, rs, hl, h, _⟩ => hl) fun cdv A outer s H vs Q E hr ⟨ds, S, R, Y, rv, rs, hl, h, post, hx⟩ => ?_
  have hU := hr.un
  exact ⟨_, hbody f cdv A outer s H E (fun c d _ H => E c d H) hr (by omega) (takes_of rfl rfl rfl rfl) PassesOwn.leaving, start3 N ds, S, endsOf R Y, rel_start rv rs, vc ds S R Y h, down_def post hx⟩
end
section
variable {X : Cx} {W : WX} {j k : Nat} {ps : List Str} {sp : Sp3} {x : Str} {p pos : Pos} {e : Expr} {es : List Expr} {ts : List TE3}
theorem e3_callF (F : OkF X.prog X.w X.K X.mg X.base k x ps sp) (tk : Takes X W) (hr : Room k X.A) (hg : Gl X x) (ha : A3 X W (e :: es) ts) (hn : ts.length = ps.length := by rfl)
    (hdb : (x == ("__debug__" : Str)) = false := by decide) (he : starEach (e :: es) X.env = (false, eval e X.env) :: starEach es X.env := by rfl) (hpl : (backTo pos (starEach es X.env)).any (·.1) = false := by rfl) :
    E3 X W (.Call (.Name x p) (e :: es) [] pos) (wCall sp ts) := by
  obtain ⟨f, fd, h1, h2, h3, h4, h5⟩ := F
  exact e3_call h5 hr hg h1 h3 h4 tk ha hn hdb he hpl
end

/-! ### the law's end -/
/-- what a law's call promises -/
def sp_law : Sp3 := fun ds S R _ => ∃ ns : List Int, ds = [.fl (ns.map D.int)] ∧ ns.length ≤ 63 ∧ (∀ z ∈ ns, Bits 1048576 z) ∧ ∀ S', R (.bl true) S'
theorem bits_of_int {z : Int} {n : Nat} (h : Builtin.Int.intBits z ≤ n) : Bits n z := by
  unfold Builtin.Int.intBits at h
  unfold Bits
  split at h
  · rename_i e
    have e2 : z = 0 := by simpa using e
    subst e2
    exact Nat.pos_of_ne_zero (by simp)
  · exact Nat.lt_of_lt_of_le (Nat.lt_log2_self) (Nat.pow_le_pow_right (by decide) h)
theorem law_of {l : PySem.W.OpenLaw} {k : Nat} {q : Program} {loose : List Str} {XP : (Str → Option Value) → Heap → Prop} {YP : World → Heap → Prop} {d : DefRec} {K : Params → PySem.W.Frag} {x : Str}
    (hn : l.most = some 63) (hdf : d.params.defaults = []) (hr : Room k callerA) (hY : ∀ (w : World) (h : Heap), YP w h → (K w.params).In h)
    (F : ∀ (w : World) (mg : Str → Option Value) (fa : Addr) (h : Heap), (K w.params).In h → h.Ns mainGlobals mg → mg d.name = some (.ref fa) →
      ∃ st, Has (K w.params) mg d.name st [x] ∧ ∀ base : Heap, (K w.params).In base → base.Ns mainGlobals mg → OkF l.prog w (K w.params) mg base k d.name [x] sp_law) :
    PySem.W.WalkO q loose XP YP l.row.toRowW d [] (fun f vs => PySem.call f vs) := by
  refine L2.walk_ofB (K := K) (n := 63) (k := k) (x := x) (CX := fun w => L2.CX l.prog w) (sp := fun w => upSp (K w.params) 1 sp_law) hn (by decide) hdf hr hY (fun w mg fa h KX G hmg => ?_) (fun w H a ns hl hb hO hS => ?_) ?_
  · obtain ⟨st, ⟨f, fd, h1, h2, h3, h4⟩, hF⟩ := F w mg fa h KX G hmg
    rw [hmg] at h1
    cases h1
    refine ⟨fd, fun s u => .of_eq (h4 [u] rfl), fun base hb hg => ?_⟩
    obtain ⟨f', fd', g1, g2, g3, g4, g5⟩ := hF base hb hg
    rw [hmg] at g1
    cases g1
    have e := h2.one g2
    subst e
    exact g5
  · have ho : SqF (K w.params) H a (ns.map V.int) := by
      rcases hS with (h | h) | h
      · rcases hO a with e | ⟨o, xs, e⟩
        · rw [e] at h; cases h
        · rw [e] at h; cases h
      · exact .inl h
      · exact .inr h
    exact ⟨[.fl (ns.map D.int)], fun _ => none, fun d _ => d = .bl true, fun _ _ => False, .cons (.fl ho RvL.ofInts) .nil, fun b u e => (nomatch e), rfl, ⟨ns, rfl, hl, fun z hz => bits_of_int (hb z hz), fun _ => rfl⟩, fun d S' v H' h rv _ _ _ => by subst h; cases rv; rfl, fun _ _ _ _ h _ _ _ _ => h.elim⟩
  · rintro w H s e s' ⟨_, _, _, _, _, _, _, _, _, _, _, _, z⟩
    exact z
end R3

/-! R3, part E: the program's own errors: raise, try .. except X as e, isinstance of what was caught. -/
namespace R3
open PySem PySem.Spec PyProof.Rows L2

/-! ### classes -/
inductive Cl where
  | roof | value | ex (e : Ex)
def Cl.nm : Cl → String
  | .roof => "RoofError" | .value => "ValueError" | .ex e => e.nm
def isSub (n : Ex) : Cl → Bool
  | .roof => true
  | .value => true
  | .ex m => decide (n = m)
inductive ClM (mg : Str → Option Value) : Cl → V → Value → Prop
  | value : mg "ValueError" = none → ClM mg .value (.ty "ValueError") (.type "ValueError")
  | own {c : Cl} {C : Addr} : mg (PySem.Str.ofString c.nm) = some (.ref C) → ClM mg c (.ref C) (.ref C)
theorem ClM.cls {mg : Str → Option Value} {c : Cl} {v : V} {u : Value} (h : ClM mg c v u) : ClsV v u := by
  cases h with
  | value _ => exact .ty _
  | own _ => exact .own _
/-- an error that is raised -/
def RaiseF (K : PySem.W.Frag) (mg : Str → Option Value) (n : Ex) : Prop := ∃ C, ClsA K n C ∧ mg (PySem.Str.ofString n.nm) = some (.ref C) ∧
  PySem.W.excIn K C [.type "ValueError", .type "Exception", .type "BaseException", .type "object"] "ValueError.__new__" = true ∧ PySem.W.keepIn K (.ref C) = true ∧ PySem.W.subIn K (.ref C) (.type "BaseException") = some true ∧ PySem.W.typeIn K (.ref C) = some (.type "type")
/-- errors of L before the class c -/
def IsF (K : PySem.W.Frag) (mg : Str → Option Value) (L : List Ex) (c : Cl) : Prop := ∃ v u, ClM mg c v u ∧ ∀ n ∈ L, ∀ C, ClsA K n C → PySem.W.kitOne K (.ref C) u = some (isSub n c)
def ExmF (K : PySem.W.Frag) (mg : Str → Option Value) (L : List Ex) (c : Cl) : Prop := ∃ C', mg (PySem.Str.ofString c.nm) = some (.ref C') ∧ ∀ n ∈ L, ∀ C, ClsA K n C → PySem.W.exmOne K (.ref C) (.ref C') = some (isSub n c)
def EcF (K : PySem.W.Frag) (L : List Ex) : Prop := ∀ n ∈ L, ∀ C, ClsA K n C → ExcC K C

/-! ### raise -/
def wRaise (n : Ex) : TS3 := fun B z S => B.xc z n S
theorem nm_dbg (n : Ex) : ((PySem.Str.ofString n.nm) == ("__debug__" : Str)) = false := by cases n <;> decide
theorem cl_dbg (c : Cl) : ((PySem.Str.ofString c.nm) == ("__debug__" : Str)) = false := by
  cases c with
  | ex e => exact nm_dbg e
  | _ => decide
section
variable {X : Cx} {W : WX} {pos : Pos}
theorem s3_raise (n : Ex) {m : Str} {j : Nat} {p p2 pos' : Pos} (hc : X.calm = true) (tk : Takes X W) (F : RaiseF X.K X.mg n) (hg : Gl X (PySem.Str.ofString n.nm)) :
    S3 X W (.Raise (some (.Call (.Name (PySem.Str.ofString n.nm) p) [.Constant (.str m) j p2] [] pos')) none pos) (wRaise n) := by
  obtain ⟨C, c1, c2, c3, c4, c5, c6⟩ := F
  exact PSimp (ps_raise hc tk (pmk_own PySem.F.excBase_ValueError c3 c2 c4 (raises_own c5 c6) hg (nm_dbg n))) fun D σ H ⟨z, S, B, rel, h, d⟩ => d.xc z n C S σ H h c1 rel (Gr.refl _) (Kp.refl _ _)
end

/-! ### what is caught is tracked -/
section
variable {X : Cx} {pins : List (Addr × Obj)} {σ : St} {H : Hp} {s : Shared}
theorem Inv.nowTracked {a : Addr} {o : HO} (I : Inv X pins σ H s) (n0 : X.s_0.heap.get? a = none) (na : H a = none) (nL : X.env.locals ≠ a) (nC : ∀ x c, X.env.cells.lookup x = some c → c ≠ a) (nP : ∀ p ∈ X.pn ++ pins, p.1 ≠ a)
    (new : ObjOk X.prog X.w (upd H a o) s.heap a o) : Inv X pins σ (upd H a o) s := by
  have B := I.base
  have n1 : ∀ b u, X.s_0.heap.get? b = some u → b ≠ a := fun b u e => by rintro rfl; rw [n0] at e; cases e
  refine ⟨I.ok, I.os, I.bare, ⟨B.keep, B.slot, fun b u e n hx => ?_, B.there, fun b xs e => ?_, fun b q u e => ?_, fun b ps e => ?_⟩, I.loc, I.cell, ?_, fun x c e => ?_, fun p hp => ?_, I.hok.laidN (fun _ _ e => e) na new, I.len⟩
  · rw [upd_ne (n1 b u e)]; exact B.free b u e n hx
  · have z := B.tups b xs e; rw [upd_ne (ne_of_none z na)]; exact z
  · have z := B.frzs b q u e; rw [upd_ne (ne_of_none z na)]; exact z
  · obtain ⟨m, z⟩ := B.tbls b ps e; exact ⟨m, by rw [upd_ne (ne_of_none z na)]; exact z⟩
  · rw [upd_ne nL]; exact I.free
  · rw [upd_ne (nC x c e)]; exact I.freeC x c e
  · obtain ⟨e, n, ne, nf, d⟩ := I.pin p hp
    exact ⟨e, by rw [upd_ne (nP p hp)]; exact n, ne, nf, d⟩
theorem exH_ok {P : Program} {w : World} {H : Hp} {h : Heap} {a : Addr} {cls : Value} {oe : Obj} {vs : Array Value} (e : h.get? a = some oe) (z : Zc cls none oe) (d : oe.data = .fields vs) : ObjOk P w H h a (ExH cls a) :=
  ⟨⟨oe, vs, e, z, d⟩, ⟨oe, e⟩, fun _ _ ⟨o, v, q, r⟩ k => ⟨o, v, k o q, r⟩⟩
theorem Inv.suite0 (I : Inv X pins σ H s) {a : Addr} : Inv (X.suite a (X.pn ++ pins)) [] σ H s :=
  ⟨I.ok.suite _ _, I.os, I.bare, I.base, I.loc, I.cell, I.free, I.freeC, fun p hp => I.pin p (by rw [List.append_nil] at hp; exact hp), I.hok, I.len⟩
theorem Inv.unsuite0 {a : Addr} {pn' : List (Addr × Obj)} (I : Inv (X.suite a (X.pn ++ pins)) pn' σ H s) (ok : X.Ok) : Inv X pins σ H s :=
  ⟨ok, I.os, I.bare, I.base, I.loc, I.cell, I.free, I.freeC, fun p hp => I.pin p (List.mem_append_left _ hp), I.hok, I.len⟩
end
/-- what the body's errors wish: the suite, with the error tracked -/
def wCatch (K : PySem.W.Frag) (c : Value) (i : Nat) (ts : TS) (Wout : WX) (D : Ends) : WX := fun cls d σ H =>
  ∃ b, PySem.W.exmOne K cls c = some b ∧ (b = true → d = none ∧ ∀ a, H a = none → ts { nx := fun σ' H' => D.nx (σ'.set i none) H', rt := D.rt, bk := fun σ' H' => D.bk (σ'.set i none) H', ct := fun σ' H' => D.ct (σ'.set i none) H' } (σ.set i (some (.ref a))) (upd H a (ExH cls a))) ∧
    (b = false → Wout cls d σ H)
section
variable {X : Cx} {x n : Str} {c : Value} {i : Nat} {body suite : List Stmt} {b₀ : Stmt} {np pos pos' : Pos} {tb : WX → TS} {ts : TS} {Wout : WX}
theorem ps_catch (hex : X.ex = []) (hs : X.stack = X.env :: X.outer) (hf : X.env.frame = some X.env.locals) (hN : X.N.Nodup) (hi : X.N[i]? = some n) (hln : X.env.kindOf n = some .local) (hc : Names X x c) (tk : Takes X Wout)
    (hb : ∀ (W : WX) (pn : List (Addr × Obj)) (xe : Value → Shared → Prop), Takes (X.tr pn xe) W → PassesOwn (model X.prog X.w) X.A X.env xe → PSs (X.tr pn xe) body (tb W))
    (hsu : ∀ (a : Addr) (pn : List (Addr × Obj)), PSs (X.suite a pn) (b₀ :: suite) ts) :
    PS X (.Try body [.ExceptHandler (some (.Name x np)) (some n) (b₀ :: suite) pos'] [] [] pos) (fun D σ H => tb (wCatch X.K c i ts Wout D) D σ H) := by
  refine ⟨fun pins s σ H D I h => ?_⟩
  have ok := I.ok
  have hfr : X.A.frames = some (X.env :: X.outer) := by rw [ok.frames, hs]
  refine wpAny_Try_except ?_
  refine wpAny_mono ((hb (wCatch X.K c i ts Wout D) (X.pn ++ pins) (fun e s₁ => wpAny (model X.prog X.w) X.A (noteFrame e X.env) (fun _ s₂ => wpAny (model X.prog X.w) X.A (setFlight e none) (fun _ s₃ =>
    wpAny (model X.prog X.w) X.A (handleBy e X.env [.ExceptHandler (some (.Name x np)) (some n) (b₀ :: suite) pos']) (SP X pins D) X.xe s₃) X.xe s₂) X.xe s₁) (fun u s' xx => ?_) PassesOwn.looking).run [] s σ H D (I.toTry _) h) (fun f s1 hsp => ?_) (fun e s1 he => he)
  · obtain ⟨a, B, sI, pins', σ', H', cls, d, rfl, J', nb, up, sky, na, os, ag, b, hb1, hyes, hno⟩ := xx
    have J : Inv X pins σ' H' sI := J'.ofTry ok
    have sky' : Sky B (X.env :: X.outer) a (Zc cls d) X.env.locals s'.heap := by rw [← hs]; exact sky
    show wpAny (model X.prog X.w) X.A (noteFrame (.ref a) X.env) _ _ _
    refine Sky.land Zc.steady hfr hf sky' fun h3 fl3 up3 => ?_
    have J3 : Inv X pins σ' H' { s' with heap := h3 } := J.landed nb fl3.1 (up.trans up3) os ag
    obtain ⟨oe3, vs3, he3, hz3, hd3⟩ := fl3.there
    have nfr : a ∉ frs (X.env :: X.outer) := fun hm => by
      obtain ⟨_, o', e', hnf⟩ := fl3.2.2.1.mem hm
      rw [he3] at e'; cases e'
      exact hnf _ hd3
    have nL : a ≠ X.env.locals := fun z => nfr (List.mem_filterMap.mpr ⟨X.env, List.mem_cons_self, by rw [hf, z]⟩)
    have nF : a ∉ X.fs := fun hm => by
      obtain ⟨e, he, q⟩ := List.mem_filterMap.mp hm
      exact nfr (List.mem_filterMap.mpr ⟨e, List.mem_cons_of_mem _ he, q⟩)
    have nI : sI.heap.get? a = none := by
      cases e : sI.heap.get? a with
      | none => rfl
      | some o =>
        have z := nb a o e (by show a ∉ frs X.stack; rw [hs]; exact nfr)
        rw [fl3.2.1] at z; cases z
    have S3' := J3.suite he3 hd3 na nL nF
    refine wpAny_handleBy_cons (codeAny_handlers_test ?_) (by intro q; cases q)
    have LT : PySem.W.Looks (model X.prog X.w) h3 (typeOf (.ref a)) cls := fun A Q E s k q => wpAny_typeOf_ref (k _ _ he3) (by rw [hz3.1]; exact q)
    have LM := PySem.W.exm_one (M := model X.prog X.w) (J3.kIn) LT hb1
    have test : ∀ {Q : Value → Shared → Prop} {E : Value → Shared → Prop}, Q c { s' with heap := h3 } → wpAny (model X.prog X.w) (X.A.mark (some (.ref a))) (eval (.Name x np) X.env) Q E { s' with heap := h3 } := fun {Q E} q => by
      obtain ⟨hg, hdbg, hm | ⟨hm, hv, hnn⟩⟩ := hc
      · exact ld_glob (X := X.suite a ((a, oe3) :: (X.pn ++ pins))) S3' hg hm q hdbg
      · exact ld_blt (X := X.suite a ((a, oe3) :: (X.pn ++ pins))) S3' hg hm hv q hnn hdbg
    refine test (LM.here ?_)
    cases b with
    | true =>
      obtain ⟨rfl, hyes2⟩ := hyes rfl
      refine codeAny_handlers_suite_as ?_
      refine HandSPX.lands_againZ fl3 fun h4 fl4 up4 => ?_
      have J4 : Inv X pins σ' H' { s' with heap := h4 } := J.landed nb fl4.1 ((up.trans up3).trans up4) os ag
      obtain ⟨oe4, vs4, he4, hz4, hd4⟩ := fl4.there
      have J5 : Inv X pins σ' (upd H' a (ExH cls a)) { s' with heap := h4 } := by
        refine Inv.nowTracked J4 ?_ na (Ne.symm nL) (fun y k e => ?_) (fun p hp => ?_) (exH_ok he4 hz4 hd4)
        · cases e : X.s_0.heap.get? a with
          | none => rfl
          | some o =>
            obtain ⟨o', z⟩ := J.base.there a o e (by rw [hex]; exact fun z => nomatch z)
            rw [nI] at z; cases z
        · rintro rfl
          obtain ⟨v, o, q1, q2⟩ := J4.cell y k e
          have : oe4 = o := Option.some.inj (he4.symm.trans q1)
          subst this
          rw [hd4] at q2; cases q2
        · rintro rfl
          obtain ⟨q, _⟩ := J'.pin p (List.mem_append_left _ hp)
          rw [nI] at q; cases q
      refine store_ok (X := X.suite a (X.pn ++ pins)) (v := .ref a) (Inv.suite0 J5) hN hi (.inl hln) rfl (fun s5 S5 => ?_) (.inr hln)
      refine wpAny_mono ((hsu a (X.pn ++ pins)).run [] s5 _ _ _ S5 (hyes2 a na)) (fun f s6 hsp => ?_) (fun _ _ z => False.elim z)
      have end_ : ∀ {σ6 : St} {H6 : Hp} {Q : Shared → Prop}, Inv (X.suite a (X.pn ++ pins)) [] σ6 H6 s6 → (∀ s7, Inv X pins (σ6.set i none) H6 s7 → Q s7) →
          wpAny (model X.prog X.w) X.A (do bindName X.env n .none; unbindBehindTheSuite X.env n pos') (fun _ s7 => Q s7) X.xe s6 := fun {σ6 H6 Q} S6 hq => gone_ok (Inv.unsuite0 S6 ok) hN hi hln hq
      cases f with
      | next =>
        obtain ⟨σ6, H6, S6, q6⟩ := hsp
        exact end_ S6 fun s7 J7 => ⟨_, _, J7, q6⟩
      | brk =>
        obtain ⟨σ6, H6, S6, q6⟩ := hsp
        exact end_ S6 fun s7 J7 => ⟨_, _, J7, q6⟩
      | cont =>
        obtain ⟨σ6, H6, S6, q6⟩ := hsp
        exact end_ S6 fun s7 J7 => ⟨_, _, J7, q6⟩
      | ret u =>
        obtain ⟨v6, σ6, H6, S6, r6, q6⟩ := hsp
        exact end_ S6 fun s7 J7 => ⟨_, _, _, J7, r6, q6⟩
    | false =>
      show wpAny _ X.A (handleBy (.ref a) X.env []) _ _ _
      refine wpAny_handleBy_nil ?_
      obtain ⟨k1, k2, k3, oe, vs, T, oT, ts', he, hz, hd, h1, hr⟩ := id fl3
      unfold PySem.passOn
      refine wpAny_bind (wpAny_field he hd h1 ?_)
      rw [if_neg (show ¬ ((Value.ref T == Value.none) = true) from by simp)]
      have fin : wpAny (model X.prog X.w) X.A (setFlight (.ref a) X.env.frame) (fun _ s4 => wpAny (model X.prog X.w) X.A (throw (.ref a) : Sem Flow) (SP X pins D) X.xe s4) X.xe { s' with heap := h3 } := by
        rw [hf]
        refine HandSPX.setFlight_upZ fl3 fun h4 hh4 up4 => wpAny_throw (tk _ _ ?_)
        exact ⟨a, B, sI, pins, σ', H', cls, d, rfl, J, nb, (up.trans up3).trans up4, .inr (.inr (by rw [hs]; exact hh4)), na, os, ag, hno rfl⟩
      first
        | exact wpAny_bind (wpAny_pure (wpAny_bind fin))
        | exact wpAny_bind fin
  · cases f with
    | next =>
      obtain ⟨σ', H', J', q⟩ := hsp
      exact wpAny_execs_nil ⟨σ', H', J'.ofTry ok, q⟩
    | brk =>
      obtain ⟨σ', H', J', q⟩ := hsp
      exact ⟨σ', H', J'.ofTry ok, q⟩
    | cont =>
      obtain ⟨σ', H', J', q⟩ := hsp
      exact ⟨σ', H', J'.ofTry ok, q⟩
    | ret u =>
      obtain ⟨v, σ', H', J', r, q⟩ := hsp
      exact ⟨v, σ', H', J'.ofTry ok, r, q⟩
end

/-! ### try -/
def unsetE (B : Ends3) (i : Nat) : Ends3 := ⟨fun z S => B.nx (z.set i none) S, B.rt, fun z S => B.bk (z.set i none) S, fun z S => B.ct (z.set i none) S, fun _ _ _ => False⟩
/-- try: body / except c as n: suite (n in slot i; L: what may be raised at all) -/
def wTry (L : List Ex) (c : Cl) (i : Nat) (body suite : TS3) : TS3 := fun B z S =>
  body { B with xc := fun z' n S' => n ∈ L ∧ Br (isSub n c) (∀ a, S' a = none → suite (unsetE B i) (z'.set i (some (.ref a))) (put S' a (.exn n))) (B.xc z' n S') } z S
theorem RS.newE {K : PySem.W.Frag} {H : Hp} {S : Sto} {p : Addr} {n : Ex} {C : Addr} (r : RS K S H) (h : H p = none) (c : ClsA K n C) : RS K (put S p (.exn n)) (upd H p (ExH (.ref C) p)) := fun a u e => by
  by_cases q : a = p
  · subst q; rw [put_same] at e; cases e; exact ⟨C, c, upd_same⟩
  · rw [put_ne q] at e; exact (r a u e).mono (Gr.new h) (upd_ne q)
section
variable {X : Cx} {W : WX} {i : Nat} {n : Str} {c : Cl} {L : List Ex} {body suite : List Stmt} {b₀ : Stmt} {np pos pos' : Pos} {tb ts : TS3}
theorem s3_try (hex : X.ex = []) (hs : X.stack = X.env :: X.outer) (hf : X.env.frame = some X.env.locals) (hN : X.N.Nodup) (hi : X.N[i]? = some n) (hln : X.env.kindOf n = some .local) (hg : Gl X (PySem.Str.ofString c.nm)) (F : ExmF X.K X.mg L c) (tk : Takes X W)
    (hb : ∀ (W : WX) (pn : List (Addr × Obj)) (xe : Value → Shared → Prop), Takes (X.tr pn xe) W → S3s (X.tr pn xe) W body tb)
    (hsu : ∀ (a : Addr) (pn : List (Addr × Obj)), S3s (X.suite a pn) (fun _ _ _ _ => False) (b₀ :: suite) ts) :
    S3 X W (.Try body [.ExceptHandler (some (.Name (PySem.Str.ofString c.nm) np)) (some n) (b₀ :: suite) pos'] [] [] pos) (wTry L c i tb ts) := by
  obtain ⟨C', hm, hx⟩ := F
  refine PSimp (ps_catch (tb := fun W => upS X.K W tb) (ts := upS X.K (fun _ _ _ _ => False) ts) hex hs hf hN hi hln ⟨hg, cl_dbg c, .inl hm⟩ tk (fun W pn xe tk _ => hb W pn xe tk) hsu) fun D σ H ⟨z, S, B, rel, h, d⟩ => ?_
  refine ⟨z, S, _, rel, h, d.nx, d.rt, d.bk, d.ct, fun z' m C S' σ' H' hm c' rel' g k => ?_⟩
  obtain ⟨hm, br⟩ := hm
  refine ⟨isSub m c, hx m hm C c', fun e => ⟨rfl, fun a na => ?_⟩, fun e => d.xc z' m C S' σ' H' (br.f e) c' rel' g k⟩
  have rs := rel'.st.newE na c'
  have G := Gr.new (o := ExH (.ref C) a) na
  have nS := rel'.st.free na
  refine ⟨_, _, unsetE B i, (rel'.grow G rs).setS (.ref a), br.t e a nS, ?_⟩
  have g2 := g.trans G
  have k2 : Kp S (put S' a (.exn m)) H := k.trans g (Kp.new na)
  exact ⟨fun z2 S2 σ2 H2 q r g' k' => d.nx _ S2 _ H2 q r.unset (g2.trans g') (k2.trans g2 k'), fun e S2 v H2 q rv rs g' k' => d.rt e S2 v H2 q rv rs (g2.trans g') (k2.trans g2 k'),
    fun z2 S2 σ2 H2 q r g' k' => d.bk _ S2 _ H2 q r.unset (g2.trans g') (k2.trans g2 k'), fun z2 S2 σ2 H2 q r g' k' => d.ct _ S2 _ H2 q r.unset (g2.trans g') (k2.trans g2 k'), fun _ _ _ _ _ _ q _ _ _ _ => q.elim⟩
end

/-! ### isinstance of what was caught -/
def wIsE (L : List Ex) (cs : List Cl) (te : TE3) : TE3 := fun Y z S R => te Y z S fun d S1 => match d with
  | .ref a => ∃ n, S1 a = some (.exn n) ∧ n ∈ L ∧ R (.bl (cs.any (isSub n))) S1
  | _ => False
inductive NamesOf (X : Cx) : List Expr → List Cl → Prop
  | nil : NamesOf X [] []
  | cons {c : Cl} {p : Pos} {es : List Expr} {cs : List Cl} : Gl X (PySem.Str.ofString c.nm) → NamesOf X es cs → NamesOf X (.Name (PySem.Str.ofString c.nm) p :: es) (c :: cs)
section
variable {X : Cx} {W : WX}
theorem pe_clName {c : Cl} {v : V} {u : Value} {p : Pos} (h : ClM X.mg c v u) (hg : Gl X (PySem.Str.ofString c.nm)) : PE X (.Name (PySem.Str.ofString c.nm) p) (tC v) := by
  cases h with
  | value h => exact pe_bltn (x := "ValueError") (u := .type "ValueError") hg h rfl rfl (by decide) (by decide)
  | own h => exact pe_glob hg h rfl (cl_dbg c)
theorem pa_clNames {L : List Ex} : ∀ {es : List Expr} {cs : List Cl}, NamesOf X es cs → (∀ c ∈ cs, IsF X.K X.mg L c) → ∃ vs us, vs.length = cs.length ∧ Paired ClsV vs us ∧ (∀ n ∈ L, ∀ C, ClsA X.K n C → PySem.W.kitAny X.K (.ref C) us = some (cs.any (isSub n))) ∧ PA X es (fun _ H Q => Q vs H)
  | _, _, .nil, _ => ⟨[], [], rfl, .nil, fun _ _ _ _ => rfl, PAimp pa_nil fun _ _ _ h => h⟩
  | _, _, .cons (c := c) hg r, h => by
    obtain ⟨vs, us, hl, hp, hk, ha⟩ := pa_clNames r (fun d hd => h d (List.mem_cons_of_mem _ hd))
    obtain ⟨v, u, hm, hn⟩ := h c List.mem_cons_self
    refine ⟨v :: vs, u :: us, by rw [List.length_cons, List.length_cons, hl], .cons hm.cls hp, fun n nL C hC => ?_, PAimp (pa_cons (pe_clName hm hg) ha) fun _ _ _ h => h⟩
    rw [List.any_cons]
    unfold PySem.W.kitAny
    rw [hn n nL C hC, hk n nL C hC]
    cases isSub n c <;> rfl
theorem inst_exn {K : PySem.W.Frag} {h : Heap} {a D : Addr} (q : ∃ (oe : Obj) (vs : Array Value), h.get? a = some oe ∧ Zc (.ref D) none oe ∧ oe.data = .fields vs) : ∃ oe, PySem.W.InstAt h a oe D none := by
  obtain ⟨oe, vs, hget, hz, hv⟩ := q
  refine ⟨oe, ?_⟩
  obtain ⟨oc, od, oda, osl⟩ := oe
  obtain ⟨h1, h2⟩ := hz
  dsimp only at h1 h2 hv
  subst h1 h2 hv
  exact ⟨hget, rfl, rfl, trivial⟩
/-- one class -/
theorem c3_isE1 {L : List Ex} (E : EcF X.K L) {v : V} {u : Value} (hv : ClsV v u) {r : Ex → Bool} (hk : ∀ n ∈ L, ∀ C, ClsA X.K n C → PySem.W.kitOne X.K (.ref C) u = some (r n)) :
    CallR X (.builtin "isinstance") (fun vs H Q => ∃ a n S R, vs = [.ref a, v] ∧ RS X.K S H ∧ S a = some (.exn n) ∧ n ∈ L ∧ R (.bl (r n)) S ∧ Post X.K R S H Q) := by
  rintro pins s σ H xs us Q I rr ⟨a, n, S, R, rfl, rs, hS, hn, hR, post⟩
  obtain ⟨u1, u2, rfl, r1, r2⟩ := vals2 rr
  obtain ⟨C, hC, hH⟩ := rs _ _ hS
  obtain ⟨q, _⟩ := I.hok a _ hH
  obtain ⟨oe, J⟩ := inst_exn (K := X.K) q
  have hc := E n hn C hC
  cases (show u1 = Value.ref a from r1)
  have e2 := hv.eq r2
  subst e2
  exact PySem.W.kia_one (PySem.W.handS_kitx_exc hc.hg hc.hk hc.hs hc.hd hc.ha hc.hn hc.ht hc.hm) I.kIn J (hk n hn C hC) (fun z => nomatch z) fun tk => ⟨.bl _, H, I.tok tk, rfl, post.now hR (.bl _) rs⟩
/-- a tuple of classes, just laid -/
theorem c3_isET {L : List Ex} (E : EcF X.K L) {vs' : List V} {ws : List Value} (hv : Paired ClsV vs' ws) {r : Ex → Bool} (hk : ∀ n ∈ L, ∀ C, ClsA X.K n C → PySem.W.kitAny X.K (.ref C) ws = some (r n)) :
    CallR X (.builtin "isinstance") (fun vs H Q => ∃ a tp n S R, vs = [.ref a, .ref tp] ∧ H tp = some (.tup vs') ∧ RS X.K S H ∧ S a = some (.exn n) ∧ n ∈ L ∧ R (.bl (r n)) S ∧ Post X.K R S H Q) := by
  rintro pins s σ H xs us Q I rr ⟨a, tp, n, S, R, rfl, hT, rs, hS, hn, hR, post⟩
  obtain ⟨u1, u2, rfl, r1, r2⟩ := vals2 rr
  obtain ⟨C, hC, hH⟩ := rs _ _ hS
  obtain ⟨q, _⟩ := I.hok a _ hH
  obtain ⟨oe, J⟩ := inst_exn (K := X.K) q
  have hc := E n hn C hC
  cases (show u1 = Value.ref a from r1)
  cases (show u2 = Value.ref tp from r2)
  obtain ⟨_, its, rv, o, h1, h2, m, h3⟩ := (show ObjOk X.prog X.w H s.heap tp (.tup vs') from I.hok tp _ hT)
  have e3 := ClsV.all hv rv
  subst e3
  obtain ⟨oc, od, dt, sl⟩ := o
  simp only at h2 h3
  subst h2 h3
  exact PySem.W.kia_tup (PySem.W.handS_kitx_exc hc.hg hc.hk hc.hs hc.hd hc.ha hc.hn hc.ht hc.hm) I.kIn J h1 (hk n hn C hC) (fun z => nomatch z) fun tk => ⟨.bl _, H, I.tok tk, rfl, post.now hR (.bl _) rs⟩
theorem e3_isE {L : List Ex} (E : EcF X.K L) (c : Cl) (F : IsF X.K X.mg L c) {x : Str} {p p2 pos : Pos} {e : Expr} {te : TE3} (hg : Gl X x) (hm : X.mg x = none) (hv : bootBuiltins x = some (.builtin "isinstance")) (he : E3 X W e te) (hgc : Gl X (PySem.Str.ofString c.nm))
    (hn : x ≠ "__name__" := by decide) (hd : (x == ("__debug__" : Str)) = false := by decide) (hs : starEach (e :: [.Name (PySem.Str.ofString c.nm) p2]) X.env = (false, eval e X.env) :: starEach [.Name (PySem.Str.ofString c.nm) p2] X.env := by rfl) (hpl : (backTo pos (starEach [.Name (PySem.Str.ofString c.nm) p2] X.env)).any (·.1) = false := by rfl) :
    E3 X W (.Call (.Name x p) [e, .Name (PySem.Str.ofString c.nm) p2] [] pos) (wIsE L [c] te) := by
  obtain ⟨v, u, hm', hk⟩ := F
  refine PEimp (pe_callB (c3_isE1 (L := L) E hm'.cls (r := fun n => isSub n c) hk) hg hm hv (pa_cons he (pa_cons (pe_clName hm' hgc) pa_nil) hs) hn hd hs hpl) fun σ H Q ⟨Y, z, S, R, rel, h, post⟩ => ?_
  refine ⟨Y, z, S, _, rel, h, fun d S1 w H1 h1 rv rs g k => ?_⟩
  cases rv with
  | ref a =>
    obtain ⟨n, h2, h3, h4⟩ := h1
    rw [List.any_cons, List.any_nil, Bool.or_false] at h4
    exact ⟨a, n, S1, R, rfl, rs, h2, h3, h4, fun d' S' v' H' h' r' s' g' k' => post d' S' v' H' h' r' s' (g.trans g') (k.trans g k')⟩
  | _ => exact h1.elim
theorem e3_isET {L : List Ex} (E : EcF X.K L) {cs : List Cl} {es : List Expr} (N : NamesOf X es cs) (F : ∀ c ∈ cs, IsF X.K X.mg L c) {x : Str} {p p2 pos : Pos} {k2 : Nat} {e : Expr} {te : TE3} (hg : Gl X x) (hm : X.mg x = none) (hv : bootBuiltins x = some (.builtin "isinstance")) (he : E3 X W e te)
    (hcl : cs.length ≤ 1000 := by exact Nat.le_of_ble_eq_true rfl) (hn : x ≠ "__name__" := by decide) (hd : (x == ("__debug__" : Str)) = false := by decide) (hs : starEach (e :: [.Tuple es k2 p2]) X.env = (false, eval e X.env) :: starEach [.Tuple es k2 p2] X.env := by rfl) (hs2 : starEach [.Tuple es k2 p2] X.env = (false, eval (.Tuple es k2 p2) X.env) :: starEach [] X.env := by rfl) (hpl : (backTo pos (starEach [.Tuple es k2 p2] X.env)).any (·.1) = false := by rfl) :
    E3 X W (.Call (.Name x p) [e, .Tuple es k2 p2] [] pos) (wIsE L cs te) := by
  obtain ⟨vs, us, hl, hp, hk, ha⟩ := pa_clNames N F
  refine PEimp (pe_callB (c3_isET (L := L) E hp (r := fun n => cs.any (isSub n)) hk) hg hm hv (pa_cons he (pa_cons (pe_tup ha) pa_nil hs2) hs) hn hd hs hpl) fun σ H Q ⟨Y, z, S, R, rel, h, post⟩ => ?_
  refine ⟨Y, z, S, _, rel, h, fun d S1 w H1 h1 rv rs g k => ⟨by rw [hl]; exact Nat.le_trans hcl (by decide), fun tp hp => ?_⟩⟩
  cases rv with
  | ref a =>
    obtain ⟨n, h2, h3, h4⟩ := h1
    have G := Gr.new (o := HO.tup vs) hp
    exact ⟨a, tp, n, S1, R, rfl, upd_same, rs.new0 hp, h2, h3, h4, fun d' S' v' H' h' r' s' g' k' => post d' S' v' H' h' r' s' ((g.trans G).trans g') (k.trans g (fun b b1 b2 => k' b (fun e => b1 (G.dom b e)) b2))⟩
  | _ => exact h1.elim
end
theorem forL_nil {K : PySem.W.Frag} {P : Ex → Addr → Prop} : ∀ n ∈ ([] : List Ex), ∀ C, ClsA K n C → P n C := fun _ h => nomatch h
theorem forL_cons {K : PySem.W.Frag} {P : Ex → Addr → Prop} {n : Ex} {C : Addr} {L : List Ex} (q : ClsA K n C) (k : P n C) (r : ∀ n ∈ L, ∀ C, ClsA K n C → P n C) : ∀ m ∈ n :: L, ∀ C, ClsA K m C → P m C := fun m hm C' hC => by
  rcases List.mem_cons.mp hm with rfl | hm
  · cases hC.one q; exact k
  · exact r m hm C' hC
theorem forC_cons {P : Cl → Prop} {c : Cl} {cs : List Cl} (h : P c) (r : ∀ d ∈ cs, P d) : ∀ d ∈ c :: cs, P d := fun d hd => by
  rcases List.mem_cons.mp hd with rfl | hd
  · exact h
  · exact r d hd
end R3

/-! numbers: the program's own fractions are Rat -/
namespace R3
open PySem PySem.Spec PyProof.Rows L2

/-! ### the greatest divisor -/
/-- divisor: slots 0 one 1 other -/
def w_divisor_1 : TS3 :=
 wPar 0 1 (wV 1) (w2 fMod (wV 0) (wV 1))
def w_divisor : TS3 :=
 wSeq (wWhile (wB (w2 fGt (wV 1) (wC (.int 0))))
 (w_divisor_1))
 (wRet (wV 0))
def sp_divisor : Sp3 := fun ds S R _ => ∃ a b : Int, ds = [.int a, .int b] ∧ 0 ≤ a ∧ 0 ≤ b ∧ R (.int (Int.gcd a b)) S
theorem gcd_step {x y : Int} : Int.gcd y (x.fmod y) = Int.gcd x y := by
  rw [Int.gcd_comm x y]
  have e : x.fmod y = x - y * x.fdiv y := by rw [Int.fmod_def]
  rw [e, show x - y * x.fdiv y = x + y * (-(x.fdiv y)) by rw [Int.mul_neg, Int.sub_eq_add_neg]]
  exact Int.gcd_add_mul_left_right y x (-(x.fdiv y))
theorem vc_divisor : ∀ ds S R G, sp_divisor ds S R G → w_divisor (endsOf R G) (start3 ["one", "other"] ds) S := by
  rintro ds S R G ⟨a, b, rfl, ha, hb, h⟩
  refine ⟨fun m z S' => ∃ x y : Int, z = [some (.int x), some (.int y)] ∧ S' = S ∧ 0 ≤ x ∧ 0 ≤ y ∧ Int.gcd x y = Int.gcd a b ∧ m = y.toNat, ⟨b.toNat, a, b, rfl, rfl, ha, hb, rfl, rfl⟩, ?_⟩
  rintro m z S' ⟨x, y, rfl, rfl, hx, hy, hg, rfl⟩
  refine br_dec (fun h0 => ?_) (fun h0 => ?_)
  · refine ⟨by omega, ?_⟩
    have l1 : 0 ≤ x.fmod y := Int.fmod_nonneg hx hy
    have l2 : x.fmod y < y := Int.fmod_lt_of_pos x h0
    exact ⟨(x.fmod y).toNat, S', by omega, Le.refl _, y, x.fmod y, rfl, rfl, hy, l1, gcd_step.trans hg, rfl⟩
  · have e : y = 0 := by omega
    subst e
    refine ⟨S', Le.refl _, ?_⟩
    have e : (x : Int) = (Int.gcd a b : Int) := by
      rw [← hg, Int.gcd_zero_right]
      omega
    rw [e]
    exact h

theorem small1 {n : Nat} (h : 0 < n) : Bits n 1 := by
  unfold Bits
  have : 2 ^ 1 ≤ 2 ^ n := Nat.pow_le_pow_right (by decide) h
  omega
/-! ### numbers -/
def qD (q : Rat) : D := .tup [.int q.num, .int q.den]
/-- top and bottom of at most n bits -/
def QB (n : Nat) (q : Rat) : Prop := Bits n q.num ∧ Bits n q.den
theorem QB.mono {n m : Nat} {q : Rat} (h : QB n q) (l : n ≤ m) : QB m q := ⟨h.1.mono l, h.2.mono l⟩
theorem fdiv_mul_left {g k : Int} (h : g ≠ 0) : (g * k).fdiv g = k := by rw [Int.mul_comm]; exact Int.mul_fdiv_cancel k h
theorem gcd_parts (t b : Int) (hb : b ≠ 0) : ∃ k m : Int, t = (Int.gcd t b : Int) * k ∧ b = (Int.gcd t b : Int) * m ∧ (Int.gcd t b : Int) ≠ 0 := by
  have hg : Int.gcd t b ≠ 0 := fun e => hb (Int.gcd_eq_zero_iff.mp e).2
  obtain ⟨k, hk⟩ := Int.gcd_dvd_left t b
  obtain ⟨m, hm⟩ := Int.gcd_dvd_right t b
  exact ⟨k, m, hk, hm, by omega⟩
theorem divInt_parts {t b : Int} (hb : b ≠ 0) {k m : Int} (hk : t = (Int.gcd t b : Int) * k) (hm : b = (Int.gcd t b : Int) * m) (hg : (Int.gcd t b : Int) ≠ 0) :
    (Rat.divInt t b).num = b.sign * k ∧ ((Rat.divInt t b).den : Int) = b.sign * m := by
  have e1 := Rat.num_divInt t b
  have e2 := Rat.den_divInt t b
  rw [if_neg hb] at e2
  rw [Int.gcd_comm b t] at e1 e2
  constructor
  · rw [e1]
    have : b.sign * t = (Int.gcd t b : Int) * (b.sign * k) := by
      calc b.sign * t = b.sign * ((Int.gcd t b : Int) * k) := by rw [← hk]
        _ = (Int.gcd t b : Int) * (b.sign * k) := by rw [← Int.mul_assoc, ← Int.mul_assoc, Int.mul_comm b.sign]
    rw [this, Int.mul_ediv_cancel_left _ hg]
  · rw [e2]
    have hn : (b.natAbs : Int) = (Int.gcd t b : Int) * (b.sign * m) := by
      calc (b.natAbs : Int) = b.sign * b := by rw [Int.mul_comm]; exact (Int.mul_sign_self b).symm
        _ = b.sign * ((Int.gcd t b : Int) * m) := by rw [← hm]
        _ = (Int.gcd t b : Int) * (b.sign * m) := by rw [← Int.mul_assoc, ← Int.mul_assoc, Int.mul_comm b.sign]
    rw [Int.natCast_ediv, hn, Int.mul_ediv_cancel_left _ hg]
theorem divInt_bits {n : Nat} {t b : Int} (hb : b ≠ 0) (ht : Bits n t) (hB : Bits n b) : QB n (Rat.divInt t b) := by
  obtain ⟨k, m, hk, hm, hg⟩ := gcd_parts t b hb
  obtain ⟨e1, e2⟩ := divInt_parts hb hk hm hg
  have sg : b.sign.natAbs = 1 := Int.natAbs_sign_of_ne_zero hb
  have le : ∀ {x y : Int}, x = (Int.gcd t b : Int) * y → y.natAbs ≤ x.natAbs := fun {x y} e => by
    rw [e, Int.natAbs_mul]
    have : 0 < (Int.gcd t b : Int).natAbs := Int.natAbs_pos.mpr hg
    exact Nat.le_mul_of_pos_left _ this
  unfold QB
  rw [e1, e2]
  exact ⟨ht.of_le (by rw [Int.natAbs_mul, sg, Nat.one_mul]; exact le hk), hB.of_le (by rw [Int.natAbs_mul, sg, Nat.one_mul]; exact le hm)⟩

/-- fraction: slots 0 top 1 bottom 2 by -/
def w_fraction_1 : TS3 :=
 wRet (wTup [w2 fDiv (wV 0) (wV 2), w2 fDiv (wV 1) (wV 2)])
def w_fraction : TS3 :=
 wSeq (wIfS (wB (w2 fEq (wV 1) (wC (.int 0))))
 (wRaise .number)
 (wNext))
 (wSeq (wSet 2 (wCall sp_divisor [wBf fAbs [wV 0], wBf fAbs [wV 1]]))
 (wSeq (wIfS (wB (w2 fLt (wV 1) (wC (.int 0))))
 (wSet 2 (w2 fSub (wC (.int 0)) (wV 2)))
 (wNext))
 (w_fraction_1)))
def sp_fraction : Sp3 := fun ds S R G => ∃ t b : Int, ds = [.int t, .int b] ∧ (b = 0 → G .number S) ∧ (b ≠ 0 → Bits 8900 b ∧ R (qD (Rat.divInt t b)) S)
theorem absI (i : Int) : (if i < 0 then -i else i) = (i.natAbs : Int) := by split <;> omega
theorem vc_fraction : ∀ ds S R G, sp_fraction ds S R G → w_fraction (endsOf R G) (start3 ["top", "bottom", "by"] ds) S := by
  rintro ds S R G ⟨t, b, rfl, hx, h⟩
  refine br_dec (fun h0 => ⟨S, Le.refl _, hx h0⟩) (fun hb => ?_)
  obtain ⟨hB, h⟩ := h hb
  refine ⟨_, _, rfl, by rw [absI]; omega, by rw [absI]; omega, ?_⟩
  have eg : Int.gcd (if t < 0 then -t else t) (if b < 0 then -b else b) = Int.gcd t b := by rw [absI, absI]; simp [Int.gcd]
  obtain ⟨k, m, hk, hm, hg⟩ := gcd_parts t b hb
  obtain ⟨e1, e2⟩ := divInt_parts hb hk hm hg
  have hgB : Bits 8900 (Int.gcd t b : Int) := hB.of_le (by
    have := Nat.le_of_dvd (Int.natAbs_pos.mpr hb) (Int.gcd_dvd_natAbs_right t b)
    simpa using this)
  refine br_dec (fun hneg => ?_) (fun hpos => ?_)
  · show (DivOk (0 - _) ∧ DivOk (0 - _) ∧ _)
    rw [eg]
    have d : DivOk (0 - (Int.gcd t b : Int)) := ⟨by omega, 8900, by rw [Int.zero_sub]; exact hgB.neg, Nat.le_refl _⟩
    refine ⟨d, d, S, Le.refl _, ?_⟩
    have f1 : t.fdiv (0 - (Int.gcd t b : Int)) = (Rat.divInt t b).num := by
      rw [e1, Int.sign_eq_neg_one_of_neg hneg, Int.zero_sub]
      generalize (Int.gcd t b : Int) = g at hk hg ⊢
      rw [hk, show g * k = -g * (-k) by rw [Int.neg_mul_neg], fdiv_mul_left (by omega)]
      omega
    have f2 : b.fdiv (0 - (Int.gcd t b : Int)) = ((Rat.divInt t b).den : Int) := by
      rw [e2, Int.sign_eq_neg_one_of_neg hneg, Int.zero_sub]
      clear e1 e2
      generalize (Int.gcd t b : Int) = g at hm hg ⊢
      rw [hm, show g * m = -g * (-m) by rw [Int.neg_mul_neg], fdiv_mul_left (by omega)]
      omega
    show R (.tup [.int (t.fdiv _), .int (b.fdiv _)]) S
    rw [f1, f2]
    exact h
  · show (DivOk _ ∧ DivOk _ ∧ _)
    rw [eg]
    have d : DivOk (Int.gcd t b : Int) := ⟨hg, 8900, hgB, Nat.le_refl _⟩
    refine ⟨d, d, S, Le.refl _, ?_⟩
    have hb' : 0 < b := by omega
    have f1 : t.fdiv (Int.gcd t b : Int) = (Rat.divInt t b).num := by
      rw [e1, Int.sign_eq_one_of_pos hb']
      generalize (Int.gcd t b : Int) = g at hk hg ⊢
      rw [hk, fdiv_mul_left hg]
      omega
    have f2 : b.fdiv (Int.gcd t b : Int) = ((Rat.divInt t b).den : Int) := by
      rw [e2, Int.sign_eq_one_of_pos hb']
      clear e1 e2
      generalize (Int.gcd t b : Int) = g at hm hg ⊢
      rw [hm, fdiv_mul_left hg]
      omega
    show R (.tup [.int (t.fdiv _), .int (b.fdiv _)]) S
    rw [f1, f2]
    exact h

/-! ### sums, products -/
theorem den_ne (q : Rat) : ((q.den : Nat) : Int) ≠ 0 := by have := q.den_nz; omega
theorem den_pos' (q : Rat) : (0 : Int) < (q.den : Int) := by have := q.den_pos; omega
theorem rat_as (q : Rat) : Rat.divInt q.num q.den = q := Rat.num_divInt_den q
theorem add_as (p q : Rat) : Rat.divInt (p.num * q.den + q.num * p.den) (p.den * q.den) = p + q := by
  conv => rhs; rw [← rat_as p, ← rat_as q]
  rw [Rat.divInt_add_divInt _ _ (den_ne p) (den_ne q)]
theorem sub_as (p q : Rat) : Rat.divInt (p.num * q.den - q.num * p.den) (p.den * q.den) = p - q := by
  conv => rhs; rw [← rat_as p, ← rat_as q]
  rw [Rat.divInt_sub_divInt _ _ (den_ne p) (den_ne q)]
theorem mul_as (p q : Rat) : Rat.divInt (p.num * q.num) (p.den * q.den) = p * q := by
  conv => rhs; rw [← rat_as p, ← rat_as q]
  rw [Rat.divInt_mul_divInt]
theorem div_as (p q : Rat) : Rat.divInt (p.num * q.den) (p.den * q.num) = p / q := by
  rw [Rat.div_def]
  conv => rhs; rw [← rat_as p, ← rat_as q]
  rw [Rat.inv_divInt, Rat.divInt_mul_divInt]
theorem QB.add {n m : Nat} {p q : Rat} (h : QB n p) (k : QB m q) : QB (n + m + 1) (p + q) := by
  rw [← add_as]
  refine divInt_bits (Int.mul_ne_zero (den_ne p) (den_ne q)) ?_ ((h.2.mul k.2).mono (by omega))
  exact ((h.1.mul k.2).add (k.1.mul h.2)).mono (by omega)
theorem QB.sub {n m : Nat} {p q : Rat} (h : QB n p) (k : QB m q) : QB (n + m + 1) (p - q) := by
  rw [← sub_as]
  refine divInt_bits (Int.mul_ne_zero (den_ne p) (den_ne q)) ?_ ((h.2.mul k.2).mono (by omega))
  exact ((h.1.mul k.2).sub (k.1.mul h.2)).mono (by omega)
theorem QB.mul {n m : Nat} {p q : Rat} (h : QB n p) (k : QB m q) : QB (n + m) (p * q) := by
  rw [← mul_as]
  exact divInt_bits (Int.mul_ne_zero (den_ne p) (den_ne q)) (h.1.mul k.1) (h.2.mul k.2)
theorem QB.div {n m : Nat} {p q : Rat} (h : QB n p) (k : QB m q) (hq : q ≠ 0) : QB (n + m) (p / q) := by
  rw [← div_as]
  exact divInt_bits (Int.mul_ne_zero (den_ne p) (fun e => hq (Rat.num_eq_zero.mp e))) (h.1.mul k.2) (h.2.mul k.1)
theorem mulOk {n m : Nat} {i j : Int} (h : Bits n i) (k : Bits m j) (l : n + m ≤ 900000) : MulOk i j := ⟨n, m, h, k, l⟩

/-- plus: slots 0 one 1 other -/
def w_plus : TS3 :=
 wRet (wCall sp_fraction [w2 fAdd (w2 fMul (w2 fIx (wV 0) (wC (.int 0))) (w2 fIx (wV 1) (wC (.int 1)))) (w2 fMul (w2 fIx (wV 1) (wC (.int 0))) (w2 fIx (wV 0) (wC (.int 1)))), w2 fMul (w2 fIx (wV 0) (wC (.int 1))) (w2 fIx (wV 1) (wC (.int 1)))])
def sp_plus : Sp3 := fun ds S R _ => ∃ (p q : Rat) (n : Nat), ds = [qD p, qD q] ∧ QB n p ∧ QB n q ∧ n ≤ 4400 ∧ R (qD (p + q)) S
theorem vc_plus : ∀ ds S R G, sp_plus ds S R G → w_plus (endsOf R G) (start3 ["one", "other"] ds) S := by
  rintro ds S R G ⟨p, q, n, rfl, hp, hq, hn, h⟩
  refine ⟨_, rfl, _, rfl, mulOk hp.1 hq.2 (by omega), _, rfl, _, rfl, mulOk hq.1 hp.2 (by omega), _, rfl, _, rfl, mulOk hp.2 hq.2 (by omega), _, _, rfl, fun e => absurd e (Int.mul_ne_zero (den_ne p) (den_ne q)), fun _ => ⟨(hp.2.mul hq.2).mono (by omega), S, Le.refl _, ?_⟩⟩
  rw [add_as]
  exact h
/-- minus: slots 0 one 1 other -/
def w_minus : TS3 :=
 wRet (wCall sp_fraction [w2 fSub (w2 fMul (w2 fIx (wV 0) (wC (.int 0))) (w2 fIx (wV 1) (wC (.int 1)))) (w2 fMul (w2 fIx (wV 1) (wC (.int 0))) (w2 fIx (wV 0) (wC (.int 1)))), w2 fMul (w2 fIx (wV 0) (wC (.int 1))) (w2 fIx (wV 1) (wC (.int 1)))])
def sp_minus : Sp3 := fun ds S R _ => ∃ (p q : Rat) (n : Nat), ds = [qD p, qD q] ∧ QB n p ∧ QB n q ∧ n ≤ 4400 ∧ R (qD (p - q)) S
theorem vc_minus : ∀ ds S R G, sp_minus ds S R G → w_minus (endsOf R G) (start3 ["one", "other"] ds) S := by
  rintro ds S R G ⟨p, q, n, rfl, hp, hq, hn, h⟩
  refine ⟨_, rfl, _, rfl, mulOk hp.1 hq.2 (by omega), _, rfl, _, rfl, mulOk hq.1 hp.2 (by omega), _, rfl, _, rfl, mulOk hp.2 hq.2 (by omega), _, _, rfl, fun e => absurd e (Int.mul_ne_zero (den_ne p) (den_ne q)), fun _ => ⟨(hp.2.mul hq.2).mono (by omega), S, Le.refl _, ?_⟩⟩
  rw [sub_as]
  exact h
/-- times: slots 0 one 1 other -/
def w_times : TS3 :=
 wRet (wCall sp_fraction [w2 fMul (w2 fIx (wV 0) (wC (.int 0))) (w2 fIx (wV 1) (wC (.int 0))), w2 fMul (w2 fIx (wV 0) (wC (.int 1))) (w2 fIx (wV 1) (wC (.int 1)))])
def sp_times : Sp3 := fun ds S R _ => ∃ (p q : Rat) (n : Nat), ds = [qD p, qD q] ∧ QB n p ∧ QB n q ∧ n ≤ 4400 ∧ R (qD (p * q)) S
theorem vc_times : ∀ ds S R G, sp_times ds S R G → w_times (endsOf R G) (start3 ["one", "other"] ds) S := by
  rintro ds S R G ⟨p, q, n, rfl, hp, hq, hn, h⟩
  refine ⟨_, rfl, _, rfl, mulOk hp.1 hq.1 (by omega), _, rfl, _, rfl, mulOk hp.2 hq.2 (by omega), _, _, rfl, fun e => absurd e (Int.mul_ne_zero (den_ne p) (den_ne q)), fun _ => ⟨(hp.2.mul hq.2).mono (by omega), S, Le.refl _, ?_⟩⟩
  rw [mul_as]
  exact h

/-! ### fronts that move -/
theorem qD_int (i : Int) : qD (i : Rat) = .tup [.int i, .int 1] := rfl
theorem QB.int {n : Nat} {i : Int} (h : Bits n i) (hn : 0 < n) : QB n (i : Rat) := ⟨h, small1 hn⟩
/-- line_at: slots 0 paces 1 front 2 height 3 facing 4 line 5 way -/
def w_line_at : TS3 :=
 wSeq (wAsg (wV 1) (gTup3 2 (gCons3 (gN 3) (gCons3 (gN 4) (gNil3)))))
 (wSeq (wSet 5 (wCall sp_times [wTup [w2 fIx (wV 0) (wV 3), wC (.int 1)], wV 2]))
 (wSeq (wIfS (wB (w2 fLt (wV 3) (wC (.int 2))))
 (wRet (wCall sp_plus [wV 4, wV 5]))
 (wNext))
 (wRet (wCall sp_minus [wV 4, wV 5]))))
/-- four paces from 1 to 9 -/
def PcD (p : List Int) : D := .tup (p.map D.int)
def Pcs (p : List Int) : Prop := p.length = 4 ∧ ∀ x ∈ p, 1 ≤ x ∧ x ≤ 9
def lineAt (p : List Int) (f : Nat) (l h : Rat) : Rat := if f < 2 then l + ((p.getD f 0 : Int) : Rat) * h else l - ((p.getD f 0 : Int) : Rat) * h
def sp_line_at : Sp3 := fun ds S R _ => ∃ (p : List Int) (f : Nat) (l h : Rat) (n : Nat), ds = [PcD p, .tup [.int f, qD l], qD h] ∧ Pcs p ∧ f < 4 ∧ QB n l ∧ QB n h ∧ n ≤ 4000 ∧ R (qD (lineAt p f l h)) S
theorem vc_line_at : ∀ ds S R G, sp_line_at ds S R G → w_line_at (endsOf R G) (start3 ["paces", "front", "height", "facing", "line", "way"] ds) S := by
  rintro ds S R G ⟨p, f, l, h, n, rfl, ⟨hp1, hp2⟩, hf, hl, hh, hn, k⟩
  have hfp : f < p.length := by omega
  have hget : atI (p.map D.int) (f : Int) = some (.int (p.getD f 0)) := by
    refine atI_nat ?_
    rw [List.getElem?_map, List.getElem?_eq_getElem hfp, List.getD_eq_getElem?_getD, List.getElem?_eq_getElem hfp]
    rfl
  have hpf := hp2 (p.getD f 0) (by rw [List.getD_eq_getElem?_getD, List.getElem?_eq_getElem hfp]; exact List.getElem_mem hfp)
  have hb : Bits 4 (p.getD f 0) := Bits.of_lt (by omega) (by omega)
  have hq : QB (n + 4) ((p.getD f 0 : Int) : Rat) := QB.int (hb.mono (by omega)) (by omega)
  refine ⟨rfl, _, hget, ((p.getD f 0 : Int) : Rat), h, n + 4, rfl, hq, hh.mono (by omega), by omega, ?_⟩
  have hm := (QB.int hb (by decide)).mul hh
  unfold lineAt at k
  refine br_dec (fun h0 => ?_) (fun h0 => ?_)
  · rw [if_pos (by omega)] at k
    exact ⟨l, _, n + 4, rfl, hl.mono (by omega), hm.mono (by omega), by omega, S, Le.refl _, k⟩
  · rw [if_neg (by omega)] at k
    exact ⟨l, _, n + 4, rfl, hl.mono (by omega), hm.mono (by omega), by omega, S, Le.refl _, k⟩
end R3

/-! the feed: draws from one number of the script -/
namespace R3
open PySem PySem.Spec PyProof.Rows L2
theorem small {n : Nat} {i : Int} (h1 : -(2 ^ n : Int) < i) (h2 : i < (2 ^ n : Int)) : Bits n i := Bits.of_lt h1 h2
theorem fdiv_nonneg' {a b : Int} (ha : 0 ≤ a) (hb : 0 < b) : 0 ≤ a.fdiv b := by
  rw [Int.fdiv_eq_ediv_of_nonneg _ (Int.le_of_lt hb)]
  exact Int.ediv_nonneg ha (Int.le_of_lt hb)
theorem fmodB {n : Nat} {i m : Int} (h0 : 0 < m) (h1 : m < (2 ^ n : Int)) : Bits n (i.fmod m) := by
  have a := Int.fmod_nonneg_of_pos i h0
  have b := Int.fmod_lt_of_pos i h0
  exact Bits.of_lt (by omega) (by omega)
/-- law_feed: slots 0 _law_script 1 _law_k 2 _law_cell 3 _law_great -/
def w_law_feed_1 : TS3 :=
 wRet (wLst [wV 3, w2 fMod (w2 fAdd (w2 fAdd (w2 fMul (w2 fMod (wV 2) (wC (.int 2147483399))) (wC (.int 40692))) (w2 fMul (wC (.int 7919)) (wV 1))) (wC (.int 13))) (wC (.int 2147483399)), wC (.int 0)])
def w_law_feed_2 : TS3 :=
 wSeq (wSet 3 (wBf fAbs [wV 2]))
 (wSeq (wIfS (wB (w2 fLt (wV 3) (wC (.int 1000000000000000000))))
 (wSet 3 (wC (.int 0)))
 (wNext))
 (w_law_feed_1))
def w_law_feed : TS3 :=
 wSeq (wSet 2 (wC (.int 0)))
 (wSeq (wIfS (wB (w2 fLt (wV 1) (wBf fLen [wV 0])))
 (wSet 2 (w2 fIx (wV 0) (wV 1)))
 (wNext))
 (w_law_feed_2))
/-- a feed of at most t steps -/
def FeedO (t : Nat) (o : SO) : Prop := ∃ g m c : Int, o = .lst [.int g, .int m, .int c] ∧ 0 ≤ g ∧ 0 ≤ m ∧ m < 2147483399 ∧ 0 ≤ c ∧ c ≤ t
theorem FeedO.mono {t u : Nat} {o : SO} (h : FeedO t o) (l : t ≤ u) : FeedO u o := by
  obtain ⟨g, m, c, h1, h2, h3, h4, h5, h6⟩ := h
  exact ⟨g, m, c, h1, h2, h3, h4, h5, by omega⟩
def sp_law_feed : Sp3 := fun ds S R _ => ∃ (ns : List Int) (k : Nat), ds = [.fl (ns.map D.int), .int k] ∧ ns.length ≤ 63 ∧ k ≤ 1000 ∧ ∀ p o, S p = none → FeedO 0 o → R (.ref p) (put S p o)
theorem feed1 {ns : List Int} {k : Nat} {c g : Int} {S : Sto} {B : Ends3} (hk : k ≤ 1000) (hg : 0 ≤ g) (h : ∀ p o, S p = none → FeedO 0 o → B.rt (.ref p) (put S p o)) :
    w_law_feed_1 B [some (.fl (ns.map D.int)), some (.int k), some (.int c), some (.int g)] S := by
  have m0 : 0 ≤ c.fmod 2147483399 := Int.fmod_nonneg_of_pos _ (by decide)
  have m1 : c.fmod 2147483399 < 2147483399 := Int.fmod_lt_of_pos _ (by decide)
  refine ⟨by decide, ⟨32, 32, small (by omega) (by omega), small (by decide) (by decide), by decide⟩, ⟨32, 32, small (by decide) (by decide), small (by omega) (by omega), by decide⟩, by decide, ?_⟩
  intro p hp
  exact h p _ hp ⟨_, _, _, rfl, hg, Int.fmod_nonneg_of_pos _ (by decide), Int.fmod_lt_of_pos _ (by decide), by decide, by decide⟩
theorem vc_law_feed : ∀ ds S R G, sp_law_feed ds S R G → w_law_feed (endsOf R G) (start3 ["_law_script", "_law_k", "_law_cell", "_law_great"] ds) S := by
  rintro ds S R G ⟨ns, k, rfl, hn, hk, h⟩
  have go : ∀ c : Int, w_law_feed_2 (endsOf R G) [some (.fl (ns.map D.int)), some (.int k), some (.int c), none] S := fun c => by
    refine br_dec (fun h0 => ?_) (fun h0 => ?_)
    · exact feed1 hk (by decide) fun p o hp hO => ⟨_, Le.refl _, h p o hp hO⟩
    · exact feed1 hk (by split <;> omega) fun p o hp hO => ⟨_, Le.refl _, h p o hp hO⟩
  refine br_dec (fun h0 => ?_) (fun h0 => ?_)
  · have hl : k < ns.length := by simpa using h0
    exact ⟨.int (ns[k]), atI_nat (by simp [hl]), go _⟩
  · exact go 0
/-- law_next: slots 0 _law_feed_here 1 _law_many 2 _law_digit 3 _law_step 4 _law_mixed -/
def w_law_next : TS3 :=
 wSeq (wIfS (wB (w2 fGt (w2 fIx (wV 0) (wC (.int 0))) (wC (.int 0))))
 (wSeq (wSet 2 (w2 fMod (w2 fIx (wV 0) (wC (.int 0))) (wV 1)))
 (wSeq (wAsg (w2 fDiv (w2 fIx (wV 0) (wC (.int 0))) (wV 1)) (gSub3 (wV 0) (wC (.int 0)) fSetL))
 (wRet (wV 2))))
 (wNext))
 (wSeq (wSet 3 (w2 fAdd (w2 fIx (wV 0) (wC (.int 2))) (wC (.int 1))))
 (wSeq (wAsg (wV 3) (gSub3 (wV 0) (wC (.int 2)) fSetL))
 (wSeq (wSet 4 (w2 fMod (w2 fAdd (w2 fAdd (w2 fIx (wV 0) (wC (.int 1))) (w2 fMul (w2 fMul (wC (.int 48271)) (wV 3)) (wV 3))) (w2 fMul (wC (.int 69621)) (wV 3))) (wC (.int 2147483629))))
 (wSeq (wSet 4 (w2 fMod (w2 fAdd (w2 fAdd (w2 fMul (wV 4) (wV 4)) (w2 fMul (wC (.int 16807)) (wV 4))) (wV 3)) (wC (.int 2147483587))))
 (wSeq (wSet 4 (w2 fMod (w2 fAdd (w2 fMul (wV 4) (wV 4)) (w2 fMul (wC (.int 39373)) (wV 4))) (wC (.int 2147483543))))
 (wRet (w2 fMod (w2 fDiv (wV 4) (wC (.int 64))) (wV 1))))))))
def sp_law_next : Sp3 := fun ds S R _ => ∃ (p : Addr) (m : Int) (t : Nat) (o : SO), ds = [.ref p, .int m] ∧ S p = some o ∧ FeedO t o ∧ t ≤ 10 ^ 9 ∧ 0 < m ∧ Bits 8900 m ∧ ∀ i o', 0 ≤ i → i < m → FeedO (t + 1) o' → R (.int i) (put S p o')
theorem vc_law_next : ∀ ds S R G, sp_law_next ds S R G → w_law_next (endsOf R G) (start3 ["_law_feed_here", "_law_many", "_law_digit", "_law_step", "_law_mixed"] ds) S := by
  rintro ds S R G ⟨p, m, t, o, rfl, hS, ⟨g, x, c, rfl, hg, hx0, hx1, hc0, hc1⟩, ht, hm, hB, h⟩
  refine ⟨_, _, hS, rfl, ?_⟩
  refine br_dec (fun h0 => ?_) (fun h0 => ?_)
  · refine ⟨_, _, hS, rfl, by omega, ?_⟩
    refine ⟨_, _, hS, rfl, ⟨by omega, 8900, hB, Nat.le_refl _⟩, ?_⟩
    refine ⟨_, 0, hS, rfl, ?_⟩
    exact ⟨_, Le.refl _, h _ _ (Int.fmod_nonneg_of_pos _ hm) (Int.fmod_lt_of_pos _ hm) ⟨_, _, _, rfl, fdiv_nonneg' hg hm, hx0, hx1, hc0, by omega⟩⟩
  · refine ⟨_, _, hS, rfl, ?_⟩
    refine ⟨_, 2, hS, rfl, ?_⟩
    refine ⟨_, _, put_same, rfl, ⟨32, 32, small (by decide) (by decide), small (by omega) (by omega), by decide⟩, ⟨64, 32, (Bits.mul (n := 32) (m := 32) (small (by decide) (by decide)) (small (by omega) (by omega))), small (by omega) (by omega), by decide⟩, ⟨32, 32, small (by decide) (by decide), small (by omega) (by omega), by decide⟩, by decide, ?_⟩
    refine ⟨mulOk (n := 32) (m := 32) (fmodB (by decide) (by decide)) (fmodB (by decide) (by decide)) (by decide), mulOk (n := 32) (m := 32) (small (by decide) (by decide)) (fmodB (by decide) (by decide)) (by decide), by decide, ?_⟩
    refine ⟨mulOk (n := 32) (m := 32) (fmodB (by decide) (by decide)) (fmodB (by decide) (by decide)) (by decide), mulOk (n := 32) (m := 32) (small (by decide) (by decide)) (fmodB (by decide) (by decide)) (by decide), by decide, ?_⟩
    refine ⟨⟨by decide, 32, small (by decide) (by decide), by decide⟩, by omega, ?_⟩
    exact ⟨_, Le.refl _, h _ _ (Int.fmod_nonneg_of_pos _ hm) (Int.fmod_lt_of_pos _ hm) ⟨_, _, _, rfl, hg, hx0, hx1, by omega, by omega⟩⟩
end R3

namespace R3
open PySem PySem.Spec PyProof.Rows L2

/-! ### things that are asked for their kind -/
/-- a thing of which one may ask what it is -/
def Tk (S : Sto) (d : D) : Prop := match d with
  | .ref a => ∃ l, IsL S a l
  | .ty _ => False
  | _ => True
/-- and of its items -/
def Th (S : Sto) (d : D) : Prop := Tk S d ∧ ∀ l, d = .tup l → ∀ e ∈ l, Tk S e
def isI : D → Bool
  | .int _ => true
  | _ => false
def isNum : D → Bool
  | .tup [.int t, .int b] => decide (0 < b) && decide (Int.gcd t b = 1)
  | _ => false
/-- is_whole: slots 0 thing -/
def w_is_whole : TS3 :=
 wRet (wAndV (wIsi .int (wV 0)) (wNotV (wIsi .bool (wV 0))))
def sp_is_whole : Sp3 := fun ds S R _ => ∃ d, ds = [d] ∧ Tk S d ∧ R (.bl (isI d)) S
theorem whole_law {d : D} {S : Sto} {B : Ends3} (h : Tk S d) (k : B.rt (.bl (isI d)) S) : w_is_whole B [some d] S := by
  cases d with
  | ref a => exact ⟨h, br_f k⟩
  | ty _ => exact h.elim
  | bl b => exact br_t k
  | int i => exact br_t k
  | _ => exact br_f k
theorem vc_is_whole : ∀ ds S R G, sp_is_whole ds S R G → w_is_whole (endsOf R G) (start3 ["thing"] ds) S := by
  rintro ds S R G ⟨d, rfl, h, k⟩
  exact whole_law h ⟨_, Le.refl _, k⟩
/-- law_shared: slots 0 _law_one 1 _law_other -/
def w_law_shared_1 : TS3 :=
 wPar 0 1 (wV 1) (w2 fMod (wV 0) (wV 1))
def w_law_shared : TS3 :=
 wSeq (wWhile (wB (w2 fNe (wV 1) (wC (.int 0))))
 (w_law_shared_1))
 (wRet (wBf fAbs [wV 0]))
def sp_law_shared : Sp3 := fun ds S R _ => ∃ a b : Int, ds = [.int a, .int b] ∧ 0 ≤ b ∧ R (.int (Int.gcd a b)) S
theorem vc_law_shared : ∀ ds S R G, sp_law_shared ds S R G → w_law_shared (endsOf R G) (start3 ["_law_one", "_law_other"] ds) S := by
  rintro ds S R G ⟨a, b, rfl, hb, h⟩
  refine ⟨fun m z S' => ∃ x y : Int, z = [some (.int x), some (.int y)] ∧ S' = S ∧ 0 ≤ y ∧ Int.gcd x y = Int.gcd a b ∧ m = y.toNat, ⟨b.toNat, a, b, rfl, rfl, hb, rfl, rfl⟩, ?_⟩
  rintro m z S' ⟨x, y, rfl, rfl, hy, hg, rfl⟩
  refine br_decN (fun h0 => ?_) (fun h0 => ?_)
  · have hp : 0 < y := by omega
    refine ⟨by omega, ?_⟩
    have l1 : 0 ≤ x.fmod y := Int.fmod_nonneg_of_pos x hp
    have l2 : x.fmod y < y := Int.fmod_lt_of_pos x hp
    exact ⟨(x.fmod y).toNat, S', by omega, Le.refl _, y, x.fmod y, rfl, rfl, l1, gcd_step.trans hg, rfl⟩
  · subst h0
    refine ⟨S', Le.refl _, ?_⟩
    rw [absI, ← show (Int.gcd x 0) = x.natAbs from Int.gcd_zero_right x, hg]
    exact h
/-- what is told of a thing that is asked whether it is a number -/
theorem two_of {l : List D} (h : l.length = 2) : ∃ a b, l = [a, b] := by
  match l, h with
  | [a, b], _ => exact ⟨a, b, rfl⟩
theorem isNum_two {t b : Int} : isNum (.tup [.int t, .int b]) = (decide (0 < b) && decide (Int.gcd t b = 1)) := rfl
theorem isNum_not {l : List D} (h : l.length ≠ 2) : isNum (.tup l) = false := by
  unfold isNum
  split
  · rename_i e; cases e; exact absurd rfl h
  · rfl
theorem isNum_a {a b : D} (h : isI a = false) : isNum (.tup [a, b]) = false := by
  cases a <;> first | rfl | (cases h)
theorem isNum_b {a b : D} (h : isI b = false) : isNum (.tup [a, b]) = false := by
  cases a <;> first | rfl | (cases b <;> first | rfl | (cases h))
theorem isI_int {a : D} (h : isI a = true) : ∃ i, a = .int i := by
  cases a <;> first | exact ⟨_, rfl⟩ | (cases h)
theorem br_b {b : Bool} {P Q : Prop} (h1 : b = true → P) (h2 : b = false → Q) : Br b P Q := ⟨h1, h2⟩
theorem not_t {b : Bool} (h : (!b) = true) : b = false := by cases b; rfl; cases h
theorem not_f {b : Bool} (h : (!b) = false) : b = true := by cases b; cases h; rfl
/-- is_number: slots 0 thing -/
def w_is_number : TS3 :=
 wSeq (wIfS (wOr (wNot (wB (wIsi .tuple (wV 0)))) (wOr (wB (w2 fNe (wBf fLen [wV 0]) (wC (.int 2)))) (wOr (wNot (wB (wCall sp_is_whole [w2 fIx (wV 0) (wC (.int 0))]))) (wNot (wB (wCall sp_is_whole [w2 fIx (wV 0) (wC (.int 1))]))))))
 (wRet (wC (.bl false)))
 (wNext))
 (wRet (wAndV (w2 fGt (w2 fIx (wV 0) (wC (.int 1))) (wC (.int 0))) (w2 fEq (wCall sp_divisor [wBf fAbs [w2 fIx (wV 0) (wC (.int 0))], w2 fIx (wV 0) (wC (.int 1))]) (wC (.int 1)))))
def sp_is_number : Sp3 := fun ds S R _ => ∃ d, ds = [d] ∧ Th S d ∧ R (.bl (isNum d)) S
theorem gcd_abs {t u : Int} : Int.gcd (if t < 0 then -t else t) u = Int.gcd t u := by rw [absI]; simp [Int.gcd]
theorem vc_is_number : ∀ ds S R G, sp_is_number ds S R G → w_is_number (endsOf R G) (start3 ["thing"] ds) S := by
  rintro ds S R G ⟨d, rfl, ⟨h, hi⟩, k⟩
  cases d with
  | tup l =>
    refine br_f (br_decN (fun h0 => ?_) (fun h0 => ?_))
    · refine br_t ⟨S, Le.refl _, ?_⟩
      rw [isNum_not (l := l) (by omega)] at k
      exact k
    · obtain ⟨a, b, rfl⟩ := two_of (l := l) (by omega)
      have ta := hi _ rfl a List.mem_cons_self
      have tb := hi _ rfl b (List.mem_cons_of_mem _ List.mem_cons_self)
      refine ⟨a, rfl, a, rfl, ta, br_b (fun e => ?_) (fun e => ?_)⟩
      · rw [isNum_a (not_t e)] at k
        exact br_t ⟨S, Le.refl _, k⟩
      · refine ⟨b, rfl, b, rfl, tb, ?_⟩
        obtain ⟨t, rfl⟩ := isI_int (not_f e)
        cases q : isI b with
        | false =>
          rw [isNum_b q] at k
          exact br_t ⟨S, Le.refl _, k⟩
        | true =>
          obtain ⟨u, rfl⟩ := isI_int q
          refine br_f ?_
          refine ⟨_, rfl, br_dec (fun h1 => ?_) (fun h1 => ?_)⟩
          · refine ⟨_, rfl, _, rfl, _, u, rfl, by rw [absI]; omega, by omega, S, Le.refl _, ?_⟩
            have e : isNum (.tup [.int t, .int u]) = decide ((Int.gcd (if t < 0 then -t else t) u : Int) = 1) := by
              rw [isNum_two, decide_eq_true h1, Bool.true_and, gcd_abs]
              simp
              omega
            rw [e] at k
            exact k
          · refine ⟨S, Le.refl _, ?_⟩
            have e : isNum (.tup [.int t, .int u]) = false := by
              rw [isNum_two, decide_eq_false h1, Bool.false_and]
            rw [e] at k
            exact k
  | ref a => exact ⟨h, br_t (br_t ⟨S, Le.refl _, k⟩)⟩
  | ty _ => exact h.elim
  | _ => exact br_t (br_t ⟨S, Le.refl _, k⟩)

theorem Tk.le {S S' : Sto} {d : D} (l : Le S S') (h : Tk S d) : Tk S' d := by
  cases d with
  | ref a => obtain ⟨x, hx⟩ := h; exact ⟨x, l _ _ hx⟩
  | ty _ => exact h
  | _ => exact trivial
theorem Th.le {S S' : Sto} {d : D} (l : Le S S') (h : Th S d) : Th S' d := ⟨h.1.le l, fun x e y hy => (h.2 x e y hy).le l⟩
theorem Th.int {S : Sto} {i : Int} : Th S (.int i) := ⟨trivial, fun _ e => nomatch e⟩
theorem Th.bl {S : Sto} {i : Bool} : Th S (.bl i) := ⟨trivial, fun _ e => nomatch e⟩
theorem Th.str {S : Sto} {i : Str} : Th S (.str i) := ⟨trivial, fun _ e => nomatch e⟩
theorem Th.non {S : Sto} : Th S .non := ⟨trivial, fun _ e => nomatch e⟩
theorem Th.ref {S : Sto} {a : Addr} {l : List D} (h : S a = some (.lst l)) : Th S (.ref a) := ⟨⟨l, h⟩, fun _ e => nomatch e⟩
theorem Th.tup {S : Sto} {l : List D} (h : ∀ e ∈ l, Tk S e) : Th S (.tup l) := ⟨trivial, fun x e y hy => by cases e; exact h y hy⟩
theorem atI_mem {l : List D} {i : Int} {d : D} (h : atI l i = some d) : d ∈ l := by
  unfold atI at h
  cases e : ixN l.length i with
  | none => rw [e] at h; cases h
  | some j => rw [e] at h; exact List.mem_of_getElem? h
theorem atI_some {l : List D} {i : Int} (h0 : 0 ≤ i) (h1 : i < l.length) : ∃ d, atI l i = some d := by
  obtain ⟨n, rfl⟩ : ∃ n : Nat, i = n := ⟨i.toNat, by omega⟩
  have : n < l.length := by omega
  exact ⟨l[n], atI_nat (by simp [this])⟩
theorem Le.put' {S S' : Sto} {p : Addr} {o : SO} (h : S p = none) (k : Le (R3.put S p o) S') : Le S S' := (Le.put h).trans k
theorem rng0 {n i : Nat} {d : D} (h : (rngD 0 n)[i]? = some d) : d = .int (i : Int) ∧ i < n := by
  have hi := (List.getElem?_eq_some_iff.mp h).1
  rw [rngD_len] at hi
  rw [rngD_get hi] at h
  cases h
  exact ⟨by rw [Int.zero_add], hi⟩
theorem isNum_qD (q : Rat) : isNum (qD q) = true := by
  have h1 : (0 : Int) < (q.den : Int) := den_pos' q
  have h2 : Int.gcd q.num (q.den : Int) = 1 := by
    have := q.reduced
    unfold Nat.Coprime at this
    simpa [Int.gcd] using this
  show (decide _ && decide _) = true
  rw [decide_eq_true h1, decide_eq_true h2]
  rfl
theorem Th.qD {S : Sto} (q : Rat) : Th S (qD q) := Th.tup fun e he => by
  simp only [List.mem_cons, List.not_mem_nil, or_false] at he
  rcases he with rfl | rfl <;> exact trivial
theorem divInt_cross {t b : Int} (hb : b ≠ 0) : (Rat.divInt t b).num * b = t * (Rat.divInt t b).den := by
  have := (Rat.divInt_eq_divInt_iff hb (den_ne (Rat.divInt t b))).mp (rat_as (Rat.divInt t b)).symm
  exact this.symm

/-- two numbers compared -/
theorem eqv_pair {a b c d : Int} : PyData.eqv (.tuple [.int a, .int b]) (.tuple [.int c, .int d]) = (decide (a = c) && decide (b = d)) := by
  simp [PyData.eqv, PyData.eqvAll]
  rfl
theorem qD_eqv {p q : Rat} : PyData.eqv (.tuple [.int p.num, .int p.den]) (.tuple [.int q.num, .int q.den]) = decide (p = q) := by
  rw [eqv_pair, Bool.eq_iff_iff, Bool.and_eq_true, decide_eq_true_iff, decide_eq_true_iff, decide_eq_true_iff]
  constructor
  · rintro ⟨h1, h2⟩
    exact Rat.ext h1 (by omega)
  · rintro rfl
    exact ⟨rfl, rfl⟩
theorem Sn.qD {S : Sto} {p : Rat} : Sn S (qD p) (.tuple [.int p.num, .int p.den]) := .tup (.cons (.int _) (.cons (.int _) .nil))
theorem okP_pair {a b : Int} : okP (.tuple [.int a, .int b]) := by unfold okP; rfl
/-- behind two numbers' equality -/
theorem Br.eqQ {p q : Rat} {A B : Prop} (h : p = q) (k : A) : Br (if false = true then !PyData.eqv (.tuple [.int p.num, .int p.den]) (.tuple [.int q.num, .int q.den]) else PyData.eqv (.tuple [.int p.num, .int p.den]) (.tuple [.int q.num, .int q.den])) A B := by
  rw [if_neg Bool.false_ne_true, qD_eqv, decide_eq_true h]
  exact br_t k
theorem Br.neQ {p q : Rat} {A B : Prop} (h : p = q) (k : B) : Br (if true = true then !PyData.eqv (.tuple [.int p.num, .int p.den]) (.tuple [.int q.num, .int q.den]) else PyData.eqv (.tuple [.int p.num, .int p.den]) (.tuple [.int q.num, .int q.den])) A B := by
  rw [if_pos rfl, qD_eqv, decide_eq_true h]
  exact br_f k
theorem eqQ_if {p q : Rat} : (if false = true then !PyData.eqv (.tuple [.int p.num, .int p.den]) (.tuple [.int q.num, .int q.den]) else PyData.eqv (.tuple [.int p.num, .int p.den]) (.tuple [.int q.num, .int q.den])) = decide (p = q) := by
  rw [if_neg Bool.false_ne_true, qD_eqv]
theorem neQ_if {p q : Rat} : (if true = true then !PyData.eqv (.tuple [.int p.num, .int p.den]) (.tuple [.int q.num, .int q.den]) else PyData.eqv (.tuple [.int p.num, .int p.den]) (.tuple [.int q.num, .int q.den])) = !decide (p = q) := by
  rw [if_pos rfl, qD_eqv]
end R3

namespace R3
open PySem PySem.Spec PyProof.Rows L2
local macro_rules | `(tactic| walk_at "draw") => `(tactic| refine ⟨_, _, _, _, rfl, (by first | assumption | exact put_same), (by assumption), (by omega), (by decide), (small (n := 250) (by decide) (by decide)).mono (by decide), ?_⟩)
/-- under: slots 0 one 1 other -/
def w_under : TS3 :=
 wRet (w2 fLt (w2 fMul (w2 fIx (wV 0) (wC (.int 0))) (w2 fIx (wV 1) (wC (.int 1)))) (w2 fMul (w2 fIx (wV 1) (wC (.int 0))) (w2 fIx (wV 0) (wC (.int 1)))))
def sp_under : Sp3 := fun ds S R _ => ∃ (p q : Rat) (n : Nat), ds = [qD p, qD q] ∧ QB n p ∧ QB n q ∧ n ≤ 4400 ∧ R (.bl (decide (p < q))) S
theorem lt_as {p q : Rat} : decide (p.num * q.den < q.num * p.den) = decide (p < q) := by
  rw [Bool.eq_iff_iff, decide_eq_true_iff, decide_eq_true_iff]
  exact (Rat.lt_iff _ _).symm
theorem vc_under : ∀ ds S R G, sp_under ds S R G → w_under (endsOf R G) (start3 ["one", "other"] ds) S := by
  rintro ds S R G ⟨p, q, n, rfl, hp, hq, hn, h⟩
  refine ⟨_, rfl, _, rfl, mulOk hp.1 hq.2 (by omega), _, rfl, _, rfl, mulOk hq.1 hp.2 (by omega), S, Le.refl _, ?_⟩
  rw [lt_as]
  exact h
/-- over: slots 0 one 1 other -/
def w_over : TS3 :=
 wRet (wCall sp_fraction [w2 fMul (w2 fIx (wV 0) (wC (.int 0))) (w2 fIx (wV 1) (wC (.int 1))), w2 fMul (w2 fIx (wV 0) (wC (.int 1))) (w2 fIx (wV 1) (wC (.int 0)))])
def sp_over : Sp3 := fun ds S R G => ∃ (p q : Rat) (n : Nat), ds = [qD p, qD q] ∧ QB n p ∧ QB n q ∧ n ≤ 4400 ∧ (q = 0 → G .number S) ∧ (q ≠ 0 → R (qD (p / q)) S)
theorem vc_over : ∀ ds S R G, sp_over ds S R G → w_over (endsOf R G) (start3 ["one", "other"] ds) S := by
  rintro ds S R G ⟨p, q, n, rfl, hp, hq, hn, hx, h⟩
  refine ⟨_, rfl, _, rfl, mulOk hp.1 hq.2 (by omega), _, rfl, _, rfl, mulOk hp.2 hq.1 (by omega), _, _, rfl, fun e => ⟨S, Le.refl _, hx ?_⟩, fun e => ⟨(hp.2.mul hq.1).mono (by omega), S, Le.refl _, ?_⟩⟩
  · rcases Int.mul_eq_zero.mp e with e | e
    · exact absurd e (den_ne p)
    · exact Rat.num_eq_zero.mp e
  · rw [div_as]
    exact h fun z => e (by rw [z]; exact Int.mul_zero _)
end R3

namespace R3
open PySem PySem.Spec PyProof.Rows L2
local macro_rules | `(tactic| walk_at "draw") => `(tactic| refine ⟨_, _, _, _, rfl, (by first | assumption | exact put_same), (by assumption), (by omega), (by decide), (small (n := 250) (by decide) (by decide)).mono (by decide), ?_⟩)
/-- law_lowest: slots 0 _law_top 1 _law_bottom 2 _law_by -/
def w_law_lowest : TS3 :=
 wSeq (wSet 2 (wCall sp_law_shared [wV 0, wV 1]))
 (wRet (wTup [w2 fDiv (wV 0) (wV 2), w2 fDiv (wV 1) (wV 2)]))
def sp_law_lowest : Sp3 := fun ds S R _ => ∃ t b : Int, ds = [.int t, .int b] ∧ 0 < b ∧ Bits 8900 b ∧ R (qD (Rat.divInt t b)) S
theorem vc_law_lowest : ∀ ds S R G, sp_law_lowest ds S R G → w_law_lowest (endsOf R G) (start3 ["_law_top", "_law_bottom", "_law_by"] ds) S := by
  rintro ds S R G ⟨t, b, rfl, hb, hB, h⟩
  refine ⟨t, b, rfl, by omega, ?_⟩
  obtain ⟨k, m, hk, hm, hg⟩ := gcd_parts t b (by omega)
  obtain ⟨e1, e2⟩ := divInt_parts (by omega) hk hm hg
  have hgB : Bits 8900 (Int.gcd t b : Int) := hB.of_le (by
    have := Nat.le_of_dvd (Int.natAbs_pos.mpr (show b ≠ 0 by omega)) (Int.gcd_dvd_natAbs_right t b)
    simpa using this)
  have d : DivOk (Int.gcd t b : Int) := ⟨hg, 8900, hgB, Nat.le_refl _⟩
  refine ⟨d, d, S, Le.refl _, ?_⟩
  have f1 : t.fdiv (Int.gcd t b : Int) = (Rat.divInt t b).num := by
    rw [e1, Int.sign_eq_one_of_pos hb]
    generalize (Int.gcd t b : Int) = g at hk hg ⊢
    rw [hk, fdiv_mul_left hg]
    omega
  have f2 : b.fdiv (Int.gcd t b : Int) = ((Rat.divInt t b).den : Int) := by
    rw [e2, Int.sign_eq_one_of_pos hb]
    clear e1 e2
    generalize (Int.gcd t b : Int) = g at hm hg ⊢
    rw [hm, fdiv_mul_left hg]
    omega
  show R (.tup [.int (t.fdiv _), .int (b.fdiv _)]) S
  rw [f1, f2]
  exact h
/-- law_is: slots 0 _law_found 1 _law_top 2 _law_bottom 3 _law_part -/
def w_law_is_1 : TS3 :=
 wIfS (wOr (wNot (wB (wIsi .int (wV 3)))) (wB (wIsi .bool (wV 3))))
 (wRet (wC (.bl false)))
 (wNext)
def w_law_is : TS3 :=
 wSeq (wIfS (wOr (wNot (wB (wIsi .tuple (wV 0)))) (wB (w2 fNe (wBf fLen [wV 0]) (wC (.int 2)))))
 (wRet (wC (.bl false)))
 (wNext))
 (wSeq (wFor (wItA (wV 0)) (gN 3)
 (w_law_is_1))
 (wRet (wAndV (w2 fGt (w2 fIx (wV 0) (wC (.int 1))) (wC (.int 0))) (wAndV (w2 fEq (wCall sp_law_shared [w2 fIx (wV 0) (wC (.int 0)), w2 fIx (wV 0) (wC (.int 1))]) (wC (.int 1))) (w2 fEq (w2 fMul (w2 fIx (wV 0) (wC (.int 0))) (wV 2)) (w2 fMul (wV 1) (w2 fIx (wV 0) (wC (.int 1)))))))))
def sp_law_is : Sp3 := fun ds S R _ => ∃ (q : Rat) (t b : Int) (n : Nat), ds = [qD q, .int t, .int b] ∧ QB n q ∧ Bits n t ∧ Bits n b ∧ n ≤ 400000 ∧ q.num * b = t * q.den ∧ R (.bl true) S
theorem vc_law_is : ∀ ds S R G, sp_law_is ds S R G → w_law_is (endsOf R G) (start3 ["_law_found", "_law_top", "_law_bottom", "_law_part"] ds) S := by
  rintro ds S R G ⟨q, t, b, n, rfl, hq, ht, hb, hn, he, h⟩
  refine br_f (br_f ?_)
  refine ⟨fun i z S' => ∃ x, z = [some (qD q), some (.int t), some (.int b), x] ∧ S' = S, ⟨none, rfl, rfl⟩, fun _ _ _ _ _ => trivial, ?_, ?_⟩
  · rintro i d z S' hd ⟨x, rfl, rfl⟩
    have : ∃ k, d = .int k := by
      match i, hd with
      | 0, hd => exact ⟨q.num, (Option.some.inj hd).symm⟩
      | 1, hd => exact ⟨q.den, (Option.some.inj hd).symm⟩
    obtain ⟨k, rfl⟩ := this
    refine br_f (br_f ?_)
    exact ⟨S', Le.refl _, _, rfl, rfl⟩
  · rintro z S' ⟨x, rfl, rfl⟩
    refine ⟨_, rfl, br_dec (fun _ => ?_) (fun e => absurd (den_pos' q) e)⟩
    refine ⟨_, rfl, _, rfl, q.num, q.den, rfl, by omega, br_dec (fun _ => ?_) (fun e => ?_)⟩
    · refine ⟨_, rfl, mulOk hq.1 hb (by omega), _, rfl, mulOk ht hq.2 (by omega), S', Le.refl _, ?_⟩
      rw [decide_eq_true he]
      exact h
    · refine absurd ?_ e
      have := q.reduced
      unfold Nat.Coprime at this
      have e2 : Int.gcd q.num (q.den : Int) = 1 := by simpa [Int.gcd] using this
      rw [e2]; rfl
/-- law_number: slots 0 _law_feed_here 1 _law_way 2 _law_top 3 _law_bottom -/
def w_law_number_1 : TS3 :=
 wRet (wCall sp_law_lowest [wV 2, wV 3])
def w_law_number_2 : TS3 :=
 wSeq (wIfS (wB (w2 fGt (wV 1) (wC (.int 2))))
 (wSeq (wSet 2 (w2 fAdd (w2 fMul (wV 2) (wC (.int 10000000000))) (wCall sp_law_next [wV 0, wC (.int 1000000)])))
 (wSet 3 (w2 fAdd (w2 fMul (wV 3) (wC (.int 1000000))) (wCall sp_law_next [wV 0, wC (.int 1000000)]))))
 (wNext))
 (w_law_number_1)
def w_law_number_3 : TS3 :=
 wSeq (wIfS (wB (w2 fGt (wV 1) (wC (.int 1))))
 (wSet 2 (w2 fAdd (w2 fMul (wV 2) (wC (.int 100000000))) (wCall sp_law_next [wV 0, wC (.int 10000000)])))
 (wNext))
 (w_law_number_2)
def w_law_number : TS3 :=
 wSeq (wSet 1 (wCall sp_law_next [wV 0, wC (.int 4)]))
 (wSeq (wSet 2 (w2 fSub (wCall sp_law_next [wV 0, wC (.int 25)]) (wC (.int 12))))
 (wSeq (wSet 3 (w2 fAdd (wC (.int 1)) (wCall sp_law_next [wV 0, wC (.int 12)])))
 (wSeq (wIfS (wB (w2 fEq (wV 1) (wC (.int 0))))
 (wSet 3 (wC (.int 1)))
 (wNext))
 (w_law_number_3))))
def sp_law_number : Sp3 := fun ds S R _ => ∃ (p : Addr) (t : Nat) (o : SO), ds = [.ref p] ∧ S p = some o ∧ FeedO t o ∧ t ≤ 10 ^ 8 ∧ ∀ q o', QB 100 q → FeedO (t + 10) o' → R (qD q) (put S p o')
theorem vc_law_number : ∀ ds S R G, sp_law_number ds S R G → w_law_number (endsOf R G) (start3 ["_law_feed_here", "_law_way", "_law_top", "_law_bottom"] ds) S := by
  rintro ds S R G ⟨p, t, o, rfl, hS, hO, ht, h⟩
  walk_at "draw"; intro w o1 w0 w1 hO1
  walk_at "draw"; intro a o2 a0 a1 hO2
  walk_at "draw"; intro b o3 b0 b1 hO3
  have last : ∀ (u v : Int) S', Bits 100 u → Bits 100 v → 0 < v → (∃ o', S' = put S p o' ∧ FeedO (t + 10) o') → w_law_number_1 (endsOf R G) [some (.ref p), some (.int w), some (.int u), some (.int v)] S' := fun u v S' hu hv v0 ⟨o', e, hO'⟩ => by
    subst e
    exact ⟨u, v, rfl, v0, hv.mono (by decide), _, Le.refl _, h _ _ (divInt_bits (by omega) hu hv) hO'⟩
  have third : ∀ (u v : Int) S' o', Bits 60 u → 0 < v → v ≤ 12 → S' = put S p o' → FeedO (t + 6) o' → w_law_number_2 (endsOf R G) [some (.ref p), some (.int w), some (.int u), some (.int v)] S' := fun u v S' o' hu v0 v1 e hO' => by
    subst e
    refine br_dec (fun h0 => ?_) (fun h0 => ?_)
    · have ub := hu.lt
      refine ⟨mulOk hu (small (n := 40) (by decide) (by decide)) (by decide), ?_⟩
      walk_at "draw"; intro c o4 c0 c1 hO4
      refine ⟨mulOk (n := 6) (m := 40) (small (by omega) (by omega)) (small (by decide) (by decide)) (by decide), ?_⟩
      walk_at "draw"; intro d o5 d0 d1 hO5
      refine last _ _ _ (small (by omega) (by omega)) (small (by omega) (by omega)) (by omega) ⟨o5, ?_, hO5.mono (by omega)⟩
      rw [put_put, put_put]
    · exact last _ _ _ (hu.mono (by decide)) (small (by omega) (by omega)) v0 ⟨o', rfl, hO'.mono (by omega)⟩
  have second : ∀ (v : Int), 0 < v → v ≤ 12 → w_law_number_3 (endsOf R G) [some (.ref p), some (.int w), some (.int (a - 12)), some (.int v)] (put (put (put S p o1) p o2) p o3) := fun v v0 v1 => by
    have e : put (put (put S p o1) p o2) p o3 = put S p o3 := by rw [put_put, put_put]
    rw [e]
    refine br_dec (fun h0 => ?_) (fun h0 => ?_)
    · refine ⟨mulOk (n := 6) (m := 40) (small (by omega) (by omega)) (small (by decide) (by decide)) (by decide), ?_⟩
      walk_at "draw"; intro c o4 c0 c1 hO4
      refine third _ _ _ o4 (small (by omega) (by omega)) v0 v1 ?_ (hO4.mono (by omega))
      rw [put_put]
    · exact third _ _ _ o3 (small (by omega) (by omega)) v0 v1 rfl (hO3.mono (by omega))
  refine br_dec (fun h0 => ?_) (fun h0 => ?_)
  · exact second 1 (by decide) (by decide)
  · exact second (1 + b) (by omega) (by omega)
/-- law_by_nought: slots 0 _law_one 1 _law_caught 2 e -/
def w_law_by_nought_1 : TS3 :=
 wDrop (wCall sp_over [wV 0, wTup [wC (.int 0), wC (.int 1)]])
def w_law_by_nought_2 : TS3 :=
 wSet 1 (wV 2)
def w_law_by_nought : TS3 :=
 wSeq (wSet 1 (wC .non))
 (wSeq (wTry [.number] .roof 2 (w_law_by_nought_1) (w_law_by_nought_2))
 (wSeq (wIfS (wB (wIsE [.number] [(.ex .name), (.ex .point), (.ex .row), (.ex .text), (.ex .yard)] (wV 1)))
 (wRet (wC (.bl false)))
 (wNext))
 (wRet (wAndV (wIsE [.number] [(.ex .number)] (wV 1)) (wIsE [.number] [.value] (wV 1))))))
def sp_law_by_nought : Sp3 := fun ds S R _ => ∃ (q : Rat) (n : Nat), ds = [qD q] ∧ QB n q ∧ 1 ≤ n ∧ n ≤ 4400 ∧ R (.bl true) S
theorem qD_nought : (qD 0 : D) = .tup [.int 0, .int 1] := rfl
theorem QB.nought {n : Nat} (h : 1 ≤ n) : QB n 0 := ⟨(small (n := 1) (i := 0) (by decide) (by decide)).mono h, small1 (n := n) (by omega)⟩
theorem vc_law_by_nought : ∀ ds S R G, sp_law_by_nought ds S R G → w_law_by_nought (endsOf R G) (start3 ["_law_one", "_law_caught", "e"] ds) S := by
  rintro ds S R G ⟨q, n, rfl, hq, h1, hn, h⟩
  refine ⟨q, 0, n, rfl, hq, QB.nought h1, hn, fun _ => ⟨List.mem_cons_self, br_t fun a ha => ?_⟩, fun e => absurd rfl e⟩
  refine ⟨_, put_same, List.mem_cons_self, br_f ?_⟩
  exact ⟨_, put_same, List.mem_cons_self, br_t ⟨_, put_same, List.mem_cons_self, S, Le.put ha, h⟩⟩
/-- law_right: slots 0 _law_one 1 _law_other 2 _law_a 3 _law_b 4 _law_c 5 _law_d 6 _law_told 7 _law_share -/
def w_law_right_1 : TS3 :=
 wRet (wAndV (w2 fEq (wCall sp_plus [wCall sp_minus [wV 0, wV 1], wV 1]) (wV 0)) (w2 fEq (wCall sp_minus [wCall sp_plus [wV 0, wV 1], wV 1]) (wV 0)))
def w_law_right : TS3 :=
 wSeq (wAsg (wV 0) (gTup3 2 (gCons3 (gN 2) (gCons3 (gN 3) (gNil3)))))
 (wSeq (wAsg (wV 1) (gTup3 2 (gCons3 (gN 4) (gCons3 (gN 5) (gNil3)))))
 (wSeq (wIfS (wNot (wB (wCall sp_law_is [wCall sp_plus [wV 0, wV 1], w2 fAdd (w2 fMul (wV 2) (wV 5)) (w2 fMul (wV 4) (wV 3)), w2 fMul (wV 3) (wV 5)])))
 (wRet (wC (.bl false)))
 (wNext))
 (wSeq (wIfS (wNot (wB (wCall sp_law_is [wCall sp_minus [wV 0, wV 1], w2 fSub (w2 fMul (wV 2) (wV 5)) (w2 fMul (wV 4) (wV 3)), w2 fMul (wV 3) (wV 5)])))
 (wRet (wC (.bl false)))
 (wNext))
 (wSeq (wSet 6 (wCall sp_under [wV 0, wV 1]))
 (wSeq (wIfS (wOr (wNot (wB (wIsi .bool (wV 6)))) (wOr (wB (w2 fNe (wV 6) (w2 fLt (w2 fMul (wV 2) (wV 5)) (w2 fMul (wV 4) (wV 3))))) (wNot (wB (wCall sp_law_is [wCall sp_times [wV 0, wV 1], w2 fMul (wV 2) (wV 4), w2 fMul (wV 3) (wV 5)])))))
 (wRet (wC (.bl false)))
 (wNext))
 (wSeq (wIfS (wB (w2 fNe (wV 4) (wC (.int 0))))
 (wSeq (wSet 7 (wCall sp_over [wV 0, wV 1]))
 (wIfS (wOr (wNot (wB (wCall sp_law_is [wV 7, w2 fMul (wV 2) (wV 5), w2 fMul (wV 3) (wV 4)]))) (wB (w2 fNe (wCall sp_times [wV 7, wV 1]) (wV 0))))
 (wRet (wC (.bl false)))
 (wNext)))
 (wNext))
 (w_law_right_1)))))))
def sp_law_right : Sp3 := fun ds S R _ => ∃ (p q : Rat) (n : Nat), ds = [qD p, qD q] ∧ QB n p ∧ QB n q ∧ 1 ≤ n ∧ n ≤ 1000 ∧ R (.bl true) S
theorem add_cross {p q : Rat} : (p + q).num * (p.den * q.den) = (p.num * q.den + q.num * p.den) * (p + q).den := by
  rw [← add_as]
  exact divInt_cross (Int.mul_ne_zero (den_ne p) (den_ne q))
theorem sub_cross {p q : Rat} : (p - q).num * (p.den * q.den) = (p.num * q.den - q.num * p.den) * (p - q).den := by
  rw [← sub_as]
  exact divInt_cross (Int.mul_ne_zero (den_ne p) (den_ne q))
theorem mul_cross {p q : Rat} : (p * q).num * (p.den * q.den) = (p.num * q.num) * (p * q).den := by
  rw [← mul_as]
  exact divInt_cross (Int.mul_ne_zero (den_ne p) (den_ne q))
theorem div_cross {p q : Rat} (h : q.num ≠ 0) : (p / q).num * (p.den * q.num) = (p.num * q.den) * (p / q).den := by
  rw [← div_as]
  exact divInt_cross (Int.mul_ne_zero (den_ne p) h)
theorem vc_law_right : ∀ ds S R G, sp_law_right ds S R G → w_law_right (endsOf R G) (start3 ["_law_one", "_law_other", "_law_a", "_law_b", "_law_c", "_law_d", "_law_told", "_law_share"] ds) S := by
  rintro ds S R G ⟨p, q, n, rfl, hp, hq, n1, hn, h⟩
  have mad := mulOk hp.1 hq.2 (by omega)
  have mcb := mulOk hq.1 hp.2 (by omega)
  have mbd := mulOk hp.2 hq.2 (by omega)
  have mac := mulOk hp.1 hq.1 (by omega)
  have mbc := mulOk hp.2 hq.1 (by omega)
  have bad := hp.1.mul hq.2
  have bcb := hq.1.mul hp.2
  have bbd := hp.2.mul hq.2
  have bac := hp.1.mul hq.1
  have bbc := hp.2.mul hq.1
  have ha := hp.add hq
  have hs := hp.sub hq
  have hm := hp.mul hq
  have back : ∀ a6 a7, w_law_right_1 (endsOf R G) [some (qD p), some (qD q), some (.int p.num), some (.int p.den), some (.int q.num), some (.int q.den), a6, a7] S := fun a6 a7 => by
    refine ⟨p, q, n, rfl, hp, hq, by omega, p - q, q, 2 * n + 1, rfl, hs.mono (by omega), hq.mono (by omega), by omega, _, _, Sn.qD, Sn.qD, okP_pair, okP_pair, Br.eqQ (by rw [Rat.sub_eq_add_neg, Rat.add_assoc, Rat.neg_add_cancel, Rat.add_zero]) ?_⟩
    refine ⟨p, q, n, rfl, hp, hq, by omega, p + q, q, 2 * n + 1, rfl, ha.mono (by omega), hq.mono (by omega), by omega, _, _, Sn.qD, Sn.qD, okP_pair, okP_pair, S, Le.refl _, ?_⟩
    rw [eqQ_if, decide_eq_true (show p + q - q = p by rw [Rat.sub_eq_add_neg, Rat.add_assoc, Rat.add_comm q, Rat.neg_add_cancel, Rat.add_zero])]
    exact h
  refine ⟨rfl, rfl, p, q, n, rfl, hp, hq, by omega, mad, mcb, mbd, ?_⟩
  refine ⟨p + q, _, _, 2 * n + 1, rfl, ha.mono (by omega), ((bad.mono (m := 2 * n) (by omega)).add (bcb.mono (m := 2 * n) (by omega))).mono (by omega), bbd.mono (by omega), by omega, add_cross, br_f ?_⟩
  refine ⟨p, q, n, rfl, hp, hq, by omega, mad, mcb, mbd, ?_⟩
  refine ⟨p - q, _, _, 2 * n + 1, rfl, hs.mono (by omega), ((bad.mono (m := 2 * n) (by omega)).sub (bcb.mono (m := 2 * n) (by omega))).mono (by omega), bbd.mono (by omega), by omega, sub_cross, br_f ?_⟩
  refine ⟨p, q, n, rfl, hp, hq, by omega, br_f ⟨mad, mcb, ?_⟩⟩
  refine br_decN (fun e => absurd lt_as.symm e) fun _ => ?_
  refine ⟨p, q, n, rfl, hp, hq, by omega, mac, mbd, ?_⟩
  refine ⟨p * q, _, _, 2 * n, rfl, hm.mono (by omega), bac.mono (by omega), bbd.mono (by omega), by omega, mul_cross, br_f ?_⟩
  refine br_decN (fun e => ?_) (fun _ => back _ _)
  have q0 : q ≠ 0 := fun z => e (by rw [z]; rfl)
  have hd := hp.div hq q0
  refine ⟨p, q, n, rfl, hp, hq, by omega, fun z => absurd z q0, fun _ => ⟨mad, mbc, ?_⟩⟩
  refine ⟨p / q, _, _, 2 * n, rfl, hd.mono (by omega), bad.mono (by omega), bbc.mono (by omega), by omega, div_cross e, br_f ?_⟩
  refine ⟨p / q, q, 2 * n, rfl, hd.mono (by omega), hq.mono (by omega), by omega, _, _, Sn.qD, Sn.qD, okP_pair, okP_pair, Br.neQ (Rat.div_mul_cancel q0) (back _ _)⟩
/-- law: slots 0 _law_script 1 _law_k 2 _law_feed_here 3 _law_some 4 _law_top 5 _law_bottom 6 _law_near 7 _law_one 8 _law_other 9 _law_third -/
def w_law_1 : TS3 :=
 wSeq (wIfS (wOr (wNot (wB (wCall sp_law_right [wV 7, wV 8]))) (wB (w2 fNe (wCall sp_plus [wV 7, wV 8]) (wCall sp_plus [wV 8, wV 7]))))
 (wRet (wC (.bl false)))
 (wNext))
 (wIfS (wB (w2 fNe (wCall sp_times [wV 7, wV 8]) (wCall sp_times [wV 8, wV 7])))
 (wRet (wC (.bl false)))
 (wNext))
def w_law_2 : TS3 :=
 wFor (wItA (wV 3)) (gN 8)
 (w_law_1)
def w_law_3 : TS3 :=
 wSeq (wSet 2 (wCall sp_law_feed [wV 0, wV 1]))
 (wSeq (wSet 3 (wLst [wCall sp_law_number [wV 2], wCall sp_law_number [wV 2], wCall sp_law_number [wV 2]]))
 (wSeq (wAsg (w2 fIx (wV 3) (wC (.int 0))) (gTup3 2 (gCons3 (gN 4) (gCons3 (gN 5) (gNil3)))))
 (wSeq (wSet 6 (wCall sp_law_lowest [w2 fAdd (w2 fMul (wV 4) (wC (.int 1000000))) (wV 5), w2 fMul (wV 5) (wC (.int 1000000))]))
 (wSeq (wAsg (wF (w2 fIx (wLst [w2 fIx (wV 3) (wC (.int 1)), w2 fIx (wV 3) (wC (.int 0)), wTup [w2 fSub (wC (.int 0)) (wV 4), wV 5], wTup [wC (.int 0), wC (.int 1)], w2 fIx (wV 3) (wC (.int 1)), wV 6]) (wCall sp_law_next [wV 2, wC (.int 6)]))) (gSub3 (wV 3) (wC (.int 1)) fSetL))
 (wSeq (wIfS (wNot (wB (wCall sp_law_by_nought [w2 fIx (wV 3) (wC (.int 0))])))
 (wRet (wC (.bl false)))
 (wNext))
 (wSeq (wFor (wItA (wV 3)) (gN 7)
 (w_law_2))
 (wSeq (wAsg (wV 3) (gTup3 3 (gCons3 (gN 7) (gCons3 (gN 8) (gCons3 (gN 9) (gNil3))))))
 (wSeq (wIfS (wB (w2 fNe (wCall sp_plus [wCall sp_plus [wV 7, wV 8], wV 9]) (wCall sp_plus [wV 7, wCall sp_plus [wV 8, wV 9]])))
 (wRet (wC (.bl false)))
 (wNext))
 (wIfS (wB (w2 fNe (wCall sp_times [wCall sp_plus [wV 7, wV 8], wV 9]) (wCall sp_plus [wCall sp_times [wV 7, wV 9], wCall sp_times [wV 8, wV 9]])))
 (wRet (wC (.bl false)))
 (wNext))))))))))
def w_law : TS3 :=
 wSeq (wFor (wRng1 (w2 fAdd (wC (.int 1)) (wBf fMin2 [wC (.int 20), wBf fLen [wV 0]]))) (gN 1)
 (w_law_3))
 (wRet (wC (.bl true)))
theorem law2 {ns : List Int} {a1 : Option D} {r : Addr} {ps : List Rat} {a2 a4 a5 a6 a9 : Option D} {S : Sto} {B : Ends3} {p : Rat} {a8 : Option D} (hl : IsL S r (ps.map qD)) (hps : ∀ q ∈ ps, QB 140 q) (hp : QB 140 p)
    (hnx : ∀ a8, B.nx [some (.fl (ns.map D.int)), a1, a2, some (.ref r), a4, a5, a6, some (qD p), a8, a9] S) :
    w_law_2 B [some (.fl (ns.map D.int)), a1, a2, some (.ref r), a4, a5, a6, some (qD p), a8, a9] S := by
  refine ⟨_, hl, fun j z S2 => S2 = S ∧ ∃ a8, z = [some (.fl (ns.map D.int)), a1, a2, some (.ref r), a4, a5, a6, some (qD p), a8, a9], ⟨rfl, _, rfl⟩, fun _ _ _ _ q => by rw [q.1]; exact hl, ?_, ?_⟩
  · rintro j d z S2 hd ⟨rfl, a8, rfl⟩
    obtain ⟨q, hq, rfl⟩ := List.mem_map.mp (List.mem_of_getElem? hd)
    have hq := hps q hq
    refine ⟨p, q, 140, rfl, hp, hq, by decide, by decide, br_f ?_⟩
    refine ⟨p, q, 140, rfl, hp, hq, by decide, q, p, 140, rfl, hq, hp, by decide, _, _, Sn.qD, Sn.qD, okP_pair, okP_pair, Br.neQ (Rat.add_comm p q) ?_⟩
    refine ⟨p, q, 140, rfl, hp, hq, by decide, q, p, 140, rfl, hq, hp, by decide, _, _, Sn.qD, Sn.qD, okP_pair, okP_pair, Br.neQ (Rat.mul_comm p q) ?_⟩
    exact ⟨S2, Le.refl _, rfl, _, rfl⟩
  · rintro z S2 ⟨rfl, a8, rfl⟩
    exact hnx _
theorem vc_law : ∀ ds S R G, sp_law ds S R G → w_law (endsOf R G) (start3 ["_law_script", "_law_k", "_law_feed_here", "_law_some", "_law_top", "_law_bottom", "_law_near", "_law_one", "_law_other", "_law_third"] ds) S := by
  rintro ds S R G ⟨ns, rfl, hn, hb, k⟩
  have hlen : (ns.map D.int).length = ns.length := List.length_map _
  refine ⟨⟨by rw [hlen]; split <;> omega, by rw [hlen]; split <;> omega⟩, fun i z S' => ∃ a1 a2 a3 a4 a5 a6 a7 a8 a9, z = [some (.fl (ns.map D.int)), a1, a2, a3, a4, a5, a6, a7, a8, a9], ⟨_, _, _, _, _, _, _, _, _, rfl⟩, fun _ _ _ _ _ => trivial, ?_, ?_⟩
  · rintro i d z S' hd ⟨a1, a2, a3, a4, a5, a6, a7, a8, a9, rfl⟩
    obtain ⟨rfl, hi⟩ := rng0 hd
    have hi2 : i ≤ 1000 := by
      rw [hlen] at hi
      split at hi <;> omega
    refine ⟨ns, i, rfl, hn, hi2, fun f o hf hO => ?_⟩
    refine ⟨f, _, o, rfl, put_same, hO, by decide, fun p o2 pB hO2 => ?_⟩
    refine ⟨f, _, o2, rfl, put_same, hO2, by omega, fun q o3 qB hO3 => ?_⟩
    refine ⟨f, _, o3, rfl, put_same, hO3, by omega, fun t o4 tB hO4 => ?_⟩
    intro r hr
    have nrf : r ≠ f := fun e => by subst e; rw [put_same] at hr; cases hr
    have hB20 : Bits 20 1000000 := small (by decide) (by decide)
    have pl := pB.1.lt
    have pd := pB.2.lt
    have pos := den_pos' p
    have n1 : Bits 122 (p.num * 1000000 + (p.den : Int)) := by
      have := ((pB.1.mul hB20).add (pB.2.mono (m := 120) (by decide)))
      exact this.mono (by decide)
    have n2 : Bits 120 ((p.den : Int) * 1000000) := (pB.2.mul hB20).mono (by decide)
    refine ⟨_, _, put_same, rfl, rfl, mulOk pB.1 hB20 (by decide), mulOk pB.2 hB20 (by decide), _, _, rfl, by omega, n2.mono (by decide), ?_⟩
    have nB : QB 140 (Rat.divInt (p.num * 1000000 + (p.den : Int)) ((p.den : Int) * 1000000)) := divInt_bits (by omega) (n1.mono (by decide)) (n2.mono (by decide))
    refine ⟨_, _, put_same, rfl, _, _, put_same, rfl, _, _, put_same, rfl, ?_⟩
    intro u hu
    have nuf : u ≠ f := fun e => by subst e; rw [put_ne (Ne.symm nrf), put_same] at hu; cases hu
    have nur : u ≠ r := fun e => by subst e; rw [put_same] at hu; cases hu
    refine ⟨f, _, _, o4, rfl, by rw [put_ne (Ne.symm nuf), put_ne (Ne.symm nrf)]; exact put_same, hO4, by omega, by decide, small (by decide) (by decide), fun c o5 c0 c1 hO5 => ?_⟩
    obtain ⟨x, hx, y, rfl, yB⟩ : ∃ x, atI [qD q, qD p, .tup [.int (0 - p.num), .int p.den], .tup [.int 0, .int 1], qD q, qD (Rat.divInt (p.num * 1000000 + (p.den : Int)) ((p.den : Int) * 1000000))] c = some x ∧ ∃ y, x = qD y ∧ QB 140 y := by
      obtain ⟨m, rfl⟩ : ∃ m : Nat, c = m := ⟨c.toNat, by omega⟩
      have hm : m < 6 := by omega
      match m, hm with
      | 0, _ => exact ⟨_, rfl, q, rfl, qB.mono (by decide)⟩
      | 1, _ => exact ⟨_, rfl, p, rfl, pB.mono (by decide)⟩
      | 2, _ => exact ⟨_, rfl, -p, by
          show D.tup [.int (0 - p.num), .int p.den] = D.tup [.int (-p).num, .int ((-p).den : Int)]
          rw [Rat.neg_num, Rat.neg_den, Int.zero_sub], ⟨by rw [Rat.neg_num]; exact (pB.1.mono (by decide)).neg, by rw [Rat.neg_den]; exact pB.2.mono (by decide)⟩⟩
      | 3, _ => exact ⟨_, rfl, 0, rfl, QB.nought (by decide)⟩
      | 4, _ => exact ⟨_, rfl, q, rfl, qB.mono (by decide)⟩
      | 5, _ => exact ⟨_, rfl, _, rfl, nB⟩
    have eS : put (put (put (put (put (put (put S' f o) f o2) f o3) f o4) r (.lst [qD p, qD q, qD t])) u (.lst [qD q, qD p, .tup [.int (0 - p.num), .int p.den], .tup [.int 0, .int 1], qD q, qD (Rat.divInt (p.num * 1000000 + (p.den : Int)) ((p.den : Int) * 1000000))])) f o5 u = some (.lst [qD q, qD p, .tup [.int (0 - p.num), .int p.den], .tup [.int 0, .int 1], qD q, qD (Rat.divInt (p.num * 1000000 + (p.den : Int)) ((p.den : Int) * 1000000))]) := by rw [put_ne nuf]; exact put_same
    refine ⟨_, _, eS, hx, put (put S' f o5) r (.lst [qD p, qD q, qD t]), ?_, ?_⟩
    · intro a z ha
      by_cases e1 : a = r
      · subst e1
        rw [put_same] at ha
        rw [put_ne nrf, put_ne (Ne.symm nur), put_same]
        exact ha
      · rw [put_ne e1] at ha
        by_cases e2 : a = f
        · subst e2
          rw [put_same] at ha ⊢
          exact ha
        · rw [put_ne e2] at ha ⊢
          have e3 : a ≠ u := by
            rintro rfl
            rw [put_ne e1, put_put, put_put, put_put, put_ne e2] at hu
            rw [hu] at ha; cases ha
          rw [put_ne e3, put_ne e1, put_put, put_put, put_put, put_ne e2]
          exact ha
    refine ⟨_, 1, put_same, rfl, ?_⟩
    rw [put_put]
    have hl : IsL (put (put S' f o5) r (.lst ([p, y, t].map qD))) r ([p, y, t].map qD) := put_same
    have all : ∀ q ∈ [p, y, t], QB 140 q := fun q hq => by
      simp only [List.mem_cons, List.not_mem_nil, or_false] at hq
      rcases hq with rfl | rfl | rfl
      · exact pB.mono (by decide)
      · exact yB
      · exact tB.mono (by decide)
    refine ⟨_, _, hl, rfl, p, 140, rfl, pB.mono (by decide), by decide, by decide, br_f ?_⟩
    refine ⟨_, hl, fun j z S2 => S2 = put (put S' f o5) r (.lst ([p, y, t].map qD)) ∧ ∃ a7 a8, z = [some (.fl (ns.map D.int)), some (.int i), some (.ref f), some (.ref r), some (.int p.num), some (.int p.den), some (qD (Rat.divInt (p.num * 1000000 + (p.den : Int)) ((p.den : Int) * 1000000))), a7, a8, a9], ⟨rfl, _, _, rfl⟩, fun _ _ _ _ q => by rw [q.1]; exact hl, ?_, ?_⟩
    · rintro j d z S2 hd ⟨rfl, a7, a8, rfl⟩
      obtain ⟨v, hv, rfl⟩ := List.mem_map.mp (List.mem_of_getElem? hd)
      exact law2 hl all (all v hv) fun a8 => ⟨_, Le.refl _, rfl, _, _, rfl⟩
    · rintro z S2 ⟨rfl, a7, a8, rfl⟩
      have pB' : QB 140 p := pB.mono (by decide)
      have tB' : QB 140 t := tB.mono (by decide)
      refine ⟨_, hl, rfl, ?_⟩
      have s1 := pB'.add yB
      have s2 := yB.add tB'
      have m1 := pB'.mul tB'
      have m2 := yB.mul tB'
      refine ⟨p, y, 140, rfl, pB', yB, by decide, p + y, t, 300, rfl, s1.mono (by decide), tB'.mono (by decide), by decide, y, t, 140, rfl, yB, tB', by decide, p, y + t, 300, rfl, pB'.mono (by decide), s2.mono (by decide), by decide, _, _, Sn.qD, Sn.qD, okP_pair, okP_pair, Br.neQ (Rat.add_assoc p y t) ?_⟩
      refine ⟨p, y, 140, rfl, pB', yB, by decide, p + y, t, 300, rfl, s1.mono (by decide), tB'.mono (by decide), by decide, p, t, 140, rfl, pB', tB', by decide, y, t, 140, rfl, yB, tB', by decide, p * t, y * t, 300, rfl, m1.mono (by decide), m2.mono (by decide), by decide, _, _, Sn.qD, Sn.qD, okP_pair, okP_pair, Br.neQ (Rat.add_mul p y t) ?_⟩
      exact ⟨_, Le.refl _, _, _, _, _, _, _, _, _, _, rfl⟩
  · rintro z S' ⟨a1, a2, a3, a4, a5, a6, a7, a8, a9, rfl⟩
    exact ⟨S', Le.refl _, k S'⟩
end R3

namespace R3
open PySem PySem.Spec PyProof.Rows L2
def topS (i : Nat) : Stmt := PySem.Challenge.pw_roofridges_k02_sums_of_numbers.main.body.getD i (.Pass ⟨0, 0, 0, 0⟩)
abbrev s_divisor : Stmt := topS 9
abbrev s_under : Stmt := topS 15
abbrev s_law_feed : Stmt := topS 17
abbrev s_law_next : Stmt := topS 18
abbrev s_law_shared : Stmt := topS 19
abbrev s_fraction : Stmt := topS 10
abbrev s_law_lowest : Stmt := topS 20
abbrev s_law_is : Stmt := topS 22
abbrev s_plus : Stmt := topS 11
abbrev s_minus : Stmt := topS 12
abbrev s_times : Stmt := topS 13
abbrev s_over : Stmt := topS 14
abbrev s_law_number : Stmt := topS 21
abbrev s_law_by_nought : Stmt := topS 23
abbrev s_law_right : Stmt := topS 24
abbrev s_law : Stmt := topS 25
structure Tx (K : PySem.W.Frag) (mg : Str → Option Value) : Prop where
  f_divisor : Has K mg "divisor" s_divisor ["one", "other"]
  f_under : Has K mg "under" s_under ["one", "other"]
  f_law_feed : Has K mg "_law_feed" s_law_feed ["_law_script", "_law_k"]
  f_law_next : Has K mg "_law_next" s_law_next ["_law_feed_here", "_law_many"]
  f_law_shared : Has K mg "_law_shared" s_law_shared ["_law_one", "_law_other"]
  f_fraction : Has K mg "fraction" s_fraction ["top", "bottom"]
  f_law_lowest : Has K mg "_law_lowest" s_law_lowest ["_law_top", "_law_bottom"]
  f_law_is : Has K mg "_law_is" s_law_is ["_law_found", "_law_top", "_law_bottom"]
  f_plus : Has K mg "plus" s_plus ["one", "other"]
  f_minus : Has K mg "minus" s_minus ["one", "other"]
  f_times : Has K mg "times" s_times ["one", "other"]
  f_over : Has K mg "over" s_over ["one", "other"]
  f_law_number : Has K mg "_law_number" s_law_number ["_law_feed_here"]
  f_law_by_nought : Has K mg "_law_by_nought" s_law_by_nought ["_law_one"]
  f_law_right : Has K mg "_law_right" s_law_right ["_law_one", "_law_other"]
  f_law : Has K mg "law" s_law ["_law_script"]
  z_abs : mg "abs" = none
  z_bool : mg "bool" = none
  z_int : mg "int" = none
  z_isinstance : mg "isinstance" = none
  z_len : mg "len" = none
  z_min : mg "min" = none
  z_range : mg "range" = none
  z_tuple : mg "tuple" = none
  r_number : RaiseF K mg .number
  x_RoofError : ExmF K mg [.number] .roof
  ec : EcF K [.number]
  i_NoName : IsF K mg [.number] (.ex .name)
  i_NoNumber : IsF K mg [.number] (.ex .number)
  i_NoPoint : IsF K mg [.number] (.ex .point)
  i_NoRow : IsF K mg [.number] (.ex .row)
  i_NoText : IsF K mg [.number] (.ex .text)
  i_NoYard : IsF K mg [.number] (.ex .yard)
  i_ValueError : IsF K mg [.number] .value
section
variable {P : Program} {w : World} {K : PySem.W.Frag} {mg : Str → Option Value} {base : Heap}
theorem sc_divisor : FnScope ["one", "other"] ["one", "other"] (defScope s_divisor) := ⟨rfl, rfl, rfl, by decide +kernel, rfl, by decide +kernel, by decide +kernel⟩
theorem ok_divisor (T : Tx K mg) : OkF P w K mg base 1 "divisor" ["one", "other"] sp_divisor :=
  OkF.def3 (k := 0) (t := w_divisor) T.f_divisor sc_divisor vc_divisor (fun f cdv A outer s H E W hr hU tk hp =>
    (s3_cons (s3_while hp (t3_cmp o3_gt (v3 1) e3_int) (s3_one (s3_par (i := 0) (j := 1) rfl sc_divisor.nd rfl rfl (by decide) rfl rfl (a3_cons (v3 1) (a3_cons (e3_op o3_mod (v3 0) (v3 1)) a3_nil)) (by rfl))))
 (s3_one (s3_ret (v3 0)))))

theorem sc_under : FnScope ["one", "other"] ["one", "other"] (defScope s_under) := ⟨rfl, rfl, rfl, by decide +kernel, rfl, by decide +kernel, by decide +kernel⟩
theorem ok_under (T : Tx K mg) : OkF P w K mg base 1 "under" ["one", "other"] sp_under :=
  OkF.def3 (k := 0) (t := w_under) T.f_under sc_under vc_under (fun f cdv A outer s H E W hr hU tk hp =>
    (s3_one (s3_ret (e3_cmp o3_lt (e3_op o3_mul (e3_ix i3_ix (v3 0) e3_int) (e3_ix i3_ix (v3 1) e3_int)) (e3_op o3_mul (e3_ix i3_ix (v3 1) e3_int) (e3_ix i3_ix (v3 0) e3_int))))))

theorem sc_law_feed : FnScope ["_law_script", "_law_k", "_law_cell", "_law_great"] ["_law_script", "_law_k"] (defScope s_law_feed) := ⟨rfl, rfl, rfl, by decide +kernel, rfl, by decide +kernel, by decide +kernel⟩
theorem ok_law_feed (T : Tx K mg) : OkF P w K mg base 1 "_law_feed" ["_law_script", "_law_k"] sp_law_feed :=
  OkF.def3 (k := 0) (t := w_law_feed) T.f_law_feed sc_law_feed vc_law_feed (fun f cdv A outer s H E W hr hU tk hp =>
    (s3_cons (s3_set (i := 2) sc_law_feed.nd rfl (.inl rfl) e3_int)
 (s3_cons (s3_if (t3_cmp o3_lt (v3 1) (e3_bf c3_len (by rfl) T.z_len (by decide +kernel) (a3_cons (v3 0) a3_nil))) (s3_one (s3_set (i := 2) sc_law_feed.nd rfl (.inl rfl) (e3_ix i3_ix (v3 0) (v3 1)))) s3_nil)
 (s3_cons (s3_set (i := 3) sc_law_feed.nd rfl (.inl rfl) (e3_bf c3_abs (by rfl) T.z_abs (by decide +kernel) (a3_cons (v3 2) a3_nil)))
 (s3_cons (s3_if (t3_cmp o3_lt (v3 3) (e3_powc (k := 1000000000000000000) (by decide +kernel) (by decide))) (s3_one (s3_set (i := 3) sc_law_feed.nd rfl (.inl rfl) e3_int)) s3_nil)
 (s3_one (s3_ret (e3_lst (a3_cons (v3 3) (a3_cons (e3_op o3_mod (e3_op o3_add (e3_op o3_add (e3_op o3_mul (e3_op o3_mod (v3 2) e3_int) e3_int) (e3_op o3_mul e3_int (v3 1))) e3_int) e3_int) (a3_cons e3_int a3_nil)))))))))))

theorem sc_law_next : FnScope ["_law_feed_here", "_law_many", "_law_digit", "_law_step", "_law_mixed"] ["_law_feed_here", "_law_many"] (defScope s_law_next) := ⟨rfl, rfl, rfl, by decide +kernel, rfl, by decide +kernel, by decide +kernel⟩
theorem ok_law_next (T : Tx K mg) : OkF P w K mg base 1 "_law_next" ["_law_feed_here", "_law_many"] sp_law_next :=
  OkF.def3 (k := 0) (t := w_law_next) T.f_law_next sc_law_next vc_law_next (fun f cdv A outer s H E W hr hU tk hp =>
    (s3_cons (s3_if (t3_cmp o3_gt (e3_ix i3_ix (v3 0) e3_int) e3_int) (s3_cons (s3_set (i := 2) sc_law_next.nd rfl (.inl rfl) (e3_op o3_mod (e3_ix i3_ix (v3 0) e3_int) (v3 1)))
 (s3_cons (s3_asg (e3_op o3_div (e3_ix i3_ix (v3 0) e3_int) (v3 1)) (g3_sub (v3 0) e3_int p3_setL))
 (s3_one (s3_ret (v3 2))))) s3_nil)
 (s3_cons (s3_set (i := 3) sc_law_next.nd rfl (.inl rfl) (e3_op o3_add (e3_ix i3_ix (v3 0) e3_int) e3_int))
 (s3_cons (s3_asg (v3 3) (g3_sub (v3 0) e3_int p3_setL))
 (s3_cons (s3_set (i := 4) sc_law_next.nd rfl (.inl rfl) (e3_op o3_mod (e3_op o3_add (e3_op o3_add (e3_ix i3_ix (v3 0) e3_int) (e3_op o3_mul (e3_op o3_mul e3_int (v3 3)) (v3 3))) (e3_op o3_mul e3_int (v3 3))) e3_int))
 (s3_cons (s3_set (i := 4) sc_law_next.nd rfl (.inl rfl) (e3_op o3_mod (e3_op o3_add (e3_op o3_add (e3_op o3_mul (v3 4) (v3 4)) (e3_op o3_mul e3_int (v3 4))) (v3 3)) e3_int))
 (s3_cons (s3_set (i := 4) sc_law_next.nd rfl (.inl rfl) (e3_op o3_mod (e3_op o3_add (e3_op o3_mul (v3 4) (v3 4)) (e3_op o3_mul e3_int (v3 4))) e3_int))
 (s3_one (s3_ret (e3_op o3_mod (e3_op o3_div (v3 4) e3_int) (v3 1)))))))))))

theorem sc_law_shared : FnScope ["_law_one", "_law_other"] ["_law_one", "_law_other"] (defScope s_law_shared) := ⟨rfl, rfl, rfl, by decide +kernel, rfl, by decide +kernel, by decide +kernel⟩
theorem ok_law_shared (T : Tx K mg) : OkF P w K mg base 1 "_law_shared" ["_law_one", "_law_other"] sp_law_shared :=
  OkF.def3 (k := 0) (t := w_law_shared) T.f_law_shared sc_law_shared vc_law_shared (fun f cdv A outer s H E W hr hU tk hp =>
    (s3_cons (s3_while hp (t3_cmp (o3_ne (Nat.lt_of_le_of_lt (Nat.add_le_add_left (by decide) _) hU)) (v3 1) e3_int) (s3_one (s3_par (i := 0) (j := 1) rfl sc_law_shared.nd rfl rfl (by decide) rfl rfl (a3_cons (v3 1) (a3_cons (e3_op o3_mod (v3 0) (v3 1)) a3_nil)) (by rfl))))
 (s3_one (s3_ret (e3_bf c3_abs (by rfl) T.z_abs (by decide +kernel) (a3_cons (v3 0) a3_nil))))))

theorem sc_fraction : FnScope ["top", "bottom", "by"] ["top", "bottom"] (defScope s_fraction) := ⟨rfl, rfl, rfl, by decide +kernel, rfl, by decide +kernel, by decide +kernel⟩
theorem ok_fraction (T : Tx K mg) (H_divisor : OkF P w K mg base 1 "divisor" ["one", "other"] sp_divisor) : OkF P w K mg base 2 "fraction" ["top", "bottom"] sp_fraction :=
  OkF.def3 (k := 1) (t := w_fraction) T.f_fraction sc_fraction vc_fraction (fun f cdv A outer s H E W hr hU tk hp =>
    (s3_cons (s3_if (t3_cmp (o3_eq (Nat.lt_of_le_of_lt (Nat.add_le_add_left (by decide) _) hU)) (v3 1) e3_int) (s3_one (s3_raise .number rfl tk T.r_number (by rfl))) s3_nil)
 (s3_cons (s3_set (i := 2) sc_fraction.nd rfl (.inl rfl) (e3_callF H_divisor tk (hr.mono (by decide)) (by rfl) (a3_cons (e3_bf c3_abs (by rfl) T.z_abs (by decide +kernel) (a3_cons (v3 0) a3_nil)) (a3_cons (e3_bf c3_abs (by rfl) T.z_abs (by decide +kernel) (a3_cons (v3 1) a3_nil)) a3_nil))))
 (s3_cons (s3_if (t3_cmp o3_lt (v3 1) e3_int) (s3_one (s3_set (i := 2) sc_fraction.nd rfl (.inl rfl) (e3_op o3_sub e3_int (v3 2)))) s3_nil)
 (s3_one (s3_ret (e3_tup (a3_cons (e3_op o3_div (v3 0) (v3 2)) (a3_cons (e3_op o3_div (v3 1) (v3 2)) a3_nil)))))))))

theorem sc_law_lowest : FnScope ["_law_top", "_law_bottom", "_law_by"] ["_law_top", "_law_bottom"] (defScope s_law_lowest) := ⟨rfl, rfl, rfl, by decide +kernel, rfl, by decide +kernel, by decide +kernel⟩
theorem ok_law_lowest (T : Tx K mg) (H_law_shared : OkF P w K mg base 1 "_law_shared" ["_law_one", "_law_other"] sp_law_shared) : OkF P w K mg base 2 "_law_lowest" ["_law_top", "_law_bottom"] sp_law_lowest :=
  OkF.def3 (k := 1) (t := w_law_lowest) T.f_law_lowest sc_law_lowest vc_law_lowest (fun f cdv A outer s H E W hr hU tk hp =>
    (s3_cons (s3_set (i := 2) sc_law_lowest.nd rfl (.inl rfl) (e3_callF H_law_shared tk (hr.mono (by decide)) (by rfl) (a3_cons (v3 0) (a3_cons (v3 1) a3_nil))))
 (s3_one (s3_ret (e3_tup (a3_cons (e3_op o3_div (v3 0) (v3 2)) (a3_cons (e3_op o3_div (v3 1) (v3 2)) a3_nil)))))))

theorem sc_law_is : FnScope ["_law_found", "_law_top", "_law_bottom", "_law_part"] ["_law_found", "_law_top", "_law_bottom"] (defScope s_law_is) := ⟨rfl, rfl, rfl, by decide +kernel, rfl, by decide +kernel, by decide +kernel⟩
theorem ok_law_is (T : Tx K mg) (H_law_shared : OkF P w K mg base 1 "_law_shared" ["_law_one", "_law_other"] sp_law_shared) : OkF P w K mg base 2 "_law_is" ["_law_found", "_law_top", "_law_bottom"] sp_law_is :=
  OkF.def3 (k := 1) (t := w_law_is) T.f_law_is sc_law_is vc_law_is (fun f cdv A outer s H E W hr hU tk hp =>
    (s3_cons (s3_if (t3_w (w3_or (t3_not (t3_val (e3_isi .tuple (by rfl) T.z_isinstance (by decide +kernel) (v3 0) (by rfl) T.z_tuple (by decide +kernel)))) (w3_or1 (t3_cmp (o3_ne (Nat.lt_of_le_of_lt (Nat.add_le_add_left (by decide) _) hU)) (e3_bf c3_len (by rfl) T.z_len (by decide +kernel) (a3_cons (v3 0) a3_nil)) e3_int)))) (s3_one (s3_ret e3_bl)) s3_nil)
 (s3_cons (s3_for hp rfl (i3_any (v3 0)) (g3_name (i := 3) sc_law_is.nd rfl (.inl rfl)) (s3_one (s3_if (t3_w (w3_or (t3_not (t3_val (e3_isi .int (by rfl) T.z_isinstance (by decide +kernel) (v3 3) (by rfl) T.z_int (by decide +kernel)))) (w3_or1 (t3_val (e3_isi .bool (by rfl) T.z_isinstance (by decide +kernel) (v3 3) (by rfl) T.z_bool (by decide +kernel)))))) (s3_one (s3_ret e3_bl)) s3_nil)))
 (s3_one (s3_ret (e3_and (e3_cmp o3_gt (e3_ix i3_ix (v3 0) e3_int) e3_int) (e3_and (e3_cmp (o3_eq (Nat.lt_of_le_of_lt (Nat.add_le_add_left (by decide) _) hU)) (e3_callF H_law_shared tk (hr.mono (by decide)) (by rfl) (a3_cons (e3_ix i3_ix (v3 0) e3_int) (a3_cons (e3_ix i3_ix (v3 0) e3_int) a3_nil))) e3_int) (e3_one (e3_cmp (o3_eq (Nat.lt_of_le_of_lt (Nat.add_le_add_left (by decide) _) hU)) (e3_op o3_mul (e3_ix i3_ix (v3 0) e3_int) (v3 2)) (e3_op o3_mul (v3 1) (e3_ix i3_ix (v3 0) e3_int)))))))))))

theorem sc_plus : FnScope ["one", "other"] ["one", "other"] (defScope s_plus) := ⟨rfl, rfl, rfl, by decide +kernel, rfl, by decide +kernel, by decide +kernel⟩
theorem ok_plus (T : Tx K mg) (H_fraction : OkF P w K mg base 2 "fraction" ["top", "bottom"] sp_fraction) : OkF P w K mg base 3 "plus" ["one", "other"] sp_plus :=
  OkF.def3 (k := 2) (t := w_plus) T.f_plus sc_plus vc_plus (fun f cdv A outer s H E W hr hU tk hp =>
    (s3_one (s3_ret (e3_callF H_fraction tk (hr.mono (by decide)) (by rfl) (a3_cons (e3_op o3_add (e3_op o3_mul (e3_ix i3_ix (v3 0) e3_int) (e3_ix i3_ix (v3 1) e3_int)) (e3_op o3_mul (e3_ix i3_ix (v3 1) e3_int) (e3_ix i3_ix (v3 0) e3_int))) (a3_cons (e3_op o3_mul (e3_ix i3_ix (v3 0) e3_int) (e3_ix i3_ix (v3 1) e3_int)) a3_nil))))))

theorem sc_minus : FnScope ["one", "other"] ["one", "other"] (defScope s_minus) := ⟨rfl, rfl, rfl, by decide +kernel, rfl, by decide +kernel, by decide +kernel⟩
theorem ok_minus (T : Tx K mg) (H_fraction : OkF P w K mg base 2 "fraction" ["top", "bottom"] sp_fraction) : OkF P w K mg base 3 "minus" ["one", "other"] sp_minus :=
  OkF.def3 (k := 2) (t := w_minus) T.f_minus sc_minus vc_minus (fun f cdv A outer s H E W hr hU tk hp =>
    (s3_one (s3_ret (e3_callF H_fraction tk (hr.mono (by decide)) (by rfl) (a3_cons (e3_op o3_sub (e3_op o3_mul (e3_ix i3_ix (v3 0) e3_int) (e3_ix i3_ix (v3 1) e3_int)) (e3_op o3_mul (e3_ix i3_ix (v3 1) e3_int) (e3_ix i3_ix (v3 0) e3_int))) (a3_cons (e3_op o3_mul (e3_ix i3_ix (v3 0) e3_int) (e3_ix i3_ix (v3 1) e3_int)) a3_nil))))))

theorem sc_times : FnScope ["one", "other"] ["one", "other"] (defScope s_times) := ⟨rfl, rfl, rfl, by decide +kernel, rfl, by decide +kernel, by decide +kernel⟩
theorem ok_times (T : Tx K mg) (H_fraction : OkF P w K mg base 2 "fraction" ["top", "bottom"] sp_fraction) : OkF P w K mg base 3 "times" ["one", "other"] sp_times :=
  OkF.def3 (k := 2) (t := w_times) T.f_times sc_times vc_times (fun f cdv A outer s H E W hr hU tk hp =>
    (s3_one (s3_ret (e3_callF H_fraction tk (hr.mono (by decide)) (by rfl) (a3_cons (e3_op o3_mul (e3_ix i3_ix (v3 0) e3_int) (e3_ix i3_ix (v3 1) e3_int)) (a3_cons (e3_op o3_mul (e3_ix i3_ix (v3 0) e3_int) (e3_ix i3_ix (v3 1) e3_int)) a3_nil))))))

theorem sc_over : FnScope ["one", "other"] ["one", "other"] (defScope s_over) := ⟨rfl, rfl, rfl, by decide +kernel, rfl, by decide +kernel, by decide +kernel⟩
theorem ok_over (T : Tx K mg) (H_fraction : OkF P w K mg base 2 "fraction" ["top", "bottom"] sp_fraction) : OkF P w K mg base 3 "over" ["one", "other"] sp_over :=
  OkF.def3 (k := 2) (t := w_over) T.f_over sc_over vc_over (fun f cdv A outer s H E W hr hU tk hp =>
    (s3_one (s3_ret (e3_callF H_fraction tk (hr.mono (by decide)) (by rfl) (a3_cons (e3_op o3_mul (e3_ix i3_ix (v3 0) e3_int) (e3_ix i3_ix (v3 1) e3_int)) (a3_cons (e3_op o3_mul (e3_ix i3_ix (v3 0) e3_int) (e3_ix i3_ix (v3 1) e3_int)) a3_nil))))))

theorem sc_law_number : FnScope ["_law_feed_here", "_law_way", "_law_top", "_law_bottom"] ["_law_feed_here"] (defScope s_law_number) := ⟨rfl, rfl, rfl, by decide +kernel, rfl, by decide +kernel, by decide +kernel⟩
theorem ok_law_number (T : Tx K mg) (H_law_next : OkF P w K mg base 1 "_law_next" ["_law_feed_here", "_law_many"] sp_law_next) (H_law_lowest : OkF P w K mg base 2 "_law_lowest" ["_law_top", "_law_bottom"] sp_law_lowest) : OkF P w K mg base 3 "_law_number" ["_law_feed_here"] sp_law_number :=
  OkF.def3 (k := 2) (t := w_law_number) T.f_law_number sc_law_number vc_law_number (fun f cdv A outer s H E W hr hU tk hp =>
    (s3_cons (s3_set (i := 1) sc_law_number.nd rfl (.inl rfl) (e3_callF H_law_next tk (hr.mono (by decide)) (by rfl) (a3_cons (v3 0) (a3_cons e3_int a3_nil))))
 (s3_cons (s3_set (i := 2) sc_law_number.nd rfl (.inl rfl) (e3_op o3_sub (e3_callF H_law_next tk (hr.mono (by decide)) (by rfl) (a3_cons (v3 0) (a3_cons e3_int a3_nil))) e3_int))
 (s3_cons (s3_set (i := 3) sc_law_number.nd rfl (.inl rfl) (e3_op o3_add e3_int (e3_callF H_law_next tk (hr.mono (by decide)) (by rfl) (a3_cons (v3 0) (a3_cons e3_int a3_nil)))))
 (s3_cons (s3_if (t3_cmp (o3_eq (Nat.lt_of_le_of_lt (Nat.add_le_add_left (by decide) _) hU)) (v3 1) e3_int) (s3_one (s3_set (i := 3) sc_law_number.nd rfl (.inl rfl) e3_int)) s3_nil)
 (s3_cons (s3_if (t3_cmp o3_gt (v3 1) e3_int) (s3_one (s3_set (i := 2) sc_law_number.nd rfl (.inl rfl) (e3_op o3_add (e3_op o3_mul (v3 2) (e3_powc (k := 100000000) (by decide +kernel) (by decide))) (e3_callF H_law_next tk (hr.mono (by decide)) (by rfl) (a3_cons (v3 0) (a3_cons (e3_powc (k := 10000000) (by decide +kernel) (by decide)) a3_nil)))))) s3_nil)
 (s3_cons (s3_if (t3_cmp o3_gt (v3 1) e3_int) (s3_cons (s3_set (i := 2) sc_law_number.nd rfl (.inl rfl) (e3_op o3_add (e3_op o3_mul (v3 2) (e3_powc (k := 10000000000) (by decide +kernel) (by decide))) (e3_callF H_law_next tk (hr.mono (by decide)) (by rfl) (a3_cons (v3 0) (a3_cons (e3_powc (k := 1000000) (by decide +kernel) (by decide)) a3_nil)))))
 (s3_one (s3_set (i := 3) sc_law_number.nd rfl (.inl rfl) (e3_op o3_add (e3_op o3_mul (v3 3) (e3_powc (k := 1000000) (by decide +kernel) (by decide))) (e3_callF H_law_next tk (hr.mono (by decide)) (by rfl) (a3_cons (v3 0) (a3_cons (e3_powc (k := 1000000) (by decide +kernel) (by decide)) a3_nil))))))) s3_nil)
 (s3_one (s3_ret (e3_callF H_law_lowest tk (hr.mono (by decide)) (by rfl) (a3_cons (v3 2) (a3_cons (v3 3) a3_nil))))))))))))

theorem sc_law_by_nought : FnScope ["_law_one", "_law_caught", "e"] ["_law_one"] (defScope s_law_by_nought) := ⟨rfl, rfl, rfl, by decide +kernel, rfl, by decide +kernel, by decide +kernel⟩
theorem ok_law_by_nought (T : Tx K mg) (H_over : OkF P w K mg base 3 "over" ["one", "other"] sp_over) : OkF P w K mg base 4 "_law_by_nought" ["_law_one"] sp_law_by_nought :=
  OkF.def3 (k := 3) (t := w_law_by_nought) T.f_law_by_nought sc_law_by_nought vc_law_by_nought (fun f cdv A outer s H E W hr hU tk hp =>
    (s3_cons (s3_set (i := 1) sc_law_by_nought.nd rfl (.inl rfl) e3_non)
 (s3_cons (s3_try (c := .roof) (i := 2) rfl rfl rfl sc_law_by_nought.nd rfl rfl (by rfl) T.x_RoofError tk (fun W pn xe tk => (s3_one (s3_expr (e3_callF H_over tk (hr.mono (by decide)) (by rfl) (a3_cons (v3 0) (a3_cons (e3_tup (a3_cons e3_int (a3_cons e3_int a3_nil))) a3_nil)))))) (fun a pn => (s3_one (s3_set (i := 1) sc_law_by_nought.nd rfl (.inl rfl) (v3 2)))))
 (s3_cons (s3_if (t3_val (e3_isET T.ec (.cons (c := (.ex .name)) (by rfl) (.cons (c := (.ex .point)) (by rfl) (.cons (c := (.ex .row)) (by rfl) (.cons (c := (.ex .text)) (by rfl) (.cons (c := (.ex .yard)) (by rfl) .nil))))) (forC_cons T.i_NoName (forC_cons T.i_NoPoint (forC_cons T.i_NoRow (forC_cons T.i_NoText (forC_cons T.i_NoYard (fun _ h => nomatch h)))))) (by rfl) T.z_isinstance (by decide +kernel) (v3 1))) (s3_one (s3_ret e3_bl)) s3_nil)
 (s3_one (s3_ret (e3_and (e3_isE T.ec (.ex .number) T.i_NoNumber (by rfl) T.z_isinstance (by decide +kernel) (v3 1) (by rfl)) (e3_one (e3_isE T.ec .value T.i_ValueError (by rfl) T.z_isinstance (by decide +kernel) (v3 1) (by rfl))))))))))

theorem sc_law_right : FnScope ["_law_one", "_law_other", "_law_a", "_law_b", "_law_c", "_law_d", "_law_told", "_law_share"] ["_law_one", "_law_other"] (defScope s_law_right) := ⟨rfl, rfl, rfl, by decide +kernel, rfl, by decide +kernel, by decide +kernel⟩
theorem ok_law_right (T : Tx K mg) (H_under : OkF P w K mg base 1 "under" ["one", "other"] sp_under) (H_law_is : OkF P w K mg base 2 "_law_is" ["_law_found", "_law_top", "_law_bottom"] sp_law_is) (H_plus : OkF P w K mg base 3 "plus" ["one", "other"] sp_plus) (H_minus : OkF P w K mg base 3 "minus" ["one", "other"] sp_minus) (H_times : OkF P w K mg base 3 "times" ["one", "other"] sp_times) (H_over : OkF P w K mg base 3 "over" ["one", "other"] sp_over) : OkF P w K mg base 4 "_law_right" ["_law_one", "_law_other"] sp_law_right :=
  OkF.def3 (k := 3) (t := w_law_right) T.f_law_right sc_law_right vc_law_right (fun f cdv A outer s H E W hr hU tk hp =>
    (s3_cons (s3_asg (v3 0) (g3_tup rfl (g3s_cons (g3_name (i := 2) sc_law_right.nd rfl (.inl rfl)) (g3s_cons (g3_name (i := 3) sc_law_right.nd rfl (.inl rfl)) g3s_nil))))
 (s3_cons (s3_asg (v3 1) (g3_tup rfl (g3s_cons (g3_name (i := 4) sc_law_right.nd rfl (.inl rfl)) (g3s_cons (g3_name (i := 5) sc_law_right.nd rfl (.inl rfl)) g3s_nil))))
 (s3_cons (s3_if (t3_not (t3_val (e3_callF H_law_is tk (hr.mono (by decide)) (by rfl) (a3_cons (e3_callF H_plus tk (hr.mono (by decide)) (by rfl) (a3_cons (v3 0) (a3_cons (v3 1) a3_nil))) (a3_cons (e3_op o3_add (e3_op o3_mul (v3 2) (v3 5)) (e3_op o3_mul (v3 4) (v3 3))) (a3_cons (e3_op o3_mul (v3 3) (v3 5)) a3_nil)))))) (s3_one (s3_ret e3_bl)) s3_nil)
 (s3_cons (s3_if (t3_not (t3_val (e3_callF H_law_is tk (hr.mono (by decide)) (by rfl) (a3_cons (e3_callF H_minus tk (hr.mono (by decide)) (by rfl) (a3_cons (v3 0) (a3_cons (v3 1) a3_nil))) (a3_cons (e3_op o3_sub (e3_op o3_mul (v3 2) (v3 5)) (e3_op o3_mul (v3 4) (v3 3))) (a3_cons (e3_op o3_mul (v3 3) (v3 5)) a3_nil)))))) (s3_one (s3_ret e3_bl)) s3_nil)
 (s3_cons (s3_set (i := 6) sc_law_right.nd rfl (.inl rfl) (e3_callF H_under tk (hr.mono (by decide)) (by rfl) (a3_cons (v3 0) (a3_cons (v3 1) a3_nil))))
 (s3_cons (s3_if (t3_w (w3_or (t3_not (t3_val (e3_isi .bool (by rfl) T.z_isinstance (by decide +kernel) (v3 6) (by rfl) T.z_bool (by decide +kernel)))) (w3_or (t3_cmp (o3_ne (Nat.lt_of_le_of_lt (Nat.add_le_add_left (by decide) _) hU)) (v3 6) (e3_cmp o3_lt (e3_op o3_mul (v3 2) (v3 5)) (e3_op o3_mul (v3 4) (v3 3)))) (w3_or1 (t3_not (t3_val (e3_callF H_law_is tk (hr.mono (by decide)) (by rfl) (a3_cons (e3_callF H_times tk (hr.mono (by decide)) (by rfl) (a3_cons (v3 0) (a3_cons (v3 1) a3_nil))) (a3_cons (e3_op o3_mul (v3 2) (v3 4)) (a3_cons (e3_op o3_mul (v3 3) (v3 5)) a3_nil)))))))))) (s3_one (s3_ret e3_bl)) s3_nil)
 (s3_cons (s3_if (t3_cmp (o3_ne (Nat.lt_of_le_of_lt (Nat.add_le_add_left (by decide) _) hU)) (v3 4) e3_int) (s3_cons (s3_set (i := 7) sc_law_right.nd rfl (.inl rfl) (e3_callF H_over tk (hr.mono (by decide)) (by rfl) (a3_cons (v3 0) (a3_cons (v3 1) a3_nil))))
 (s3_one (s3_if (t3_w (w3_or (t3_not (t3_val (e3_callF H_law_is tk (hr.mono (by decide)) (by rfl) (a3_cons (v3 7) (a3_cons (e3_op o3_mul (v3 2) (v3 5)) (a3_cons (e3_op o3_mul (v3 3) (v3 4)) a3_nil)))))) (w3_or1 (t3_cmp (o3_ne (Nat.lt_of_le_of_lt (Nat.add_le_add_left (by decide) _) hU)) (e3_callF H_times tk (hr.mono (by decide)) (by rfl) (a3_cons (v3 7) (a3_cons (v3 1) a3_nil))) (v3 0))))) (s3_one (s3_ret e3_bl)) s3_nil))) s3_nil)
 (s3_one (s3_ret (e3_and (e3_cmp (o3_eq (Nat.lt_of_le_of_lt (Nat.add_le_add_left (by decide) _) hU)) (e3_callF H_plus tk (hr.mono (by decide)) (by rfl) (a3_cons (e3_callF H_minus tk (hr.mono (by decide)) (by rfl) (a3_cons (v3 0) (a3_cons (v3 1) a3_nil))) (a3_cons (v3 1) a3_nil))) (v3 0)) (e3_one (e3_cmp (o3_eq (Nat.lt_of_le_of_lt (Nat.add_le_add_left (by decide) _) hU)) (e3_callF H_minus tk (hr.mono (by decide)) (by rfl) (a3_cons (e3_callF H_plus tk (hr.mono (by decide)) (by rfl) (a3_cons (v3 0) (a3_cons (v3 1) a3_nil))) (a3_cons (v3 1) a3_nil))) (v3 0))))))))))))))

theorem sc_law : FnScope ["_law_script", "_law_k", "_law_feed_here", "_law_some", "_law_top", "_law_bottom", "_law_near", "_law_one", "_law_other", "_law_third"] ["_law_script"] (defScope s_law) := ⟨rfl, rfl, rfl, by decide +kernel, rfl, by decide +kernel, by decide +kernel⟩
theorem ok_law (T : Tx K mg) (H_law_feed : OkF P w K mg base 1 "_law_feed" ["_law_script", "_law_k"] sp_law_feed) (H_law_next : OkF P w K mg base 1 "_law_next" ["_law_feed_here", "_law_many"] sp_law_next) (H_law_lowest : OkF P w K mg base 2 "_law_lowest" ["_law_top", "_law_bottom"] sp_law_lowest) (H_plus : OkF P w K mg base 3 "plus" ["one", "other"] sp_plus) (H_times : OkF P w K mg base 3 "times" ["one", "other"] sp_times) (H_law_number : OkF P w K mg base 3 "_law_number" ["_law_feed_here"] sp_law_number) (H_law_by_nought : OkF P w K mg base 4 "_law_by_nought" ["_law_one"] sp_law_by_nought) (H_law_right : OkF P w K mg base 4 "_law_right" ["_law_one", "_law_other"] sp_law_right) : OkF P w K mg base 5 "law" ["_law_script"] sp_law :=
  OkF.def3 (k := 4) (t := w_law) T.f_law sc_law vc_law (fun f cdv A outer s H E W hr hU tk hp =>
    (s3_cons (s3_for hp rfl (i3_rng1 (by rfl) T.z_range (a3_cons (e3_op o3_add e3_int (e3_bf (c3_min2 rfl) (by rfl) T.z_min (by decide +kernel) (a3_cons e3_int (a3_cons (e3_bf c3_len (by rfl) T.z_len (by decide +kernel) (a3_cons (v3 0) a3_nil)) a3_nil)))) a3_nil)) (g3_name (i := 1) sc_law.nd rfl (.inl rfl)) (s3_cons (s3_set (i := 2) sc_law.nd rfl (.inl rfl) (e3_callF H_law_feed tk (hr.mono (by decide)) (by rfl) (a3_cons (v3 0) (a3_cons (v3 1) a3_nil))))
 (s3_cons (s3_set (i := 3) sc_law.nd rfl (.inl rfl) (e3_lst (a3_cons (e3_callF H_law_number tk (hr.mono (by decide)) (by rfl) (a3_cons (v3 2) a3_nil)) (a3_cons (e3_callF H_law_number tk (hr.mono (by decide)) (by rfl) (a3_cons (v3 2) a3_nil)) (a3_cons (e3_callF H_law_number tk (hr.mono (by decide)) (by rfl) (a3_cons (v3 2) a3_nil)) a3_nil)))))
 (s3_cons (s3_asg (e3_ix i3_ix (v3 3) e3_int) (g3_tup rfl (g3s_cons (g3_name (i := 4) sc_law.nd rfl (.inl rfl)) (g3s_cons (g3_name (i := 5) sc_law.nd rfl (.inl rfl)) g3s_nil))))
 (s3_cons (s3_set (i := 6) sc_law.nd rfl (.inl rfl) (e3_callF H_law_lowest tk (hr.mono (by decide)) (by rfl) (a3_cons (e3_op o3_add (e3_op o3_mul (v3 4) (e3_powc (k := 1000000) (by decide +kernel) (by decide))) (v3 5)) (a3_cons (e3_op o3_mul (v3 5) (e3_powc (k := 1000000) (by decide +kernel) (by decide))) a3_nil))))
 (s3_cons (s3_asg (e3_forget (e3_ix i3_ix (e3_lst (a3_cons (e3_ix i3_ix (v3 3) e3_int) (a3_cons (e3_ix i3_ix (v3 3) e3_int) (a3_cons (e3_tup (a3_cons (e3_op o3_sub e3_int (v3 4)) (a3_cons (v3 5) a3_nil))) (a3_cons (e3_tup (a3_cons e3_int (a3_cons e3_int a3_nil))) (a3_cons (e3_ix i3_ix (v3 3) e3_int) (a3_cons (v3 6) a3_nil))))))) (e3_callF H_law_next tk (hr.mono (by decide)) (by rfl) (a3_cons (v3 2) (a3_cons e3_int a3_nil))))) (g3_sub (v3 3) e3_int p3_setL))
 (s3_cons (s3_if (t3_not (t3_val (e3_callF H_law_by_nought tk (hr.mono (by decide)) (by rfl) (a3_cons (e3_ix i3_ix (v3 3) e3_int) a3_nil)))) (s3_one (s3_ret e3_bl)) s3_nil)
 (s3_cons (s3_for hp rfl (i3_any (v3 3)) (g3_name (i := 7) sc_law.nd rfl (.inl rfl)) (s3_one (s3_for hp rfl (i3_any (v3 3)) (g3_name (i := 8) sc_law.nd rfl (.inl rfl)) (s3_cons (s3_if (t3_w (w3_or (t3_not (t3_val (e3_callF H_law_right tk (hr.mono (by decide)) (by rfl) (a3_cons (v3 7) (a3_cons (v3 8) a3_nil))))) (w3_or1 (t3_cmp (o3_ne (Nat.lt_of_le_of_lt (Nat.add_le_add_left (by decide) _) hU)) (e3_callF H_plus tk (hr.mono (by decide)) (by rfl) (a3_cons (v3 7) (a3_cons (v3 8) a3_nil))) (e3_callF H_plus tk (hr.mono (by decide)) (by rfl) (a3_cons (v3 8) (a3_cons (v3 7) a3_nil))))))) (s3_one (s3_ret e3_bl)) s3_nil)
 (s3_one (s3_if (t3_cmp (o3_ne (Nat.lt_of_le_of_lt (Nat.add_le_add_left (by decide) _) hU)) (e3_callF H_times tk (hr.mono (by decide)) (by rfl) (a3_cons (v3 7) (a3_cons (v3 8) a3_nil))) (e3_callF H_times tk (hr.mono (by decide)) (by rfl) (a3_cons (v3 8) (a3_cons (v3 7) a3_nil)))) (s3_one (s3_ret e3_bl)) s3_nil))))))
 (s3_cons (s3_asg (v3 3) (g3_tup rfl (g3s_cons (g3_name (i := 7) sc_law.nd rfl (.inl rfl)) (g3s_cons (g3_name (i := 8) sc_law.nd rfl (.inl rfl)) (g3s_cons (g3_name (i := 9) sc_law.nd rfl (.inl rfl)) g3s_nil)))))
 (s3_cons (s3_if (t3_cmp (o3_ne (Nat.lt_of_le_of_lt (Nat.add_le_add_left (by decide) _) hU)) (e3_callF H_plus tk (hr.mono (by decide)) (by rfl) (a3_cons (e3_callF H_plus tk (hr.mono (by decide)) (by rfl) (a3_cons (v3 7) (a3_cons (v3 8) a3_nil))) (a3_cons (v3 9) a3_nil))) (e3_callF H_plus tk (hr.mono (by decide)) (by rfl) (a3_cons (v3 7) (a3_cons (e3_callF H_plus tk (hr.mono (by decide)) (by rfl) (a3_cons (v3 8) (a3_cons (v3 9) a3_nil))) a3_nil)))) (s3_one (s3_ret e3_bl)) s3_nil)
 (s3_one (s3_if (t3_cmp (o3_ne (Nat.lt_of_le_of_lt (Nat.add_le_add_left (by decide) _) hU)) (e3_callF H_times tk (hr.mono (by decide)) (by rfl) (a3_cons (e3_callF H_plus tk (hr.mono (by decide)) (by rfl) (a3_cons (v3 7) (a3_cons (v3 8) a3_nil))) (a3_cons (v3 9) a3_nil))) (e3_callF H_plus tk (hr.mono (by decide)) (by rfl) (a3_cons (e3_callF H_times tk (hr.mono (by decide)) (by rfl) (a3_cons (v3 7) (a3_cons (v3 9) a3_nil))) (a3_cons (e3_callF H_times tk (hr.mono (by decide)) (by rfl) (a3_cons (v3 8) (a3_cons (v3 9) a3_nil))) a3_nil)))) (s3_one (s3_ret e3_bl)) s3_nil))))))))))))
 (s3_one (s3_ret e3_bl))))
end
theorem all_ok {P : Program} {w : World} {K : PySem.W.Frag} {mg : Str → Option Value} {base : Heap} (T : Tx K mg) : OkF P w K mg base 5 "law" ["_law_script"] sp_law :=
  have H_divisor := ok_divisor (P := P) (w := w) (base := base) T
  have H_under := ok_under (P := P) (w := w) (base := base) T
  have H_law_feed := ok_law_feed (P := P) (w := w) (base := base) T
  have H_law_next := ok_law_next (P := P) (w := w) (base := base) T
  have H_law_shared := ok_law_shared (P := P) (w := w) (base := base) T
  have H_fraction := ok_fraction (P := P) (w := w) (base := base) T H_divisor
  have H_law_lowest := ok_law_lowest (P := P) (w := w) (base := base) T H_law_shared
  have H_law_is := ok_law_is (P := P) (w := w) (base := base) T H_law_shared
  have H_plus := ok_plus (P := P) (w := w) (base := base) T H_fraction
  have H_minus := ok_minus (P := P) (w := w) (base := base) T H_fraction
  have H_times := ok_times (P := P) (w := w) (base := base) T H_fraction
  have H_over := ok_over (P := P) (w := w) (base := base) T H_fraction
  have H_law_number := ok_law_number (P := P) (w := w) (base := base) T H_law_next H_law_lowest
  have H_law_by_nought := ok_law_by_nought (P := P) (w := w) (base := base) T H_over
  have H_law_right := ok_law_right (P := P) (w := w) (base := base) T H_under H_law_is H_plus H_minus H_times H_over
  ok_law T H_law_feed H_law_next H_law_lowest H_plus H_times H_law_number H_law_by_nought H_law_right
theorem all_mk {w : World} {K : PySem.W.Frag} {h : Heap} {mg : Str → Option Value} (X : K.In h) (G : h.Ns mainGlobals mg) {f1 f2 f3 f4 f5 f6 f7 f8 f9 f10 f11 f12 f13 f14 f15 f16 : Addr}
    {od1 an1 : Option Addr} {sl1 : Array (Option Value)} {oc1 kV1 dc1 pm1 cd1 ct1 : Value}
    (a1 : PySem.W.nsIn K mainGlobals "divisor" = some (some (.ref f1))) (l1 : K.lookup f1 = some ⟨oc1, od1, .func (PySem.W.fnOf "divisor" "divisor" (defArgs s_divisor) (defBody s_divisor) (defScope s_divisor) .none kV1 dc1 pm1 an1 cd1 ct1), sl1⟩) (c1 : PySem.W.codeIn K cd1 "divisor" = true) (k1 : PySem.W.keepIn K (.ref f1) = true)
    {od2 an2 : Option Addr} {sl2 : Array (Option Value)} {oc2 kV2 dc2 pm2 cd2 ct2 : Value}
    (a2 : PySem.W.nsIn K mainGlobals "under" = some (some (.ref f2))) (l2 : K.lookup f2 = some ⟨oc2, od2, .func (PySem.W.fnOf "under" "under" (defArgs s_under) (defBody s_under) (defScope s_under) .none kV2 dc2 pm2 an2 cd2 ct2), sl2⟩) (c2 : PySem.W.codeIn K cd2 "under" = true) (k2 : PySem.W.keepIn K (.ref f2) = true)
    {od3 an3 : Option Addr} {sl3 : Array (Option Value)} {oc3 kV3 dc3 pm3 cd3 ct3 : Value}
    (a3 : PySem.W.nsIn K mainGlobals "_law_feed" = some (some (.ref f3))) (l3 : K.lookup f3 = some ⟨oc3, od3, .func (PySem.W.fnOf "_law_feed" "_law_feed" (defArgs s_law_feed) (defBody s_law_feed) (defScope s_law_feed) .none kV3 dc3 pm3 an3 cd3 ct3), sl3⟩) (c3 : PySem.W.codeIn K cd3 "_law_feed" = true) (k3 : PySem.W.keepIn K (.ref f3) = true)
    {od4 an4 : Option Addr} {sl4 : Array (Option Value)} {oc4 kV4 dc4 pm4 cd4 ct4 : Value}
    (a4 : PySem.W.nsIn K mainGlobals "_law_next" = some (some (.ref f4))) (l4 : K.lookup f4 = some ⟨oc4, od4, .func (PySem.W.fnOf "_law_next" "_law_next" (defArgs s_law_next) (defBody s_law_next) (defScope s_law_next) .none kV4 dc4 pm4 an4 cd4 ct4), sl4⟩) (c4 : PySem.W.codeIn K cd4 "_law_next" = true) (k4 : PySem.W.keepIn K (.ref f4) = true)
    {od5 an5 : Option Addr} {sl5 : Array (Option Value)} {oc5 kV5 dc5 pm5 cd5 ct5 : Value}
    (a5 : PySem.W.nsIn K mainGlobals "_law_shared" = some (some (.ref f5))) (l5 : K.lookup f5 = some ⟨oc5, od5, .func (PySem.W.fnOf "_law_shared" "_law_shared" (defArgs s_law_shared) (defBody s_law_shared) (defScope s_law_shared) .none kV5 dc5 pm5 an5 cd5 ct5), sl5⟩) (c5 : PySem.W.codeIn K cd5 "_law_shared" = true) (k5 : PySem.W.keepIn K (.ref f5) = true)
    {od6 an6 : Option Addr} {sl6 : Array (Option Value)} {oc6 kV6 dc6 pm6 cd6 ct6 : Value}
    (a6 : PySem.W.nsIn K mainGlobals "fraction" = some (some (.ref f6))) (l6 : K.lookup f6 = some ⟨oc6, od6, .func (PySem.W.fnOf "fraction" "fraction" (defArgs s_fraction) (defBody s_fraction) (defScope s_fraction) .none kV6 dc6 pm6 an6 cd6 ct6), sl6⟩) (c6 : PySem.W.codeIn K cd6 "fraction" = true) (k6 : PySem.W.keepIn K (.ref f6) = true)
    {od7 an7 : Option Addr} {sl7 : Array (Option Value)} {oc7 kV7 dc7 pm7 cd7 ct7 : Value}
    (a7 : PySem.W.nsIn K mainGlobals "_law_lowest" = some (some (.ref f7))) (l7 : K.lookup f7 = some ⟨oc7, od7, .func (PySem.W.fnOf "_law_lowest" "_law_lowest" (defArgs s_law_lowest) (defBody s_law_lowest) (defScope s_law_lowest) .none kV7 dc7 pm7 an7 cd7 ct7), sl7⟩) (c7 : PySem.W.codeIn K cd7 "_law_lowest" = true) (k7 : PySem.W.keepIn K (.ref f7) = true)
    {od8 an8 : Option Addr} {sl8 : Array (Option Value)} {oc8 kV8 dc8 pm8 cd8 ct8 : Value}
    (a8 : PySem.W.nsIn K mainGlobals "_law_is" = some (some (.ref f8))) (l8 : K.lookup f8 = some ⟨oc8, od8, .func (PySem.W.fnOf "_law_is" "_law_is" (defArgs s_law_is) (defBody s_law_is) (defScope s_law_is) .none kV8 dc8 pm8 an8 cd8 ct8), sl8⟩) (c8 : PySem.W.codeIn K cd8 "_law_is" = true) (k8 : PySem.W.keepIn K (.ref f8) = true)
    {od9 an9 : Option Addr} {sl9 : Array (Option Value)} {oc9 kV9 dc9 pm9 cd9 ct9 : Value}
    (a9 : PySem.W.nsIn K mainGlobals "plus" = some (some (.ref f9))) (l9 : K.lookup f9 = some ⟨oc9, od9, .func (PySem.W.fnOf "plus" "plus" (defArgs s_plus) (defBody s_plus) (defScope s_plus) .none kV9 dc9 pm9 an9 cd9 ct9), sl9⟩) (c9 : PySem.W.codeIn K cd9 "plus" = true) (k9 : PySem.W.keepIn K (.ref f9) = true)
    {od10 an10 : Option Addr} {sl10 : Array (Option Value)} {oc10 kV10 dc10 pm10 cd10 ct10 : Value}
    (a10 : PySem.W.nsIn K mainGlobals "minus" = some (some (.ref f10))) (l10 : K.lookup f10 = some ⟨oc10, od10, .func (PySem.W.fnOf "minus" "minus" (defArgs s_minus) (defBody s_minus) (defScope s_minus) .none kV10 dc10 pm10 an10 cd10 ct10), sl10⟩) (c10 : PySem.W.codeIn K cd10 "minus" = true) (k10 : PySem.W.keepIn K (.ref f10) = true)
    {od11 an11 : Option Addr} {sl11 : Array (Option Value)} {oc11 kV11 dc11 pm11 cd11 ct11 : Value}
    (a11 : PySem.W.nsIn K mainGlobals "times" = some (some (.ref f11))) (l11 : K.lookup f11 = some ⟨oc11, od11, .func (PySem.W.fnOf "times" "times" (defArgs s_times) (defBody s_times) (defScope s_times) .none kV11 dc11 pm11 an11 cd11 ct11), sl11⟩) (c11 : PySem.W.codeIn K cd11 "times" = true) (k11 : PySem.W.keepIn K (.ref f11) = true)
    {od12 an12 : Option Addr} {sl12 : Array (Option Value)} {oc12 kV12 dc12 pm12 cd12 ct12 : Value}
    (a12 : PySem.W.nsIn K mainGlobals "over" = some (some (.ref f12))) (l12 : K.lookup f12 = some ⟨oc12, od12, .func (PySem.W.fnOf "over" "over" (defArgs s_over) (defBody s_over) (defScope s_over) .none kV12 dc12 pm12 an12 cd12 ct12), sl12⟩) (c12 : PySem.W.codeIn K cd12 "over" = true) (k12 : PySem.W.keepIn K (.ref f12) = true)
    {od13 an13 : Option Addr} {sl13 : Array (Option Value)} {oc13 kV13 dc13 pm13 cd13 ct13 : Value}
    (a13 : PySem.W.nsIn K mainGlobals "_law_number" = some (some (.ref f13))) (l13 : K.lookup f13 = some ⟨oc13, od13, .func (PySem.W.fnOf "_law_number" "_law_number" (defArgs s_law_number) (defBody s_law_number) (defScope s_law_number) .none kV13 dc13 pm13 an13 cd13 ct13), sl13⟩) (c13 : PySem.W.codeIn K cd13 "_law_number" = true) (k13 : PySem.W.keepIn K (.ref f13) = true)
    {od14 an14 : Option Addr} {sl14 : Array (Option Value)} {oc14 kV14 dc14 pm14 cd14 ct14 : Value}
    (a14 : PySem.W.nsIn K mainGlobals "_law_by_nought" = some (some (.ref f14))) (l14 : K.lookup f14 = some ⟨oc14, od14, .func (PySem.W.fnOf "_law_by_nought" "_law_by_nought" (defArgs s_law_by_nought) (defBody s_law_by_nought) (defScope s_law_by_nought) .none kV14 dc14 pm14 an14 cd14 ct14), sl14⟩) (c14 : PySem.W.codeIn K cd14 "_law_by_nought" = true) (k14 : PySem.W.keepIn K (.ref f14) = true)
    {od15 an15 : Option Addr} {sl15 : Array (Option Value)} {oc15 kV15 dc15 pm15 cd15 ct15 : Value}
    (a15 : PySem.W.nsIn K mainGlobals "_law_right" = some (some (.ref f15))) (l15 : K.lookup f15 = some ⟨oc15, od15, .func (PySem.W.fnOf "_law_right" "_law_right" (defArgs s_law_right) (defBody s_law_right) (defScope s_law_right) .none kV15 dc15 pm15 an15 cd15 ct15), sl15⟩) (c15 : PySem.W.codeIn K cd15 "_law_right" = true) (k15 : PySem.W.keepIn K (.ref f15) = true)
    {od16 an16 : Option Addr} {sl16 : Array (Option Value)} {oc16 kV16 dc16 pm16 cd16 ct16 : Value}
    (a16 : PySem.W.nsIn K mainGlobals "law" = some (some (.ref f16))) (l16 : K.lookup f16 = some ⟨oc16, od16, .func (PySem.W.fnOf "law" "law" (defArgs s_law) (defBody s_law) (defScope s_law) .none kV16 dc16 pm16 an16 cd16 ct16), sl16⟩) (c16 : PySem.W.codeIn K cd16 "law" = true) (k16 : PySem.W.keepIn K (.ref f16) = true)
    (z_ValueError : PySem.W.nsIn K mainGlobals "ValueError" = some none)
    (z_abs : PySem.W.nsIn K mainGlobals "abs" = some none)
    (z_bool : PySem.W.nsIn K mainGlobals "bool" = some none)
    (z_int : PySem.W.nsIn K mainGlobals "int" = some none)
    (z_isinstance : PySem.W.nsIn K mainGlobals "isinstance" = some none)
    (z_len : PySem.W.nsIn K mainGlobals "len" = some none)
    (z_min : PySem.W.nsIn K mainGlobals "min" = some none)
    (z_range : PySem.W.nsIn K mainGlobals "range" = some none)
    (z_tuple : PySem.W.nsIn K mainGlobals "tuple" = some none)
    {C_RoofError : Addr}
    (q_RoofError : PySem.W.nsIn K mainGlobals (PySem.Str.ofString "RoofError") = some (some (.ref C_RoofError)))
    {C_NoNumber : Addr}
    (q_NoNumber : PySem.W.nsIn K mainGlobals (PySem.Str.ofString "NoNumber") = some (some (.ref C_NoNumber)))
    {C_NoYard : Addr}
    (q_NoYard : PySem.W.nsIn K mainGlobals (PySem.Str.ofString "NoYard") = some (some (.ref C_NoYard)))
    {C_NoPoint : Addr}
    (q_NoPoint : PySem.W.nsIn K mainGlobals (PySem.Str.ofString "NoPoint") = some (some (.ref C_NoPoint)))
    {C_NoText : Addr}
    (q_NoText : PySem.W.nsIn K mainGlobals (PySem.Str.ofString "NoText") = some (some (.ref C_NoText)))
    {C_NoRow : Addr}
    (q_NoRow : PySem.W.nsIn K mainGlobals (PySem.Str.ofString "NoRow") = some (some (.ref C_NoRow)))
    {C_NoName : Addr}
    (q_NoName : PySem.W.nsIn K mainGlobals (PySem.Str.ofString "NoName") = some (some (.ref C_NoName)))
    (e_NoNumber : PySem.W.excIn K C_NoNumber [.type "ValueError", .type "Exception", .type "BaseException", .type "object"] "ValueError.__new__" = true)
    (kp_NoNumber : PySem.W.keepIn K (.ref C_NoNumber) = true)
    (sb_RoofError : PySem.W.subIn K (.ref C_RoofError) (.type "BaseException") = some true)
    (ty_RoofError : PySem.W.typeIn K (.ref C_RoofError) = some (.type "type"))
    (hd_RoofError : PySem.W.hasDictIn K C_RoofError = true)
    (sb_NoNumber : PySem.W.subIn K (.ref C_NoNumber) (.type "BaseException") = some true)
    (ty_NoNumber : PySem.W.typeIn K (.ref C_NoNumber) = some (.type "type"))
    (hd_NoNumber : PySem.W.hasDictIn K C_NoNumber = true)
    (hn : PySem.W.specialIn K (.builtin "object.__class__") "__get__" = some (some (.builtin "getset_descriptor.__get__")))
    (ht : PySem.W.takesIn K (.builtin "object.__class__") = some true)
    (hg_NoNumber : PySem.W.findIn K (.ref C_NoNumber) "__getattribute__" = some (some (.builtin "BaseException.__getattribute__")))
    (hk_NoNumber : PySem.W.findIn K (.ref C_NoNumber) "__getattr__" = some none)
    (ha_NoNumber : PySem.W.findIn K (.ref C_NoNumber) "__class__" = some (some (.builtin "object.__class__")))
    (hm_NoNumber : PySem.W.mroIn K C_NoNumber (.type "object") = some true)
    (ki_NoNumber_NoName : PySem.W.kitOne K (.ref C_NoNumber) (.ref C_NoName) = some false)
    (ki_NoNumber_NoNumber : PySem.W.kitOne K (.ref C_NoNumber) (.ref C_NoNumber) = some true)
    (ki_NoNumber_NoPoint : PySem.W.kitOne K (.ref C_NoNumber) (.ref C_NoPoint) = some false)
    (ki_NoNumber_NoRow : PySem.W.kitOne K (.ref C_NoNumber) (.ref C_NoRow) = some false)
    (ki_NoNumber_NoText : PySem.W.kitOne K (.ref C_NoNumber) (.ref C_NoText) = some false)
    (ki_NoNumber_NoYard : PySem.W.kitOne K (.ref C_NoNumber) (.ref C_NoYard) = some false)
    (ki_NoNumber_ValueError : PySem.W.kitOne K (.ref C_NoNumber) (.type "ValueError") = some true)
    (s_NoNumber_RoofError : PySem.W.subIn K (.ref C_NoNumber) (.ref C_RoofError) = some true)
    : Tx K mg :=
  { f_divisor := has_mk (st := s_divisor) (PySem.W.mg_of X G a1) l1 c1 k1 (fun _ _ _ _ _ _ us hl => match us, hl with | [_, _], _ => rfl),
    f_under := has_mk (st := s_under) (PySem.W.mg_of X G a2) l2 c2 k2 (fun _ _ _ _ _ _ us hl => match us, hl with | [_, _], _ => rfl),
    f_law_feed := has_mk (st := s_law_feed) (PySem.W.mg_of X G a3) l3 c3 k3 (fun _ _ _ _ _ _ us hl => match us, hl with | [_, _], _ => rfl),
    f_law_next := has_mk (st := s_law_next) (PySem.W.mg_of X G a4) l4 c4 k4 (fun _ _ _ _ _ _ us hl => match us, hl with | [_, _], _ => rfl),
    f_law_shared := has_mk (st := s_law_shared) (PySem.W.mg_of X G a5) l5 c5 k5 (fun _ _ _ _ _ _ us hl => match us, hl with | [_, _], _ => rfl),
    f_fraction := has_mk (st := s_fraction) (PySem.W.mg_of X G a6) l6 c6 k6 (fun _ _ _ _ _ _ us hl => match us, hl with | [_, _], _ => rfl),
    f_law_lowest := has_mk (st := s_law_lowest) (PySem.W.mg_of X G a7) l7 c7 k7 (fun _ _ _ _ _ _ us hl => match us, hl with | [_, _], _ => rfl),
    f_law_is := has_mk (st := s_law_is) (PySem.W.mg_of X G a8) l8 c8 k8 (fun _ _ _ _ _ _ us hl => match us, hl with | [_, _, _], _ => rfl),
    f_plus := has_mk (st := s_plus) (PySem.W.mg_of X G a9) l9 c9 k9 (fun _ _ _ _ _ _ us hl => match us, hl with | [_, _], _ => rfl),
    f_minus := has_mk (st := s_minus) (PySem.W.mg_of X G a10) l10 c10 k10 (fun _ _ _ _ _ _ us hl => match us, hl with | [_, _], _ => rfl),
    f_times := has_mk (st := s_times) (PySem.W.mg_of X G a11) l11 c11 k11 (fun _ _ _ _ _ _ us hl => match us, hl with | [_, _], _ => rfl),
    f_over := has_mk (st := s_over) (PySem.W.mg_of X G a12) l12 c12 k12 (fun _ _ _ _ _ _ us hl => match us, hl with | [_, _], _ => rfl),
    f_law_number := has_mk (st := s_law_number) (PySem.W.mg_of X G a13) l13 c13 k13 (fun _ _ _ _ _ _ us hl => match us, hl with | [_], _ => rfl),
    f_law_by_nought := has_mk (st := s_law_by_nought) (PySem.W.mg_of X G a14) l14 c14 k14 (fun _ _ _ _ _ _ us hl => match us, hl with | [_], _ => rfl),
    f_law_right := has_mk (st := s_law_right) (PySem.W.mg_of X G a15) l15 c15 k15 (fun _ _ _ _ _ _ us hl => match us, hl with | [_, _], _ => rfl),
    f_law := has_mk (st := s_law) (PySem.W.mg_of X G a16) l16 c16 k16 (fun _ _ _ _ _ _ us hl => match us, hl with | [_], _ => rfl),
    z_abs := PySem.W.mg_none_of X G z_abs,
    z_bool := PySem.W.mg_none_of X G z_bool,
    z_int := PySem.W.mg_none_of X G z_int,
    z_isinstance := PySem.W.mg_none_of X G z_isinstance,
    z_len := PySem.W.mg_none_of X G z_len,
    z_min := PySem.W.mg_none_of X G z_min,
    z_range := PySem.W.mg_none_of X G z_range,
    z_tuple := PySem.W.mg_none_of X G z_tuple,
    r_number := ⟨C_NoNumber, q_NoNumber, PySem.W.mg_of X G q_NoNumber, e_NoNumber, kp_NoNumber, sb_NoNumber, ty_NoNumber⟩,
    x_RoofError := ⟨C_RoofError, PySem.W.mg_of X G q_RoofError, (forL_cons q_NoNumber (PySem.W.exm_ref sb_RoofError hd_RoofError ty_RoofError s_NoNumber_RoofError) forL_nil)⟩,
    ec := (forL_cons q_NoNumber ⟨hg_NoNumber, hk_NoNumber, sb_NoNumber, hd_NoNumber, ha_NoNumber, hn, ht, hm_NoNumber⟩ forL_nil),
    i_NoName := ⟨_, _, .own (PySem.W.mg_of X G q_NoName), (forL_cons q_NoNumber ki_NoNumber_NoName forL_nil)⟩,
    i_NoNumber := ⟨_, _, .own (PySem.W.mg_of X G q_NoNumber), (forL_cons q_NoNumber ki_NoNumber_NoNumber forL_nil)⟩,
    i_NoPoint := ⟨_, _, .own (PySem.W.mg_of X G q_NoPoint), (forL_cons q_NoNumber ki_NoNumber_NoPoint forL_nil)⟩,
    i_NoRow := ⟨_, _, .own (PySem.W.mg_of X G q_NoRow), (forL_cons q_NoNumber ki_NoNumber_NoRow forL_nil)⟩,
    i_NoText := ⟨_, _, .own (PySem.W.mg_of X G q_NoText), (forL_cons q_NoNumber ki_NoNumber_NoText forL_nil)⟩,
    i_NoYard := ⟨_, _, .own (PySem.W.mg_of X G q_NoYard), (forL_cons q_NoNumber ki_NoNumber_NoYard forL_nil)⟩,
    i_ValueError := ⟨_, _, .value (PySem.W.mg_none_of X G z_ValueError), (forL_cons q_NoNumber ki_NoNumber_ValueError forL_nil)⟩ }
end R3
open PySem PySem.W PyProof.Rows
set_option maxRecDepth 100000 in
set_option maxHeartbeats 0 in
theorem PySem.Challenge.cw_roofridges_k02_sums_of_numbers_holds : PySem.Challenge.rw_roofridges_k02_sums_of_numbers.Holds := by
  w_on; o_law; k_head; (case hw => w_witness2)
  k_fill
  refine R3.law_of (l := PySem.Challenge.rw_roofridges_k02_sums_of_numbers) (k := 5) (x := "_law_script") rfl rfl ⟨rfl, by decide, by decide⟩ (fun w h Y => PySem.W.kIn_of Y) ?F
  case F =>
    intro w mg fa h KX G hmg
    refine' (fun T => ⟨_, R3.Tx.f_law T, fun base _ _ => R3.all_ok T⟩ : R3.Tx _ mg → _) (R3.all_mk (w := w) KX G ?a1 ?l1 ?c1 ?k1 ?a2 ?l2 ?c2 ?k2 ?a3 ?l3 ?c3 ?k3 ?a4 ?l4 ?c4 ?k4 ?a5 ?l5 ?c5 ?k5 ?a6 ?l6 ?c6 ?k6 ?a7 ?l7 ?c7 ?k7 ?a8 ?l8 ?c8 ?k8 ?a9 ?l9 ?c9 ?k9 ?a10 ?l10 ?c10 ?k10 ?a11 ?l11 ?c11 ?k11 ?a12 ?l12 ?c12 ?k12 ?a13 ?l13 ?c13 ?k13 ?a14 ?l14 ?c14 ?k14 ?a15 ?l15 ?c15 ?k15 ?a16 ?l16 ?c16 ?k16 ?z_ValueError ?z_abs ?z_bool ?z_int ?z_isinstance ?z_len ?z_min ?z_range ?z_tuple ?q_RoofError ?q_NoNumber ?q_NoYard ?q_NoPoint ?q_NoText ?q_NoRow ?q_NoName ?e_NoNumber ?kp_NoNumber ?sb_RoofError ?ty_RoofError ?hd_RoofError ?sb_NoNumber ?ty_NoNumber ?hd_NoNumber ?hn ?ht ?hg_NoNumber ?hk_NoNumber ?ha_NoNumber ?hm_NoNumber ?ki_NoNumber_NoName ?ki_NoNumber_NoNumber ?ki_NoNumber_NoPoint ?ki_NoNumber_NoRow ?ki_NoNumber_NoText ?ki_NoNumber_NoYard ?ki_NoNumber_ValueError ?s_NoNumber_RoofError)
    (case a1 => k_is)
    (case l1 => k_is)
    (case c1 => k_is)
    (case k1 => k_is)
    (case a2 => k_is)
    (case l2 => k_is)
    (case c2 => k_is)
    (case k2 => k_is)
    (case a3 => k_is)
    (case l3 => k_is)
    (case c3 => k_is)
    (case k3 => k_is)
    (case a4 => k_is)
    (case l4 => k_is)
    (case c4 => k_is)
    (case k4 => k_is)
    (case a5 => k_is)
    (case l5 => k_is)
    (case c5 => k_is)
    (case k5 => k_is)
    (case a6 => k_is)
    (case l6 => k_is)
    (case c6 => k_is)
    (case k6 => k_is)
    (case a7 => k_is)
    (case l7 => k_is)
    (case c7 => k_is)
    (case k7 => k_is)
    (case a8 => k_is)
    (case l8 => k_is)
    (case c8 => k_is)
    (case k8 => k_is)
    (case a9 => k_is)
    (case l9 => k_is)
    (case c9 => k_is)
    (case k9 => k_is)
    (case a10 => k_is)
    (case l10 => k_is)
    (case c10 => k_is)
    (case k10 => k_is)
    (case a11 => k_is)
    (case l11 => k_is)
    (case c11 => k_is)
    (case k11 => k_is)
    (case a12 => k_is)
    (case l12 => k_is)
    (case c12 => k_is)
    (case k12 => k_is)
    (case a13 => k_is)
    (case l13 => k_is)
    (case c13 => k_is)
    (case k13 => k_is)
    (case a14 => k_is)
    (case l14 => k_is)
    (case c14 => k_is)
    (case k14 => k_is)
    (case a15 => k_is)
    (case l15 => k_is)
    (case c15 => k_is)
    (case k15 => k_is)
    (case a16 => k_is)
    (case l16 => k_is)
    (case c16 => k_is)
    (case k16 => k_is)
    (case z_ValueError => k_is)
    (case z_abs => k_is)
    (case z_bool => k_is)
    (case z_int => k_is)
    (case z_isinstance => k_is)
    (case z_len => k_is)
    (case z_min => k_is)
    (case z_range => k_is)
    (case z_tuple => k_is)
    (case q_RoofError => k_is)
    (case q_NoNumber => k_is)
    (case q_NoYard => k_is)
    (case q_NoPoint => k_is)
    (case q_NoText => k_is)
    (case q_NoRow => k_is)
    (case q_NoName => k_is)
    (case e_NoNumber => k_exc)
    (case kp_NoNumber => k_is)
    (case sb_RoofError => k_is)
    (case ty_RoofError => k_is)
    (case hd_RoofError => k_is)
    (case sb_NoNumber => k_is)
    (case ty_NoNumber => k_is)
    (case hd_NoNumber => k_is)
    (case hn => k_is)
    (case ht => k_is)
    (case hg_NoNumber => k_is)
    (case hk_NoNumber => k_is)
    (case ha_NoNumber => k_is)
    (case hm_NoNumber => k_is)
    (case ki_NoNumber_NoName => kit_is)
    (case ki_NoNumber_NoNumber => kit_is)
    (case ki_NoNumber_NoPoint => kit_is)
    (case ki_NoNumber_NoRow => kit_is)
    (case ki_NoNumber_NoText => kit_is)
    (case ki_NoNumber_NoYard => kit_is)
    (case ki_NoNumber_ValueError => kit_is)
    (case s_NoNumber_RoofError => k_is)
