import PyProof.Rows.All
import Wide.All
import OpenK.AllK
import Wide.FinOn
import KE.KStateDown
import KE.SortData
import HandS.ForMost
import HandS.ForExc
import HandS.IsInst
import HandS.Deep
import HandS.Flow
import HandS.Style
import HandS.TupAny
import HandS.CallSlots
import HandS.Wide
import HandS.Defaults
import HandS.ExcInit
import HandS.ExcField
import HandS.Nested
import KE.KExcSuper
import HandS.Head0
import HandS.Head1
import HandS.Head2
import HandS.HeadEnd
import HandS.HeadHook1
import HandS.HeadHook2
import PySem.Challenge.RW_panewright_k01_whole_points_and_moves
section
set_option Elab.async false
set_option linter.all false
set_option maxRecDepth 100000
set_option maxHeartbeats 4000000
/-! Pw1: values by value (PyData) over the hand layer: readings, growth of heaps, slots, the monad of wishes. -/
namespace Pw
open PySem PySem.Spec L2
abbrev Sl := L2.St

mutual
/-- v reads as the datum d in the part G of the heap that is never changed -/
inductive RdD (K : PySem.W.Frag) (G : Hp) : V → PyData → Prop
  | non : RdD K G .non .none
  | bl (b : Bool) : RdD K G (.bl b) (.bool b)
  | int (i : Int) : RdD K G (.int i) (.int i)
  | str (x : Str) : RdD K G (.str x) (.str x)
  | lst {a : Addr} {vs : List V} {ds : List PyData} : G a = some (.lst vs) → ds.length ≤ sizeLine → RdAll K G vs ds → RdD K G (.ref a) (.list ds)
  | tup {a : Addr} {vs : List V} {ds : List PyData} : SqT K G a vs → ds.length ≤ sizeLine → RdAll K G vs ds → RdD K G (.ref a) (.tuple ds)
inductive RdAll (K : PySem.W.Frag) (G : Hp) : List V → List PyData → Prop
  | nil : RdAll K G [] []
  | cons {v : V} {vs : List V} {d : PyData} {ds : List PyData} : RdD K G v d → RdAll K G vs ds → RdAll K G (v :: vs) (d :: ds)
end
section
variable {K : PySem.W.Frag} {G G' H : Hp}
theorem sqT_mono {a : Addr} {vs : List V} (g : Same G G') (h : SqT K G a vs) : SqT K G' a vs := by
  rcases h with (h | ⟨o, h⟩) | h
  · exact .inl (.inl (g _ _ h))
  · exact .inl (.inr ⟨o, g _ _ h⟩)
  · exact .inr h
mutual
theorem RdD.mono (g : Same G G') : ∀ (d : PyData) (v : V), RdD K G v d → RdD K G' v d
  | .none, _, h => by cases h; exact .non
  | .bool b, _, h => by cases h; exact .bl b
  | .int i, _, h => by cases h; exact .int i
  | .str x, _, h => by cases h; exact .str x
  | .list ds, _, h => by
    cases h with
    | lst h1 h2 h3 => exact .lst (g _ _ h1) h2 (RdAll.mono g ds _ h3)
  | .tuple ds, _, h => by
    cases h with
    | tup h1 h2 h3 => exact .tup (sqT_mono g h1) h2 (RdAll.mono g ds _ h3)
  | .dict _, _, h => by cases h
theorem RdAll.mono (g : Same G G') : ∀ (ds : List PyData) (vs : List V), RdAll K G vs ds → RdAll K G' vs ds
  | [], _, h => by cases h; exact .nil
  | d :: ds, _, h => by
    cases h with
    | cons h1 h2 => exact .cons (RdD.mono g d _ h1) (RdAll.mono g ds _ h2)
end
mutual
theorem RdD.dp (g : Same G H) : ∀ (d : PyData) (v : V), RdD K G v d → Dp K H v d
  | .none, _, h => by cases h; exact .non
  | .bool b, _, h => by cases h; exact .bl b
  | .int i, _, h => by cases h; exact .int i
  | .str x, _, h => by cases h; exact .str x
  | .list ds, _, h => by
    cases h with
    | lst h1 h2 h3 => exact .lst (.inl (.inl (g _ _ h1))) (RdAll.dp g ds _ h3)
  | .tuple ds, _, h => by
    cases h with
    | tup h1 h2 h3 => exact .tup (sqT_mono g h1) (RdAll.dp g ds _ h3)
  | .dict _, _, h => by cases h
theorem RdAll.dp (g : Same G H) : ∀ (ds : List PyData) (vs : List V), RdAll K G vs ds → DpAll K H vs ds
  | [], _, h => by cases h; exact .nil
  | d :: ds, _, h => by
    cases h with
    | cons h1 h2 => exact .cons (RdD.dp g d _ h1) (RdAll.dp g ds _ h2)
end
theorem RdAll.length : ∀ {ds : List PyData} {vs : List V}, RdAll K G vs ds → vs.length = ds.length
  | [], _, h => by cases h; rfl
  | _ :: ds, _, h => by
    cases h with
    | cons _ h2 => simp [RdAll.length h2]
theorem RdAll.at_ : ∀ {ds : List PyData} {vs : List V} {i : Nat} {d : PyData}, RdAll K G vs ds → ds[i]? = some d → ∃ v, vs[i]? = some v ∧ RdD K G v d
  | [], _, i, _, _, e => by simp at e
  | _ :: ds, _, 0, _, h, e => by
    cases h with
    | cons h1 h2 => simp at e; subst e; exact ⟨_, rfl, h1⟩
  | _ :: ds, _, i + 1, _, h, e => by
    cases h with
    | cons h1 h2 =>
      obtain ⟨v, a, b⟩ := RdAll.at_ (i := i) h2 (by simpa using e)
      exact ⟨v, by simpa using a, b⟩
theorem RdAll.atV : ∀ {ds : List PyData} {vs : List V} {i : Nat} {v : V}, RdAll K G vs ds → vs[i]? = some v → ∃ d, ds[i]? = some d ∧ RdD K G v d
  | [], _, i, _, h, e => by cases h; simp at e
  | _ :: ds, _, 0, _, h, e => by
    cases h with
    | cons h1 h2 => simp at e; subst e; exact ⟨_, rfl, h1⟩
  | _ :: ds, _, i + 1, _, h, e => by
    cases h with
    | cons h1 h2 =>
      obtain ⟨v, a, b⟩ := RdAll.atV (i := i) h2 (by simpa using e)
      exact ⟨v, by simpa using a, b⟩
theorem RdAll.append : ∀ {ds es : List PyData} {vs us : List V}, RdAll K G vs ds → RdAll K G us es → RdAll K G (vs ++ us) (ds ++ es)
  | [], _, _, _, h, q => by cases h; exact q
  | _ :: ds, _, _, _, h, q => by
    cases h with
    | cons h1 h2 => exact .cons h1 (RdAll.append h2 q)
theorem RdAll.take : ∀ (n : Nat) {ds : List PyData} {vs : List V}, RdAll K G vs ds → RdAll K G (vs.take n) (ds.take n)
  | 0, _, _, _ => by simp; exact .nil
  | n + 1, [], _, h => by cases h; simp; exact .nil
  | n + 1, _ :: _, _, h => by
    cases h with
    | cons h1 h2 => exact .cons h1 (RdAll.take n h2)
theorem RdAll.drop : ∀ (n : Nat) {ds : List PyData} {vs : List V}, RdAll K G vs ds → RdAll K G (vs.drop n) (ds.drop n)
  | 0, _, _, h => h
  | n + 1, [], _, h => by cases h; simp; exact .nil
  | n + 1, _ :: _, _, h => by
    cases h with
    | cons h1 h2 => exact RdAll.drop n h2
theorem RdAll.set : ∀ (i : Nat) {ds : List PyData} {vs : List V} {v : V} {d : PyData}, RdAll K G vs ds → RdD K G v d → RdAll K G (vs.set i v) (ds.set i d)
  | _, [], _, _, _, h, _ => by cases h; exact .nil
  | 0, _ :: _, _, _, _, h, q => by
    cases h with
    | cons h1 h2 => exact .cons q h2
  | i + 1, _ :: _, _, _, _, h, q => by
    cases h with
    | cons h1 h2 => exact .cons h1 (RdAll.set i h2 q)
theorem RdAll.erase : ∀ (i : Nat) {ds : List PyData} {vs : List V}, RdAll K G vs ds → RdAll K G (vs.eraseIdx i) (ds.eraseIdx i)
  | _, [], _, h => by cases h; exact .nil
  | 0, _ :: _, _, h => by
    cases h with
    | cons h1 h2 => exact h2
  | i + 1, _ :: _, _, h => by
    cases h with
    | cons h1 h2 => exact .cons h1 (RdAll.erase i h2)
theorem RdAll.reverse : ∀ {ds : List PyData} {vs : List V}, RdAll K G vs ds → RdAll K G vs.reverse ds.reverse
  | [], _, h => by cases h; exact .nil
  | _ :: ds, _, h => by
    cases h with
    | cons h1 h2 =>
      rw [List.reverse_cons, List.reverse_cons]
      exact RdAll.append (RdAll.reverse h2) (.cons h1 .nil)
theorem RdAll.dropLast {ds : List PyData} {vs : List V} (h : RdAll K G vs ds) : RdAll K G vs.dropLast ds.dropLast := by
  rw [List.dropLast_eq_take, List.dropLast_eq_take, RdAll.length h]
  exact h.take _
theorem RdAll.ints : ∀ {ns : List Int} {vs : List V}, RdAll K G vs (ns.map .int) → vs = ns.map V.int
  | [], _, h => by cases h; rfl
  | n :: ns, _, h => by
    cases h with
    | cons h1 h2 =>
      cases h1
      rw [RdAll.ints h2]; rfl
theorem RdAll.bools : ∀ {ns : List Bool} {vs : List V}, RdAll K G vs (ns.map .bool) → vs = ns.map V.bl
  | [], _, h => by cases h; rfl
  | n :: ns, _, h => by
    cases h with
    | cons h1 h2 =>
      cases h1
      rw [RdAll.bools h2]; rfl
theorem RdAll.of_ints : ∀ ns : List Int, RdAll K G (ns.map V.int) (ns.map .int)
  | [] => .nil
  | n :: ns => .cons (.int n) (RdAll.of_ints ns)
theorem RdD.list_inv {v : V} {ds : List PyData} (h : RdD K G v (.list ds)) : ∃ a vs, v = .ref a ∧ G a = some (.lst vs) ∧ ds.length ≤ sizeLine ∧ RdAll K G vs ds := by
  cases h with
  | lst h1 h2 h3 => exact ⟨_, _, rfl, h1, h2, h3⟩
theorem RdD.tuple_inv {v : V} {ds : List PyData} (h : RdD K G v (.tuple ds)) : ∃ a vs, v = .ref a ∧ SqT K G a vs ∧ ds.length ≤ sizeLine ∧ RdAll K G vs ds := by
  cases h with
  | tup h1 h2 h3 => exact ⟨_, _, rfl, h1, h2, h3⟩
end

/-! ### values of slots -/
/-- x by value; a fresh list that one slot (or nobody yet) holds; such a list, looked at; the law's drawing state -/
inductive SV where
  | d (x : PyData)
  | own (xs : List PyData)
  | bor (xs : List PyData)
  | st
abbrev Zs := Option (Addr × Addr)
def offZ (Z : Zs) (a : Addr) : Prop := ∀ p q, Z = some (p, q) → a ≠ p ∧ a ≠ q
/-- the drawing state: how many were drawn, the cells -/
def StOk (p q : Addr) (H : Hp) : Prop := ∃ (n : Int) (cs : List Int), H p = some (.lst [.int n, .ref q]) ∧ H q = some (.lst (cs.map .int)) ∧ 0 ≤ n ∧ cs ≠ [] ∧ cs.length ≤ 63 ∧ ∀ c ∈ cs, 0 ≤ c
structure WO (Z : Zs) (G H : Hp) : Prop where
  gh : Same G H
  z : ∀ p q, Z = some (p, q) → G p = none ∧ G q = none ∧ p ≠ q ∧ StOk p q H
/-- the heap has grown; but the drawing state nothing was changed -/
structure Gr (Z : Zs) (G H G' H' : Hp) : Prop where
  g : Same G G'
  h : ∀ a o, offZ Z a → H a = some o → H' a = some o
  nw : ∀ a, H a ≠ none → G a = none → G' a = none
  w : WO Z G' H'
section
variable {K : PySem.W.Frag} {Z : Zs} {G H G1 H1 G2 H2 : Hp}
theorem offZ_or (Z : Zs) (a : Addr) : offZ Z a ∨ ∃ p q, Z = some (p, q) ∧ (a = p ∨ a = q) := by
  cases Z with
  | none => exact .inl fun p q e => by cases e
  | some z =>
    obtain ⟨p, q⟩ := z
    by_cases h1 : a = p
    · exact .inr ⟨p, q, rfl, .inl h1⟩
    · by_cases h2 : a = q
      · exact .inr ⟨p, q, rfl, .inr h2⟩
      · exact .inl fun p' q' e => by cases e; exact ⟨h1, h2⟩
theorem WO.there (w : WO Z G H) {p q : Addr} (e : Z = some (p, q)) {a : Addr} (h : a = p ∨ a = q) : H a ≠ none := by
  obtain ⟨_, _, _, n, cs, h1, h2, _⟩ := w.z p q e
  rcases h with rfl | rfl
  · rw [h1]; exact fun z => nomatch z
  · rw [h2]; exact fun z => nomatch z
theorem Gr.dm (a : Gr Z G H G1 H1) (b : Addr) (h : H b ≠ none) : H1 b ≠ none := by
  rcases offZ_or Z b with o | ⟨p, q, e, o⟩
  · cases hh : H b with
    | none => exact absurd hh h
    | some u => rw [a.h b u o hh]; exact fun z => nomatch z
  · exact a.w.there e o
theorem Gr.refl (w : WO Z G H) : Gr Z G H G H := ⟨Same.refl _, fun _ _ _ h => h, fun _ _ h => h, w⟩
theorem Gr.trans (a : Gr Z G H G1 H1) (b : Gr Z G1 H1 G2 H2) : Gr Z G H G2 H2 :=
  ⟨a.g.trans b.g, fun c o z h => b.h c o z (a.h c o z h), fun c h n => b.nw c (a.dm c h) (a.nw c h n), b.w⟩
/-- a new object that nothing else knows, laid -/
theorem WO.new (w : WO Z G H) {p : Addr} {o : HO} (n : H p = none) : WO Z G (upd H p o) := by
  refine ⟨fun a u e => ?_, fun x y e => ?_⟩
  · rw [upd_ne (ne_of_none (w.gh a u e) n)]; exact w.gh a u e
  · obtain ⟨h1, h2, h3, m, cs, h4, h5, h6⟩ := w.z x y e
    refine ⟨h1, h2, h3, m, cs, ?_, ?_, h6⟩
    · rw [upd_ne (ne_of_none h4 n)]; exact h4
    · rw [upd_ne (ne_of_none h5 n)]; exact h5
theorem Gr.new (w : WO Z G H) {p : Addr} {o : HO} (n : H p = none) : Gr Z G H G (upd H p o) :=
  ⟨Same.refl _, fun a u _ e => by rw [upd_ne (ne_of_none e n)]; exact e, fun _ _ h => h, w.new n⟩
/-- a thing is never changed from now on: it goes into G -/
theorem Gr.freeze (a : Gr Z G H G1 H1) {p : Addr} {o : HO} (n : H p = none) (g : G1 p = none) (h : H1 p = some o) (z : offZ Z p) : Gr Z G H (upd G1 p o) H1 := by
  refine ⟨fun b u e => ?_, a.h, fun b hb nb => ?_, fun b u e => ?_, fun x y e => ?_⟩
  · rw [upd_ne (ne_of_none (a.g b u e) g)]; exact a.g b u e
  · have : b ≠ p := fun e => by rw [e] at hb; exact hb n
    rw [upd_ne this]; exact a.nw b hb nb
  · by_cases eb : b = p
    · subst eb; rw [upd_same] at e; cases e; exact h
    · rw [upd_ne eb] at e; exact a.w.gh b u e
  · obtain ⟨h1, h2, h3⟩ := a.w.z x y e
    obtain ⟨z1, z2⟩ := z x y e
    exact ⟨by rw [upd_ne (Ne.symm z1)]; exact h1, by rw [upd_ne (Ne.symm z2)]; exact h2, h3⟩
theorem same_freeze {p : Addr} {o : HO} (g : G1 p = none) : Same G1 (upd G1 p o) := fun b u e => by
  rw [upd_ne (ne_of_none e g)]; exact e
theorem offZ_new (w : WO Z G H) {p : Addr} (n : H p = none) : offZ Z p := fun x y e => by
  refine ⟨fun q => w.there e (.inl q) n, fun q => w.there e (.inr q) n⟩
theorem none_g (w : WO Z G H) {p : Addr} (n : H p = none) : G p = none := by
  cases q : G p with
  | none => rfl
  | some u => have := w.gh p u q; rw [n] at this; cases this
/-- what stands, told before -/
theorem Gr.none (a : Gr Z G H G1 H1) {p : Addr} (n : H1 p = none) : H p = none := by
  cases q : H p with
  | none => rfl
  | some u => exact absurd n (a.dm p (by rw [q]; exact fun z => nomatch z))

/-- an own list at p -/
structure OwnAt (K : PySem.W.Frag) (Z : Zs) (G H : Hp) (v : V) (xs : List PyData) (p : Addr) (vs : List V) : Prop where
  e : v = .ref p
  z : offZ Z p
  g : G p = none
  h : H p = some (.lst vs)
  l : xs.length ≤ sizeLine
  r : RdAll K G vs xs
def RdV (K : PySem.W.Frag) (Z : Zs) (G H : Hp) (v : V) : SV → Prop
  | .d x => RdD K G v x
  | .own xs => ∃ p vs, OwnAt K Z G H v xs p vs
  | .bor xs => ∃ p vs, OwnAt K Z G H v xs p vs
  | .st => ∃ p q, Z = some (p, q) ∧ v = .ref p
/-- a value that came of an expression begun at H0: an own list is new -/
def RdF (K : PySem.W.Frag) (Z : Zs) (H0 G H : Hp) (v : V) (r : SV) : Prop :=
  RdV K Z G H v r ∧ ∀ xs p, r = .own xs → v = .ref p → H0 p = none
theorem OwnAt.gr {v : V} {xs : List PyData} {p : Addr} {vs : List V} (o : OwnAt K Z G H v xs p vs) (a : Gr Z G H G1 H1) : OwnAt K Z G1 H1 v xs p vs :=
  ⟨o.e, o.z, a.nw p (by rw [o.h]; exact fun z => nomatch z) o.g, a.h p _ o.z o.h, o.l, RdAll.mono a.g _ _ o.r⟩
theorem RdV.gr {v : V} : ∀ {r : SV}, RdV K Z G H v r → Gr Z G H G1 H1 → RdV K Z G1 H1 v r
  | .d x, h, a => RdD.mono a.g _ _ h
  | .own xs, ⟨p, vs, o⟩, a => ⟨p, vs, o.gr a⟩
  | .bor xs, ⟨p, vs, o⟩, a => ⟨p, vs, o.gr a⟩
  | .st, h, _ => h
theorem RdF.gr {v : V} {r : SV} {H0 : Hp} (h : RdF K Z H0 G H v r) (a : Gr Z G H G1 H1) : RdF K Z H0 G1 H1 v r := ⟨h.1.gr a, h.2⟩
theorem RdF.at0 {v : V} {r : SV} {H0 H00 G00 : Hp} (h : RdF K Z H0 G H v r) (a : Gr Z G00 H00 G1 H0) : RdF K Z H00 G H v r := ⟨h.1, fun xs p e1 e2 => a.none (h.2 xs p e1 e2)⟩

def isPlain : SV → Bool
  | .d _ => true
  | .st => true
  | _ => false
/-! ### slots -/
abbrev SEnv := List (Option SV)
structure RV (K : PySem.W.Frag) (Z : Zs) (G H : Hp) (σ : Sl) (ρ : SEnv) : Prop where
  get : ∀ (i : Nat) (r : SV), ρ[i]? = some (some r) → ∃ v, σ[i]? = some (some v) ∧ RdV K Z G H v r
  ne : ∀ (i j : Nat) (xs ys : List PyData) (v : V), i ≠ j → ρ[i]? = some (some (.own xs)) → ρ[j]? = some (some (.own ys)) → σ[i]? = some (some v) → σ[j]? ≠ some (some v)
  ln : σ.length = ρ.length
  nb : ∀ (i : Nat) (xs : List PyData), ρ[i]? ≠ some (some (.bor xs))
theorem RV.gr {σ : St} {ρ : SEnv} (r : RV K Z G H σ ρ) (a : Gr Z G H G1 H1) : RV K Z G1 H1 σ ρ :=
  ⟨fun i x e => let ⟨v, h1, h2⟩ := r.get i x e; ⟨v, h1, h2.gr a⟩, r.ne, r.ln, r.nb⟩
/-- the own slots are such already -/
def OwnSub (σ : Sl) (ρ : SEnv) (σ' : Sl) (ρ' : SEnv) : Prop := ∀ (i : Nat) (xs : List PyData) (v : V), ρ'[i]? = some (some (.own xs)) → σ'[i]? = some (some v) → ρ[i]? = some (some (.own xs)) ∧ σ[i]? = some (some v)
theorem OwnSub.refl {σ : St} {ρ : SEnv} : OwnSub σ ρ σ ρ := fun _ _ _ a b => ⟨a, b⟩
theorem OwnSub.trans {σ σ1 σ2 : St} {ρ ρ1 ρ2 : SEnv} (a : OwnSub σ ρ σ1 ρ1) (b : OwnSub σ1 ρ1 σ2 ρ2) : OwnSub σ ρ σ2 ρ2 := fun i xs v h1 h2 => let ⟨p, q⟩ := b i xs v h1 h2; a i xs v p q
theorem set_get {α : Type} {l : List α} {i j : Nat} {x y : α} (h : (l.set i x)[j]? = some y) : (j = i ∧ y = x) ∨ (j ≠ i ∧ l[j]? = some y) := by
  by_cases e : j = i
  · subst e
    by_cases hl : j < l.length
    · rw [List.getElem?_set_self hl] at h; cases h; exact .inl ⟨rfl, rfl⟩
    · rw [List.getElem?_eq_none (by simpa using hl)] at h; cases h
  · rw [List.getElem?_set_ne (Ne.symm e)] at h; exact .inr ⟨e, h⟩
/-- a value that owns nothing goes into a slot -/
theorem RV.put {σ : St} {ρ : SEnv} (r : RV K Z G H σ ρ) {i : Nat} {v : V} {x : SV} (h : RdV K Z G H v x) (pl : isPlain x = true) : RV K Z G H (σ.set i (some v)) (ρ.set i (some x)) ∧ OwnSub σ ρ (σ.set i (some v)) (ρ.set i (some x)) := by
  have no : ∀ xs, x ≠ .own xs := fun xs e => by rw [e] at pl; cases pl
  refine ⟨⟨fun j y e => ?_, fun j k xs ys u jk h1 h2 h3 h4 => ?_, by simp [r.ln], fun j xs e => ?_⟩, fun j xs u h1 h2 => ?_⟩
  · rcases set_get e with ⟨rfl, q⟩ | ⟨ne, q⟩
    · cases q
      have hl : j < σ.length := by
        rw [r.ln]
        by_cases hl : j < ρ.length
        · exact hl
        · rw [List.getElem?_eq_none (by simpa using hl)] at e; cases e
      exact ⟨v, List.getElem?_set_self hl, h⟩
    · obtain ⟨u, h1, h2⟩ := r.get j y q
      exact ⟨u, by rw [List.getElem?_set_ne (Ne.symm ne)]; exact h1, h2⟩
  · rcases set_get h1 with ⟨rfl, q⟩ | ⟨n1, q1⟩
    · cases q; exact no _ rfl
    · rcases set_get h2 with ⟨rfl, q⟩ | ⟨n2, q2⟩
      · cases q; exact no _ rfl
      · rw [List.getElem?_set_ne (Ne.symm n1)] at h3
        rw [List.getElem?_set_ne (Ne.symm n2)] at h4
        exact r.ne j k xs ys u jk q1 q2 h3 h4
  · rcases set_get e with ⟨rfl, q⟩ | ⟨n1, q1⟩
    · cases q; cases pl
    · exact r.nb j xs q1
  · rcases set_get h1 with ⟨rfl, q⟩ | ⟨n1, q1⟩
    · cases q; exact absurd rfl (no _)
    · rw [List.getElem?_set_ne (Ne.symm n1)] at h2
      exact ⟨q1, h2⟩
/-- an own list goes into a slot: no other slot holds it -/
theorem RV.putO {σ : St} {ρ : SEnv} (r : RV K Z G H σ ρ) {i : Nat} {v : V} {xs : List PyData} (h : RdV K Z G H v (.own xs)) (no : ∀ (j : Nat) (ys : List PyData), j ≠ i → ρ[j]? = some (some (.own ys)) → σ[j]? ≠ some (some v)) :
    RV K Z G H (σ.set i (some v)) (ρ.set i (some (.own xs))) := by
  refine ⟨fun j y e => ?_, fun j k ys zs u jk h1 h2 h3 h4 => ?_, by simp [r.ln], fun j ys e => ?_⟩
  · rcases set_get e with ⟨rfl, q⟩ | ⟨ne, q⟩
    · cases q
      have hl : j < σ.length := by
        rw [r.ln]
        by_cases hl : j < ρ.length
        · exact hl
        · rw [List.getElem?_eq_none (by simpa using hl)] at e; cases e
      exact ⟨v, List.getElem?_set_self hl, h⟩
    · obtain ⟨u, h1, h2⟩ := r.get j y q
      exact ⟨u, by rw [List.getElem?_set_ne (Ne.symm ne)]; exact h1, h2⟩
  · rcases set_get h3 with ⟨e1, q3⟩ | ⟨n3, q3⟩
    · subst e1
      cases q3
      have nk : k ≠ j := Ne.symm jk
      rw [List.getElem?_set_ne (Ne.symm nk)] at h2 h4
      exact no k zs nk h2 h4
    · rw [List.getElem?_set_ne (Ne.symm n3)] at h1
      rcases set_get h4 with ⟨e1, q4⟩ | ⟨n4, q4⟩
      · subst e1
        cases q4
        exact no j ys jk h1 q3
      · rw [List.getElem?_set_ne (Ne.symm n4)] at h2
        exact r.ne j k ys zs u jk h1 h2 q3 q4
  · rcases set_get e with ⟨rfl, q⟩ | ⟨n1, q1⟩
    · cases q
    · exact r.nb j ys q1
def wipeD (ρ : SEnv) : List Nat → SEnv
  | [] => ρ
  | v :: vs => (wipeD ρ vs).set v none
theorem RV.unset {σ : St} {ρ : SEnv} (r : RV K Z G H σ ρ) (i : Nat) : RV K Z G H (σ.set i none) (ρ.set i none) ∧ OwnSub σ ρ (σ.set i none) (ρ.set i none) := by
  refine ⟨⟨fun j y e => ?_, fun j k xs ys u jk h1 h2 h3 h4 => ?_, by simp [r.ln], fun j ys e => ?_⟩, fun j xs u h1 h2 => ?_⟩
  · rcases set_get e with ⟨rfl, q⟩ | ⟨ne, q⟩
    · cases q
    · obtain ⟨u, h1, h2⟩ := r.get j y q
      exact ⟨u, by rw [List.getElem?_set_ne (Ne.symm ne)]; exact h1, h2⟩
  · rcases set_get h1 with ⟨rfl, q⟩ | ⟨n1, q1⟩
    · cases q
    · rcases set_get h2 with ⟨rfl, q⟩ | ⟨n2, q2⟩
      · cases q
      · rw [List.getElem?_set_ne (Ne.symm n1)] at h3
        rw [List.getElem?_set_ne (Ne.symm n2)] at h4
        exact r.ne j k xs ys u jk q1 q2 h3 h4
  · rcases set_get e with ⟨rfl, q⟩ | ⟨n1, q1⟩
    · cases q
    · exact r.nb j ys q1
  · rcases set_get h1 with ⟨rfl, q⟩ | ⟨n1, q1⟩
    · cases q
    · rw [List.getElem?_set_ne (Ne.symm n1)] at h2
      exact ⟨q1, h2⟩
theorem RV.wipe {σ : St} {ρ : SEnv} (r : RV K Z G H σ ρ) : ∀ vs : List Nat, RV K Z G H (L2.wipe σ vs) (wipeD ρ vs)
  | [] => r
  | v :: vs => (RV.unset (RV.wipe r vs) v).1

/-! ### data of slot values -/
/-- its datum, if it may stand anywhere -/
def conv : SV → Option PyData
  | .d x => some x
  | .own xs => some (.list xs)
  | _ => none
/-- an own value is frozen where it must stand as data -/
theorem RdF.data {v : V} {r : SV} {x : PyData} (h : RdF K Z H G1 H1 v r) (a : Gr Z G H G1 H1) (e : conv r = some x) : ∃ G2, Gr Z G H G2 H1 ∧ Same G1 G2 ∧ RdD K G2 v x ∧ (∀ b, H b ≠ none → G1 b = none → G2 b = none) ∧
    ∀ b, G2 b ≠ none → G1 b = none → ∃ xs, r = .own xs ∧ v = .ref b := by
  cases r with
  | d y => cases e; exact ⟨G1, a, Same.refl _, h.1, fun _ _ h => h, fun b h1 h2 => absurd h2 h1⟩
  | own xs =>
    cases e
    obtain ⟨⟨p, vs, o⟩, f⟩ := h
    have n := f xs p rfl o.e
    refine ⟨upd G1 p (.lst vs), a.freeze n o.g o.h o.z, same_freeze o.g, ?_, fun b hb nb => ?_, fun b h1 h2 => ?_⟩
    · rw [o.e]; exact .lst upd_same o.l (RdAll.mono (same_freeze o.g) _ _ o.r)
    · rw [upd_ne (fun e => by rw [e] at hb; exact hb n)]; exact nb
    · by_cases eb : b = p
      · exact ⟨xs, rfl, by rw [o.e, eb]⟩
      · rw [upd_ne eb] at h1; exact absurd h2 h1
  | bor _ => cases e
  | st => cases e
/-- a list to be looked at: its items -/
def lstOf : SV → Option (List PyData)
  | .d (.list xs) => some xs
  | .own xs => some xs
  | .bor xs => some xs
  | _ => none
theorem lst_look {v : V} {r : SV} {xs : List PyData} (w : WO Z G H) (h : RdV K Z G H v r) (e : lstOf r = some xs) : ∃ p vs, v = .ref p ∧ H p = some (.lst vs) ∧ xs.length ≤ sizeLine ∧ RdAll K G vs xs := by
  cases r with
  | d y =>
    cases y with
    | list ys =>
      cases e
      obtain ⟨a, vs, rfl, h1, h2, h3⟩ := RdD.list_inv h
      exact ⟨a, vs, rfl, w.gh _ _ h1, h2, h3⟩
    | _ => cases e
  | own ys => cases e; obtain ⟨p, vs, o⟩ := h; exact ⟨p, vs, o.e, o.h, o.l, o.r⟩
  | bor ys => cases e; obtain ⟨p, vs, o⟩ := h; exact ⟨p, vs, o.e, o.h, o.l, o.r⟩
  | st => cases e
/-- a new list or tuple of what is read -/
theorem mkOwn (w : WO Z G H) {p : Addr} {vs : List V} {xs : List PyData} (n : H p = none) (l : xs.length ≤ sizeLine) (r : RdAll K G vs xs) : Gr Z G H G (upd H p (.lst vs)) ∧ RdF K Z H G (upd H p (.lst vs)) (.ref p) (.own xs) :=
  ⟨Gr.new w n, ⟨⟨p, vs, rfl, offZ_new w n, none_g w n, upd_same, l, r⟩, fun ys q e1 e2 => by cases e2; exact n⟩⟩
theorem mkTup (w : WO Z G H) {p : Addr} {vs : List V} {xs : List PyData} (n : H p = none) (l : xs.length ≤ sizeLine) (r : RdAll K G vs xs) :
    Gr Z G H (upd G p (.tup vs)) (upd H p (.tup vs)) ∧ RdF K Z H (upd G p (.tup vs)) (upd H p (.tup vs)) (.ref p) (.d (.tuple xs)) := by
  have a : Gr Z G H G (upd H p (.tup vs)) := Gr.new w n
  have b := a.freeze n (none_g w n) upd_same (offZ_new w n)
  exact ⟨b, ⟨.tup (.inl (.inl upd_same)) l (RdAll.mono (same_freeze (none_g w n)) _ _ r), fun ys q e1 _ => nomatch e1⟩⟩
end

/-! ### wishes -/
/-- an error: its class's name, its fields -/
structure Exn where
  cls : Str
  args : List (Str × PyData)
inductive Out (α : Type) where
  | val (a : α)
  | exn (x : Exn)
abbrev M (α : Type) := (Out α → Prop) → Prop
def M.bind {α β : Type} (m : M α) (k : α → M β) : M β := fun P => m fun o => match o with
  | .val a => k a P
  | .exn x => P (.exn x)
def M.pure {α : Type} (a : α) : M α := fun P => P (.val a)
abbrev WE := SEnv → M SV
abbrev WT := SEnv → M Bool
abbrev WA := SEnv → M (List SV)
inductive Fl where
  | nx (ρ : SEnv) | rt (r : SV) | bk (ρ : SEnv) | ct (ρ : SEnv) | ex (x : Exn) (ρ : SEnv)
abbrev WS := SEnv → (Fl → Prop) → Prop
/-- how an error lies in the heap -/
def ExR (K : PySem.W.Frag) (mg : Str → Option Value) (x : Exn) (cls : Value) (d : Option Addr) (G H : Hp) : Prop :=
  ∃ C a fs, mg x.cls = some (.ref C) ∧ cls = .ref C ∧ d = some a ∧ H a = some (.xd fs) ∧ ∀ f y, (f, y) ∈ x.args → ∃ v, fs.lookup f = some v ∧ RdD K G v y
/-- how the wish of a judgement follows from the wish over data -/
structure Cov (K : PySem.W.Frag) (mg : Str → Option Value) (Z : Zs) (G H : Hp) (Q : VK) (E : XK) (P : Out SV → Prop) : Prop where
  val : ∀ r, P (.val r) → ∀ v G' H', Gr Z G H G' H' → RdF K Z H G' H' v r → Q v H'
  exn : ∀ x, P (.exn x) → ∀ cls d G' H', Gr Z G H G' H' → ExR K mg x cls d G' H' → E cls d H'
def tE (K : PySem.W.Frag) (mg : Str → Option Value) (E : Sl → XK) (f : WE) : TE := fun σ H Q => ∃ Z G ρ P, WO Z G H ∧ RV K Z G H σ ρ ∧ f ρ P ∧ Cov K mg Z G H Q (E σ) P
abbrev DE (X : Cx) (E : Sl → XK) (e : Expr) (f : WE) : Prop := PE X e (tE X.K X.mg E f)
structure CovB (K : PySem.W.Frag) (mg : Str → Option Value) (Z : Zs) (G H : Hp) (Q : Bool → Hp → Prop) (E : XK) (P : Out Bool → Prop) : Prop where
  val : ∀ r, P (.val r) → ∀ G' H', Gr Z G H G' H' → Q r H'
  exn : ∀ x, P (.exn x) → ∀ cls d G' H', Gr Z G H G' H' → ExR K mg x cls d G' H' → E cls d H'
def tT (K : PySem.W.Frag) (mg : Str → Option Value) (E : Sl → XK) (f : WT) : TT := fun σ H Q => ∃ Z G ρ P, WO Z G H ∧ RV K Z G H σ ρ ∧ f ρ P ∧ CovB K mg Z G H Q (E σ) P
abbrev DT (X : Cx) (E : Sl → XK) (e : Expr) (f : WT) : Prop := PT X e (tT X.K X.mg E f)
abbrev DW (X : Cx) (E : Sl → XK) (e : Expr) (f : WT) : Prop := PW X e (tT X.K X.mg E f)
/-- p is none of the own ones -/
def NoOwn (p : Addr) (vs : List V) (rs : List SV) : Prop := ∀ (j : Nat) (ys : List PyData), rs[j]? = some (.own ys) → vs[j]? ≠ some (.ref p)
/-- several values, all read at the end -/
inductive RdL (K : PySem.W.Frag) (Z : Zs) (H0 G H : Hp) : List V → List SV → Prop
  | nil : RdL K Z H0 G H [] []
  | cons {v : V} {r : SV} {vs : List V} {rs : List SV} : RdF K Z H0 G H v r → (∀ xs p, r = .own xs → v = .ref p → NoOwn p vs rs) → RdL K Z H0 G H vs rs → RdL K Z H0 G H (v :: vs) (r :: rs)
structure CovL (K : PySem.W.Frag) (mg : Str → Option Value) (Z : Zs) (G H : Hp) (Q : List V → Hp → Prop) (E : XK) (P : Out (List SV) → Prop) : Prop where
  val : ∀ rs, P (.val rs) → ∀ vs G' H', Gr Z G H G' H' → RdL K Z H G' H' vs rs → Q vs H'
  exn : ∀ x, P (.exn x) → ∀ cls d G' H', Gr Z G H G' H' → ExR K mg x cls d G' H' → E cls d H'
def tA (K : PySem.W.Frag) (mg : Str → Option Value) (E : Sl → XK) (f : WA) : TA := fun σ H Q => ∃ Z G ρ P, WO Z G H ∧ RV K Z G H σ ρ ∧ f ρ P ∧ CovL K mg Z G H Q (E σ) P
abbrev DA (X : Cx) (E : Sl → XK) (es : List Expr) (f : WA) : Prop := PA X es (tA X.K X.mg E f)
end Pw
end

section
set_option Elab.async false
set_option linter.all false
set_option maxRecDepth 100000
set_option maxHeartbeats 4000000
/-! Pw2: expressions by value. -/
namespace Pw
open PySem PySem.Spec L2

theorem pe_imp {X : Cx} {e : Expr} {t t' : TE} (h : PE X e t) (k : ∀ σ H Q, t' σ H Q → t σ H Q) : PE X e t' := ⟨fun pins s σ H Q I q => h.run pins s σ H Q I (k σ H Q q)⟩
theorem pt_imp {X : Cx} {e : Expr} {t t' : TT} (h : PT X e t) (k : ∀ σ H Q, t' σ H Q → t σ H Q) : PT X e t' := ⟨fun pins s σ H Q I q => h.run pins s σ H Q I (k σ H Q q)⟩
theorem pw_imp {X : Cx} {e : Expr} {t t' : TT} (h : PW X e t) (k : ∀ σ H Q, t' σ H Q → t σ H Q) : PW X e t' := ⟨fun wh pins s σ H Q I q => h.run wh pins s σ H Q I (k σ H Q q)⟩
theorem pa_imp {X : Cx} {es : List Expr} {t t' : TA} (h : PA X es t) (k : ∀ σ H Q, t' σ H Q → t σ H Q) : PA X es t' := ⟨fun ps pins s σ H Q I q => h.run ps pins s σ H Q I (k σ H Q q)⟩
theorem ps_imp {X : Cx} {st : Stmt} {t t' : TS} (h : PS X st t) (k : ∀ D σ H, t' D σ H → t D σ H) : PS X st t' := ⟨fun pins s σ H D I q => h.run pins s σ H D I (k D σ H q)⟩
theorem pss_imp {X : Cx} {st : List Stmt} {t t' : TS} (h : PSs X st t) (k : ∀ D σ H, t' D σ H → t D σ H) : PSs X st t' := ⟨fun pins s σ H D I q => h.run pins s σ H D I (k D σ H q)⟩

/-! ### leaves -/
/-- the slot's value: an own list is lent -/
def getS (ρ : SEnv) (i : Nat) : Option SV := match ρ[i]? with
  | some (some (.own xs)) => some (.bor xs)
  | some (some r) => some r
  | _ => none
def dVar (i : Nat) : WE := fun ρ P => match getS ρ i with
  | some r => P (.val r)
  | none => False
def dC (x : PyData) : WE := fun _ P => P (.val (.d x))
section
variable {X : Cx} {E : Sl → XK} {pos : Pos}
theorem getS_ok {K : PySem.W.Frag} {Z : Zs} {G H : Hp} {σ : Sl} {ρ : SEnv} {i : Nat} {r : SV} (v : RV K Z G H σ ρ) (e : getS ρ i = some r) : ∃ x, σ[i]? = some (some x) ∧ RdV K Z G H x r ∧ ∀ xs, r ≠ .own xs := by
  unfold getS at e
  split at e
  · rename_i xs q
    cases e
    obtain ⟨x, h1, h2⟩ := v.get _ _ q
    exact ⟨x, h1, h2, fun _ z => nomatch z⟩
  · rename_i r' no q
    cases e
    obtain ⟨x, h1, h2⟩ := v.get _ _ q
    exact ⟨x, h1, h2, fun xs z => no xs z⟩
  · cases e
theorem de_of {e : Expr} {i : Nat} (h : PE X e (tVar i)) : DE X E e (dVar i) := by
  refine pe_imp h fun σ H Q ⟨Z, G, ρ, P, w, v, f, c⟩ => ?_
  unfold dVar at f
  split at f
  · rename_i r q
    obtain ⟨x, h1, h2, h3⟩ := getS_ok v q
    exact ⟨x, h1, c.val _ f x G H (Gr.refl w) ⟨h2, fun xs p e _ => absurd e (h3 xs)⟩⟩
  · exact f.elim
theorem dv (i : Nat) {x : Str} (hN : X.N[i]? = some x := by rfl) (hv : Vis X.env.scope x := by first | exact Or.inl rfl | exact Or.inr (Or.inl rfl) | exact Or.inr (Or.inr rfl)) (hd : (x == ("__debug__" : Str)) = false := by decide)
    (hcd : (x == ("__classdict__" : Str)) = false := by decide) : DE X E (.Name x pos) (dVar i) := de_of (pe_var hN hv hd hcd)
theorem de_c {e : Expr} {v : V} {x : PyData} (h : PE X e (tC v)) (r : ∀ G, RdD X.K G v x) : DE X E e (dC x) := by
  refine pe_imp h fun σ H Q ⟨Z, G, ρ, P, w, vv, f, c⟩ => ?_
  exact c.val _ f v G H (Gr.refl w) ⟨r G, fun xs p e _ => nomatch e⟩
theorem de_int {i : Int} {j : Nat} : DE X E (.Constant (.int i) j pos) (dC (.int i)) := de_c pe_int fun _ => .int i
theorem de_str {x : Str} {j : Nat} : DE X E (.Constant (.str x) j pos) (dC (.str x)) := de_c pe_str fun _ => .str x
theorem de_bl {b : Bool} {j : Nat} : DE X E (.Constant (.bool b) j pos) (dC (.bool b)) := de_c pe_bl fun _ => .bl b
theorem de_non {j : Nat} : DE X E (.Constant .none j pos) (dC .none) := de_c pe_non fun _ => .non
/-- a module's constant: an int, a text -/
theorem de_glob {x : Str} {v : V} {u : Value} {d : PyData} (hg : Gl X x) (hm : X.mg x = some u) (r : RelV v u) (rd : ∀ G, RdD X.K G v d) (hd : (x == ("__debug__" : Str)) = false := by decide) : DE X E (.Name x pos) (dC d) := de_c (pe_glob hg hm r hd) rd
end

/-! ### operators -/
abbrev Op2 := SV → SV → (SV → Prop) → Prop
def OpD (X : Cx) (f : Value → Value → Sem Value) (op : Op2) : Prop := ∃ r : R2, OpR X f r ∧ ∀ Z G H x y vx vy Q P, WO Z G H → RdV X.K Z G H vx x → RdV X.K Z G H vy y → op x y P →
  (∀ s, P s → ∀ v G' H', Gr Z G H G' H' → RdF X.K Z H G' H' v s → Q v H') → r vx vy H Q
def dBin (op : Op2) (fa fb : WE) : WE := fun ρ => M.bind (fa ρ) fun x => M.bind (fb ρ) fun y => fun P => op x y fun r => P (.val r)
section
variable {X : Cx} {E : Sl → XK} {pos : Pos} {a b c : Expr} {fa fb fc : WE}
/-- two values, then what follows -/
theorem two_ok {K : PySem.W.Frag} {mg : Str → Option Value} {E : Sl → XK} {fa fb : WE} {σ : Sl} {H : Hp} {Z : Zs} {G : Hp} {ρ : SEnv} {P : Out SV → Prop} {k : SV → SV → (Out SV → Prop) → Prop} {R : V → V → Hp → Prop} (w : WO Z G H) (v : RV K Z G H σ ρ)
    (f : (M.bind (fa ρ) fun x => M.bind (fb ρ) fun y => k x y) P) (ex : ∀ x, P (.exn x) → ∀ cls d G' H', Gr Z G H G' H' → ExR K mg x cls d G' H' → E σ cls d H')
    (h : ∀ x y vx vy G2 H2, Gr Z G H G2 H2 → RdV K Z G2 H2 vx x → RdV K Z G2 H2 vy y → k x y P → R vx vy H2) :
    tE K mg E fa σ H fun vx H1 => tE K mg E fb σ H1 fun vy H2 => R vx vy H2 := by
  refine ⟨Z, G, ρ, _, w, v, f, ⟨fun x hx vx G1 H1 a1 r1 => ?_, fun x hx cls d G' H' a1 r1 => ex x hx cls d G' H' a1 r1⟩⟩
  refine ⟨Z, G1, ρ, _, a1.w, v.gr a1, hx, ⟨fun y hy vy G2 H2 a2 r2 => ?_, fun x hx cls d G' H' a2 r2 => ex x hx cls d G' H' (a1.trans a2) r2⟩⟩
  exact h x y vx vy G2 H2 (a1.trans a2) (r1.1.gr a2) r2.1 hy
theorem de_bin {op : Operator} {o : Op2} (ho : OpD X (binaryOp op) o) (ha : DE X E a fa) (hb : DE X E b fb) : DE X E (.BinOp a op b pos) (dBin o fa fb) := by
  obtain ⟨r, h1, h2⟩ := ho
  refine pe_imp (pe_op h1 ha hb) fun σ H Q ⟨Z, G, ρ, P, w, v, f, c⟩ => ?_
  refine two_ok w v f c.exn fun x y vx vy G2 H2 a rx ry q => ?_
  exact h2 Z G2 H2 x y vx vy Q _ a.w rx ry q fun s hs u G' H' a2 ru => c.val s hs u G' H' (a.trans a2) (ru.at0 a)
theorem de_cmp {op : CmpOp} {o : Op2} (ho : OpD X (compareOp op) o) (ha : DE X E a fa) (hb : DE X E b fb) (hm : behindInMarks op b = false) : DE X E (.Compare a [op] [b] pos) (dBin o fa fb) := by
  obtain ⟨r, h1, h2⟩ := ho
  refine pe_imp (pe_cmpR h1 ha hb hm) fun σ H Q ⟨Z, G, ρ, P, w, v, f, c⟩ => ?_
  refine two_ok w v f c.exn fun x y vx vy G2 H2 a rx ry q => ?_
  exact h2 Z G2 H2 x y vx vy Q _ a.w rx ry q fun s hs u G' H' a2 ru => c.val s hs u G' H' (a.trans a2) (ru.at0 a)
def boolOf : SV → Option Bool
  | .d (.bool b) => some b
  | _ => none
theorem bool_of {K : PySem.W.Frag} {Z : Zs} {G H : Hp} {v : V} {r : SV} {b : Bool} (h : RdV K Z G H v r) (e : boolOf r = some b) : v = .bl b := by
  cases r with
  | d x => cases x <;> cases e; cases h; rfl
  | _ => cases e
/-- a comparison as a test -/
def dBinT (op : Op2) (fa fb : WE) : WT := fun ρ => M.bind (fa ρ) fun x => M.bind (fb ρ) fun y => fun P => op x y fun r => ∃ k, boolOf r = some k ∧ P (.val k)
theorem two_okB {K : PySem.W.Frag} {mg : Str → Option Value} {E : Sl → XK} {fa fb : WE} {σ : Sl} {H : Hp} {Z : Zs} {G : Hp} {ρ : SEnv} {P : Out Bool → Prop} {k : SV → SV → (Out Bool → Prop) → Prop} {R : V → V → Hp → Prop} (w : WO Z G H) (v : RV K Z G H σ ρ)
    (f : (M.bind (fa ρ) fun x => M.bind (fb ρ) fun y => k x y) P) (ex : ∀ x, P (.exn x) → ∀ cls d G' H', Gr Z G H G' H' → ExR K mg x cls d G' H' → E σ cls d H')
    (h : ∀ x y vx vy G2 H2, Gr Z G H G2 H2 → RdV K Z G2 H2 vx x → RdV K Z G2 H2 vy y → k x y P → R vx vy H2) :
    tE K mg E fa σ H fun vx H1 => tE K mg E fb σ H1 fun vy H2 => R vx vy H2 := by
  refine ⟨Z, G, ρ, _, w, v, f, ⟨fun x hx vx G1 H1 a1 r1 => ?_, fun x hx cls d G' H' a1 r1 => ex x hx cls d G' H' a1 r1⟩⟩
  refine ⟨Z, G1, ρ, _, a1.w, v.gr a1, hx, ⟨fun y hy vy G2 H2 a2 r2 => ?_, fun x hx cls d G' H' a2 r2 => ex x hx cls d G' H' (a1.trans a2) r2⟩⟩
  exact h x y vx vy G2 H2 (a1.trans a2) (r1.1.gr a2) r2.1 hy
theorem dt_cmp {op : CmpOp} {o : Op2} (ho : OpD X (compareOp op) o) (ha : DE X E a fa) (hb : DE X E b fb) (hm : behindInMarks op b = false) : DT X E (.Compare a [op] [b] pos) (dBinT o fa fb) := by
  obtain ⟨r, h1, h2⟩ := ho
  refine pt_imp (pt_cmpR h1 ha hb hm) fun σ H Q ⟨Z, G, ρ, P, w, v, f, c⟩ => ?_
  refine two_okB w v f c.exn fun x y vx vy G2 H2 a rx ry q => ?_
  refine h2 Z G2 H2 x y vx vy _ _ a.w rx ry q fun s hs u G' H' a2 ru => ?_
  obtain ⟨k, e, p⟩ := hs
  exact ⟨k, bool_of ru.1 e, c.val k p G' H' (a.trans a2)⟩
end

/-! ### the operators by data -/
def intOf : SV → Option Int
  | .d (.int i) => some i
  | _ => none
theorem int_of {K : PySem.W.Frag} {Z : Zs} {G H : Hp} {v : V} {r : SV} {b : Int} (h : RdV K Z G H v r) (e : intOf r = some b) : v = .int b := by
  cases r with
  | d x => cases x <;> cases e; cases h; rfl
  | _ => cases e
/-- two ints -/
def intOp (C : Int → Int → Prop) (g : Int → Int → PyData) : Op2 := fun x y P => match x, y with
  | .d (.int i), .d (.int j) => C i j ∧ P (.d (g i j))
  | _, _ => False
section
variable {X : Cx}
theorem opD_int {f : Value → Value → Sem Value} {C : Int → Int → Prop} {g : Int → Int → PyData} {gv : Int → Int → V} (ho : OpR X f (rI C gv)) (hg : ∀ i j G, RdD X.K G (gv i j) (g i j)) : OpD X f (intOp C g) := by
  refine ⟨_, ho, fun Z G H x y vx vy Q P w rx ry h k => ?_⟩
  unfold intOp at h
  split at h
  · rename_i i j
    cases rx
    cases ry
    exact ⟨i, j, rfl, rfl, h.1, k _ h.2 _ G H (Gr.refl w) ⟨hg i j G, fun _ _ e _ => nomatch e⟩⟩
  · exact h.elim
theorem opD_int0 {f : Value → Value → Sem Value} {g : Int → Int → PyData} {gv : Int → Int → V} (ho : OpR X f (rI0 gv)) (hg : ∀ i j G, RdD X.K G (gv i j) (g i j)) : OpD X f (intOp (fun _ _ => True) g) := by
  refine opD_int (gv := gv) (fun pins s σ H x y v u Q I rx ry h => ho pins s σ H x y v u Q I rx ry ?_) hg
  obtain ⟨i, j, e1, e2, _, q⟩ := h
  exact ⟨i, j, e1, e2, q⟩
def MulOk (i j : Int) : Prop := CMulW i j
def DivOk (_ j : Int) : Prop := j ≠ 0 ∧ j.natAbs < 1073741824
abbrev subV : Op2 := intOp (fun _ _ => True) fun i j => .int (i - j)
abbrev fdivV : Op2 := intOp DivOk fun i j => .int (i.fdiv j)
abbrev modV : Op2 := intOp (fun _ j => j ≠ 0) fun i j => .int (i.fmod j)
abbrev powV : Op2 := intOp CPow fun i j => .int (i ^ j.toNat)
abbrev ltV : Op2 := intOp (fun _ _ => True) fun i j => .bool (decide (i < j))
abbrev leV : Op2 := intOp (fun _ _ => True) fun i j => .bool (decide (i ≤ j))
abbrev gtV : Op2 := intOp (fun _ _ => True) fun i j => .bool (decide (j < i))
abbrev geV : Op2 := intOp (fun _ _ => True) fun i j => .bool (decide (j ≤ i))
abbrev mulI : Op2 := intOp MulOk fun i j => .int (i * j)
theorem od_sub : OpD X (binaryOp .Sub) subV := opD_int0 op_sub fun _ _ _ => .int _
theorem od_mulI : OpD X (binaryOp .Mult) mulI := opD_int op_mulW fun _ _ _ => .int _
theorem od_fdiv : OpD X (binaryOp .FloorDiv) fdivV := opD_int op_fdivN fun _ _ _ => .int _
theorem od_mod : OpD X (binaryOp .Mod) modV := opD_int op_modN fun _ _ _ => .int _
theorem od_pow : OpD X (binaryOp .Pow) powV := opD_int op_pow fun _ _ _ => .int _
theorem od_lt : OpD X (compareOp .Lt) ltV := opD_int0 op_lt fun _ _ _ => .bl _
theorem od_le : OpD X (compareOp .LtE) leV := opD_int0 op_le fun _ _ _ => .bl _
theorem od_gt : OpD X (compareOp .Gt) gtV := opD_int0 op_gt fun _ _ _ => .bl _
theorem od_ge : OpD X (compareOp .GtE) geV := opD_int0 op_ge fun _ _ _ => .bl _
/-- a + b -/
def addV : Op2 := fun x y P => match x, y with
  | .d (.int i), .d (.int j) => P (.d (.int (i + j)))
  | .d (.str a), .d (.str b) => a.length + b.length ≤ sizeLine ∧ P (.d (.str (a ++ b)))
  | .d (.tuple xs), .d (.tuple ys) => xs.length + ys.length ≤ sizeLine ∧ P (.d (.tuple (xs ++ ys)))
  | x, y => match lstOf x, lstOf y with
    | some xs, some ys => xs.length + ys.length ≤ sizeLine ∧ P (.own (xs ++ ys))
    | _, _ => False
theorem od_add : OpD X (binaryOp .Add) addV := by
  refine ⟨_, (op_add.or (op_add_str.or (op_catA.or op_cat))), fun Z G H x y vx vy Q P w rx ry h k => ?_⟩
  unfold addV at h
  split at h
  · rename_i i j
    cases rx
    cases ry
    exact .inl ⟨i, j, rfl, rfl, k _ h _ G H (Gr.refl w) ⟨.int _, fun _ _ e _ => nomatch e⟩⟩
  · rename_i i j
    cases rx
    cases ry
    exact .inr (.inl ⟨i, j, rfl, rfl, h.1, k _ h.2 _ G H (Gr.refl w) ⟨.str _, fun _ _ e _ => nomatch e⟩⟩)
  · rename_i xs ys
    obtain ⟨a, vs, rfl, h1, h2, h3⟩ := RdD.tuple_inv rx
    obtain ⟨b, us, rfl, g1, g2, g3⟩ := RdD.tuple_inv ry
    have hl : (xs ++ ys).length ≤ sizeLine := by rw [List.length_append]; exact h.1
    refine .inr (.inr (.inl ⟨a, b, vs, us, rfl, rfl, sqT_mono w.gh h1, sqT_mono w.gh g1, by rw [h3.length, g3.length]; exact h.1, fun e => ?_, fun _ e => ?_, fun _ _ p np => ?_⟩))
    · subst e
      cases xs with
      | nil => exact k _ h.2 _ G H (Gr.refl w) ⟨ry, fun _ _ e _ => nomatch e⟩
      | cons _ _ => cases h3
    · subst e
      cases ys with
      | nil => rw [List.append_nil] at h; exact k _ h.2 _ G H (Gr.refl w) ⟨rx, fun _ _ e _ => nomatch e⟩
      | cons _ _ => cases g3
    · obtain ⟨q1, q2⟩ := mkTup w np hl (h3.append g3)
      exact k _ h.2 _ _ _ q1 q2
  · split at h
    · rename_i xs ys e1 e2
      obtain ⟨p, vs, rfl, h1, h2, h3⟩ := lst_look w rx e1
      obtain ⟨q, us, rfl, g1, g2, g3⟩ := lst_look w ry e2
      refine .inr (.inr (.inr ⟨p, q, vs, us, rfl, rfl, h1, g1, by rw [h3.length, g3.length]; exact h.1, fun l nl => ?_⟩))
      obtain ⟨q1, q2⟩ := mkOwn w nl (by rw [List.length_append]; exact h.1) (h3.append g3)
      exact k _ h.2 _ _ _ q1 q2
    · exact h.elim
/-- a * b: ints; a list so many times -/
def mulV : Op2 := fun x y P => match x, y with
  | .d (.int i), .d (.int j) => MulOk i j ∧ P (.d (.int (i * j)))
  | x, y => match lstOf x, intOf y with
    | some xs, some k => (-(2 ^ 63) ≤ k ∧ k < 2 ^ 63 ∧ xs.length * k.toNat ≤ sizeLine) ∧ P (.own (List.replicate k.toNat xs).flatten)
    | _, _ => False
theorem RdAll.rep {K : PySem.W.Frag} {G : Hp} {ds : List PyData} {vs : List V} (h : RdAll K G vs ds) : ∀ n : Nat, RdAll K G (List.replicate n vs).flatten (List.replicate n ds).flatten
  | 0 => .nil
  | n + 1 => by
    rw [List.replicate_succ, List.replicate_succ, List.flatten_cons, List.flatten_cons]
    exact h.append (RdAll.rep h n)
theorem len_rep {α : Type} (xs : List α) : ∀ n : Nat, (List.replicate n xs).flatten.length = xs.length * n
  | 0 => by simp
  | n + 1 => by rw [List.replicate_succ, List.flatten_cons, List.length_append, len_rep xs n, Nat.mul_succ]; omega
theorem od_mul : OpD X (binaryOp .Mult) mulV := by
  refine ⟨_, (op_mulW.or op_rep), fun Z G H x y vx vy Q P w rx ry h k => ?_⟩
  unfold mulV at h
  split at h
  · rename_i i j
    cases rx
    cases ry
    exact .inl ⟨i, j, rfl, rfl, h.1, k _ h.2 _ G H (Gr.refl w) ⟨.int _, fun _ _ e _ => nomatch e⟩⟩
  · split at h
    · rename_i xs n e1 e2
      obtain ⟨p, vs, rfl, h1, h2, h3⟩ := lst_look w rx e1
      have e3 := int_of ry e2
      subst e3
      obtain ⟨⟨b1, b2, b3⟩, q⟩ := h
      refine .inr ⟨p, n, vs, rfl, rfl, h1, b1, b2, by rw [h3.length]; exact b3, fun l nl => ?_⟩
      obtain ⟨q1, q2⟩ := mkOwn w nl (by rw [len_rep]; exact b3) (h3.rep n.toNat)
      exact k _ q _ _ _ q1 q2
    · exact h.elim
/-! == and != of data, in -/
/-- its datum, to be looked at -/
def look : SV → Option PyData
  | .d x => some x
  | .own xs => some (.list xs)
  | .bor xs => some (.list xs)
  | .st => none
theorem look_dp {K : PySem.W.Frag} {Z : Zs} {G H : Hp} {v : V} {r : SV} {x : PyData} (w : WO Z G H) (h : RdV K Z G H v r) (e : look r = some x) : Dp K H v x := by
  cases r with
  | d y => cases e; exact RdD.dp w.gh _ _ h
  | own ys => cases e; obtain ⟨p, vs, o⟩ := h; rw [o.e]; exact .lst (.inl (.inl o.h)) (RdAll.dp w.gh _ _ o.r)
  | bor ys => cases e; obtain ⟨p, vs, o⟩ := h; rw [o.e]; exact .lst (.inl (.inl o.h)) (RdAll.dp w.gh _ _ o.r)
  | st => cases e
def eqOp (neg : Bool) : Op2 := fun x y P => match look x, look y with
  | some a, some b => (SeqAt.shaped a = true ∧ SeqAt.shaped b = true) ∧ P (.d (.bool (if neg then !PyData.eqv a b else PyData.eqv a b)))
  | _, _ => False
theorem od_eq (hu : X.A.units + 64 < cLine) : OpD X (compareOp .Eq) (eqOp false) := by
  refine ⟨_, op_eqD hu, fun Z G H x y vx vy Q P w rx ry h k => ?_⟩
  unfold eqOp at h
  split at h
  · rename_i a b e1 e2
    exact ⟨a, b, look_dp w rx e1, look_dp w ry e2, h.1.1, h.1.2, k _ h.2 _ G H (Gr.refl w) ⟨.bl _, fun _ _ e _ => nomatch e⟩⟩
  · exact h.elim
theorem od_ne (hu : X.A.units + 64 < cLine) : OpD X (compareOp .NotEq) (eqOp true) := by
  refine ⟨_, op_neD hu, fun Z G H x y vx vy Q P w rx ry h k => ?_⟩
  unfold eqOp at h
  split at h
  · rename_i a b e1 e2
    exact ⟨a, b, look_dp w rx e1, look_dp w ry e2, h.1.1, h.1.2, k _ h.2 _ G H (Gr.refl w) ⟨.bl _, fun _ _ e _ => nomatch e⟩⟩
  · exact h.elim
/-- x in l, a list -/
def inOp (neg : Bool) : Op2 := fun x y P => match look x, lstOf y with
  | some a, some bs => (SeqAt.shaped a = true ∧ SeqAt.shaped (.list bs) = true) ∧ P (.d (.bool (if neg then !(bs.any fun z => PyData.eqv z a) else bs.any fun z => PyData.eqv z a)))
  | _, _ => False
theorem lst_dp {K : PySem.W.Frag} {Z : Zs} {G H : Hp} {v : V} {r : SV} {xs : List PyData} (w : WO Z G H) (h : RdV K Z G H v r) (e : lstOf r = some xs) : Dp K H v (.list xs) := by
  obtain ⟨p, vs, rfl, h1, h2, h3⟩ := lst_look w h e
  exact .lst (.inl (.inl h1)) (RdAll.dp w.gh _ _ h3)
theorem od_in (hu : X.A.units + 65 < cLine) : OpD X (compareOp .In) (inOp false) := by
  refine ⟨_, op_inD hu, fun Z G H x y vx vy Q P w rx ry h k => ?_⟩
  unfold inOp at h
  split at h
  · rename_i a b e1 e2
    exact ⟨a, b, look_dp w rx e1, lst_dp w ry e2, h.1.1, h.1.2, k _ h.2 _ G H (Gr.refl w) ⟨.bl _, fun _ _ e _ => nomatch e⟩⟩
  · exact h.elim
theorem od_notIn (hu : X.A.units + 65 < cLine) : OpD X (compareOp .NotIn) (inOp true) := by
  refine ⟨_, op_notInD hu, fun Z G H x y vx vy Q P w rx ry h k => ?_⟩
  unfold inOp at h
  split at h
  · rename_i a b e1 e2
    exact ⟨a, b, look_dp w rx e1, lst_dp w ry e2, h.1.1, h.1.2, k _ h.2 _ G H (Gr.refl w) ⟨.bl _, fun _ _ e _ => nomatch e⟩⟩
  · exact h.elim
end
end Pw
end

section
set_option Elab.async false
set_option linter.all false
set_option maxRecDepth 100000
set_option maxHeartbeats 4000000
/-! Pw3: tests, displays, items, slices, built-ins by value. -/
namespace Pw
open PySem PySem.Spec L2
section
variable {X : Cx} {E : Sl → XK} {pos : Pos} {a b c : Expr} {fa fb fc : WE}
/-- one value, then what follows -/
theorem one_ok {K : PySem.W.Frag} {mg : Str → Option Value} {E : Sl → XK} {fa : WE} {σ : Sl} {H : Hp} {Z : Zs} {G : Hp} {ρ : SEnv} {α : Type} {P : Out α → Prop} {k : SV → (Out α → Prop) → Prop} {R : V → Hp → Prop} (w : WO Z G H) (v : RV K Z G H σ ρ)
    (f : (M.bind (fa ρ) fun x => k x) P) (ex : ∀ x, P (.exn x) → ∀ cls d G' H', Gr Z G H G' H' → ExR K mg x cls d G' H' → E σ cls d H')
    (h : ∀ x vx G2 H2, Gr Z G H G2 H2 → RdF K Z H G2 H2 vx x → k x P → R vx H2) : tE K mg E fa σ H R :=
  ⟨Z, G, ρ, _, w, v, f, ⟨fun x hx vx G1 H1 a1 r1 => h x vx G1 H1 a1 r1 hx, fun x hx cls d G' H' a1 r1 => ex x hx cls d G' H' a1 r1⟩⟩
theorem oneT_ok {K : PySem.W.Frag} {mg : Str → Option Value} {E : Sl → XK} {fa : WT} {σ : Sl} {H : Hp} {Z : Zs} {G : Hp} {ρ : SEnv} {α : Type} {P : Out α → Prop} {k : Bool → (Out α → Prop) → Prop} {R : Bool → Hp → Prop} (w : WO Z G H) (v : RV K Z G H σ ρ)
    (f : (M.bind (fa ρ) fun x => k x) P) (ex : ∀ x, P (.exn x) → ∀ cls d G' H', Gr Z G H G' H' → ExR K mg x cls d G' H' → E σ cls d H')
    (h : ∀ x G2 H2, Gr Z G H G2 H2 → k x P → R x H2) : tT K mg E fa σ H R :=
  ⟨Z, G, ρ, _, w, v, f, ⟨fun x hx G1 H1 a1 => h x G1 H1 a1 hx, fun x hx cls d G' H' a1 r1 => ex x hx cls d G' H' a1 r1⟩⟩
/-! ### chains, is None -/
def dChain (o o' : Op2) (fa fb fc : WE) : WE := fun ρ => M.bind (fa ρ) fun x => M.bind (fb ρ) fun y => fun P => o x y fun r => ∃ k, boolOf r = some k ∧
  if k = true then (M.bind (fc ρ) fun z => fun P => o' y z fun r => P (.val r)) P else P (.val (.d (.bool false)))
theorem chain_ok {op op' : CmpOp} {o o' : Op2} {r r' : R2}
    (h2 : ∀ Z G H x y vx vy Q P, WO Z G H → RdV X.K Z G H vx x → RdV X.K Z G H vy y → o x y P → (∀ s, P s → ∀ v G' H', Gr Z G H G' H' → RdF X.K Z H G' H' v s → Q v H') → r vx vy H Q)
    (h2' : ∀ Z G H x y vx vy Q P, WO Z G H → RdV X.K Z G H vx x → RdV X.K Z G H vy y → o' x y P → (∀ s, P s → ∀ v G' H', Gr Z G H G' H' → RdF X.K Z H G' H' v s → Q v H') → r' vx vy H Q)
    (σ : Sl) (H : Hp) (Q : VK) (h : tE X.K X.mg E (dChain o o' fa fb fc) σ H Q) : tChain r r' (tE X.K X.mg E fa) (tE X.K X.mg E fb) (tE X.K X.mg E fc) σ H Q := by
  obtain ⟨Z, G, ρ, P, w, v, f, cc⟩ := h
  refine two_ok w v f cc.exn fun x y vx vy G2 H2 a rx ry q => ?_
  refine h2 Z G2 H2 x y vx vy _ _ a.w rx ry q fun s hs u G3 H3 a3 ru => ?_
  obtain ⟨k, e, p⟩ := hs
  refine ⟨k, bool_of ru.1 e, ?_⟩
  cases k with
  | true =>
    have a23 := a.trans a3
    rw [if_pos rfl] at p ⊢
    refine one_ok a23.w (v.gr a23) p (fun x hx cls d G' H' a4 r4 => cc.exn x hx cls d G' H' (a23.trans a4) r4) fun z vz G4 H4 a4 rz q => ?_
    exact h2' Z G4 H4 y z vy vz Q _ a4.w (ry.gr (a3.trans a4)) rz.1 q fun s hs u G' H' a5 ru => cc.val s hs u G' H' ((a23.trans a4).trans a5) (ru.at0 (a23.trans a4))
  | false =>
    rw [if_neg Bool.false_ne_true] at p ⊢
    exact cc.val _ p (.bl false) G3 H3 (a.trans a3) ⟨.bl _, fun _ _ e _ => nomatch e⟩
theorem de_chain {op op' : CmpOp} {o o' : Op2} (ho : OpD X (compareOp op) o) (ho' : OpD X (compareOp op') o') (ha : DE X E a fa) (hb : DE X E b fb) (hc : DE X E c fc)
    (hm : lastMarks [op, op'] [b, c] = false := by with_unfolding_all rfl) : DE X E (.Compare a [op, op'] [b, c] pos) (dChain o o' fa fb fc) := by
  obtain ⟨r, h1, h2⟩ := ho
  obtain ⟨r', h1', h2'⟩ := ho'
  exact pe_imp (pe_chain h1 h1' ha hb hc hm) (chain_ok (op := op) (op' := op') h2 h2')
/-- an expression that is a bool, as a test -/
def dToT (fa : WE) : WT := fun ρ => M.bind (fa ρ) fun r P => ∃ k, boolOf r = some k ∧ P (.val k)
theorem dt_chain {op op' : CmpOp} {o o' : Op2} (ho : OpD X (compareOp op) o) (ho' : OpD X (compareOp op') o') (ha : DE X E a fa) (hb : DE X E b fb) (hc : DE X E c fc)
    (hm : lastMarks [op, op'] [b, c] = false := by with_unfolding_all rfl) : DT X E (.Compare a [op, op'] [b, c] pos) (dToT (dChain o o' fa fb fc)) := by
  obtain ⟨r, h1, h2⟩ := ho
  obtain ⟨r', h1', h2'⟩ := ho'
  refine pt_imp (pt_chain h1 h1' ha hb hc hm) fun σ H Q ⟨Z, G, ρ, P, w, v, f, cc⟩ => ?_
  refine chain_ok (E := E) (op := op) (op' := op') h2 h2' σ H _ ⟨Z, G, ρ, _, w, v, f, ⟨fun s hs u G' H' a ru => ?_, cc.exn⟩⟩
  obtain ⟨k, e, p⟩ := hs
  exact ⟨k, bool_of ru.1 e, cc.val k p G' H' a⟩
def isNone : SV → Bool
  | .d .none => true
  | _ => false
def dIsN (neg : Bool) (fa : WE) : WE := fun ρ => M.bind (fa ρ) fun x => M.pure (.d (.bool (if neg then !isNone x else isNone x)))
theorem isNone_v {K : PySem.W.Frag} {Z : Zs} {G H : Hp} {v : V} {r : SV} (h : RdV K Z G H v r) : decide (v = .non) = isNone r := by
  cases r with
  | d x =>
    cases x with
    | none => cases h; rfl
    | bool b => cases h; rfl
    | int i => cases h; rfl
    | str y => cases h; rfl
    | list xs => obtain ⟨a, vs, rfl, _⟩ := RdD.list_inv h; rfl
    | tuple xs => obtain ⟨a, vs, rfl, _⟩ := RdD.tuple_inv h; rfl
    | dict xs => cases h
  | own xs => obtain ⟨p, vs, o⟩ := h; rw [o.e]; rfl
  | bor xs => obtain ⟨p, vs, o⟩ := h; rw [o.e]; rfl
  | st => obtain ⟨p, q, _, e⟩ := h; rw [e]; rfl
theorem de_isN {j : Nat} {p2 : Pos} (ha : DE X E a fa) : DE X E (.Compare a [.Is] [.Constant .none j p2] pos) (dIsN false fa) := by
  refine pe_imp (pe_cmp (pc_isN ha) rfl) fun σ H Q ⟨Z, G, ρ, P, w, v, f, c⟩ => ?_
  refine one_ok w v f c.exn fun x vx G2 H2 a r q => ?_
  exact c.val _ q _ G2 H2 a ⟨by rw [isNone_v r.1]; exact .bl _, fun _ _ e _ => nomatch e⟩
theorem de_notN {j : Nat} {p2 : Pos} (ha : DE X E a fa) : DE X E (.Compare a [.IsNot] [.Constant .none j p2] pos) (dIsN true fa) := by
  refine pe_imp (pe_cmp (pc_notN ha) rfl) fun σ H Q ⟨Z, G, ρ, P, w, v, f, c⟩ => ?_
  refine one_ok w v f c.exn fun x vx G2 H2 a r q => ?_
  exact c.val _ q _ G2 H2 a ⟨by rw [isNone_v r.1]; exact .bl _, fun _ _ e _ => nomatch e⟩
theorem dt_isN {j : Nat} {p2 : Pos} (ha : DE X E a fa) : DT X E (.Compare a [.Is] [.Constant .none j p2] pos) (dToT (dIsN false fa)) := by
  refine pt_imp (pt_cmp (pc_isN ha) rfl) fun σ H Q ⟨Z, G, ρ, P, w, v, f, c⟩ => ?_
  refine one_ok w v f c.exn fun x vx G2 H2 a r q => ?_
  obtain ⟨k, e, p⟩ := q
  have e' : isNone x = k := Option.some.inj e
  exact ⟨_, rfl, by rw [isNone_v r.1, e']; exact c.val _ p G2 H2 a⟩
theorem dt_notN {j : Nat} {p2 : Pos} (ha : DE X E a fa) : DT X E (.Compare a [.IsNot] [.Constant .none j p2] pos) (dToT (dIsN true fa)) := by
  refine pt_imp (pt_cmp (pc_notN ha) rfl) fun σ H Q ⟨Z, G, ρ, P, w, v, f, c⟩ => ?_
  refine one_ok w v f c.exn fun x vx G2 H2 a r q => ?_
  obtain ⟨k, e, p⟩ := q
  have e' : (!isNone x) = k := Option.some.inj e
  exact ⟨_, rfl, by rw [isNone_v r.1, e']; exact c.val _ p G2 H2 a⟩
/-! ### truth, and, or, not -/
def truV (x : SV) (P : Bool → Prop) : Prop := match x with
  | .d .none => P false
  | .d (.bool b) => P b
  | .d (.int i) => P (i != 0)
  | .d (.str y) => y.length ≤ sizeLine ∧ P ((y.length : Int) != 0)
  | .d (.tuple xs) => P (!xs.isEmpty)
  | x => match lstOf x with
    | some xs => P (!xs.isEmpty)
    | none => False
theorem emp_rd {K : PySem.W.Frag} {G : Hp} {vs : List V} {xs : List PyData} (h : RdAll K G vs xs) : vs.isEmpty = xs.isEmpty := by cases h <;> rfl
theorem tru_v {K : PySem.W.Frag} {Z : Zs} {G H : Hp} {v : V} {r : SV} {P : Bool → Prop} (w : WO Z G H) (h : RdV K Z G H v r) (t : truV r P) : ∃ k, TruV K v H k ∧ P k := by
  unfold truV at t
  split at t
  · cases h; exact ⟨_, rfl, t⟩
  · cases h; exact ⟨_, rfl, t⟩
  · cases h; exact ⟨_, rfl, t⟩
  · cases h; exact ⟨_, ⟨t.1, rfl⟩, t.2⟩
  · rename_i xs
    obtain ⟨a, vs, rfl, h1, h2, h3⟩ := RdD.tuple_inv h
    exact ⟨_, .inr (.inl ⟨vs, sqT_mono w.gh h1, rfl⟩), by rw [emp_rd h3]; exact t⟩
  · split at t
    · rename_i xs e
      obtain ⟨p, vs, rfl, h1, h2, h3⟩ := lst_look w h e
      exact ⟨_, .inl ⟨vs, .inl (.inl h1), rfl⟩, by rw [emp_rd h3]; exact t⟩
    · exact t.elim
def dTru (fa : WE) : WT := fun ρ => M.bind (fa ρ) fun x P => truV x fun k => P (.val k)
theorem dt_tru (ha : DE X E a fa) (he : ∀ whole, isTrue a X.env whole = (do let v ← whole; standAt a.pos; holding [v] (truthy v)) := by intro _; rfl) : DT X E a (dTru fa) := by
  refine pt_imp (pt_truth ha he) fun σ H Q ⟨Z, G, ρ, P, w, v, f, c⟩ => ?_
  refine one_ok w v f c.exn fun x vx G2 H2 a r q => ?_
  obtain ⟨k, e, p⟩ := tru_v a.w r.1 q
  exact ⟨k, e, c.val k p G2 H2 a⟩
def dNotT (f : WT) : WT := fun ρ => M.bind (f ρ) fun k => M.pure (!k)
def dAndT (f g : WT) : WT := fun ρ => M.bind (f ρ) fun k P => if k = true then g ρ P else P (.val false)
def dOrT (f g : WT) : WT := fun ρ => M.bind (f ρ) fun k P => if k = true then P (.val true) else g ρ P
variable {ta tb : WT} {rest : List Expr}
theorem dt_not (ha : DT X E a ta) : DT X E (.UnaryOp .Not a pos) (dNotT ta) := by
  refine pt_imp (pt_not ha) fun σ H Q ⟨Z, G, ρ, P, w, v, f, c⟩ => ?_
  exact oneT_ok w v f c.exn fun x G2 H2 a q => c.val _ q G2 H2 a
theorem dw_and1 (ha : DT X E a ta) : DW X E (.BoolOp .And [a] pos) ta := pw_and1 ha
theorem dw_or1 (ha : DT X E a ta) : DW X E (.BoolOp .Or [a] pos) ta := pw_or1 ha
theorem dw_and (ha : DT X E a ta) (hb : DW X E (.BoolOp .And (b :: rest) pos) tb) : DW X E (.BoolOp .And (a :: b :: rest) pos) (dAndT ta tb) := by
  refine pw_imp (pw_and ha hb) fun σ H Q ⟨Z, G, ρ, P, w, v, f, c⟩ => ?_
  refine oneT_ok w v f c.exn fun x G2 H2 a q => ?_
  cases x with
  | true => exact ⟨Z, G2, ρ, P, a.w, v.gr a, q, ⟨fun r p G' H' a2 => c.val r p G' H' (a.trans a2), fun x p cls d G' H' a2 r => c.exn x p cls d G' H' (a.trans a2) r⟩⟩
  | false => exact c.val _ q G2 H2 a
theorem dw_or (ha : DT X E a ta) (hb : DW X E (.BoolOp .Or (b :: rest) pos) tb) : DW X E (.BoolOp .Or (a :: b :: rest) pos) (dOrT ta tb) := by
  refine pw_imp (pw_or ha hb) fun σ H Q ⟨Z, G, ρ, P, w, v, f, c⟩ => ?_
  refine oneT_ok w v f c.exn fun x G2 H2 a q => ?_
  cases x with
  | false => exact ⟨Z, G2, ρ, P, a.w, v.gr a, q, ⟨fun r p G' H' a2 => c.val r p G' H' (a.trans a2), fun x p cls d G' H' a2 r => c.exn x p cls d G' H' (a.trans a2) r⟩⟩
  | true => exact c.val _ q G2 H2 a
theorem dt_w (h : DW X E a ta) : DT X E a ta := h.pt
/-- as values: bools -/
def dAndV (fa fb : WE) : WE := fun ρ => M.bind (fa ρ) fun x P => ∃ k, boolOf x = some k ∧ if k = true then fb ρ P else P (.val (.d (.bool false)))
def dOrV (fa fb : WE) : WE := fun ρ => M.bind (fa ρ) fun x P => ∃ k, boolOf x = some k ∧ if k = true then P (.val (.d (.bool true))) else fb ρ P
def dNotV (fa : WE) : WE := fun ρ => M.bind (fa ρ) fun x P => ∃ k, boolOf x = some k ∧ P (.val (.d (.bool (!k))))
theorem de_one {op : BoolOp} (ha : DE X E a fa) : DE X E (.BoolOp op [a] pos) fa := pe_one ha
theorem cov_gr {K : PySem.W.Frag} {mg : Str → Option Value} {Z : Zs} {G H G2 H2 : Hp} {Q : VK} {E : XK} {P : Out SV → Prop} (c : Cov K mg Z G H Q E P) (a : Gr Z G H G2 H2) : Cov K mg Z G2 H2 Q E P :=
  ⟨fun r p v G' H' a2 rf => c.val r p v G' H' (a.trans a2) (rf.at0 a), fun x p cls d G' H' a2 r => c.exn x p cls d G' H' (a.trans a2) r⟩
theorem covB_gr {K : PySem.W.Frag} {mg : Str → Option Value} {Z : Zs} {G H G2 H2 : Hp} {Q : Bool → Hp → Prop} {E : XK} {P : Out Bool → Prop} (c : CovB K mg Z G H Q E P) (a : Gr Z G H G2 H2) : CovB K mg Z G2 H2 Q E P :=
  ⟨fun r p G' H' a2 => c.val r p G' H' (a.trans a2), fun x p cls d G' H' a2 r => c.exn x p cls d G' H' (a.trans a2) r⟩
theorem de_and (ha : DE X E a fa) (hb : DE X E (.BoolOp .And (b :: rest) pos) fb) : DE X E (.BoolOp .And (a :: b :: rest) pos) (dAndV fa fb) := by
  refine pe_imp (pe_and ha hb) fun σ H Q ⟨Z, G, ρ, P, w, v, f, c⟩ => ?_
  refine one_ok w v f c.exn fun x vx G2 H2 a r q => ?_
  obtain ⟨k, e, p⟩ := q
  refine ⟨k, bool_of r.1 e, ?_⟩
  cases k with
  | true => exact ⟨Z, G2, ρ, P, a.w, v.gr a, p, cov_gr c a⟩
  | false => exact c.val _ p _ G2 H2 a ⟨.bl _, fun _ _ e _ => nomatch e⟩
theorem de_or (ha : DE X E a fa) (hb : DE X E (.BoolOp .Or (b :: rest) pos) fb) : DE X E (.BoolOp .Or (a :: b :: rest) pos) (dOrV fa fb) := by
  refine pe_imp (pe_or ha hb) fun σ H Q ⟨Z, G, ρ, P, w, v, f, c⟩ => ?_
  refine one_ok w v f c.exn fun x vx G2 H2 a r q => ?_
  obtain ⟨k, e, p⟩ := q
  refine ⟨k, bool_of r.1 e, ?_⟩
  cases k with
  | false => exact ⟨Z, G2, ρ, P, a.w, v.gr a, p, cov_gr c a⟩
  | true => exact c.val _ p _ G2 H2 a ⟨.bl _, fun _ _ e _ => nomatch e⟩
theorem de_not (ha : DE X E a fa) : DE X E (.UnaryOp .Not a pos) (dNotV fa) := by
  refine pe_imp (pe_not ha) fun σ H Q ⟨Z, G, ρ, P, w, v, f, c⟩ => ?_
  refine one_ok w v f c.exn fun x vx G2 H2 a r q => ?_
  obtain ⟨k, e, p⟩ := q
  exact ⟨k, bool_of r.1 e, c.val _ p _ G2 H2 a ⟨.bl _, fun _ _ e _ => nomatch e⟩⟩
def dNeg (fa : WE) : WE := fun ρ => M.bind (fa ρ) fun x P => match intOf x with
  | some i => P (.val (.d (.int (-i))))
  | none => False
theorem de_neg (ha : DE X E a fa) : DE X E (.UnaryOp .USub a pos) (dNeg fa) := by
  refine pe_imp (pe_un un_neg ha) fun σ H Q ⟨Z, G, ρ, P, w, v, f, c⟩ => ?_
  refine one_ok w v f c.exn fun x vx G2 H2 a r q => ?_
  split at q
  · rename_i i e
    exact ⟨i, int_of r.1 e, c.val _ q _ G2 H2 a ⟨.int _, fun _ _ e _ => nomatch e⟩⟩
  · exact q.elim
def dIf (t : WT) (fa fb : WE) : WE := fun ρ => M.bind (t ρ) fun k P => if k = true then fa ρ P else fb ρ P
theorem de_if (hc : DT X E c ta) (ha : DE X E a fa) (hb : DE X E b fb) : DE X E (.IfExp c a b pos) (dIf ta fa fb) := by
  refine pe_imp (pe_ifExp hc ha hb) fun σ H Q ⟨Z, G, ρ, P, w, v, f, cc⟩ => ?_
  refine oneT_ok w v f cc.exn fun x G2 H2 a q => ?_
  cases x with
  | true => exact ⟨Z, G2, ρ, P, a.w, v.gr a, q, cov_gr cc a⟩
  | false => exact ⟨Z, G2, ρ, P, a.w, v.gr a, q, cov_gr cc a⟩

/-! ### several values; displays -/
def dNil : WA := fun _ => M.pure []
def dCons (fa : WE) (fr : WA) : WA := fun ρ => M.bind (fa ρ) fun x => M.bind (fr ρ) fun xs => M.pure (x :: xs)
variable {es : List Expr} {fs : WA}
theorem da_nil : DA X E [] dNil := pa_imp pa_nil fun σ H Q ⟨Z, G, ρ, P, w, v, f, c⟩ => c.val _ f [] G H (Gr.refl w) .nil
theorem RdL.gr {K : PySem.W.Frag} {Z : Zs} {H0 G H G1 H1 : Hp} (a : Gr Z G H G1 H1) : ∀ {vs : List V} {rs : List SV}, RdL K Z H0 G H vs rs → RdL K Z H0 G1 H1 vs rs
  | _, _, .nil => .nil
  | _, _, .cons h n t => .cons (h.gr a) n (RdL.gr a t)
theorem RdL.at0 {K : PySem.W.Frag} {Z : Zs} {H0 G H G00 H00 G0 : Hp} (a : Gr Z G00 H00 G0 H0) : ∀ {vs : List V} {rs : List SV}, RdL K Z H0 G H vs rs → RdL K Z H00 G H vs rs
  | _, _, .nil => .nil
  | _, _, .cons h n t => .cons (h.at0 a) n (RdL.at0 a t)
theorem RdL.fresh {K : PySem.W.Frag} {Z : Zs} {H0 G H : Hp} : ∀ {vs : List V} {rs : List SV}, RdL K Z H0 G H vs rs → ∀ (j : Nat) (ys : List PyData) (p : Addr), rs[j]? = some (.own ys) → vs[j]? = some (.ref p) → H0 p = none
  | _, _, .nil, j, ys, p, e, _ => by simp at e
  | _, _, .cons h n t, 0, ys, p, e1, e2 => by
    simp at e1 e2
    exact h.2 ys p e1 e2
  | _, _, .cons h n t, j + 1, ys, p, e1, e2 => RdL.fresh t j ys p (by simpa using e1) (by simpa using e2)
theorem RdL.length {K : PySem.W.Frag} {Z : Zs} {H0 G H : Hp} : ∀ {vs : List V} {rs : List SV}, RdL K Z H0 G H vs rs → vs.length = rs.length
  | _, _, .nil => rfl
  | _, _, .cons _ _ t => by simp [RdL.length t]
theorem da_cons (ha : DE X E a fa) (hr : DA X E es fs) (hs : starEach (a :: es) X.env = (false, eval a X.env) :: starEach es X.env := by rfl) : DA X E (a :: es) (dCons fa fs) := by
  refine pa_imp (pa_cons ha hr hs) fun σ H Q ⟨Z, G, ρ, P, w, v, f, c⟩ => ?_
  refine one_ok w v f c.exn fun x vx G1 H1 a1 rx q => ?_
  refine ⟨Z, G1, ρ, _, a1.w, v.gr a1, q, ⟨fun rs p vs G2 H2 a2 rl => ?_, fun x p cls d G' H' a2 r => c.exn x p cls d G' H' (a1.trans a2) r⟩⟩
  refine c.val _ p (vx :: vs) G2 H2 (a1.trans a2) (.cons (rx.gr a2) (fun xs p e1 e2 j ys e3 e4 => ?_) (rl.at0 a1))
  have n := rl.fresh j ys p e3 e4
  rw [e1] at rx
  obtain ⟨⟨q, us, o⟩, _⟩ := rx
  have e5 := o.e.symm.trans e2
  cases e5
  rw [o.h] at n
  cases n
def convL : List SV → Option (List PyData)
  | [] => some []
  | r :: rs => match conv r, convL rs with
    | some x, some xs => some (x :: xs)
    | _, _ => none
/-- the own ones are frozen -/
theorem RdL.data {K : PySem.W.Frag} {Z : Zs} {G H G1 H1 : Hp} : ∀ {vs : List V} {rs : List SV} {xs : List PyData}, Gr Z G H G1 H1 → RdL K Z H G1 H1 vs rs → convL rs = some xs →
    ∃ G2, Gr Z G H G2 H1 ∧ Same G1 G2 ∧ RdAll K G2 vs xs ∧ ∀ b, G2 b ≠ none → G1 b = none → ∃ (j : Nat) (ys : List PyData), rs[j]? = some (.own ys) ∧ vs[j]? = some (.ref b)
  | _, _, _, a, .nil, e => by cases e; exact ⟨G1, a, Same.refl _, .nil, fun b h1 h2 => absurd h2 h1⟩
  | _, _, _, a, @RdL.cons _ _ _ _ _ v r vs rs h n t, e => by
    unfold convL at e
    split at e
    · rename_i x xs' e1 e2
      cases e
      obtain ⟨G2, a2, s2, r2, f2⟩ := RdL.data a t e2
      have h2 : RdF K Z H G2 H1 v r := by
        refine ⟨?_, h.2⟩
        cases r with
        | d y => exact RdD.mono s2 _ _ h.1
        | own ys =>
          obtain ⟨⟨p, us, o⟩, q⟩ := h
          refine ⟨p, us, o.e, o.z, ?_, o.h, o.l, RdAll.mono s2 _ _ o.r⟩
          cases g : G2 p with
          | none => rfl
          | some u =>
            obtain ⟨j, zs, e3, e4⟩ := f2 p (by rw [g]; exact fun z => nomatch z) o.g
            exact absurd e4 (n ys p rfl o.e j zs e3)
        | bor ys => cases e1
        | st => cases e1
      obtain ⟨G3, a3, s3, r3, _, f3⟩ := h2.data a2 e1
      refine ⟨G3, a3, s2.trans s3, .cons r3 (RdAll.mono s3 _ _ r2), fun b hb nb => ?_⟩
      by_cases hg : G2 b = none
      · obtain ⟨ys, e3, e4⟩ := f3 b hb hg
        exact ⟨0, ys, by rw [e3]; rfl, by rw [e4]; rfl⟩
      · obtain ⟨j, ys, e3, e4⟩ := f2 b hg nb
        exact ⟨j + 1, ys, by simpa using e3, by simpa using e4⟩
    · cases e
theorem convL_length : ∀ {rs : List SV} {xs : List PyData}, convL rs = some xs → rs.length = xs.length
  | [], _, e => by cases e; rfl
  | r :: rs, _, e => by
    unfold convL at e
    split at e
    · rename_i x xs' e1 e2
      cases e
      simp [convL_length e2]
    · cases e
def dTup (fs : WA) : WE := fun ρ => M.bind (fs ρ) fun rs P => match convL rs with
  | some xs => xs.length ≤ 1000 ∧ P (.val (.d (.tuple xs)))
  | none => False
def dLst (fs : WA) : WE := fun ρ => M.bind (fs ρ) fun rs P => match convL rs with
  | some xs => xs.length ≤ 1000 ∧ P (.val (.own xs))
  | none => False
theorem oneA_ok {K : PySem.W.Frag} {mg : Str → Option Value} {E : Sl → XK} {fa : WA} {σ : Sl} {H : Hp} {Z : Zs} {G : Hp} {ρ : SEnv} {α : Type} {P : Out α → Prop} {k : List SV → (Out α → Prop) → Prop} {R : List V → Hp → Prop} (w : WO Z G H) (v : RV K Z G H σ ρ)
    (f : (M.bind (fa ρ) fun x => k x) P) (ex : ∀ x, P (.exn x) → ∀ cls d G' H', Gr Z G H G' H' → ExR K mg x cls d G' H' → E σ cls d H')
    (h : ∀ rs vs G2 H2, Gr Z G H G2 H2 → RdL K Z H G2 H2 vs rs → k rs P → R vs H2) : tA K mg E fa σ H R :=
  ⟨Z, G, ρ, _, w, v, f, ⟨fun x hx vx G1 H1 a1 r1 => h x vx G1 H1 a1 r1 hx, fun x hx cls d G' H' a1 r1 => ex x hx cls d G' H' a1 r1⟩⟩
theorem le1000 {n : Nat} (h : n ≤ 1000) : n ≤ sizeLine := by rw [sizeLine_eq]; omega
theorem de_tup {k : Nat} (h : DA X E es fs) : DE X E (.Tuple es k pos) (dTup fs) := by
  refine pe_imp (pe_tup h) fun σ H Q ⟨Z, G, ρ, P, w, v, f, c⟩ => ?_
  refine oneA_ok w v f c.exn fun rs vs G1 H1 a1 rl q => ?_
  split at q
  · rename_i xs e
    obtain ⟨G2, a2, s2, r2, _⟩ := rl.data a1 e
    refine ⟨by rw [r2.length]; exact le1000 q.1, fun p np => ?_⟩
    obtain ⟨q1, q2⟩ := mkTup a2.w np (le1000 q.1) r2
    exact c.val _ q.2 _ _ _ (a2.trans q1) (q2.at0 a2)
  · exact q.elim
theorem de_lst (h : DA X E es fs) : DE X E (.List es pos) (dLst fs) := by
  refine pe_imp (pe_lst h) fun σ H Q ⟨Z, G, ρ, P, w, v, f, c⟩ => ?_
  refine oneA_ok w v f c.exn fun rs vs G1 H1 a1 rl q => ?_
  split at q
  · rename_i xs e
    obtain ⟨G2, a2, s2, r2, _⟩ := rl.data a1 e
    refine ⟨by rw [r2.length]; exact le1000 q.1, fun p np => ?_⟩
    obtain ⟨q1, q2⟩ := mkOwn a2.w np (le1000 q.1) r2
    exact c.val _ q.2 _ _ _ (a2.trans q1) (q2.at0 a2)
  · exact q.elim

/-! ### items and slices -/
def seqOf : SV → Option (List PyData)
  | .d (.tuple xs) => some xs
  | x => lstOf x
def ixV (x y : SV) (P : SV → Prop) : Prop := match x, y with
  | .d (.str z), .d (.int i) => z.length ≤ sizeLine ∧ ∃ c, atI z.cps.toList i = some c ∧ P (.d (.str ⟨#[c]⟩))
  | x, y => match seqOf x, intOf y with
    | some xs, some i => ∃ d, atI xs i = some d ∧ P (.d d)
    | _, _ => False
theorem at_rd {K : PySem.W.Frag} {G : Hp} {vs : List V} {xs : List PyData} {i : Int} {d : PyData} (h : RdAll K G vs xs) (e : atI xs i = some d) : ∃ v, atI vs i = some v ∧ RdD K G v d := by
  unfold atI at e ⊢
  rw [h.length]
  cases q : ixN xs.length i with
  | none => rw [q] at e; cases e
  | some j =>
    rw [q] at e
    exact h.at_ e
def dIx (fa fb : WE) : WE := fun ρ => M.bind (fa ρ) fun x => M.bind (fb ρ) fun y => fun P => ixV x y fun r => P (.val r)
theorem de_ix (ha : DE X E a fa) (hb : DE X E b fb) (hs : PlainIx b := by intro _ _; rfl) : DE X E (.Subscript a b pos) (dIx fa fb) := by
  refine pe_imp (pe_ix ix_seq ha hb hs) fun σ H Q ⟨Z, G, ρ, P, w, v, f, c⟩ => ?_
  refine two_ok w v f c.exn fun x y vx vy G2 H2 a rx ry q => ?_
  unfold ixV at q
  split at q
  · rename_i z i
    obtain ⟨q1, cc, e, p⟩ := q
    cases rx
    cases ry
    exact .inr (.inr ⟨z, i, cc, rfl, rfl, q1, e, c.val _ p _ G2 H2 a ⟨.str _, fun _ _ e _ => nomatch e⟩⟩)
  · split at q
    · rename_i xs i e1 e2
      obtain ⟨d, e, p⟩ := q
      have ei := int_of ry e2
      subst ei
      cases x with
      | d y =>
        cases y with
        | tuple ys =>
          cases e1
          obtain ⟨b, us, rfl, h1, h2, h3⟩ := RdD.tuple_inv rx
          obtain ⟨u, e3, r3⟩ := at_rd h3 e
          exact .inr (.inl ⟨b, us, i, u, rfl, rfl, sqT_mono a.w.gh h1, e3, c.val _ p _ G2 H2 a ⟨r3, fun _ _ e _ => nomatch e⟩⟩)
        | list ys =>
          obtain ⟨p1, us, rfl, h1, h2, h3⟩ := lst_look a.w rx (xs := xs) e1
          obtain ⟨u, e3, r3⟩ := at_rd h3 e
          exact .inl ⟨p1, us, i, u, rfl, rfl, .inl (.inl h1), e3, c.val _ p _ G2 H2 a ⟨r3, fun _ _ e _ => nomatch e⟩⟩
        | _ => cases e1
      | own ys =>
        obtain ⟨p1, us, rfl, h1, h2, h3⟩ := lst_look a.w rx (xs := xs) e1
        obtain ⟨u, e3, r3⟩ := at_rd h3 e
        exact .inl ⟨p1, us, i, u, rfl, rfl, .inl (.inl h1), e3, c.val _ p _ G2 H2 a ⟨r3, fun _ _ e _ => nomatch e⟩⟩
      | bor ys =>
        obtain ⟨p1, us, rfl, h1, h2, h3⟩ := lst_look a.w rx (xs := xs) e1
        obtain ⟨u, e3, r3⟩ := at_rd h3 e
        exact .inl ⟨p1, us, i, u, rfl, rfl, .inl (.inl h1), e3, c.val _ p _ G2 H2 a ⟨r3, fun _ _ e _ => nomatch e⟩⟩
      | st => cases e1
    · exact q.elim
end
end Pw
end

section
set_option Elab.async false
set_option linter.all false
set_option maxRecDepth 100000
set_option maxHeartbeats 4000000
/-! Pw4: slices, calls of defs and of built-ins by value. -/
namespace Pw
open PySem PySem.Spec L2

/-! ### slices -/
abbrev WO1 := SEnv → M (Option Int)
structure CovP {α : Type} (K : PySem.W.Frag) (mg : Str → Option Value) (Z : Zs) (G H : Hp) (Q : α → Hp → Prop) (E : XK) (P : Out α → Prop) : Prop where
  val : ∀ r, P (.val r) → ∀ G' H', Gr Z G H G' H' → Q r H'
  exn : ∀ x, P (.exn x) → ∀ cls d G' H', Gr Z G H G' H' → ExR K mg x cls d G' H' → E cls d H'
def tO (K : PySem.W.Frag) (mg : Str → Option Value) (E : Sl → XK) (f : WO1) : TO := fun σ H Q => ∃ Z G ρ P, WO Z G H ∧ RV K Z G H σ ρ ∧ f ρ P ∧ CovP K mg Z G H Q (E σ) P
abbrev DO (X : Cx) (E : Sl → XK) (e : Option Expr) (f : WO1) : Prop := PO X e (tO X.K X.mg E f)
theorem po_imp {X : Cx} {e : Option Expr} {t t' : TO} (h : PO X e t) (k : ∀ σ H Q, t' σ H Q → t σ H Q) : PO X e t' := ⟨fun pins s σ H Q I q => h.run pins s σ H Q I (k σ H Q q)⟩
def dNoP : WO1 := fun _ => M.pure none
def dPart (fa : WE) : WO1 := fun ρ => M.bind (fa ρ) fun x P => match intOf x with
  | some i => P (.val (some i))
  | none => False
def cutD (xs : List PyData) (lo hi : Option Int) : List PyData := (xs.drop (HT.sIx xs.length 0 lo)).take (HT.sIx xs.length xs.length hi - HT.sIx xs.length 0 lo)
theorem cutD_len (xs : List PyData) (lo hi : Option Int) : (cutD xs lo hi).length ≤ xs.length := by
  unfold cutD
  rw [List.length_take, List.length_drop]
  omega
theorem cut_rd {K : PySem.W.Frag} {G : Hp} {vs : List V} {xs : List PyData} (h : RdAll K G vs xs) (lo hi : Option Int) : RdAll K G (cutV vs lo hi) (cutD xs lo hi) := by
  unfold cutV cutD
  rw [h.length]
  exact (h.drop _).take _
def slV (x : SV) (lo hi : Option Int) (P : SV → Prop) : Prop := match x with
  | .d (.str z) => z.length ≤ sizeLine ∧ P (.d (.str (cutS z lo hi)))
  | .d (.tuple xs) => P (.d (.tuple (cutD xs lo hi)))
  | x => match lstOf x with
    | some xs => P (.own (cutD xs lo hi))
    | none => False
def dSl (fa : WE) (fl fh : WO1) : WE := fun ρ => M.bind (fa ρ) fun x => M.bind (fl ρ) fun lo => M.bind (fh ρ) fun hi => fun P => slV x lo hi fun r => P (.val r)
section
variable {X : Cx} {E : Sl → XK} {pos p2 : Pos} {a b c : Expr} {fa fb fc : WE} {lo hi : Option Expr} {fl fh : WO1}
theorem do_none : DO X E none dNoP := po_imp po_none fun σ H Q ⟨Z, G, ρ, P, w, v, f, c⟩ => c.val _ f G H (Gr.refl w)
theorem do_some (ha : DE X E a fa) : DO X E (some a) (dPart fa) := by
  refine po_imp (po_some ha) fun σ H Q ⟨Z, G, ρ, P, w, v, f, c⟩ => ?_
  refine one_ok w v f c.exn fun x vx G2 H2 a r q => ?_
  split at q
  · rename_i i e
    exact ⟨i, int_of r.1 e, c.val _ q G2 H2 a⟩
  · exact q.elim
theorem oneO_ok {K : PySem.W.Frag} {mg : Str → Option Value} {E : Sl → XK} {fa : WO1} {σ : Sl} {H : Hp} {Z : Zs} {G : Hp} {ρ : SEnv} {α : Type} {P : Out α → Prop} {k : Option Int → (Out α → Prop) → Prop} {R : Option Int → Hp → Prop} (w : WO Z G H) (v : RV K Z G H σ ρ)
    (f : (M.bind (fa ρ) fun x => k x) P) (ex : ∀ x, P (.exn x) → ∀ cls d G' H', Gr Z G H G' H' → ExR K mg x cls d G' H' → E σ cls d H')
    (h : ∀ x G2 H2, Gr Z G H G2 H2 → k x P → R x H2) : tO K mg E fa σ H R :=
  ⟨Z, G, ρ, _, w, v, f, ⟨fun x hx G1 H1 a1 => h x G1 H1 a1 hx, fun x hx cls d G' H' a1 r1 => ex x hx cls d G' H' a1 r1⟩⟩
theorem whole_cut (xs : List PyData) (lo hi : Option Int) (h : HT.sIx xs.length 0 lo = 0 ∧ HT.sIx xs.length xs.length hi = xs.length) : cutD xs lo hi = xs := by
  unfold cutD
  rw [h.1, h.2, List.drop_zero, Nat.sub_zero, List.take_length]
theorem de_sl (ha : DE X E a fa) (hl : DO X E lo fl) (hh : DO X E hi fh) : DE X E (.Subscript a (.Slice lo hi none p2) pos) (dSl fa fl fh) := by
  refine pe_imp (pe_slice (sl_str.or (sl_tupA.or sl_list)) ha hl hh) fun σ H Q ⟨Z, G, ρ, P, w, v, f, c⟩ => ?_
  refine one_ok w v f c.exn fun x vx G1 H1 a1 rx q1 => ?_
  refine oneO_ok a1.w (v.gr a1) q1 (fun x p cls d G' H' a2 r => c.exn x p cls d G' H' (a1.trans a2) r) fun l G2 H2 a2 q2 => ?_
  have a12 := a1.trans a2
  refine oneO_ok a12.w (v.gr a12) q2 (fun x p cls d G' H' a3 r => c.exn x p cls d G' H' (a12.trans a3) r) fun u G3 H3 a3 q => ?_
  have a13 := a12.trans a3
  have r3 := rx.1.gr (a2.trans a3)
  unfold slV at q
  split at q
  · rename_i z
    cases r3
    exact .inl ⟨z, rfl, q.1, c.val _ q.2 _ G3 H3 a13 ⟨.str _, fun _ _ e _ => nomatch e⟩⟩
  · rename_i xs
    obtain ⟨b, us, rfl, h1, h2, h3⟩ := RdD.tuple_inv r3
    refine .inr (.inl ⟨b, us, rfl, sqT_mono a13.w.gh h1, fun e => ?_, fun _ p np => ?_⟩)
    · rw [h3.length] at e
      rw [whole_cut _ _ _ e] at q
      exact c.val _ q _ G3 H3 a13 ⟨r3, fun _ _ e _ => nomatch e⟩
    · obtain ⟨q1, q2⟩ := mkTup a13.w np (Nat.le_trans (cutD_len xs l u) h2) (cut_rd h3 l u)
      exact c.val _ q _ _ _ (a13.trans q1) (q2.at0 a13)
  · split at q
    · rename_i xs e1
      obtain ⟨p, us, rfl, h1, h2, h3⟩ := lst_look a13.w r3 e1
      refine .inr (.inr ⟨p, us, rfl, .inl (.inl h1), fun l' nl => ?_⟩)
      obtain ⟨q1, q2⟩ := mkOwn a13.w nl (Nat.le_trans (cutD_len xs l u) h2) (cut_rd h3 l u)
      exact c.val _ q _ _ _ (a13.trans q1) (q2.at0 a13)
    · exact q.elim
def dRev (fa : WE) : WE := fun ρ => M.bind (fa ρ) fun x P => match lstOf x with
  | some xs => P (.val (.own xs.reverse))
  | none => False
theorem de_rev {k : Nat} {p1 p3 p4 : Pos} (ha : DE X E a fa) : DE X E (.Subscript a (.Slice none none (some (.UnaryOp .USub (.Constant (.int 1) k p1) p3)) p4) pos) (dRev fa) := by
  refine pe_imp (pe_revL ha) fun σ H Q ⟨Z, G, ρ, P, w, v, f, c⟩ => ?_
  refine one_ok w v f c.exn fun x vx G2 H2 a r q => ?_
  split at q
  · rename_i xs e1
    obtain ⟨p, us, rfl, h1, h2, h3⟩ := lst_look a.w r.1 e1
    refine ⟨p, us, rfl, .inl (.inl h1), fun l' nl => ?_⟩
    obtain ⟨q1, q2⟩ := mkOwn a.w nl (by rw [List.length_reverse]; exact h2) h3.reverse
    exact c.val _ q _ _ _ (a.trans q1) (q2.at0 a)
  · exact q.elim
end

/-! ### calls of the text's own defs -/
mutual
/-- no list within -/
def lfree : PyData → Bool
  | .list _ => false
  | .tuple xs => lfreeAll xs
  | .dict _ => false
  | .none | .bool _ | .int _ | .str _ => true
def lfreeAll : List PyData → Bool
  | [] => true
  | x :: xs => lfree x && lfreeAll xs
end
/-- what a callee sees -/
def argS : SV → SV
  | .d x => .d x
  | .own xs => .d (.list xs)
  | .bor xs => .d (.list xs)
  | .st => .st
def isBor : SV → Bool
  | .bor _ => true
  | _ => false
abbrev WF := List SV → M SV
inductive RdA (K : PySem.W.Frag) (Z : Zs) (G H : Hp) : List V → List SV → Prop
  | nil : RdA K Z G H [] []
  | cons {v : V} {r : SV} {vs : List V} {rs : List SV} : RdV K Z G H v r → isPlain r = true → RdA K Z G H vs rs → RdA K Z G H (v :: vs) (r :: rs)
def spD (K : PySem.W.Frag) (mg : Str → Option Value) (n : Nat) (wf : WF) : Sp := fun vs H Q E => ∃ Z G rs P, WO Z G H ∧ RdA K Z G H vs rs ∧ rs.length = n ∧ wf rs P ∧ Cov K mg Z G H Q E P
/-- a def that stands at a global name, told by data -/
structure Callee (P : Program) (w : World) (K : PySem.W.Frag) (mg : Str → Option Value) (base : Heap) (k : Nat) (x : Str) (n : Nat) (wf : WF) : Prop where
  ex : ∃ f fd ps, FnOk P w K mg base (L2.CX P w) k f fd ps (spD K mg n wf) ∧ mg x = some (.ref f) ∧ PySem.W.keepIn K (.ref f) = true ∧ Binds K fd ps []
theorem Callee.mono {P : Program} {w : World} {K : PySem.W.Frag} {mg : Str → Option Value} {base : Heap} {k j n : Nat} {x : Str} {wf : WF} (C : Callee P w K mg base k x n wf) (h : k ≤ j) : Callee P w K mg base j x n wf := by
  obtain ⟨f, fd, ps, F, r⟩ := C.ex
  exact ⟨f, fd, ps, F.mono h, r⟩
/-- behind a call to which an own list was lent: what comes back holds no list -/
def borP (P : Out SV → Prop) : Out SV → Prop
  | .val (.d x) => lfree x = true ∧ P (.val (.d x))
  | .val (.own xs) => lfreeAll xs = true ∧ P (.val (.own xs))
  | .exn x => (∀ f y, (f, y) ∈ x.args → lfree y = true) ∧ P (.exn x)
  | _ => False
def callP (wf : WF) (rs : List SV) (P : Out SV → Prop) : Prop := if rs.any isBor = true then wf (rs.map argS) (borP P) else wf (rs.map argS) P
def dCall (n : Nat) (wf : WF) (fs : WA) : WE := fun ρ => M.bind (fs ρ) fun rs P => rs.length = n ∧ callP wf rs P
section
variable {K : PySem.W.Frag} {Z : Zs} {G H G1 H1 : Hp}
open Classical in
/-- G without the places B -/
noncomputable def less (G : Hp) (B : Addr → Prop) : Hp := fun a => if B a then none else G a
open Classical in
noncomputable def plus (G : Hp) (B : Addr → Prop) (H : Hp) : Hp := fun a => if B a then H a else G a
open Classical in
theorem less_ne {B : Addr → Prop} {a : Addr} (h : ¬ B a) : less G B a = G a := if_neg h
open Classical in
theorem less_at {B : Addr → Prop} {a : Addr} (h : B a) : less G B a = none := if_pos h
open Classical in
theorem plus_ne {B : Addr → Prop} {a : Addr} (h : ¬ B a) : plus G B H a = G a := if_neg h
open Classical in
theorem plus_at {B : Addr → Prop} {a : Addr} (h : B a) : plus G B H a = H a := if_pos h
theorem sqT_less {B : Addr → Prop} {a : Addr} {vs : List V} (hB : ∀ a, B a → ∃ ws, G a = some (.lst ws)) (h : SqT K G a vs) : SqT K (less G B) a vs := by
  rcases h with (h | ⟨o, h⟩) | h
  · refine .inl (.inl ?_)
    rw [less_ne]
    · exact h
    · intro b
      obtain ⟨ws, e⟩ := hB a b
      rw [h] at e
      cases e
  · refine .inl (.inr ⟨o, ?_⟩)
    rw [less_ne]
    · exact h
    · intro b
      obtain ⟨ws, e⟩ := hB a b
      rw [h] at e
      cases e
  · exact .inr h
mutual
theorem RdD.less {B : Addr → Prop} (hB : ∀ a, B a → ∃ ws, G a = some (.lst ws)) : ∀ (d : PyData) (v : V), lfree d = true → RdD K G v d → RdD K (less G B) v d
  | .none, _, _, h => by cases h; exact .non
  | .bool b, _, _, h => by cases h; exact .bl b
  | .int i, _, _, h => by cases h; exact .int i
  | .str x, _, _, h => by cases h; exact .str x
  | .list ds, _, l, h => by unfold lfree at l; cases l
  | .tuple ds, _, l, h => by
    unfold lfree at l
    cases h with
    | tup h1 h2 h3 => exact .tup (sqT_less hB h1) h2 (RdAll.less hB ds _ l h3)
  | .dict _, _, _, h => by cases h
theorem RdAll.less {B : Addr → Prop} (hB : ∀ a, B a → ∃ ws, G a = some (.lst ws)) : ∀ (ds : List PyData) (vs : List V), lfreeAll ds = true → RdAll K G vs ds → RdAll K (less G B) vs ds
  | [], _, _, h => by cases h; exact .nil
  | d :: ds, _, l, h => by
    unfold lfreeAll at l
    rw [Bool.and_eq_true] at l
    cases h with
    | cons h1 h2 => exact .cons (RdD.less hB d _ l.1 h1) (RdAll.less hB ds _ l.2 h2)
end
/-- the lent places -/
def Bs (vs : List V) (rs : List SV) (a : Addr) : Prop := ∃ (j : Nat) (ys : List PyData), rs[j]? = some (.bor ys) ∧ vs[j]? = some (.ref a)
theorem Bs.nil (rs : List SV) (vs : List V) (h : rs.any isBor = false) (a : Addr) : ¬ Bs vs rs a := fun ⟨j, ys, e, _⟩ => by
  have m := List.mem_of_getElem? e
  have : rs.any isBor = true := List.any_eq_true.mpr ⟨_, m, rfl⟩
  rw [h] at this
  cases this
/-- the own ones are frozen: G2; with the lent ones: what the callee sees -/
theorem RdL.args {vs : List V} {rs : List SV} {H0 : Hp} : ∀ {Bv : List V} {Br : List SV}, Gr Z G H G1 H1 → RdL K Z H G1 H1 vs rs → (∀ (j : Nat) (r : SV) (v : V), rs[j]? = some r → vs[j]? = some v → isBor r = true → ∃ j' : Nat, Br[j']? = some r ∧ Bv[j']? = some v) →
    (∀ a, Bs Bv Br a → ∃ us, H1 a = some (.lst us) ∧ G1 a = none ∧ offZ Z a) →
    ∃ G2, Gr Z G H G2 H1 ∧ Same G1 G2 ∧ RdA K Z (plus G2 (Bs Bv Br) H1) H1 vs (rs.map argS) ∧ (∀ b, G2 b ≠ none → G1 b = none → ∃ (j : Nat) (ys : List PyData), rs[j]? = some (.own ys) ∧ vs[j]? = some (.ref b)) := by
  intro Bv Br a h
  induction h with
  | nil => intro _ _; exact ⟨G1, a, Same.refl _, .nil, fun b h1 h2 => absurd h2 h1⟩
  | @cons v r vs rs h n t ih =>
    intro hb hB
    obtain ⟨G2, a2, s2, r2, f2⟩ := ih (fun j r v e1 e2 e3 => hb (j + 1) r v (by simpa using e1) (by simpa using e2) e3) hB
    have sp : ∀ G', Same G2 G' → (∀ b u, G' b = some u → H1 b = some u) → Same (plus G2 (Bs Bv Br) H1) (plus G' (Bs Bv Br) H1) := fun G' s hh b u e => by
      by_cases q : Bs Bv Br b
      · rw [plus_at q] at e ⊢; exact e
      · rw [plus_ne q] at e ⊢; exact s b u e
    have up : ∀ G', (∀ b u, G' b = some u → H1 b = some u) → Same G' (plus G' (Bs Bv Br) H1) := fun G' hh b u e => by
      by_cases q : Bs Bv Br b
      · rw [plus_at q]; exact hh b u e
      · rw [plus_ne q]; exact e
    have mono : ∀ G' (vs : List V) (rs : List SV), Same (plus G2 (Bs Bv Br) H1) (plus G' (Bs Bv Br) H1) → RdA K Z (plus G2 (Bs Bv Br) H1) H1 vs rs → RdA K Z (plus G' (Bs Bv Br) H1) H1 vs rs := by
      intro G' vs rs s h
      induction h with
      | nil => exact .nil
      | @cons v r vs rs h p t ih =>
        refine .cons ?_ p ih
        cases r with
        | d x => exact RdD.mono s _ _ h
        | st => exact h
        | own _ => cases p
        | bor _ => cases p
    cases r with
    | d x =>
      refine ⟨G2, a2, s2, .cons (RdD.mono (s2.trans (up G2 a2.w.gh)) _ _ h.1) rfl r2, fun b h1 h2 => ?_⟩
      obtain ⟨j, ys, e3, e4⟩ := f2 b h1 h2
      exact ⟨j + 1, ys, by simpa using e3, by simpa using e4⟩
    | st =>
      refine ⟨G2, a2, s2, .cons h.1 rfl r2, fun b h1 h2 => ?_⟩
      obtain ⟨j, ys, e3, e4⟩ := f2 b h1 h2
      exact ⟨j + 1, ys, by simpa using e3, by simpa using e4⟩
    | bor xs =>
      obtain ⟨p, us, o⟩ := h.1
      obtain ⟨j', e1, e2⟩ := hb 0 (.bor xs) v rfl rfl rfl
      have bp : Bs Bv Br p := ⟨j', xs, e1, by rw [e2, o.e]⟩
      refine ⟨G2, a2, s2, .cons ?_ rfl r2, fun b h1 h2 => ?_⟩
      · show RdD K _ v (.list xs)
        rw [o.e]
        exact .lst (by rw [plus_at bp]; exact o.h) o.l (RdAll.mono (s2.trans (up G2 a2.w.gh)) _ _ o.r)
      · obtain ⟨j, ys, e3, e4⟩ := f2 b h1 h2
        exact ⟨j + 1, ys, by simpa using e3, by simpa using e4⟩
    | own ys =>
      have h2 : RdF K Z H G2 H1 v (.own ys) := by
        obtain ⟨⟨p, us, o⟩, q⟩ := h
        refine ⟨⟨p, us, o.e, o.z, ?_, o.h, o.l, RdAll.mono s2 _ _ o.r⟩, q⟩
        cases g : G2 p with
        | none => rfl
        | some u =>
          obtain ⟨j, zs, e3, e4⟩ := f2 p (by rw [g]; exact fun z => nomatch z) o.g
          exact absurd e4 (n ys p rfl o.e j zs e3)
      obtain ⟨G3, a3, s3, r3, _, f3⟩ := h2.data a2 rfl
      refine ⟨G3, a3, s2.trans s3, .cons (RdD.mono (up G3 a3.w.gh) _ _ r3) rfl (mono G3 _ _ (sp G3 s3 a3.w.gh) r2), fun b hb' nb => ?_⟩
      by_cases hg : G2 b = none
      · obtain ⟨ys', e3, e4⟩ := f3 b hb' hg
        exact ⟨0, ys', by rw [e3]; rfl, by rw [e4]; rfl⟩
      · obtain ⟨j, ys', e3, e4⟩ := f2 b hg nb
        exact ⟨j + 1, ys', by simpa using e3, by simpa using e4⟩
theorem RdL.bors {vs : List V} {rs : List SV} : RdL K Z H G1 H1 vs rs → ∀ a, Bs vs rs a → ∃ us, H1 a = some (.lst us) ∧ G1 a = none ∧ offZ Z a := by
  intro h
  induction h with
  | nil => rintro a ⟨j, ys, e, _⟩; simp at e
  | @cons v r vs rs h n t ih =>
    rintro a ⟨j, ys, e1, e2⟩
    cases j with
    | zero =>
      simp at e1 e2
      subst e1 e2
      obtain ⟨p, us, o⟩ := h.1
      cases o.e
      exact ⟨us, o.h, o.g, o.z⟩
    | succ j => exact ih a ⟨j, ys, by simpa using e1, by simpa using e2⟩
theorem RdA.length {vs : List V} {rs : List SV} : RdA K Z G H vs rs → rs.length = vs.length := by
  intro h
  induction h with
  | nil => rfl
  | cons _ _ _ ih => simp [ih]
theorem gh_plus {B : Addr → Prop} (w : Same G H) : Same (plus G B H) H := fun b u e => by
  by_cases q : B b
  · rw [plus_at q] at e; exact e
  · rw [plus_ne q] at e; exact w b u e
/-- the callee's wish, from the caller's -/
theorem call_cov {mg : Str → Option Value} {vs : List V} {rs : List SV} {Q : VK} {E : XK} {P : Out SV → Prop} {wf : WF} (a : Gr Z G H G1 H1) (rl : RdL K Z H G1 H1 vs rs) (f : callP wf rs P) (c : Cov K mg Z G H Q E P) :
    spD K mg vs.length wf vs H1 Q E := by
  obtain ⟨G2, a2, s2, r2, f2⟩ := RdL.args (Bv := vs) (Br := rs) (H0 := H) a rl (fun j r v e1 e2 _ => ⟨j, e1, e2⟩) rl.bors
  have hb := rl.bors
  have wp : WO Z (plus G2 (Bs vs rs) H1) H1 := by
    refine ⟨gh_plus a2.w.gh, fun x y e => ?_⟩
    obtain ⟨h1, h2, h3⟩ := a2.w.z x y e
    refine ⟨?_, ?_, h3⟩
    · rw [plus_ne]
      · exact h1
      · intro b
        obtain ⟨_, _, _, z⟩ := hb x b
        exact (z x y e).1 rfl
    · rw [plus_ne]
      · exact h2
      · intro b
        obtain ⟨_, _, _, z⟩ := hb y b
        exact (z x y e).2 rfl
  have hlen : (rs.map argS).length = vs.length := by rw [List.length_map]; exact rl.length.symm
  unfold callP at f
  split at f
  · -- something is lent
    refine ⟨Z, plus G2 (Bs vs rs) H1, rs.map argS, borP P, wp, r2, hlen, f, ?_⟩
    have back : ∀ G' H', Gr Z (plus G2 (Bs vs rs) H1) H1 G' H' → Gr Z G H (less G' (Bs vs rs)) H' ∧ ∀ a, Bs vs rs a → ∃ ws, G' a = some (.lst ws) := fun G' H' a3 => by
      have hl : ∀ a, Bs vs rs a → ∃ ws, G' a = some (.lst ws) := fun b q => by
        obtain ⟨us, h1, _⟩ := hb b q
        exact ⟨us, a3.g b _ (by rw [plus_at q]; exact h1)⟩
      have gn : ∀ b, Bs vs rs b → G b = none := fun b q => by
        obtain ⟨us, h1, h2, _⟩ := hb b q
        cases g : G b with
        | none => rfl
        | some u =>
          have := a.g b u g
          rw [h2] at this
          cases this
      refine ⟨⟨fun b u e => ?_, fun b u z e => a3.h b u z (a.h b u z e), fun b h1 h2 => ?_, ⟨fun b u e => ?_, fun x y e => ?_⟩⟩, hl⟩
      · have q : ¬ Bs vs rs b := fun q => by rw [gn b q] at e; cases e
        rw [less_ne q]
        exact a3.g b u (by rw [plus_ne q]; exact a2.g b u e)
      · by_cases q : Bs vs rs b
        · exact less_at q
        · rw [less_ne q]
          exact a3.nw b (a.dm b h1) (by rw [plus_ne q]; exact a2.nw b h1 h2)
      · by_cases q : Bs vs rs b
        · rw [less_at q] at e; cases e
        · rw [less_ne q] at e; exact a3.w.gh b u e
      · obtain ⟨h1, h2, h3⟩ := a3.w.z x y e
        refine ⟨?_, ?_, h3⟩
        · by_cases q : Bs vs rs x
          · exact less_at q
          · rw [less_ne q]; exact h1
        · by_cases q : Bs vs rs y
          · exact less_at q
          · rw [less_ne q]; exact h2
    refine ⟨fun r p v G' H' a3 rf => ?_, fun x p cls d G' H' a3 rx => ?_⟩
    · obtain ⟨a4, hl⟩ := back G' H' a3
      cases r with
      | d x => exact c.val _ p.2 v _ H' a4 ⟨RdD.less hl _ _ p.1 rf.1, fun _ _ e _ => nomatch e⟩
      | own xs =>
        obtain ⟨⟨q, us, o⟩, fr⟩ := rf
        refine c.val _ p.2 v _ H' a4 ⟨⟨q, us, o.e, o.z, ?_, o.h, o.l, RdAll.less hl _ _ p.1 o.r⟩, fun ys q' e1 e2 => a.none (fr ys q' e1 e2)⟩
        by_cases z : Bs vs rs q
        · exact less_at z
        · rw [less_ne z]; exact o.g
      | bor _ => exact p.elim
      | st => exact p.elim
    · obtain ⟨a4, hl⟩ := back G' H' a3
      obtain ⟨C, dd, fs, e1, e2, e3, e4, e5⟩ := rx
      exact c.exn x p.2 cls d _ H' a4 ⟨C, dd, fs, e1, e2, e3, e4, fun f y m => let ⟨v, h1, h2⟩ := e5 f y m; ⟨v, h1, RdD.less hl _ _ (p.1 f y m) h2⟩⟩
  · -- nothing is
    rename_i hn
    have e : plus G2 (Bs vs rs) H1 = G2 := by
      funext b
      exact plus_ne (Bs.nil rs vs (by simpa using hn) b)
    rw [e] at r2
    exact ⟨Z, G2, rs.map argS, P, a2.w, r2, hlen, f, cov_gr c a2⟩
end
section
variable {X : Cx} {E : Sl → XK} {pos p : Pos} {e : Expr} {es : List Expr} {fs : WA} {x : Str} {k n : Nat} {wf : WF}
theorem de_call (C : Callee X.prog X.w X.K X.mg X.base k x n wf) (hr : Room k X.A) (hg : Gl X x) (tk : Takes X (fun cls d σ H => E σ cls d H)) (ha : DA X E (e :: es) fs) (hdb : (x == ("__debug__" : Str)) = false := by decide)
    (he : starEach (e :: es) X.env = (false, eval e X.env) :: starEach es X.env := by rfl) (hpl : (backTo pos (starEach es X.env)).any (·.1) = false := by rfl) :
    DE X E (.Call (.Name x p) (e :: es) [] pos) (dCall n wf fs) := by
  obtain ⟨f, fd, ps, F, hm, hk, hb⟩ := C.ex
  refine pe_imp (pe_callSD F hr hg hm hk hb .nil (E := E) (fun σ => passAt tk σ) ha hdb he hpl) fun σ H Q ⟨Z, G, ρ, P, w, v, f, c⟩ => ?_
  refine oneA_ok w v f c.exn fun rs vs G1 H1 a1 rl q => ?_
  rw [List.append_nil]
  have q2 := call_cov a1 rl q.2 c
  rw [rl.length, q.1] at q2
  exact q2
theorem de_call0 (C : Callee X.prog X.w X.K X.mg X.base k x 0 wf) (hr : Room k X.A) (hg : Gl X x) (tk : Takes X (fun cls d σ H => E σ cls d H)) (hdb : (x == ("__debug__" : Str)) = false := by decide) :
    DE X E (.Call (.Name x p) [] [] pos) (dCall 0 wf dNil) := by
  obtain ⟨f, fd, ps, F, hm, hk, hb⟩ := C.ex
  refine ⟨fun pins s σ H Q I h => ?_⟩
  obtain ⟨Z, G, ρ, P, w, v, f, c⟩ := h
  refine wpAny_Call_Name_kw (ld_glob I hg hm ?_ hdb)
  exact PySem.W.callWith_K0 I.kIn hk (run_fnSD (us := []) (vs := []) (dvs := []) (E := E) F hr hb .nil (passAt tk σ) I .nil (call_cov (Gr.refl w) .nil f.2 c))
end
end Pw
end

section
set_option Elab.async false
set_option linter.all false
set_option maxRecDepth 100000
set_option maxHeartbeats 4000000
/-! Pw5: built-ins by value. -/
namespace Pw
open PySem PySem.Spec L2
abbrev OpN := List SV → (SV → Prop) → Prop
def CallD (X : Cx) (f : Value) (op : OpN) : Prop := ∃ r : List V → Hp → VK → Prop, CallR X f r ∧ ∀ Z G H H0 rs vs Q P, WO Z G H → RdL X.K Z H0 G H vs rs → op rs P →
  (∀ s, P s → ∀ v G' H', Gr Z G H G' H' → RdF X.K Z H G' H' v s → Q v H') → r vs H Q
def dBlt (op : OpN) (fs : WA) : WE := fun ρ => M.bind (fs ρ) fun rs P => op rs fun r => P (.val r)
section
variable {X : Cx} {E : Sl → XK} {pos p : Pos} {e : Expr} {es : List Expr} {fs : WA} {x : Str} {bid T : String} {op : OpN}
theorem de_blt (ho : CallD X (.builtin bid) op) (hg : Gl X x) (hm : X.mg x = none) (hv : bootBuiltins x = some (.builtin bid)) (ha : DA X E (e :: es) fs) (hn : x ≠ "__name__" := by decide) (hdb : (x == ("__debug__" : Str)) = false := by decide)
    (he : starEach (e :: es) X.env = (false, eval e X.env) :: starEach es X.env := by rfl) (hpl : (backTo pos (starEach es X.env)).any (·.1) = false := by rfl) : DE X E (.Call (.Name x p) (e :: es) [] pos) (dBlt op fs) := by
  obtain ⟨r, h1, h2⟩ := ho
  refine pe_imp (pe_callB h1 hg hm hv ha hn hdb he hpl) fun σ H Q ⟨Z, G, ρ, P, w, v, f, c⟩ => ?_
  refine oneA_ok w v f c.exn fun rs vs G1 H1 a1 rl q => ?_
  exact h2 Z G1 H1 _ rs vs Q _ a1.w rl q fun s hs u G' H' a2 ru => c.val s hs u G' H' (a1.trans a2) (ru.at0 a1)
theorem de_ty (ho : CallD X (.type T) op) (hg : Gl X x) (hm : X.mg x = none) (hv : bootBuiltins x = some (.type T)) (ha : DA X E (e :: es) fs) (hn : x ≠ "__name__" := by decide) (hdb : (x == ("__debug__" : Str)) = false := by decide)
    (he : starEach (e :: es) X.env = (false, eval e X.env) :: starEach es X.env := by rfl) (hpl : (backTo pos (starEach es X.env)).any (·.1) = false := by rfl) : DE X E (.Call (.Name x p) (e :: es) [] pos) (dBlt op fs) := by
  obtain ⟨r, h1, h2⟩ := ho
  refine pe_imp (pe_callTy h1 hg hm hv ha hn hdb he hpl) fun σ H Q ⟨Z, G, ρ, P, w, v, f, c⟩ => ?_
  refine oneA_ok w v f c.exn fun rs vs G1 H1 a1 rl q => ?_
  exact h2 Z G1 H1 _ rs vs Q _ a1.w rl q fun s hs u G' H' a2 ru => c.val s hs u G' H' (a1.trans a2) (ru.at0 a1)
theorem rdl1 {K : PySem.W.Frag} {Z : Zs} {H0 G H : Hp} {vs : List V} {r : SV} (h : RdL K Z H0 G H vs [r]) : ∃ v, vs = [v] ∧ RdF K Z H0 G H v r := by
  cases h with
  | cons a _ t => cases t; exact ⟨_, rfl, a⟩
theorem rdl2 {K : PySem.W.Frag} {Z : Zs} {H0 G H : Hp} {vs : List V} {r s : SV} (h : RdL K Z H0 G H vs [r, s]) : ∃ v u, vs = [v, u] ∧ RdF K Z H0 G H v r ∧ RdF K Z H0 G H u s := by
  cases h with
  | cons a _ t =>
    cases t with
    | cons b _ t => cases t; exact ⟨_, _, rfl, a, b⟩
/-! ### len, abs, min, max, sum, any, all -/
def lenV : OpN := fun rs P => match rs with
  | [.d (.str y)] => y.length ≤ sizeLine ∧ P (.d (.int y.length))
  | [x] => match seqOf x with
    | some xs => P (.d (.int xs.length))
    | none => False
  | _ => False
theorem cd_len : CallD X (.builtin "len") lenV := by
  refine ⟨_, call_len, fun Z G H H0 rs vs Q P w rl h k => ?_⟩
  unfold lenV at h
  split at h
  · obtain ⟨v, rfl, r⟩ := rdl1 rl
    cases r.1
    exact ⟨_, _, rfl, ⟨h.1, rfl⟩, k _ h.2 _ G H (Gr.refl w) ⟨.int _, fun _ _ e _ => nomatch e⟩⟩
  · rename_i x _
    obtain ⟨v, rfl, r⟩ := rdl1 rl
    split at h
    · rename_i xs e
      unfold seqOf at e
      split at e
      · cases e
        obtain ⟨a, us, rfl, h1, h2, h3⟩ := RdD.tuple_inv r.1
        refine ⟨_, us.length, rfl, .inr ⟨us, sqT_mono w.gh h1, rfl⟩, ?_⟩
        rw [h3.length]
        exact k _ h _ G H (Gr.refl w) ⟨.int _, fun _ _ e _ => nomatch e⟩
      · obtain ⟨a, us, rfl, h1, h2, h3⟩ := lst_look w r.1 e
        refine ⟨_, us.length, rfl, .inl ⟨us, .inl (.inl h1), rfl⟩, ?_⟩
        rw [h3.length]
        exact k _ h _ G H (Gr.refl w) ⟨.int _, fun _ _ e _ => nomatch e⟩
    · exact h.elim
  · exact h.elim
def absV : OpN := fun rs P => match rs with
  | [.d (.int i)] => P (.d (.int (if i < 0 then -i else i)))
  | _ => False
theorem cd_abs : CallD X (.builtin "abs") absV := by
  refine ⟨_, call_abs, fun Z G H H0 rs vs Q P w rl h k => ?_⟩
  unfold absV at h
  split at h
  · obtain ⟨v, rfl, r⟩ := rdl1 rl
    cases r.1
    exact ⟨_, rfl, k _ h _ G H (Gr.refl w) ⟨.int _, fun _ _ e _ => nomatch e⟩⟩
  · exact h.elim
def intV : OpN := fun rs P => match rs with
  | [.d (.int i)] => P (.d (.int i))
  | [.d (.bool b)] => P (.d (.int (if b then 1 else 0)))
  | _ => False
theorem cd_int : CallD X (.type "int") intV := by
  refine ⟨_, call_int1, fun Z G H H0 rs vs Q P w rl h k => ?_⟩
  unfold intV at h
  split at h
  · obtain ⟨v, rfl, r⟩ := rdl1 rl
    cases r.1
    exact .inl ⟨_, rfl, k _ h _ G H (Gr.refl w) ⟨.int _, fun _ _ e _ => nomatch e⟩⟩
  · obtain ⟨v, rfl, r⟩ := rdl1 rl
    cases r.1
    exact .inr ⟨_, rfl, k _ h _ G H (Gr.refl w) ⟨.int _, fun _ _ e _ => nomatch e⟩⟩
  · exact h.elim
/-- a list of ints -/
def intsOf : List PyData → Option (List Int)
  | [] => some []
  | .int i :: r => (intsOf r).map (i :: ·)
  | _ :: _ => none
theorem intsOf_eq : ∀ {xs : List PyData} {ns : List Int}, intsOf xs = some ns → xs = ns.map .int
  | [], _, e => by cases e; rfl
  | .int i :: r, _, e => by
    unfold intsOf at e
    cases q : intsOf r with
    | none => rw [q] at e; cases e
    | some m => rw [q] at e; cases e; rw [intsOf_eq q]; rfl
  | .none :: _, _, e => by cases e
  | .bool _ :: _, _, e => by cases e
  | .str _ :: _, _, e => by cases e
  | .list _ :: _, _, e => by cases e
  | .tuple _ :: _, _, e => by cases e
  | .dict _ :: _, _, e => by cases e
theorem intsOf_map : ∀ ns : List Int, intsOf (ns.map .int) = some ns
  | [] => rfl
  | n :: ns => by
    show (intsOf (ns.map .int)).map (n :: ·) = _
    rw [intsOf_map ns]
    rfl
def boolsOf : List PyData → Option (List Bool)
  | [] => some []
  | .bool i :: r => (boolsOf r).map (i :: ·)
  | _ :: _ => none
theorem boolsOf_eq : ∀ {xs : List PyData} {ns : List Bool}, boolsOf xs = some ns → xs = ns.map .bool
  | [], _, e => by cases e; rfl
  | .bool i :: r, _, e => by
    unfold boolsOf at e
    cases q : boolsOf r with
    | none => rw [q] at e; cases e
    | some m => rw [q] at e; cases e; rw [boolsOf_eq q]; rfl
  | .none :: _, _, e => by cases e
  | .int _ :: _, _, e => by cases e
  | .str _ :: _, _, e => by cases e
  | .list _ :: _, _, e => by cases e
  | .tuple _ :: _, _, e => by cases e
  | .dict _ :: _, _, e => by cases e
theorem boolsOf_map : ∀ ns : List Bool, boolsOf (ns.map .bool) = some ns
  | [] => rfl
  | n :: ns => by
    show (boolsOf (ns.map .bool)).map (n :: ·) = _
    rw [boolsOf_map ns]
    rfl
/-- a list of ints at hand -/
def onInts (rs : List SV) (k : List Int → Prop) : Prop := match rs with
  | [x] => match lstOf x with
    | some xs => match intsOf xs with
      | some ns => k ns
      | none => False
    | none => False
  | _ => False
theorem onInts_ok {K : PySem.W.Frag} {Z : Zs} {G H H0 : Hp} {rs : List SV} {vs : List V} {k : List Int → Prop} (w : WO Z G H) (rl : RdL K Z H0 G H vs rs) (h : onInts rs k) : ∃ a ns, vs = [.ref a] ∧ SqL K H a (ns.map V.int) ∧ k ns := by
  unfold onInts at h
  split at h
  · obtain ⟨v, rfl, r⟩ := rdl1 rl
    split at h
    · rename_i xs e
      split at h
      · rename_i ns e2
        obtain ⟨a, us, rfl, h1, h2, h3⟩ := lst_look w r.1 e
        rw [intsOf_eq e2] at h3
        rw [h3.ints] at h1
        exact ⟨a, ns, rfl, .inl (.inl h1), h⟩
      · exact h.elim
    · exact h.elim
  · exact h.elim
def sumV : OpN := fun rs P => onInts rs fun ns => P (.d (.int ns.sum))
theorem cd_sum (hc : X.calm = true) : CallD X (.builtin "sum") sumV := by
  refine ⟨_, cr_sum hc, fun Z G H H0 rs vs Q P w rl h k => ?_⟩
  obtain ⟨a, ns, rfl, hs, h⟩ := onInts_ok w rl h
  exact ⟨a, ns, rfl, hs, k _ h _ G H (Gr.refl w) ⟨.int _, fun _ _ e _ => nomatch e⟩⟩
def maxV : OpN := fun rs P => match rs with
  | [.d (.int i), .d (.int j)] => P (.d (.int (if j > i then j else i)))
  | _ => onInts rs fun ns => 0 < ns.length ∧ ∀ m, m ∈ ns → (∀ y, y ∈ ns → y ≤ m) → P (.d (.int m))
def minV : OpN := fun rs P => match rs with
  | [.d (.int i), .d (.int j)] => P (.d (.int (if j < i then j else i)))
  | _ => onInts rs fun ns => 0 < ns.length ∧ ∀ m, m ∈ ns → (∀ y, y ∈ ns → m ≤ y) → P (.d (.int m))
theorem cd_max (hc : X.calm = true) : CallD X (.builtin "max") maxV := by
  refine ⟨_, (call_max2 hc).or (cr_max hc), fun Z G H H0 rs vs Q P w rl h k => ?_⟩
  unfold maxV at h
  split at h
  · obtain ⟨v, u, rfl, r1, r2⟩ := rdl2 rl
    cases r1.1
    cases r2.1
    exact .inl ⟨_, _, rfl, k _ h _ G H (Gr.refl w) ⟨.int _, fun _ _ e _ => nomatch e⟩⟩
  · obtain ⟨a, ns, rfl, hs, h0, h⟩ := onInts_ok w rl h
    exact .inr ⟨a, ns, rfl, hs, h0, fun m m1 m2 => k _ (h m m1 m2) _ G H (Gr.refl w) ⟨.int _, fun _ _ e _ => nomatch e⟩⟩
theorem cd_min (hc : X.calm = true) : CallD X (.builtin "min") minV := by
  refine ⟨_, (call_min2 hc).or (cr_min hc), fun Z G H H0 rs vs Q P w rl h k => ?_⟩
  unfold minV at h
  split at h
  · obtain ⟨v, u, rfl, r1, r2⟩ := rdl2 rl
    cases r1.1
    cases r2.1
    exact .inl ⟨_, _, rfl, k _ h _ G H (Gr.refl w) ⟨.int _, fun _ _ e _ => nomatch e⟩⟩
  · obtain ⟨a, ns, rfl, hs, h0, h⟩ := onInts_ok w rl h
    exact .inr ⟨a, ns, rfl, hs, h0, fun m m1 m2 => k _ (h m m1 m2) _ G H (Gr.refl w) ⟨.int _, fun _ _ e _ => nomatch e⟩⟩
def onBools (rs : List SV) (k : List Bool → Prop) : Prop := match rs with
  | [x] => match lstOf x with
    | some xs => match boolsOf xs with
      | some ns => k ns
      | none => False
    | none => False
  | _ => False
theorem onBools_ok {K : PySem.W.Frag} {Z : Zs} {G H H0 : Hp} {rs : List SV} {vs : List V} {k : List Bool → Prop} (w : WO Z G H) (rl : RdL K Z H0 G H vs rs) (h : onBools rs k) : ∃ a ns, vs = [.ref a] ∧ SqL K H a (ns.map V.bl) ∧ k ns := by
  unfold onBools at h
  split at h
  · obtain ⟨v, rfl, r⟩ := rdl1 rl
    split at h
    · rename_i xs e
      split at h
      · rename_i ns e2
        obtain ⟨a, us, rfl, h1, h2, h3⟩ := lst_look w r.1 e
        rw [boolsOf_eq e2] at h3
        rw [h3.bools] at h1
        exact ⟨a, ns, rfl, .inl (.inl h1), h⟩
      · exact h.elim
    · exact h.elim
  · exact h.elim
def anyV : OpN := fun rs P => onBools rs fun ns => P (.d (.bool (ns.any id)))
def allV : OpN := fun rs P => onBools rs fun ns => P (.d (.bool (ns.all id)))
theorem cd_any (hc : X.calm = true) : CallD X (.builtin "any") anyV := by
  refine ⟨_, cr_any hc, fun Z G H H0 rs vs Q P w rl h k => ?_⟩
  obtain ⟨a, ns, rfl, hs, h⟩ := onBools_ok w rl h
  exact ⟨a, ns, rfl, hs, k _ h _ G H (Gr.refl w) ⟨.bl _, fun _ _ e _ => nomatch e⟩⟩
theorem cd_all (hc : X.calm = true) : CallD X (.builtin "all") allV := by
  refine ⟨_, cr_all hc, fun Z G H H0 rs vs Q P w rl h k => ?_⟩
  obtain ⟨a, ns, rfl, hs, h⟩ := onBools_ok w rl h
  exact ⟨a, ns, rfl, hs, k _ h _ G H (Gr.refl w) ⟨.bl _, fun _ _ e _ => nomatch e⟩⟩
/-! ### list, tuple, sorted, isinstance -/
def listV : OpN := fun rs P => match rs with
  | [x] => match seqOf x with
    | some xs => P (.own xs)
    | none => False
  | _ => False
theorem seq_look {K : PySem.W.Frag} {Z : Zs} {G H : Hp} {v : V} {x : SV} {xs : List PyData} (w : WO Z G H) (r : RdV K Z G H v x) (e : seqOf x = some xs) : ∃ a us, v = .ref a ∧ (SqL K H a us ∨ SqT K H a us) ∧ xs.length ≤ sizeLine ∧ RdAll K G us xs := by
  unfold seqOf at e
  split at e
  · cases e
    obtain ⟨a, us, rfl, h1, h2, h3⟩ := RdD.tuple_inv r
    exact ⟨a, us, rfl, .inr (sqT_mono w.gh h1), h2, h3⟩
  · obtain ⟨a, us, rfl, h1, h2, h3⟩ := lst_look w r e
    exact ⟨a, us, rfl, .inl (.inl (.inl h1)), h2, h3⟩
theorem cd_list : CallD X (.type "list") listV := by
  refine ⟨_, call_list_of, fun Z G H H0 rs vs Q P w rl h k => ?_⟩
  unfold listV at h
  split at h
  · obtain ⟨v, rfl, r⟩ := rdl1 rl
    split at h
    · rename_i xs e
      obtain ⟨a, us, rfl, h1, h2, h3⟩ := seq_look w r.1 e
      refine ⟨a, us, rfl, h1, fun l nl => ?_⟩
      obtain ⟨q1, q2⟩ := mkOwn w nl h2 h3
      exact k _ h _ _ _ q1 q2
    · exact h.elim
  · exact h.elim
def tupleV : OpN := fun rs P => match rs with
  | [x] => match seqOf x with
    | some xs => P (.d (.tuple xs))
    | none => False
  | _ => False
theorem cd_tuple : CallD X (.type "tuple") tupleV := by
  refine ⟨_, call_tuple_of, fun Z G H H0 rs vs Q P w rl h k => ?_⟩
  unfold tupleV at h
  split at h
  · obtain ⟨v, rfl, r⟩ := rdl1 rl
    split at h
    · rename_i xs e
      unfold seqOf at e
      split at e
      · cases e
        obtain ⟨a, us, rfl, h1, h2, h3⟩ := RdD.tuple_inv r.1
        exact ⟨a, us, rfl, .inr ⟨sqT_mono w.gh h1, k _ h _ G H (Gr.refl w) ⟨r.1, fun _ _ e _ => nomatch e⟩⟩⟩
      · obtain ⟨a, us, rfl, h1, h2, h3⟩ := lst_look w r.1 e
        refine ⟨a, us, rfl, .inl ⟨.inl (.inl h1), fun l nl => ?_⟩⟩
        obtain ⟨q1, q2⟩ := mkTup w nl h2 h3
        exact k _ h _ _ _ q1 q2
    · exact h.elim
  · exact h.elim
open PySem.W in
/-- sorted of a list of alike data -/
def rSortD (K : PySem.W.Frag) (G : Hp) : List V → Hp → VK → Prop := fun vs H Q => ∃ (a : Addr) (us : List V) (xs : List PyData), vs = [V.ref a] ∧ H a = some (.lst us) ∧ Same G H ∧ RdAll K G us xs ∧ xs.length ≤ sizeLine ∧ PySem.W.AllAlike xs ∧ PySem.W.Sortable xs ∧ (∀ b, b ∈ xs → b.depth ≤ 60) ∧
  ∀ p ws, H p = none → RdAll K G ws (xs.mergeSort (PySem.W.dataLe false id)) → Q (.ref p) (upd H p (.lst ws))
theorem RdAll.rel {K : PySem.W.Frag} {G : Hp} : ∀ {out : List Value} {xs : List PyData}, PySem.W.EachIs (fun u d => ∃ v, RelV v u ∧ RdD K G v d) out xs → ∃ ws, Vals ws out ∧ RdAll K G ws xs
  | _, _, .nil => ⟨[], .nil, .nil⟩
  | _, _, .cons ⟨v, r, d⟩ t => by
    obtain ⟨ws, h1, h2⟩ := RdAll.rel t
    exact ⟨v :: ws, .cons r h1, .cons d h2⟩
theorem rel_each {K : PySem.W.Frag} {G : Hp} : ∀ {us : List V} {its : List Value} {xs : List PyData}, Vals us its → RdAll K G us xs → PySem.W.EachIs (fun u d => ∃ v, RelV v u ∧ RdD K G v d) its xs
  | _, _, [], r, h => by cases h; cases r; exact .nil
  | _, _, _ :: _, r, h => by
    cases h with
    | cons h1 h2 =>
      cases r with
      | cons r1 r2 => exact .cons ⟨_, r1, h1⟩ (rel_each r2 h2)
theorem cr_sortD (hu : X.A.units + 64 < cLine) (G : Hp) : CallR X (.builtin "sorted") (rSortD X.K G) := by
  intro pins s σ H vs us Q I r h
  obtain ⟨a, ws, xs, rfl, ha, sg, rd, hz, hal, hk, hd, q⟩ := h
  obtain ⟨its, rv, hl, _⟩ := I.list (.inl (.inl ha))
  rw [Vals.ref1 r]
  obtain ⟨as, hr⟩ := Dp.readsAll I xs ws its (RdAll.dp sg _ _ rd) rv
  refine PySem.W.sorted_data (R := fun u d => ∃ v, RelV v u ∧ RdD X.K G v d) (enc := id) (bs := xs) hl.isList (rel_each rv rd) (PySem.W.readsAll_each id (by rw [List.map_id]; exact hr)) (by rw [List.map_id]; exact hal) (by rw [List.map_id]; exact hk) hz
    (fun b hb => by have := hd b hb; show X.A.units + 2 + (id b).depth < cLine; show X.A.units + 2 + b.depth < cLine; omega) fun out hlen ho => ?_
  obtain ⟨ep, he'⟩ := PyProof.Rows.sortedAll_at s.heap its out.toArray
  obtain ⟨zs, h1, h2⟩ := RdAll.rel ho
  have hlen2 : zs.length ≤ sizeLine := by rw [h1.length, hlen]; exact hz
  exact ⟨.ref _, upd H (s.heap.objs.size + 1) (.lst zs), I.laid (t' := s.toks) (fun _ _ => PyProof.Rows.sortedAll_old) (Nat.le_succ _) ⟨hlen2, out, ep, h1, by simpa using he'⟩, rfl, q _ zs (I.hok.fresh (Nat.le_succ _)) h2⟩
def sortedV : OpN := fun rs P => match rs with
  | [x] => match lstOf x with
    | some xs => (PySem.W.AllAlike xs ∧ PySem.W.Sortable xs ∧ ∀ b, b ∈ xs → b.depth ≤ 60) ∧ P (.own (xs.mergeSort (PySem.W.dataLe false id)))
    | none => False
  | _ => False
theorem cd_sorted (hu : X.A.units + 64 < cLine) : CallD X (.builtin "sorted") sortedV := by
  refine ⟨fun vs H Q => ∃ G, rSortD X.K G vs H Q, fun pins s σ H vs us Q I r ⟨G, h⟩ => cr_sortD hu G pins s σ H vs us Q I r h, fun Z G H H0 rs vs Q P w rl h k => ?_⟩
  unfold sortedV at h
  split at h
  · obtain ⟨v, rfl, r⟩ := rdl1 rl
    split at h
    · rename_i xs e
      obtain ⟨a, us, rfl, h1, h2, h3⟩ := lst_look w r.1 e
      refine ⟨G, a, us, xs, rfl, h1, w.gh, h3, h2, h.1.1, h.1.2.1, h.1.2.2, fun p ws np rd => ?_⟩
      obtain ⟨q1, q2⟩ := mkOwn w np (by rw [List.length_mergeSort]; exact h2) rd
      exact k _ h.2 _ _ _ q1 q2
    · exact h.elim
  · exact h.elim
/-- a datum's type -/
def tyD : PyData → String
  | .none => "NoneType"
  | .bool _ => "bool"
  | .int _ => "int"
  | .str _ => "str"
  | .list _ => "list"
  | .tuple _ => "tuple"
  | .dict _ => "dict"
def isiB (t T : String) : Bool := t == T || (t == "bool" && T == "int")
def dIsi (T : String) (fa : WE) : WE := fun ρ => M.bind (fa ρ) fun x P => match look x with
  | some d => P (.val (.d (.bool (isiB (tyD d) T))))
  | none => False
theorem ty_look {K : PySem.W.Frag} {Z : Zs} {G H : Hp} {v : V} {r : SV} {d : PyData} (w : WO Z G H) (h : RdV K Z G H v r) (e : look r = some d) : TyX K H v (.type (tyD d)) := by
  cases r with
  | d y =>
    cases e
    cases d with
    | none => cases h; exact .base .non
    | bool b => cases h; exact .base (.bl b)
    | int i => cases h; exact .base (.int i)
    | str x => cases h; exact .base (.str x)
    | list xs => obtain ⟨a, us, rfl, h1, _⟩ := RdD.list_inv h; exact .base (.lst (w.gh _ _ h1))
    | tuple xs =>
      obtain ⟨a, us, rfl, h1, _⟩ := RdD.tuple_inv h
      rcases sqT_mono w.gh h1 with (h1 | ⟨o, h1⟩) | ⟨o, its, n, h1, h2, _⟩
      · exact .base (.tup h1)
      · exact .fTuple h1
      · exact .kTuple h1 h2
    | dict xs => cases h
  | own ys => cases e; obtain ⟨p, us, o⟩ := h; rw [o.e]; exact .base (.lst o.h)
  | bor ys => cases e; obtain ⟨p, us, o⟩ := h; rw [o.e]; exact .base (.lst o.h)
  | st => cases e
theorem de_isi {T : String} {tx : Str} {p2 : Pos} {fa : WE} (ha : DE X E e fa) (hg : Gl X "isinstance") (hm : X.mg "isinstance" = none) (hT : Gl X tx) (hmT : X.mg tx = none) (hv : bootBuiltins tx = some (.type T))
    (kit : ∀ t ∈ ["NoneType", "bool", "int", "str", "list", "tuple", "dict"], kitB t T = some (isiB t T)) (hnT : tx ≠ "__name__" := by decide) (hdT : (tx == ("__debug__" : Str)) = false := by decide)
    (he : starEach [e, .Name tx p2] X.env = (false, eval e X.env) :: starEach [.Name tx p2] X.env := by rfl) (hpl : (backTo pos (starEach [.Name tx p2] X.env)).any (·.1) = false := by rfl)
    (h2 : starEach [.Name tx p2] X.env = (false, eval (.Name tx p2) X.env) :: starEach [] X.env := by rfl) :
    DE X E (.Call (.Name "isinstance" p) [e, .Name tx p2] [] pos) (dIsi T fa) := by
  refine pe_imp (pe_callB call_isi hg hm PyProof.Rows.boot_isinstance (pa_cons ha (pa_cons (pe_bltn (v := .ty T) hT hmT hv rfl hnT hdT) pa_nil h2) he) (by decide) (by decide) he hpl) fun σ H Q ⟨Z, G, ρ, P, w, v, f, c⟩ => ?_
  refine one_ok w v f c.exn fun x vx G2 H2 a r q => ?_
  split at q
  · rename_i d ed
    refine ⟨vx, .ty T, .type (tyD d), .type T, isiB (tyD d) T, rfl, .ty T, ty_look a.w r.1 ed, kit_ty (kit _ ?_), c.val _ q _ G2 H2 a ⟨.bl _, fun _ _ e _ => nomatch e⟩⟩
    cases d <;> simp [tyD]
  · exact q.elim
end
end Pw
end

section
set_option Elab.async false
set_option linter.all false
set_option maxRecDepth 100000
set_option maxHeartbeats 4000000
/-! Pw6: targets, what is walked, list comprehensions by value. -/
namespace Pw
open PySem PySem.Spec L2

/-! ### targets: names, tuples of targets -/
inductive Tg where
  | name (i : Nat)
  | tup (ts : List Tg)
mutual
def gOf (K : PySem.W.Frag) : Tg → TG
  | .name i => gName i
  | .tup ts => gTup K ts.length (gsOf K ts)
def gsOf (K : PySem.W.Frag) : List Tg → TGs
  | [] => gNil
  | t :: ts => gCons (gOf K t) (gsOf K ts)
end
mutual
/-- the slots behind the assignment of a datum -/
def asg : Tg → PyData → SEnv → Option SEnv
  | .name i, x, ρ => some (ρ.set i (some (.d x)))
  | .tup ts, .tuple xs, ρ => asgs ts xs ρ
  | .tup _, _, _ => none
def asgs : List Tg → List PyData → SEnv → Option SEnv
  | [], [], ρ => some ρ
  | t :: ts, x :: xs, ρ => match asg t x ρ with
    | some ρ' => asgs ts xs ρ'
    | none => none
  | _, _, _ => none
end
mutual
def slotsIn (vs : List Nat) : Tg → Bool
  | .name i => vs.contains i
  | .tup ts => slotsInAll vs ts
def slotsInAll (vs : List Nat) : List Tg → Bool
  | [] => true
  | t :: ts => slotsIn vs t && slotsInAll vs ts
end
section
variable {K : PySem.W.Frag} {Z : Zs} {G H : Hp}
theorem wipe_set {σ : Sl} {v : Option V} {i : Nat} : ∀ {vs : List Nat}, i ∈ vs → L2.wipe (σ.set i v) vs = L2.wipe σ vs
  | [], h => by simp at h
  | j :: vs, h => by
    unfold L2.wipe
    by_cases e : j = i
    · subst e
      by_cases hv : j ∈ vs
      · rw [wipe_set hv]
      · -- j is set to none behind
        have comm : ∀ (vs : List Nat) (σ : Sl) (v : Option V), (L2.wipe (σ.set j v) vs).set j none = (L2.wipe σ vs).set j none := by
          intro vs
          induction vs with
          | nil => intro σ v; show (σ.set j v).set j none = σ.set j none; rw [List.set_set]
          | cons k vs ih =>
            intro σ v
            show ((L2.wipe (σ.set j v) vs).set k none).set j none = ((L2.wipe σ vs).set k none).set j none
            by_cases kj : k = j
            · subst kj; rw [List.set_set, List.set_set]; exact ih σ v
            · rw [List.set_comm _ _ kj, ih σ v, List.set_comm _ _ (Ne.symm kj)]
        exact comm vs σ v
    · have hv : i ∈ vs := by
        rcases List.mem_cons.mp h with q | q
        · exact absurd q.symm e
        · exact q
      rw [wipe_set hv]
theorem wipe_sub {σ : Sl} {vs : List Nat} : ∀ {ws : List Nat}, (∀ i ∈ ws, i ∈ vs) → L2.wipe (L2.wipe σ ws) vs = L2.wipe σ vs
  | [], _ => rfl
  | i :: ws, h => by
    show L2.wipe ((L2.wipe σ ws).set i none) vs = L2.wipe σ vs
    rw [wipe_set (h i List.mem_cons_self)]
    exact wipe_sub fun j hj => h j (List.mem_cons_of_mem _ hj)
mutual
theorem gOf_ok : ∀ (t : Tg) (v : V) (x : PyData) (σ : Sl) (ρ ρ' : SEnv), WO Z G H → RV K Z G H σ ρ → RdD K G v x → asg t x ρ = some ρ' →
    ∃ σ', RV K Z G H σ' ρ' ∧ OwnSub σ ρ σ' ρ' ∧ (∀ vs, slotsIn vs t = true → L2.wipe σ' vs = L2.wipe σ vs) ∧ ∀ Q : Sl → Hp → Prop, Q σ' H → gOf K t v σ H Q
  | .name i, v, x, σ, ρ, ρ', w, rv, r, e => by
    unfold asg at e
    cases e
    obtain ⟨h1, h2⟩ := RV.put rv (i := i) (v := v) (x := .d x) r rfl
    refine ⟨_, h1, h2, fun vs hv => ?_, fun Q q => by unfold gOf; exact q⟩
    unfold slotsIn at hv
    exact wipe_set (by simpa using hv)
  | .tup ts, v, .tuple xs, σ, ρ, ρ', w, rv, r, e => by
    unfold asg at e
    obtain ⟨a, us, rfl, h1, h2, h3⟩ := RdD.tuple_inv r
    obtain ⟨σ', q1, q2, q3, q4, q5⟩ := gsOf_ok ts us xs σ ρ ρ' w rv h3 e
    refine ⟨σ', q1, q2, fun vs hv => q3 vs (by unfold slotsIn at hv; exact hv), fun Q q => ?_⟩
    unfold gOf
    exact ⟨a, us, rfl, sqT_mono w.gh h1, q5, q4 Q q⟩
  | .tup ts, v, .none, σ, ρ, ρ', w, rv, r, e => by unfold asg at e; cases e
  | .tup ts, v, .bool _, σ, ρ, ρ', w, rv, r, e => by unfold asg at e; cases e
  | .tup ts, v, .int _, σ, ρ, ρ', w, rv, r, e => by unfold asg at e; cases e
  | .tup ts, v, .str _, σ, ρ, ρ', w, rv, r, e => by unfold asg at e; cases e
  | .tup ts, v, .list _, σ, ρ, ρ', w, rv, r, e => by unfold asg at e; cases e
  | .tup ts, v, .dict _, σ, ρ, ρ', w, rv, r, e => by unfold asg at e; cases e
theorem gsOf_ok : ∀ (ts : List Tg) (us : List V) (xs : List PyData) (σ : Sl) (ρ ρ' : SEnv), WO Z G H → RV K Z G H σ ρ → RdAll K G us xs → asgs ts xs ρ = some ρ' →
    ∃ σ', RV K Z G H σ' ρ' ∧ OwnSub σ ρ σ' ρ' ∧ (∀ vs, slotsInAll vs ts = true → L2.wipe σ' vs = L2.wipe σ vs) ∧ (∀ Q : Sl → Hp → Prop, Q σ' H → gsOf K ts us σ H Q) ∧ us.length = ts.length
  | [], us, [], σ, ρ, ρ', w, rv, r, e => by
    unfold asgs at e
    cases e
    cases r
    exact ⟨σ, rv, OwnSub.refl, fun _ _ => rfl, fun Q q => by unfold gsOf; exact ⟨rfl, q⟩, rfl⟩
  | t :: ts, us, x :: xs, σ, ρ, ρ', w, rv, r, e => by
    unfold asgs at e
    split at e
    · rename_i ρ1 e1
      cases r with
      | cons r1 r2 =>
        obtain ⟨σ1, p1, p2, p3, p4⟩ := gOf_ok t _ x σ ρ ρ1 w rv r1 e1
        obtain ⟨σ2, q1, q2, q3, q4, q5⟩ := gsOf_ok ts _ xs σ1 ρ1 ρ' w p1 r2 e
        refine ⟨σ2, q1, p2.trans q2, fun vs hv => ?_, fun Q q => ?_, by simp [q5]⟩
        · unfold slotsInAll at hv
          rw [Bool.and_eq_true] at hv
          rw [q3 vs hv.2, p3 vs hv.1]
        · unfold gsOf
          exact ⟨_, _, rfl, p4 _ (q4 Q q)⟩
    · cases e
  | [], _, _ :: _, σ, ρ, ρ', w, rv, r, e => by unfold asgs at e; cases e
  | _ :: _, _, [], σ, ρ, ρ', w, rv, r, e => by unfold asgs at e; cases e
end
end
section
variable {X : Cx} {pos : Pos}
theorem dg_name {i : Nat} {x : Str} (hN : X.N.Nodup) (hi : X.N[i]? = some x) (hx : Loc X.env.scope x) (hf : X.fn x = true ∨ X.env.scope.names.lookup x = some .local := by first | exact .inl rfl | exact .inr rfl | assumption) : PG X (.Name x pos) (gOf X.K (.name i)) := by
  unfold gOf
  exact pg_name hN hi hx hf
theorem dgs_nil : PGs X [] (gsOf X.K []) := by
  unfold gsOf
  exact pgs_nil
theorem dgs_cons {e : Expr} {es : List Expr} {t : Tg} {ts : List Tg} (h1 : PG X e (gOf X.K t)) (h2 : PGs X es (gsOf X.K ts))
    (hs : (assignEach (e :: es) X.env).map (·.2) = assign e X.env :: (assignEach es X.env).map (·.2) := by rfl) : PGs X (e :: es) (gsOf X.K (t :: ts)) := by
  unfold gsOf
  exact pgs_cons h1 h2 hs
theorem dg_tup {es : List Expr} {k : Nat} {ts : List Tg} (hc : X.calm = true) (h : PGs X es (gsOf X.K ts)) (hn : (assignEach es X.env).length = ts.length := by rfl) (hst : (assignEach es X.env).findIdx? (·.1) = none := by rfl) :
    PG X (.Tuple es k pos) (gOf X.K (.tup ts)) := by
  unfold gOf
  exact pg_tup hc h hn hst
end

/-! ### what is walked -/
abbrev WI := SEnv → M (List PyData)
structure ItD (K : PySem.W.Frag) (Z : Zs) (J : It) (Adm : Hp → Hp → Prop) (ds : List PyData) : Prop where
  len : ds.length ≤ sizeLine
  stop : ∀ G H, Adm G H → J.stop ds.length H
  go : ∀ (i : Nat) (x : PyData) G H, Adm G H → ds[i]? = some x → J.go i H ∧ ∀ v H', J.yld i H v H' → ∃ G', Gr Z G H G' H' ∧ RdD K G' v x
/-- through a loop (own slots may change) | through a comprehension (nothing does) -/
def Adm (b : Bool) (Z : Zs) (G H : Hp) (G' H' : Hp) : Prop := if b then Gr Z G H G' H' else (Same G G' ∧ WO Z G' H')
theorem Adm.f {b : Bool} {Z : Zs} {G H G' H' : Hp} (a : Adm b Z G H G' H') : Same G G' ∧ WO Z G' H' := by
  cases b with
  | true => exact ⟨(show Gr Z G H G' H' from a).g, (show Gr Z G H G' H' from a).w⟩
  | false => exact a
structure CovI (b : Bool) (K : PySem.W.Frag) (mg : Str → Option Value) (Z : Zs) (G H : Hp) (R : It → Hp → Prop) (E : XK) (P : Out (List PyData) → Prop) : Prop where
  val : ∀ ds, P (.val ds) → ∀ J G' H', Gr Z G H G' H' → ItD K Z J (Adm b Z G' H') ds → R J H'
  exn : ∀ x, P (.exn x) → ∀ cls d G' H', Gr Z G H G' H' → ExR K mg x cls d G' H' → E cls d H'
def tI (b : Bool) (K : PySem.W.Frag) (mg : Str → Option Value) (E : Sl → XK) (f : WI) : TI := fun σ H R => ∃ Z G ρ P, WO Z G H ∧ RV K Z G H σ ρ ∧ f ρ P ∧ CovI b K mg Z G H R (E σ) P
abbrev DI (b : Bool) (X : Cx) (E : Sl → XK) (tg e : Expr) (f : WI) : Prop := PI X tg e (tI b X.K X.mg E f)
theorem pi_imp {X : Cx} {tg e : Expr} {t t' : TI} (h : PI X tg e t) (k : ∀ σ H R, t' σ H R → t σ H R) : PI X tg e t' := ⟨fun pins s σ H R I q => h.run pins s σ H R I (k σ H R q)⟩
/-- a list or a tuple, whichever comes -/
def iSeq (K : PySem.W.Frag) (te : TE) : TI := fun σ H R => te σ H fun x H1 => ∃ a, x = .ref a ∧ (((∃ xs, SqL K H1 a xs) ∧ R (Itl K a) H1) ∨ ((∃ xs, SqT K H1 a xs) ∧ R (Itt K a) H1))
section
variable {X : Cx} {E : Sl → XK} {pos p : Pos} {tg e : Expr} {es : List Expr} {fa : WE} {fs : WA}
theorem pi_seq {te : TE} (he : PE X e te) : PI X tg e (iSeq X.K te) := by
  refine ⟨fun pins s σ H R I h => thn (he.run pins s σ H _ I h) fun u s1 hu => ?_⟩
  obtain ⟨x, H1, J, rx, a, rfl, q⟩ := hu
  obtain rfl : u = .ref a := rx
  have kp : ∀ ob, Inv X pins σ H1 { s1 with heap := s1.heap.push ob } := fun ob => J.kept (t' := s1.toks) fun b o z => Heap.get?_push_of_some _ z
  have fr : ∀ b, b ∈ [s1.heap.objs.size] → FpOk X pins H1 b := fun b hb => by
    rw [List.mem_singleton] at hb
    rw [hb]
    exact J.fpOk (Nat.le_refl _) (J.hok.fresh (Nat.le_refl _))
  rcases q with ⟨⟨xs, hq⟩, q⟩ | ⟨⟨xs, hq⟩, q⟩
  · obtain ⟨its, _, pl, _⟩ := J.list hq
    exact wpAny_pyIter_list pl.isList ⟨_, _, _, _, H1, rfl, kp _, turn_list a _, ⟨_, Heap.get?_push_size _ rfl, rfl, rfl⟩, fr, q⟩
  · obtain ⟨its, _, pl, _⟩ := J.tuple hq
    exact wpAny_pyIter_tuple (show s1.heap.IsTuple a its.toArray from pl) ⟨_, _, _, _, H1, rfl, kp _, turn_tuple a _, ⟨_, Heap.get?_push_size _ rfl, rfl, rfl⟩, fr, q⟩
theorem itl_d {K : PySem.W.Frag} {Z : Zs} {A : Hp → Hp → Prop} {a : Addr} {vs : List V} {ds : List PyData} (hl : ds.length ≤ sizeLine) (h : ∀ G H, A G H → WO Z G H ∧ H a = some (.lst vs) ∧ RdAll K G vs ds) : ItD K Z (Itl K a) A ds := by
  have uniq : ∀ H xs, H a = some (.lst vs) → SqL K H a xs → H a = some (.lst xs) ∨ True := fun _ _ _ _ => .inr trivial
  refine ⟨hl, fun G H ad => ?_, fun i x G H ad e => ?_⟩
  · obtain ⟨w, h1, h2⟩ := h G H ad
    exact ⟨vs, .inl (.inl h1), by rw [h2.length]; exact Nat.le_refl _⟩
  · obtain ⟨w, h1, h2⟩ := h G H ad
    obtain ⟨v, e1, r1⟩ := h2.at_ e
    refine ⟨⟨vs, v, .inl (.inl h1), e1⟩, fun u H' y => ?_⟩
    obtain ⟨rfl, y⟩ := y
    have e2 := y vs (.inl (.inl h1))
    rw [e1] at e2
    cases e2
    exact ⟨G, Gr.refl w, r1⟩
theorem itt_d {K : PySem.W.Frag} {Z : Zs} {A : Hp → Hp → Prop} {a : Addr} {vs : List V} {ds : List PyData} (hl : ds.length ≤ sizeLine) (h : ∀ G H, A G H → WO Z G H ∧ SqT K H a vs ∧ RdAll K G vs ds) : ItD K Z (Itt K a) A ds := by
  refine ⟨hl, fun G H ad => ?_, fun i x G H ad e => ?_⟩
  · obtain ⟨w, h1, h2⟩ := h G H ad
    exact ⟨vs, h1, by rw [h2.length]; exact Nat.le_refl _⟩
  · obtain ⟨w, h1, h2⟩ := h G H ad
    obtain ⟨v, e1, r1⟩ := h2.at_ e
    refine ⟨⟨vs, v, h1, e1⟩, fun u H' y => ?_⟩
    obtain ⟨rfl, y⟩ := y
    have e2 := y vs h1
    rw [e1] at e2
    cases e2
    exact ⟨G, Gr.refl w, r1⟩
/-- what may be walked through a loop: data; through a comprehension: own lists too -/
def walkOf (b : Bool) (x : SV) : Option (List PyData) := if b then seqOf x else match conv x with
  | some (.list xs) => some xs
  | some (.tuple xs) => some xs
  | _ => none
def dSeq (b : Bool) (fa : WE) : WI := fun ρ => M.bind (fa ρ) fun x P => match walkOf b x with
  | some xs => P (.val xs)
  | none => False
theorem di_seq (b : Bool) (ha : DE X E e fa) : DI b X E tg e (dSeq b fa) := by
  refine pi_imp (pi_seq ha) fun σ H R ⟨Z, G, ρ, P, w, v, f, c⟩ => ?_
  refine one_ok w v f c.exn fun x vx G1 H1 a1 rx q => ?_
  split at q
  · rename_i xs e
    have frz : ∀ (d : PyData), conv x = some d → (d = .list xs ∨ d = .tuple xs) → ∃ a, vx = .ref a ∧ ((∃ zs, SqL X.K H1 a zs) ∧ R (Itl X.K a) H1 ∨ (∃ zs, SqT X.K H1 a zs) ∧ R (Itt X.K a) H1) := fun d ed od => by
      obtain ⟨G2, a2, s2, rd, _⟩ := rx.data a1 ed
      rcases od with rfl | rfl
      · obtain ⟨a, us, rfl, h1, h2, h3⟩ := RdD.list_inv rd
        exact ⟨a, rfl, .inl ⟨⟨us, .inl (.inl (a2.w.gh _ _ h1))⟩, c.val _ q _ G2 H1 a2 (itl_d h2 fun G' H' ad => ⟨ad.f.2, ad.f.2.gh _ _ (ad.f.1 _ _ h1), RdAll.mono ad.f.1 _ _ h3⟩)⟩⟩
      · obtain ⟨a, us, rfl, h1, h2, h3⟩ := RdD.tuple_inv rd
        exact ⟨a, rfl, .inr ⟨⟨us, sqT_mono a2.w.gh h1⟩, c.val _ q _ G2 H1 a2 (itt_d h2 fun G' H' ad => ⟨ad.f.2, sqT_mono ad.f.2.gh (sqT_mono ad.f.1 h1), RdAll.mono ad.f.1 _ _ h3⟩)⟩⟩
    unfold walkOf at e
    split at e
    · rename_i eb
      cases x with
      | d y =>
        cases y with
        | list ys => cases e; exact frz _ rfl (.inl rfl)
        | tuple ys => cases e; exact frz _ rfl (.inr rfl)
        | _ => cases e
      | own ys => cases e; exact frz _ rfl (.inl rfl)
      | bor ys =>
        cases e
        obtain ⟨a, us, o⟩ := rx.1
        rw [o.e]
        refine ⟨a, rfl, .inl ⟨⟨us, .inl (.inl o.h)⟩, c.val _ q _ G1 H1 a1 (itl_d (vs := us) o.l fun G' H' ad => ?_)⟩⟩
        have ad' : Gr Z G1 H1 G' H' := by unfold Adm at ad; rw [if_pos eb] at ad; exact ad
        exact ⟨ad'.w, (o.gr ad').h, (o.gr ad').r⟩
      | st => cases e
    · split at e
      · rename_i xs' e2; cases e; exact frz _ e2 (.inl rfl)
      · rename_i xs' e2; cases e; exact frz _ e2 (.inr rfl)
      · cases e
  · exact q.elim
def rngL (lo : Int) (n : Nat) : List PyData := (List.range n).map fun (i : Nat) => .int (lo + i)
theorem rngL_len (lo : Int) (n : Nat) : (rngL lo n).length = n := by unfold rngL; rw [List.length_map, List.length_range]
theorem itr_d {K : PySem.W.Frag} {Z : Zs} {A : Hp → Hp → Prop} {lo : Int} {n : Nat} (hl : n ≤ sizeLine) (h : ∀ G H, A G H → WO Z G H) : ItD K Z (Itr lo n) A (rngL lo n) := by
  refine ⟨by rw [rngL_len]; exact hl, fun G H ad => ?_, fun i x G H ad e => ?_⟩
  · show n ≤ (rngL lo n).length
    rw [rngL_len]
    exact Nat.le_refl _
  · have hi : i < n := by
      have := (List.getElem?_eq_some_iff.mp e).1
      rw [rngL_len] at this
      exact this
    refine ⟨hi, fun v H' y => ?_⟩
    obtain ⟨rfl, rfl⟩ := y
    unfold rngL at e
    rw [List.getElem?_map, List.getElem?_range hi] at e
    cases e
    exact ⟨G, Gr.refl (h G _ ad), .int _⟩
def dRng1 (fa : WE) : WI := fun ρ => M.bind (fa ρ) fun x P => match intOf x with
  | some j => (-(2 ^ 62) ≤ j ∧ j < 2 ^ 62 ∧ j.toNat ≤ sizeLine) ∧ P (.val (rngL 0 j.toNat))
  | none => False
def dRng2 (fa fb : WE) : WI := fun ρ => M.bind (fa ρ) fun x => M.bind (fb ρ) fun y P => match intOf x, intOf y with
  | some i, some j => ((-(2 ^ 62) ≤ i ∧ i < 2 ^ 62) ∧ (-(2 ^ 62) ≤ j ∧ j < 2 ^ 62) ∧ (j - i).toNat ≤ sizeLine) ∧ P (.val (rngL i (j - i).toNat))
  | _, _ => False
variable {fb : WE}
theorem di_rng1 (b : Bool) {a : Expr} (hg : Gl X "range") (hm : X.mg "range" = none) (ha : DE X E a fa) (hs : starEach [a] X.env = [(false, eval a X.env)] := by rfl) (hs' : starEach [a] X.env = (false, eval a X.env) :: starEach [] X.env := by rfl) :
    DI b X E tg (.Call (.Name "range" p) [a] [] pos) (dRng1 fa) := by
  refine pi_imp (pi_range1 hg hm (pa_cons ha pa_nil hs') hs) fun σ H R ⟨Z, G, ρ, P, w, v, f, c⟩ => ?_
  refine one_ok w v f c.exn fun x vx G1 H1 a1 rx q => ?_
  split at q
  · rename_i j e
    exact ⟨j, by rw [int_of rx.1 e], q.1.1, q.1.2.1, c.val _ q.2 _ G1 H1 a1 (itr_d q.1.2.2 fun G' H' ad => ad.f.2)⟩
  · exact q.elim
theorem di_rng2 (b : Bool) {a a2 : Expr} (hg : Gl X "range") (hm : X.mg "range" = none) (ha : DE X E a fa) (hb : DE X E a2 fb) (hs : starEach [a, a2] X.env = [(false, eval a X.env), (false, eval a2 X.env)] := by rfl) (hs2 : starEach [a2] X.env = [(false, eval a2 X.env)] := by rfl)
    (hs' : starEach [a, a2] X.env = (false, eval a X.env) :: starEach [a2] X.env := by rfl) (hs2' : starEach [a2] X.env = (false, eval a2 X.env) :: starEach [] X.env := by rfl) :
    DI b X E tg (.Call (.Name "range" p) [a, a2] [] pos) (dRng2 fa fb) := by
  refine pi_imp (pi_range2 hg hm (pa_cons ha (pa_cons hb pa_nil hs2') hs') hs hs2) fun σ H R ⟨Z, G, ρ, P, w, v, f, c⟩ => ?_
  refine one_ok w v f c.exn fun x vx G1 H1 a1 rx q => ?_
  refine one_ok a1.w (v.gr a1) q (fun x p cls d G' H' a2 r => c.exn x p cls d G' H' (a1.trans a2) r) fun y vy G2 H2 a2 ry q => ?_
  split at q
  · rename_i i j e1 e2
    exact ⟨i, j, by rw [int_of (rx.1.gr a2) e1, int_of ry.1 e2], ⟨q.1.1.1, q.1.1.2, q.1.2.1.1, q.1.2.1.2⟩, c.val _ q.2 _ G2 H2 (a1.trans a2) (itr_d q.1.2.2 fun G' H' ad => ad.f.2)⟩
  · exact q.elim
end
/-! ### list comprehensions -/
/-- a turn after another: the slots behind, the test, the element -/
def lcL (t : Tg) (ft : WT) (fe : WE) (ρ : SEnv) : List PyData → (List PyData → Prop) → Prop
  | [], P => P []
  | x :: xs, P => match asg t x ρ with
    | some ρ1 => ft ρ1 fun o => match o with
      | .val true => fe ρ1 fun o => match o with
        | .val r => match conv r with
          | some y => lcL t ft fe ρ xs fun ys => P (y :: ys)
          | none => False
        | .exn _ => False
      | .val false => lcL t ft fe ρ xs P
      | .exn _ => False
    | none => False
def dLc (fi : WI) (t : Tg) (ft : WT) (fe : WE) (vs : List Nat) : WE := fun ρ => M.bind (fi ρ) fun ds P => lcL t ft fe (wipeD ρ vs) ds fun ys => P (.val (.own ys))
def dYes : WT := fun _ => M.pure true
theorem Gr.upd {Z : Zs} {G H G1 H1 : Hp} (a : Gr Z G H G1 H1) {p : Addr} {o : HO} (n : H p = Option.none) (g : G1 p = Option.none) (z : offZ Z p) : Gr Z G H G1 (upd H1 p o) := by
  refine ⟨a.g, fun b u zb e => ?_, a.nw, ⟨fun b u e => ?_, fun x y e => ?_⟩⟩
  · rw [upd_ne (ne_of_none e n)]; exact a.h b u zb e
  · rw [upd_ne (ne_of_none e g)]; exact a.w.gh b u e
  · obtain ⟨h1, h2, h3, m, cs, h4, h5, h6⟩ := a.w.z x y e
    obtain ⟨z1, z2⟩ := z x y e
    exact ⟨h1, h2, h3, m, cs, by rw [upd_ne (Ne.symm z1)]; exact h4, by rw [upd_ne (Ne.symm z2)]; exact h5, h6⟩
section
variable {K : PySem.W.Frag} {mg : Str → Option Value} {E : Sl → XK}
/-- the walk of a comprehension keeps what its data say -/
theorem lc_ok {fi : WI} {t : Tg} {ft : WT} {fe : WE} {vs : List Nat} (hv : slotsIn vs t = true) {tt : TT} {te : TE} (ht : ∀ σ H Q, tT K mg (fun _ => E0) ft σ H Q → tt σ H Q) (he : ∀ σ H Q, tE K mg (fun _ => E0) fe σ H Q → te σ H Q)
    {σ : Sl} {H : Hp} {Q : VK} (h : tE K mg E (dLc fi t ft fe vs) σ H Q) : tLc (tI true K mg E fi) (gOf K t) tt te vs σ H Q := by
  obtain ⟨Z, G, ρ, P, w, v, f, c⟩ := h
  refine ⟨Z, G, ρ, _, w, v, f, ⟨fun ds q J G1 H1 a1 it => ?_, fun x p cls d G' H' a2 r => c.exn x p cls d G' H' a2 r⟩⟩
  have v1 := (v.gr a1).wipe vs
  intro D nD
  have zD : offZ Z D := offZ_new a1.w nD
  refine ⟨fun i m Hc => ∃ Gc acc accD Pc, m = ds.length - i ∧ i ≤ ds.length ∧ Gr Z G1 H1 Gc Hc ∧ Gc D = none ∧ Hc D = some (.lst acc) ∧ RdAll K Gc acc accD ∧ accD.length ≤ i ∧ lcL t ft fe (wipeD ρ vs) (ds.drop i) Pc ∧ ∀ ys, Pc ys → P (.val (.own (accD ++ ys))),
    ⟨ds.length, G1, [], [], _, rfl, Nat.zero_le _, Gr.new a1.w nD, none_g a1.w nD, upd_same, .nil, Nat.le_refl _, q, fun ys h => h⟩, ?_⟩
  rintro i m Hc ⟨Gc, acc, accD, Pc, rfl, hi, ac, gD, hD, rd, la, lq, pc⟩
  by_cases hlt : i < ds.length
  · obtain ⟨x, xs, e⟩ : ∃ x xs, ds.drop i = x :: xs := ⟨_, _, List.drop_eq_getElem_cons hlt⟩
    have ex : ds[i]? = some x := by
      have := congrArg List.head? e
      rw [List.head?_drop] at this
      exact this
    have exs : ds.drop (i + 1) = xs := by
      have := congrArg List.tail e
      rw [List.tail_drop] at this
      exact this
    have adm : Adm true Z G1 H1 Gc Hc := ac
    obtain ⟨hgo, hy⟩ := it.go i x Gc Hc adm ex
    rw [e] at lq
    unfold lcL at lq
    split at lq
    · rename_i ρ1 e1
      refine .inr ⟨hgo, fun H' => ∃ Gc acc accD Pc, i + 1 ≤ ds.length ∧ Gr Z G1 H1 Gc H' ∧ Gc D = none ∧ H' D = some (.lst acc) ∧ RdAll K Gc acc accD ∧ accD.length ≤ i + 1 ∧ lcL t ft fe (wipeD ρ vs) (ds.drop (i + 1)) Pc ∧ ∀ ys, Pc ys → P (.val (.own (accD ++ ys))),
        fun H' ⟨G', acc', accD', Pc', h1, h2⟩ => ⟨ds.length - (i + 1), by omega, G', acc', accD', Pc', rfl, h1, h2⟩, fun u H' yl => ?_⟩
      obtain ⟨G2, a2, r2⟩ := hy u H' yl
      have ac2 := ac.trans a2
      obtain ⟨σ1, p1, _, p3, p4⟩ := gOf_ok t u x _ _ ρ1 a2.w (v1.gr ac2) r2 e1
      refine p4 _ ⟨p3 vs hv |>.trans (wipe_sub fun _ h => h) |>.trans (Eq.refl _), ht _ _ _ ⟨Z, G2, ρ1, _, a2.w, p1, lq, ⟨fun k hk G3 H3 a3 => ?_, fun x hx => hx.elim⟩⟩⟩
      have ac3 := ac2.trans a3
      have kD : ∀ {G' H'}, Gr Z Gc Hc G' H' → G' D = none ∧ H' D = some (.lst acc) := fun {G' H'} a => ⟨a.nw D (by rw [hD]; exact fun z => nomatch z) gD, a.h D _ zD hD⟩
      cases k with
      | true =>
        rw [if_pos rfl]
        refine he _ _ _ ⟨Z, G3, ρ1, _, a3.w, p1.gr a3, hk, ⟨fun r hr vy G4 H4 a4 ry => ?_, fun x hx => hx.elim⟩⟩
        change (match conv r with
          | some y => lcL t ft fe (wipeD ρ vs) xs fun ys => Pc (y :: ys)
          | none => False) at hr
        split at hr
        · rename_i y ey
          obtain ⟨G5, a5, s5, r5, _⟩ := ry.data a4 ey
          have a25 := a2.trans (a3.trans a5)
          obtain ⟨g5, h5⟩ := kD a25
          refine ⟨acc, h5, ?_, G5, acc ++ [vy], accD ++ [y], fun ys => Pc (y :: ys), hlt, (ac.trans a25).upd nD g5 zD, g5, upd_same, (RdAll.mono a25.g _ _ rd).append (.cons r5 .nil), ?_, ?_, fun ys h => ?_⟩
          · rw [rd.length]
            have := it.len
            omega
          · rw [List.length_append, List.length_singleton]; omega
          · rw [exs]; exact hr
          · rw [List.append_assoc]; exact pc _ h
        · exact hr.elim
      | false =>
        rw [if_neg Bool.false_ne_true]
        have a23 := a2.trans a3
        obtain ⟨g3, h3⟩ := kD a23
        exact ⟨G3, acc, accD, Pc, hlt, ac3, g3, h3, RdAll.mono a23.g _ _ rd, Nat.le_succ_of_le la, by rw [exs]; exact hk, pc⟩
    · exact lq.elim
  · have ei : i = ds.length := by omega
    subst ei
    refine .inl ⟨it.stop Gc Hc (show Gr Z G1 H1 Gc Hc from ac), ?_⟩
    rw [List.drop_length] at lq
    have q2 := pc [] lq
    rw [List.append_nil] at q2
    exact c.val _ q2 _ Gc Hc (a1.trans ac) ⟨⟨D, acc, rfl, zD, gD, hD, Nat.le_trans la it.len, rd⟩, fun ys p _ e2 => by cases e2; exact a1.none nD⟩
end
section
variable {X : Cx} {E : Sl → XK} {pos p : Pos} {elt tg iter cnd : Expr} {scope : Scope} {own : List (Str × Nat)} {fi : WI} {t : Tg} {ft : WT} {fe : WE}
theorem de_lc0 (hc : X.calm = true) (hN : X.N.Nodup) (hi : DI true X E tg iter fi) (ok : BlkOk X.N X.env.scope scope own) (hv : slotsIn (own.map (·.2)) t = true)
    (hg : ∀ (s : Shared) (H : Hp) (C : Addr) (cl : List (Str × Addr)) (fp : List Addr), PG (X.blk s H scope (compEnvC scope cl C X.env) fp) tg (gOf X.K t))
    (he : ∀ (s : Shared) (H : Hp) (C : Addr) (cl : List (Str × Addr)) (fp : List Addr), DE (X.blk s H scope (compEnvC scope cl C X.env) fp) (fun _ => E0) elt fe) (hs : ∀ x, foldedSetIterable iter X.env x = pure x := by intro _; rfl) :
    DE X E (.ListComp elt [⟨tg, iter, [], 0⟩] scope pos) (dLc fi t dYes fe (own.map (·.2))) :=
  pe_imp (pe_lc hc hN hi ok hg (fun _ _ _ _ _ => pts_nil) he hs) fun σ H Q h => lc_ok hv (fun σ H Q ⟨Z, G, ρ, P, w, v, f, c⟩ => c.val _ f G H (Gr.refl w)) (fun _ _ _ h => h) h
theorem de_lc1 (hc : X.calm = true) (hN : X.N.Nodup) (hi : DI true X E tg iter fi) (ok : BlkOk X.N X.env.scope scope own) (hv : slotsIn (own.map (·.2)) t = true)
    (hg : ∀ (s : Shared) (H : Hp) (C : Addr) (cl : List (Str × Addr)) (fp : List Addr), PG (X.blk s H scope (compEnvC scope cl C X.env) fp) tg (gOf X.K t))
    (ht : ∀ (s : Shared) (H : Hp) (C : Addr) (cl : List (Str × Addr)) (fp : List Addr), DT (X.blk s H scope (compEnvC scope cl C X.env) fp) (fun _ => E0) cnd ft)
    (he : ∀ (s : Shared) (H : Hp) (C : Addr) (cl : List (Str × Addr)) (fp : List Addr), DE (X.blk s H scope (compEnvC scope cl C X.env) fp) (fun _ => E0) elt fe) (hs : ∀ x, foldedSetIterable iter X.env x = pure x := by intro _; rfl) :
    DE X E (.ListComp elt [⟨tg, iter, [cnd], 0⟩] scope pos) (dLc fi t ft fe (own.map (·.2))) :=
  pe_imp (pe_lc hc hN hi ok hg (fun s H C cl fp => pts_one (ht s H C cl fp)) he hs) fun σ H Q h => lc_ok hv (fun _ _ _ h => h) (fun _ _ _ h => h) h
end
end Pw
end

section
set_option Elab.async false
set_option linter.all false
set_option maxRecDepth 100000
set_option maxHeartbeats 4000000
/-! Pw7: statements by value. -/
namespace Pw
open PySem PySem.Spec L2

/-- within a def's body: G0, H0 stood at its entry -/
structure SI (K : PySem.W.Frag) (Z : Zs) (G0 H0 G H : Hp) (σ : Sl) (ρ : SEnv) : Prop where
  gr : Gr Z G0 H0 G H
  rv : RV K Z G H σ ρ
  fr : ∀ (i : Nat) (xs : List PyData) (p : Addr), ρ[i]? = some (some (.own xs)) → σ[i]? = some (some (.ref p)) → H0 p = none
structure CovS (K : PySem.W.Frag) (mg : Str → Option Value) (Z : Zs) (G0 H0 Gs : Hp) (D : Ends) (E : Sl → XK) (P : Fl → Prop) : Prop where
  nx : ∀ ρ, P (.nx ρ) → ∀ σ G H, SI K Z G0 H0 G H σ ρ → Same Gs G → D.nx σ H
  bk : ∀ ρ, P (.bk ρ) → ∀ σ G H, SI K Z G0 H0 G H σ ρ → Same Gs G → D.bk σ H
  ct : ∀ ρ, P (.ct ρ) → ∀ σ G H, SI K Z G0 H0 G H σ ρ → Same Gs G → D.ct σ H
  rt : ∀ r, P (.rt r) → ∀ v G H, Gr Z G0 H0 G H → RdF K Z H0 G H v r → D.rt v H
  ex : ∀ x ρ, P (.ex x ρ) → ∀ cls d σ G H, SI K Z G0 H0 G H σ ρ → ExR K mg x cls d G H → E σ cls d H
def tS (K : PySem.W.Frag) (mg : Str → Option Value) (E : Sl → XK) (f : WS) : TS := fun D σ H => ∃ Z G0 H0 G ρ P, SI K Z G0 H0 G H σ ρ ∧ f ρ P ∧ CovS K mg Z G0 H0 G D E P
abbrev DS (X : Cx) (E : Sl → XK) (st : Stmt) (f : WS) : Prop := PS X st (tS X.K X.mg E f)
abbrev DSs (X : Cx) (E : Sl → XK) (st : List Stmt) (f : WS) : Prop := PSs X st (tS X.K X.mg E f)
/-- a value, then what follows -/
def eW (fa : WE) (k : SV → WS) : WS := fun ρ P => fa ρ fun o => match o with
  | .val r => k r ρ P
  | .exn x => P (.ex x ρ)
def bW (ft : WT) (k : Bool → WS) : WS := fun ρ P => ft ρ fun o => match o with
  | .val r => k r ρ P
  | .exn x => P (.ex x ρ)
def lW (fa : WA) (k : List SV → WS) : WS := fun ρ P => fa ρ fun o => match o with
  | .val r => k r ρ P
  | .exn x => P (.ex x ρ)
section
variable {K : PySem.W.Frag} {mg : Str → Option Value} {Z : Zs} {G0 H0 G H G1 H1 : Hp} {σ : Sl} {ρ : SEnv} {E : Sl → XK} {D : Ends} {P : Fl → Prop}
theorem SI.up (s : SI K Z G0 H0 G H σ ρ) (a : Gr Z G H G1 H1) : SI K Z G0 H0 G1 H1 σ ρ := ⟨s.gr.trans a, s.rv.gr a, s.fr⟩
theorem e_ok {fa : WE} {k : SV → WS} {R : V → Hp → Prop} (s : SI K Z G0 H0 G H σ ρ) (f : eW fa k ρ P) (c : CovS K mg Z G0 H0 G D E P)
    (h : ∀ r v G1 H1, Gr Z G H G1 H1 → SI K Z G0 H0 G1 H1 σ ρ → RdF K Z H G1 H1 v r → k r ρ P → R v H1) : tE K mg E fa σ H R :=
  ⟨Z, G, ρ, _, s.gr.w, s.rv, f, ⟨fun r q v G1 H1 a rf => h r v G1 H1 a (s.up a) rf q, fun x q cls d G1 H1 a r => c.ex x ρ q cls d σ G1 H1 (s.up a) r⟩⟩
theorem b_ok {fa : WT} {k : Bool → WS} {R : Bool → Hp → Prop} (s : SI K Z G0 H0 G H σ ρ) (f : bW fa k ρ P) (c : CovS K mg Z G0 H0 G D E P)
    (h : ∀ r G1 H1, SI K Z G0 H0 G1 H1 σ ρ → k r ρ P → R r H1) : tT K mg E fa σ H R :=
  ⟨Z, G, ρ, _, s.gr.w, s.rv, f, ⟨fun r q G1 H1 a => h r G1 H1 (s.up a) q, fun x q cls d G1 H1 a r => c.ex x ρ q cls d σ G1 H1 (s.up a) r⟩⟩
theorem l_ok {fa : WA} {k : List SV → WS} {R : List V → Hp → Prop} (s : SI K Z G0 H0 G H σ ρ) (f : lW fa k ρ P) (c : CovS K mg Z G0 H0 G D E P)
    (h : ∀ r v G1 H1, Gr Z G H G1 H1 → SI K Z G0 H0 G1 H1 σ ρ → RdL K Z H G1 H1 v r → k r ρ P → R v H1) : tA K mg E fa σ H R :=
  ⟨Z, G, ρ, _, s.gr.w, s.rv, f, ⟨fun r q v G1 H1 a rf => h r v G1 H1 a (s.up a) rf q, fun x q cls d G1 H1 a r => c.ex x ρ q cls d σ G1 H1 (s.up a) r⟩⟩
/-- data goes into a slot -/
theorem SI.put (s : SI K Z G0 H0 G H σ ρ) {i : Nat} {v : V} {x : SV} (h : RdV K Z G H v x) (no : isPlain x = true) : SI K Z G0 H0 G H (σ.set i (some v)) (ρ.set i (some x)) := by
  obtain ⟨r1, r2⟩ := s.rv.put (i := i) h no
  exact ⟨s.gr, r1, fun j xs p e1 e2 => let ⟨q1, q2⟩ := r2 j xs _ e1 e2; s.fr j xs p q1 q2⟩
/-- .. a new own list -/
theorem SI.putO (s : SI K Z G0 H0 G H σ ρ) (s1 : SI K Z G0 H0 G1 H1 σ ρ) {i : Nat} {v : V} {xs : List PyData} (h : RdF K Z H G1 H1 v (.own xs)) : SI K Z G0 H0 G1 H1 (σ.set i (some v)) (ρ.set i (some (.own xs))) := by
  obtain ⟨⟨p, us, o⟩, f⟩ := h
  have n := f xs p rfl o.e
  refine ⟨s1.gr, s1.rv.putO ⟨p, us, o⟩ fun j ys ji e1 e2 => ?_, fun j ys q e1 e2 => ?_⟩
  · obtain ⟨u, e3, r⟩ := s.rv.get j _ e1
    rw [e3] at e2
    cases e2
    obtain ⟨p', us', o'⟩ := r
    have e := o.e.symm.trans o'.e
    cases e
    have z := o'.h
    rw [n] at z
    cases z
  · rcases set_get e1 with ⟨rfl, z⟩ | ⟨ne, z⟩
    · cases z
      have hl : j < σ.length := by
        by_cases hl : j < σ.length
        · exact hl
        · rw [List.getElem?_eq_none (by simpa using hl)] at e2; cases e2
      rw [List.getElem?_set_self hl] at e2
      have e3 : v = .ref q := Option.some.inj (Option.some.inj e2)
      exact s.gr.none (f xs q rfl e3)
    · rw [List.getElem?_set_ne (Ne.symm ne)] at e2
      exact s.fr j ys q z e2
/-- the own list of a slot is changed -/
theorem SI.chg (s : SI K Z G0 H0 G H σ ρ) {i : Nat} {xs ys : List PyData} {p : Addr} {us ws : List V} (e1 : ρ[i]? = some (some (.own xs))) (e2 : σ[i]? = some (some (.ref p))) (o : OwnAt K Z G H (.ref p) xs p us) (l : ys.length ≤ sizeLine) (r : RdAll K G ws ys) :
    SI K Z G0 H0 G (upd H p (.lst ws)) σ (ρ.set i (some (.own ys))) := by
  have n := s.fr i xs p e1 e2
  have hl : i < ρ.length := (List.getElem?_eq_some_iff.mp e1).1
  refine ⟨s.gr.upd n o.g o.z, ⟨fun j x e => ?_, fun j k as bs u jk h1 h2 h3 h4 => ?_, by simp [s.rv.ln], fun j as e => ?_⟩, fun j as q h1 h2 => ?_⟩
  · rcases set_get e with ⟨rfl, z⟩ | ⟨ne, z⟩
    · cases z
      exact ⟨_, e2, p, ws, rfl, o.z, o.g, upd_same, l, r⟩
    · obtain ⟨v, h1, h2⟩ := s.rv.get j x z
      refine ⟨v, h1, ?_⟩
      have oth : ∀ (as : List PyData) (q : Addr) (vs : List V), x = .own as → OwnAt K Z G H v as q vs → OwnAt K Z G (upd H p (.lst ws)) v as q vs := fun as q vs ex oq => by
        refine ⟨oq.e, oq.z, oq.g, ?_, oq.l, oq.r⟩
        rw [upd_ne]
        · exact oq.h
        · intro qp
          subst ex
          rw [oq.e, qp] at h1
          exact s.rv.ne j i as xs _ ne z e1 h1 e2
      cases x with
      | d y => exact h2
      | own as => obtain ⟨q, vs, oq⟩ := h2; exact ⟨q, vs, oth as q vs rfl oq⟩
      | bor as => exact absurd z (s.rv.nb j as)
      | st => exact h2
  · rcases set_get h1 with ⟨rfl, z1⟩ | ⟨n1, z1⟩
    · rcases set_get h2 with ⟨rfl, z2⟩ | ⟨n2, z2⟩
      · exact jk rfl
      · exact s.rv.ne j k xs bs u jk e1 z2 h3 h4
    · rcases set_get h2 with ⟨rfl, z2⟩ | ⟨n2, z2⟩
      · exact s.rv.ne j k as xs u jk z1 e1 h3 h4
      · exact s.rv.ne j k as bs u jk z1 z2 h3 h4
  · rcases set_get e with ⟨rfl, z1⟩ | ⟨n1, z1⟩
    · cases z1
    · exact s.rv.nb j as z1
  · rcases set_get h1 with ⟨rfl, z1⟩ | ⟨n1, z1⟩
    · rw [e2] at h2; cases h2; exact n
    · exact s.fr j as q z1 h2
end
end Pw
end

section
set_option Elab.async false
set_option linter.all false
set_option maxRecDepth 100000
set_option maxHeartbeats 4000000
/-! Pw8: the rules for statements. -/
namespace Pw
open PySem PySem.Spec L2
def skipW : WS := fun ρ P => P (.nx ρ)
def seqW (f g : WS) : WS := fun ρ P => f ρ fun fl => match fl with
  | .nx ρ' => g ρ' P
  | .rt r => P (.rt r)
  | .bk ρ' => P (.bk ρ')
  | .ct ρ' => P (.ct ρ')
  | .ex x ρ' => P (.ex x ρ')
def brkW : WS := fun ρ P => P (.bk ρ)
def cntW : WS := fun ρ P => P (.ct ρ)
def exprW (fa : WE) : WS := eW fa fun _ ρ P => P (.nx ρ)
def retW (fa : WE) : WS := eW fa fun r _ P => P (.rt r)
def retN : WS := fun _ P => P (.rt (.d .none))
/-- an own list is handed back -/
def retO (i : Nat) : WS := fun ρ P => match ρ[i]? with
  | some (some r) => P (.rt r)
  | _ => False
def ifW (ft : WT) (f g : WS) : WS := bW ft fun k ρ P => if k = true then f ρ P else g ρ P
inductive Tm where
  | dat (t : Tg)
  | ow (i : Nat)
def putT (m : Tm) (r : SV) (ρ : SEnv) : Option SEnv := match m with
  | .dat t => (match conv r with
    | some x => asg t x ρ
    | none => none)
  | .ow i => (match r with
    | .own xs => some (ρ.set i (some (.own xs)))
    | _ => none)
def putTs : List Tm → List SV → SEnv → Option SEnv
  | [], [], ρ => some ρ
  | t :: ts, r :: rs, ρ => match putT t r ρ with
    | some ρ' => putTs ts rs ρ'
    | none => none
  | _, _, _ => none
def setW (m : Tm) (fa : WE) : WS := eW fa fun r ρ P => match putT m r ρ with
  | some ρ' => P (.nx ρ')
  | none => False
def parW (ms : List Tm) (fs : WA) : WS := lW fs fun rs ρ P => match putTs ms rs ρ with
  | some ρ' => P (.nx ρ')
  | none => False
def gOfM (K : PySem.W.Frag) : Tm → TG
  | .dat t => gOf K t
  | .ow i => gName i
def gsOfM (K : PySem.W.Frag) : List Tm → TGs
  | [] => gNil
  | t :: ts => gCons (gOfM K t) (gsOfM K ts)
def frzW (i : Nat) (f : WS) : WS := fun ρ P => match ρ[i]? with
  | some (some (.own xs)) => f (ρ.set i (some (.d (.list xs)))) P
  | _ => f ρ P
def whileN (ft : WT) (b : WS) : Nat → WS
  | 0 => fun _ _ => False
  | n + 1 => bW ft fun k ρ P => if k = true then b ρ (fun fl => match fl with
    | .nx ρ' => whileN ft b n ρ' P
    | .ct ρ' => whileN ft b n ρ' P
    | .bk ρ' => P (.nx ρ')
    | .rt r => P (.rt r)
    | .ex x ρ' => P (.ex x ρ')) else P (.nx ρ)
def whileW (ft : WT) (b : WS) : WS := fun ρ P => ∃ n, whileN ft b n ρ P
def forL (t : Tg) (b : WS) : List PyData → WS
  | [] => fun ρ P => P (.nx ρ)
  | x :: xs => fun ρ P => match asg t x ρ with
    | some ρ1 => b ρ1 fun fl => match fl with
      | .nx ρ' => forL t b xs ρ' P
      | .ct ρ' => forL t b xs ρ' P
      | .bk ρ' => P (.nx ρ')
      | .rt r => P (.rt r)
      | .ex x ρ' => P (.ex x ρ')
    | none => False
def forW (fi : WI) (t : Tg) (b : WS) : WS := fun ρ P => fi ρ fun o => match o with
  | .val ds => forL t b ds ρ P
  | .exn x => P (.ex x ρ)
/-- the own list of slot i, changed -/
def ownW (i : Nat) (k : List PyData → (List PyData → Prop) → Prop) : WS := fun ρ P => match ρ[i]? with
  | some (some (.own xs)) => k xs fun ys => P (.nx (ρ.set i (some (.own ys))))
  | _ => False
def isOwn (ρ : SEnv) (i : Nat) : Bool := match ρ[i]? with
  | some (some (.own _)) => true
  | _ => false
def appW (i : Nat) (fa : WE) : WS := fun ρ P => isOwn ρ i = true ∧ eW fa (fun r => match conv r with
  | some x => ownW i fun xs Q => xs.length < sizeLine ∧ Q (xs ++ [x])
  | none => fun _ _ => False) ρ P
def extW (i : Nat) (fa : WE) : WS := fun ρ P => isOwn ρ i = true ∧ eW fa (fun r => match lstOf r with
  | some zs => ownW i fun xs Q => xs.length + zs.length ≤ sizeLine ∧ Q (xs ++ zs)
  | none => fun _ _ => False) ρ P
/-- own[e] = v: the value is reckoned first -/
def stoW (i : Nat) (fv fe : WE) : WS := eW fv fun r => eW fe fun ix => match conv r, intOf ix with
  | some x, some k => ownW i fun xs Q => ∃ j, ixN xs.length k = some j ∧ Q (xs.set j x)
  | _, _ => fun _ _ => False
/-- y = own.pop() -/
def popW (j i : Nat) : WS := fun ρ P => match ρ[i]? with
  | some (some (.own xs)) => ∃ x, xs[xs.length - 1]? = some x ∧ P (.nx ((ρ.set i (some (.own xs.dropLast))).set j (some (.d x))))
  | _ => False
/-- own.pop() -/
def popE (i : Nat) : WS := ownW i fun xs Q => (∃ x, xs[xs.length - 1]? = some x) ∧ Q xs.dropLast
def augW (i : Nat) (op : Op2) (fa : WE) : WS := fun ρ P => match getS ρ i with
  | some x => eW fa (fun y ρ P => op x y fun r => match conv r with
    | some d => P (.nx (ρ.set i (some (.d d))))
    | none => False) ρ P
  | none => False

section
variable {K : PySem.W.Frag} {mg : Str → Option Value} {Z : Zs} {G0 H0 G H G1 H1 : Hp} {σ : Sl} {ρ : SEnv} {E : Sl → XK} {D : Ends} {P : Fl → Prop}
/-- a target takes a value that came of an expression -/
theorem put_ok {m : Tm} {v : V} {r : SV} {ρ' : SEnv} (s : SI K Z G0 H0 G H σ ρ) (a : Gr Z G H G1 H1) (h : RdF K Z H G1 H1 v r) (e : putT m r ρ = some ρ') :
    ∃ G2 σ', SI K Z G0 H0 G2 H1 σ' ρ' ∧ Same G G2 ∧ ∀ Q : Sl → Hp → Prop, Q σ' H1 → gOfM K m v σ H1 Q := by
  cases m with
  | dat t =>
    change (match conv r with
      | some x => asg t x ρ
      | none => none) = some ρ' at e
    split at e
    · rename_i x ex
      obtain ⟨G2, a2, s2, rd, _⟩ := h.data a ex
      have si := s.up a2
      obtain ⟨σ', p1, p2, _, p4⟩ := gOf_ok t v x σ ρ ρ' a2.w si.rv rd e
      refine ⟨G2, σ', ⟨si.gr, p1, fun i xs p e1 e2 => ?_⟩, a2.g, p4⟩
      obtain ⟨q1, q2⟩ := p2 i xs _ e1 e2
      exact si.fr i xs p q1 q2
    · cases e
  | ow i =>
    cases r with
    | own xs => cases e; exact ⟨G1, _, s.putO (s.up a) h, a.g, fun Q q => q⟩
    | d _ => cases e
    | bor _ => cases e
    | st => cases e
/-- the remaining own ones -/
def Avoid (σ : Sl) (ρ : SEnv) (vs : List V) (rs : List SV) : Prop := ∀ (i j : Nat) (xs ys : List PyData) (p : Addr), ρ[i]? = some (some (.own xs)) → σ[i]? = some (some (.ref p)) → rs[j]? = some (.own ys) → vs[j]? ≠ some (.ref p)
theorem putTs_nb : ∀ {ms : List Tm} {rs : List SV} {ρ ρ' : SEnv}, putTs ms rs ρ = some ρ' → ∀ r ∈ rs, isBor r = false
  | [], [], _, _, _, _, h => by simp at h
  | m :: ms, r :: rs, ρ, ρ', e, x, h => by
    unfold putTs at e
    split at e
    · rename_i ρ1 e1
      rcases List.mem_cons.mp h with rfl | h
      · cases x with
        | bor _ => cases m <;> cases e1
        | _ => rfl
      · exact putTs_nb e x h
    · cases e
  | [], _ :: _, _, _, e, _, _ => by unfold putTs at e; cases e
  | _ :: _, [], _, _, e, _, _ => by unfold putTs at e; cases e
theorem puts_ok : ∀ {ms : List Tm} {vs : List V} {rs : List SV} {σ : Sl} {ρ ρ' : SEnv} {G1 : Hp}, SI K Z G0 H0 G1 H1 σ ρ → Same G G1 → RdL K Z H G1 H1 vs rs → Avoid σ ρ vs rs → (∀ a, H0 a ≠ none → H a ≠ none) → putTs ms rs ρ = some ρ' →
    ∃ G2 σ', SI K Z G0 H0 G2 H1 σ' ρ' ∧ Same G G2 ∧ (∀ Q : Sl → Hp → Prop, Q σ' H1 → gsOfM K ms vs σ H1 Q) ∧ vs.length = ms.length
  | [], vs, [], σ, ρ, ρ', G1, s, g, rl, av, hh, e => by
    unfold putTs at e
    cases e
    cases rl
    exact ⟨G1, σ, s, g, fun Q q => ⟨rfl, q⟩, rfl⟩
  | m :: ms, _, r :: rs, σ, ρ, ρ', G1, s, g, rl, av, hh, e => by
    unfold putTs at e
    split at e
    · rename_i ρ1 e1
      cases rl with
      | @cons v _ vs _ h n t =>
        have step : ∃ G2 σ1, SI K Z G0 H0 G2 H1 σ1 ρ1 ∧ Same G1 G2 ∧ (∀ Q : Sl → Hp → Prop, Q σ1 H1 → gOfM K m v σ H1 Q) ∧ Avoid σ1 ρ1 vs rs ∧ (∀ b, G2 b ≠ none → G1 b = none → ∃ xs, r = .own xs ∧ v = .ref b) := by
          cases m with
          | dat t =>
            change (match conv r with
              | some x => asg t x ρ
              | none => none) = some ρ1 at e1
            split at e1
            · rename_i x ex
              -- frozen at the heap that stands
              obtain ⟨G2, s2, si, rd, fz⟩ : ∃ G2, Same G1 G2 ∧ SI K Z G0 H0 G2 H1 σ ρ ∧ RdD K G2 v x ∧ ∀ b, G2 b ≠ none → G1 b = none → ∃ xs, r = .own xs ∧ v = .ref b := by
                cases r with
                | d y => cases ex; exact ⟨G1, Same.refl _, s, h.1, fun b h1 h2 => absurd h2 h1⟩
                | own xs =>
                  cases ex
                  obtain ⟨⟨p, us, o⟩, f⟩ := h
                  have n0 : H0 p = none := by
                    cases q : H0 p with
                    | none => rfl
                    | some u => exact absurd (f xs p rfl o.e) (hh p (by rw [q]; exact fun z => nomatch z))
                  have a2 := s.gr.freeze n0 o.g o.h o.z
                  refine ⟨upd G1 p (.lst us), same_freeze o.g, ⟨a2, ⟨fun i y e => ?_, s.rv.ne, s.rv.ln, s.rv.nb⟩, s.fr⟩, ?_, fun b h1 h2 => ?_⟩
                  · obtain ⟨u, q1, q2⟩ := s.rv.get i y e
                    refine ⟨u, q1, ?_⟩
                    cases y with
                    | d z => exact RdD.mono (same_freeze o.g) _ _ q2
                    | own ys =>
                      obtain ⟨q, vs', o'⟩ := q2
                      refine ⟨q, vs', o'.e, o'.z, ?_, o'.h, o'.l, RdAll.mono (same_freeze o.g) _ _ o'.r⟩
                      rw [upd_ne]
                      · exact o'.g
                      · intro qp
                        rw [o'.e, qp] at q1
                        exact av i 0 ys xs p e q1 rfl (by rw [o.e]; rfl)
                    | bor ys => exact absurd e (s.rv.nb i ys)
                    | st => exact q2
                  · rw [o.e]; exact .lst upd_same o.l (RdAll.mono (same_freeze o.g) _ _ o.r)
                  · by_cases eb : b = p
                    · exact ⟨xs, rfl, by rw [o.e, eb]⟩
                    · rw [upd_ne eb] at h1; exact absurd h2 h1
                | bor _ => cases ex
                | st => cases ex
              obtain ⟨σ1, p1, p2, _, p4⟩ := gOf_ok t v x σ ρ ρ1 si.gr.w si.rv rd e1
              refine ⟨G2, σ1, ⟨si.gr, p1, fun i xs p e1 e2 => ?_⟩, s2, p4, fun i j xs ys p q1 q2 q3 => ?_, fz⟩
              · obtain ⟨q1, q2⟩ := p2 i xs _ e1 e2
                exact si.fr i xs p q1 q2
              · obtain ⟨w1, w2⟩ := p2 i xs _ q1 q2
                have := av i (j + 1) xs ys p w1 w2 (by simpa using q3)
                simpa using this
            · cases e1
          | ow i =>
            cases r with
            | d _ => cases e1
            | bor _ => cases e1
            | st => cases e1
            | own xs =>
              cases e1
              obtain ⟨⟨p, us, o⟩, f⟩ := h
              have n0 : H0 p = none := by
                cases q : H0 p with
                | none => rfl
                | some u => exact absurd (f xs p rfl o.e) (hh p (by rw [q]; exact fun z => nomatch z))
              refine ⟨G1, σ.set i (some v), ⟨s.gr, s.rv.putO ⟨p, us, o⟩ fun j ys ji e1 e2 => ?_, fun j ys q e1 e2 => ?_⟩, Same.refl _, fun Q q => q, fun j k xs' ys q e1 e2 e3 => ?_, fun b h1 h2 => absurd h2 h1⟩
              · rw [o.e] at e2
                exact av j 0 ys xs p e1 e2 rfl (by rw [o.e]; rfl)
              · rcases set_get e1 with ⟨rfl, z⟩ | ⟨ne, z⟩
                · have hl : j < σ.length := by
                    by_cases hl : j < σ.length
                    · exact hl
                    · rw [List.getElem?_eq_none (by simpa using hl)] at e2; cases e2
                  rw [List.getElem?_set_self hl, o.e] at e2
                  cases e2
                  exact n0
                · rw [List.getElem?_set_ne (Ne.symm ne)] at e2
                  exact s.fr j ys q z e2
              · rcases set_get e1 with ⟨rfl, z⟩ | ⟨ne, z⟩
                · have hl : j < σ.length := by
                    by_cases hl : j < σ.length
                    · exact hl
                    · rw [List.getElem?_eq_none (by simpa using hl)] at e2; cases e2
                  rw [List.getElem?_set_self hl, o.e] at e2
                  cases e2
                  exact n xs p rfl o.e k ys e3
                · rw [List.getElem?_set_ne (Ne.symm ne)] at e2
                  have := av j (k + 1) xs' ys q z e2 (by simpa using e3)
                  simpa using this
        obtain ⟨G2, σ1, s1, g1, q1, av1, fz⟩ := step
        have t2 : RdL K Z H G2 H1 vs rs := by
          have nbor := putTs_nb e
          have : ∀ {vs : List V} {rs : List SV}, RdL K Z H G1 H1 vs rs → (∀ r ∈ rs, isBor r = false) → (∀ xs p, r = .own xs → v = .ref p → NoOwn p vs rs) → RdL K Z H G2 H1 vs rs := by
            intro vs rs t
            induction t with
            | nil => intro _ _; exact .nil
            | @cons v' r' vs' rs' h' n' t' ih =>
              intro nbr nn
              refine .cons ⟨?_, h'.2⟩ n' (ih (fun r hr => nbr r (List.mem_cons_of_mem _ hr)) fun xs p e1 e2 j ys e3 e4 => nn xs p e1 e2 (j + 1) ys (by simpa using e3) (by simpa using e4))
              cases r' with
              | d y => exact RdD.mono g1 _ _ h'.1
              | own ys =>
                obtain ⟨⟨q, us, o⟩, _⟩ := h'
                refine ⟨q, us, o.e, o.z, ?_, o.h, o.l, RdAll.mono g1 _ _ o.r⟩
                cases gq : G2 q with
                | none => rfl
                | some u =>
                  obtain ⟨xs, e1, e2⟩ := fz q (by rw [gq]; exact fun z => nomatch z) o.g
                  exact absurd (by rw [o.e]; rfl) (nn xs q e1 e2 0 ys rfl)
              | bor ys => exact absurd (nbr _ List.mem_cons_self) (by simp [isBor])
              | st => exact h'.1
          exact this t nbor n
        obtain ⟨G3, σ2, s3, g3, q3, l3⟩ := puts_ok s1 (g.trans g1) t2 av1 hh e
        exact ⟨G3, σ2, s3, g3, fun Q q => ⟨_, _, rfl, q1 _ (q3 Q q)⟩, by simp [l3]⟩
    · cases e
  | [], _, _ :: _, σ, ρ, ρ', G1, s, g, rl, av, hh, e => by unfold putTs at e; cases e
  | _ :: _, _, [], σ, ρ, ρ', G1, s, g, rl, av, hh, e => by unfold putTs at e; cases e
end
end Pw
end

section
set_option Elab.async false
set_option linter.all false
set_option maxRecDepth 100000
set_option maxHeartbeats 4000000
/-! Pw9: statements' judgements. -/
namespace Pw
open PySem PySem.Spec L2
section
variable {K : PySem.W.Frag} {mg : Str → Option Value} {Z : Zs} {G0 H0 Gs G H G1 H1 : Hp} {σ : Sl} {ρ : SEnv} {E : Sl → XK} {D : Ends} {P : Fl → Prop}
theorem CovS.at (c : CovS K mg Z G0 H0 Gs D E P) (g : Same Gs G) : CovS K mg Z G0 H0 G D E P :=
  ⟨fun ρ p σ G' H' s a => c.nx ρ p σ G' H' s (g.trans a), fun ρ p σ G' H' s a => c.bk ρ p σ G' H' s (g.trans a), fun ρ p σ G' H' s a => c.ct ρ p σ G' H' s (g.trans a), c.rt, c.ex⟩
end
section
variable {X : Cx} {E : Sl → XK} {pos p2 : Pos} {st : Stmt} {rest body : List Stmt} {e c : Expr} {f g : WS} {fa fb : WE} {ft : WT}
theorem dss_nil : DSs X E [] skipW := pss_imp pss_nil fun D σ H ⟨Z, G0, H0, G, ρ, P, s, q, cc⟩ => cc.nx _ q σ G H s (Same.refl _)
theorem dss_cons (h1 : DS X E st f) (h2 : DSs X E rest g) : DSs X E (st :: rest) (seqW f g) := by
  refine pss_imp (pss_cons h1 h2) fun D σ H ⟨Z, G0, H0, G, ρ, P, s, q, cc⟩ => ?_
  refine ⟨Z, G0, H0, G, ρ, _, s, q, ⟨fun ρ' p σ' G' H' s' a => ⟨Z, G0, H0, G', ρ', P, s', p, cc.at a⟩, fun ρ' p => cc.bk ρ' p, fun ρ' p => cc.ct ρ' p, fun r p => cc.rt r p, fun x ρ' p => cc.ex x ρ' p⟩⟩
theorem dss_one (h1 : DS X E st f) : DSs X E [st] f := pss_one h1
theorem ds_pass : DS X E (.Pass pos) skipW := ps_imp ps_pass fun D σ H ⟨Z, G0, H0, G, ρ, P, s, q, cc⟩ => cc.nx _ q σ G H s (Same.refl _)
theorem ds_brk : DS X E (.Break pos) brkW := ps_imp ps_break fun D σ H ⟨Z, G0, H0, G, ρ, P, s, q, cc⟩ => cc.bk _ q σ G H s (Same.refl _)
theorem ds_cnt : DS X E (.Continue pos) cntW := ps_imp ps_continue fun D σ H ⟨Z, G0, H0, G, ρ, P, s, q, cc⟩ => cc.ct _ q σ G H s (Same.refl _)
theorem ds_expr (ha : DE X E e fa) (hs : swapsWith e none pos.line X.env = pure false := by rfl) : DS X E (.Expr e pos) (exprW fa) :=
  ps_imp (ps_expr ha hs) fun D σ H ⟨Z, G0, H0, G, ρ, P, s, q, cc⟩ => e_ok s q cc fun r v G1 H1 a s1 rf p => cc.nx _ p σ G1 H1 s1 a.g
theorem ds_ret (ha : DE X E e fa) : DS X E (.Return (some e) pos) (retW fa) :=
  ps_imp (ps_ret ha) fun D σ H ⟨Z, G0, H0, G, ρ, P, s, q, cc⟩ => e_ok s q cc fun r v G1 H1 a s1 rf p => cc.rt _ p v G1 H1 s1.gr (rf.at0 s.gr)
theorem ds_retN : DS X E (.Return none pos) retN := ps_imp ps_retN fun D σ H ⟨Z, G0, H0, G, ρ, P, s, q, cc⟩ => cc.rt _ q _ G H s.gr ⟨.non, fun _ _ e _ => nomatch e⟩
theorem ds_retO {i : Nat} (h : PE X e (tVar i)) : DS X E (.Return (some e) pos) (retO i) := by
  refine ps_imp (ps_ret h) fun D σ H ⟨Z, G0, H0, G, ρ, P, s, q, cc⟩ => ?_
  unfold retO at q
  split at q
  · rename_i r er
    obtain ⟨v, h1, h2⟩ := s.rv.get _ _ er
    exact ⟨v, h1, cc.rt _ q v G H s.gr ⟨h2, fun xs p e1 e2 => s.fr i xs p (by rw [er, e1]) (by rw [h1, e2])⟩⟩
  · exact q.elim
theorem ds_if (hc : DT X E c ft) (ha : DSs X E body f) (hb : DSs X E rest g) : DS X E (.If c body rest pos) (ifW ft f g) := by
  refine ps_imp (ps_if hc ha hb) fun D σ H ⟨Z, G0, H0, G, ρ, P, s, q, cc⟩ => ?_
  refine ⟨Z, G, ρ, _, s.gr.w, s.rv, q, ⟨fun k q G1 H1 a => ?_, fun x q cls d G1 H1 a r => cc.ex x ρ q cls d σ G1 H1 (s.up a) r⟩⟩
  change (if k = true then f ρ P else g ρ P) at q
  cases k with
  | true => rw [if_pos rfl] at q ⊢; exact ⟨Z, G0, H0, G1, ρ, P, s.up a, q, cc.at a.g⟩
  | false => rw [if_neg Bool.false_ne_true] at q ⊢; exact ⟨Z, G0, H0, G1, ρ, P, s.up a, q, cc.at a.g⟩
/-- code that is never come to -/
def neverW : WS := fun _ _ => False
theorem ds_never : DS X E st neverW := ps_imp ps_never fun D σ H ⟨Z, G0, H0, G, ρ, P, s, q, cc⟩ => q.elim
theorem dss_never : DSs X E rest neverW := pss_imp pss_never fun D σ H ⟨Z, G0, H0, G, ρ, P, s, q, cc⟩ => q.elim
/-! ### assignments -/
theorem asg_ok {m : Tm} {te : TE} (hte : ∀ σ H Q, tE X.K X.mg E fa σ H Q → te σ H Q) (D : Ends) (σ : Sl) (H : Hp) (h : tS X.K X.mg E (setW m fa) D σ H) : tAsg te (gOfM X.K m) D σ H := by
  obtain ⟨Z, G0, H0, G, ρ, P, s, q, cc⟩ := h
  refine hte _ _ _ (e_ok s q cc fun r v G1 H1 a s1 rf p => ?_)
  change (match putT m r ρ with
    | some ρ' => P (.nx ρ')
    | none => False) at p
  split at p
  · rename_i ρ' er
    obtain ⟨G2, σ', s2, g2, q2⟩ := put_ok s a rf er
    exact q2 D.nx (cc.nx _ p σ' G2 H1 s2 g2)
  · exact p.elim
/-- x = e -/
theorem ds_set {i : Nat} {x : Str} {p : Pos} (hN : X.N.Nodup) (hi : X.N[i]? = some x) (hx : Loc X.env.scope x) (ha : DE X E e fa) (hs : swapsWith e (some (.Name x p)) pos.line X.env = pure false := by rfl)
    (hf : X.fn x = true ∨ X.env.scope.names.lookup x = some .local := by first | exact .inl rfl | exact .inr rfl | assumption) : DS X E (.Assign [.Name x p] e pos) (setW (.dat (.name i)) fa) :=
  ps_imp (ps_set hN hi hx ha hs hf) fun D σ H h => by
    have := asg_ok (m := .dat (.name i)) (te := tE X.K X.mg E fa) (fun _ _ _ h => h) D σ H h
    unfold gOfM gOf at this
    exact this
theorem ds_setO {i : Nat} {x : Str} {p : Pos} (hN : X.N.Nodup) (hi : X.N[i]? = some x) (hx : Loc X.env.scope x) (ha : DE X E e fa) (hs : swapsWith e (some (.Name x p)) pos.line X.env = pure false := by rfl)
    (hf : X.fn x = true ∨ X.env.scope.names.lookup x = some .local := by first | exact .inl rfl | exact .inr rfl | assumption) : DS X E (.Assign [.Name x p] e pos) (setW (.ow i) fa) :=
  ps_imp (ps_set hN hi hx ha hs hf) fun D σ H h => asg_ok (m := .ow i) (te := tE X.K X.mg E fa) (fun _ _ _ h => h) D σ H h
/-- a, (b, c) = e -/
theorem ds_asg {t : Tg} {tg : Expr} (ha : DE X E e fa) (hg : PG X tg (gOf X.K t)) (hs : swapsWithSole [tg] e pos.line X.env = pure false := by rfl) (hw : swappedStores [tg] e X.env = pure none := by rfl)
    (h1 : (assignEach [tg] X.env).map (·.2) = [assign tg X.env] := by rfl) : DS X E (.Assign [tg] e pos) (setW (.dat t) fa) :=
  ps_imp (ps_asg ha hg hs hw h1) fun D σ H h => asg_ok (m := .dat t) (te := tE X.K X.mg E fa) (fun _ _ _ h => h) D σ H h
/-! several targets, the values told side by side -/
theorem av0 {K : PySem.W.Frag} {Z : Zs} {G H G1 H1 : Hp} {σ : Sl} {ρ : SEnv} {vs : List V} {rs : List SV} (rv : RV K Z G H σ ρ) (rl : RdL K Z H G1 H1 vs rs) : Avoid σ ρ vs rs := fun i j xs ys p e1 e2 e3 e4 => by
  have n := rl.fresh j ys p e3 e4
  obtain ⟨v, h1, q, us, o⟩ := rv.get i _ e1
  rw [h1] at e2
  cases e2
  cases o.e
  rw [o.h] at n
  cases n
theorem par_ok {ms : List Tm} {fs : WA} {D : Ends} {σ : Sl} {H : Hp} (h : tS X.K X.mg E (parW ms fs) D σ H) :
    tA X.K X.mg E fs σ H fun vs H1 => vs.length = ms.length ∧ gsOfM X.K ms vs σ H1 D.nx ∧ ∀ p, H1 p = none → gsOfM X.K ms vs σ (upd H1 p (.tup vs)) D.nx := by
  obtain ⟨Z, G0, H0, G, ρ, P, s, q, cc⟩ := h
  refine l_ok s q cc fun rs vs G1 H1 a s1 rl p => ?_
  change (match putTs ms rs ρ with
    | some ρ' => P (.nx ρ')
    | none => False) at p
  split at p
  · rename_i ρ' er
    have hh : ∀ b, H0 b ≠ none → H b ≠ none := fun b => s.gr.dm b
    obtain ⟨G2, σ', s2, g2, q2, l2⟩ := puts_ok s1 a.g rl (av0 s.rv rl) hh er
    refine ⟨l2, q2 D.nx (cc.nx _ p σ' G2 H1 s2 g2), fun y ny => ?_⟩
    have a2 : Gr Z G1 H1 G1 (upd H1 y (.tup vs)) := Gr.new a.w ny
    obtain ⟨G3, σ3, s3, g3, q3, _⟩ := puts_ok (s1.up a2) a.g (rl.gr a2) (av0 s.rv rl) hh er
    exact q3 D.nx (cc.nx _ p σ3 G3 _ s3 g3)
  · exact p.elim
/-- plain local names, two -/
theorem ds_par2 {x y : Str} {a b : Expr} {px py pt : Pos} {kt k2 pt2} {m1 m2 : Tm} {i j : Nat} {fs : WA} (hm1 : gOfM X.K m1 = gName i) (hm2 : gOfM X.K m2 = gName j) (hc : X.calm = true) (hN : X.N.Nodup) (hi : X.N[i]? = some x) (hj : X.N[j]? = some y) (hij : i ≠ j)
    (hx : X.env.scope.names.lookup x = some .local) (hy : X.env.scope.names.lookup y = some .local) (ha : DA X E [a, b] fs)
    (hw : swappedStores [.Tuple [.Name x px, .Name y py] kt pt] (.Tuple [a, b] k2 pt2) X.env = pure (some [x, y]))
    (hs : swapsWithSole [.Tuple [.Name x px, .Name y py] kt pt] (.Tuple [a, b] k2 pt2) pos.line X.env = pure false := by rfl) :
    DS X E (.Assign [.Tuple [.Name x px, .Name y py] kt pt] (.Tuple [a, b] k2 pt2) pos) (parW [m1, m2] fs) := by
  refine ps_imp (ps_par hc hN hi hj hij hx hy ha hw hs) fun D σ H h => ?_
  obtain ⟨Z, G, ρ, P, w, v, f, cv⟩ := par_ok h
  refine ⟨Z, G, ρ, P, w, v, f, ⟨fun rs p vs G' H' a rl => ?_, cv.exn⟩⟩
  obtain ⟨hl, q, _⟩ := cv.val rs p vs G' H' a rl
  obtain ⟨v1, v2, rfl⟩ : ∃ v1 v2, vs = [v1, v2] := by
    match vs, hl with
    | [v1, v2], _ => exact ⟨v1, v2, rfl⟩
  obtain ⟨u1, r1, e1, q1⟩ := q
  cases e1
  rw [hm1] at q1
  obtain ⟨u2, r2, e2, q2⟩ := q1
  cases e2
  rw [hm2] at q2
  exact ⟨_, _, rfl, q2.2⟩
/-- .. three -/
theorem ds_par3 {x y z : Str} {a b c : Expr} {px py pz pt : Pos} {kt k2 pt2} {m1 m2 m3 : Tm} {i j l : Nat} {fs : WA} (hm1 : gOfM X.K m1 = gName i) (hm2 : gOfM X.K m2 = gName j) (hm3 : gOfM X.K m3 = gName l) (hc : X.calm = true) (hN : X.N.Nodup) (hi : X.N[i]? = some x) (hj : X.N[j]? = some y) (hl : X.N[l]? = some z)
    (hij : i ≠ j) (hil : i ≠ l) (hjl : j ≠ l) (hx : X.env.scope.names.lookup x = some .local) (hy : X.env.scope.names.lookup y = some .local) (hz : X.env.scope.names.lookup z = some .local) (ha : DA X E [a, b, c] fs)
    (hw : swappedStores [.Tuple [.Name x px, .Name y py, .Name z pz] kt pt] (.Tuple [a, b, c] k2 pt2) X.env = pure (some [x, y, z]))
    (hs : swapsWithSole [.Tuple [.Name x px, .Name y py, .Name z pz] kt pt] (.Tuple [a, b, c] k2 pt2) pos.line X.env = pure false := by rfl) :
    DS X E (.Assign [.Tuple [.Name x px, .Name y py, .Name z pz] kt pt] (.Tuple [a, b, c] k2 pt2) pos) (parW [m1, m2, m3] fs) := by
  refine ps_imp (ps_par3 hc hN hi hj hl hij hil hjl hx hy hz ha hw hs) fun D σ H h => ?_
  obtain ⟨Z, G, ρ, P, w, v, f, cv⟩ := par_ok h
  refine ⟨Z, G, ρ, P, w, v, f, ⟨fun rs p vs G' H' a rl => ?_, cv.exn⟩⟩
  obtain ⟨hl, q, _⟩ := cv.val rs p vs G' H' a rl
  obtain ⟨v1, v2, v3, rfl⟩ : ∃ v1 v2 v3, vs = [v1, v2, v3] := by
    match vs, hl with
    | [v1, v2, v3], _ => exact ⟨v1, v2, v3, rfl⟩
  obtain ⟨u1, r1, e1, q1⟩ := q
  cases e1
  rw [hm1] at q1
  obtain ⟨u2, r2, e2, q2⟩ := q1
  cases e2
  rw [hm2] at q2
  obtain ⟨u3, r3, e3, q3⟩ := q2
  cases e3
  rw [hm3] at q3
  exact ⟨_, _, _, rfl, q3.2⟩
theorem gm_dat {K : PySem.W.Frag} {i : Nat} : gOfM K (.dat (.name i)) = gName i := by unfold gOfM gOf; rfl
theorem gm_ow {K : PySem.W.Frag} {i : Nat} : gOfM K (.ow i) = gName i := rfl
/-- through a tuple that is made and taken apart -/
theorem ds_parT {ms : List Tm} {ts es : List Expr} {pt pt2 : Pos} {kt k2 : Nat} {fs : WA} (hc : X.calm = true) (ha : DA X E es fs) (hg : PGs X ts (gsOfM X.K ms)) (hn : (assignEach ts X.env).length = ms.length := by rfl) (hst : (assignEach ts X.env).findIdx? (·.1) = none := by rfl)
    (hl : ms.length ≤ 1000 := by decide) (hs : swapsWithSole [.Tuple ts kt pt] (.Tuple es k2 pt2) pos.line X.env = pure false := by rfl) (hw : swappedStores [.Tuple ts kt pt] (.Tuple es k2 pt2) X.env = pure none := by rfl)
    (h1 : (assignEach [.Tuple ts kt pt] X.env).map (·.2) = [assign (.Tuple ts kt pt) X.env] := by rfl) : DS X E (.Assign [.Tuple ts kt pt] (.Tuple es k2 pt2) pos) (parW ms fs) := by
  refine ps_imp (ps_asg (pe_tup ha) (pg_tup hc hg hn hst) hs hw h1) fun D σ H h => ?_
  obtain ⟨Z, G, ρ, P, w, v, f, cv⟩ := par_ok h
  refine ⟨Z, G, ρ, P, w, v, f, ⟨fun rs p vs G' H' a rl => ?_, cv.exn⟩⟩
  obtain ⟨hl', _, q⟩ := cv.val rs p vs G' H' a rl
  exact ⟨by rw [hl']; exact le1000 hl, fun y ny => ⟨y, vs, rfl, .inl (.inl upd_same), hl', q y ny⟩⟩
theorem dgm_nil : PGs X [] (gsOfM X.K []) := pgs_nil
theorem dgm_cons {t : Expr} {ts : List Expr} {m : Tm} {ms : List Tm} (h1 : PG X t (gOfM X.K m)) (h2 : PGs X ts (gsOfM X.K ms)) (hs : (assignEach (t :: ts) X.env).map (·.2) = assign t X.env :: (assignEach ts X.env).map (·.2) := by rfl) : PGs X (t :: ts) (gsOfM X.K (m :: ms)) :=
  pgs_cons h1 h2 hs
theorem dgm_dat {t : Expr} {g : Tg} (h : PG X t (gOf X.K g)) : PG X t (gOfM X.K (.dat g)) := h
theorem dgm_ow {x : Str} {i : Nat} (hN : X.N.Nodup) (hi : X.N[i]? = some x) (hx : Loc X.env.scope x) (hf : X.fn x = true ∨ X.env.scope.names.lookup x = some .local := by first | exact .inl rfl | exact .inr rfl | assumption) : PG X (.Name x pos) (gOfM X.K (.ow i)) := pg_name hN hi hx hf

/-! ### while, for -/
theorem ds_while (hp : PassesOwn (model X.prog X.w) X.A X.env X.xe) (hc : DT X E c ft) (hb : DSs X E body f) : DS X E (.While c body [] pos) (whileW ft f) := by
  refine ps_imp (ps_while hp hc hb) fun D σ H ⟨Z, G0, H0, Gs, ρ, P, s, q, cc⟩ => ?_
  obtain ⟨n, q⟩ := q
  refine ⟨fun m σ H => ∃ G ρ, SI X.K Z G0 H0 G H σ ρ ∧ Same Gs G ∧ whileN ft f m ρ P, ⟨n, Gs, ρ, s, Same.refl _, q⟩, ?_⟩
  rintro m σ1 H1 ⟨G1, ρ1, s1, g1, q1⟩
  cases m with
  | zero => exact q1.elim
  | succ m =>
    unfold whileN at q1
    refine ⟨Z, G1, ρ1, _, s1.gr.w, s1.rv, q1, ⟨fun k q G2 H2 a => ?_, fun x q cls d G2 H2 a r => cc.ex x ρ1 q cls d σ1 G2 H2 (s1.up a) r⟩⟩
    change (if k = true then f ρ1 (fun fl => match fl with
      | .nx ρ' => whileN ft f m ρ' P
      | .ct ρ' => whileN ft f m ρ' P
      | .bk ρ' => P (.nx ρ')
      | .rt r => P (.rt r)
      | .ex x ρ' => P (.ex x ρ')) else P (.nx ρ1)) at q
    cases k with
    | true =>
      rw [if_pos rfl] at q ⊢
      refine ⟨fun σ' H' => ∃ G ρ, SI X.K Z G0 H0 G H' σ' ρ ∧ Same Gs G ∧ whileN ft f m ρ P, fun σ' H' h => ⟨m, Nat.lt_succ_self _, h⟩, ?_⟩
      have g2 := g1.trans a.g
      exact ⟨Z, G0, H0, G2, ρ1, _, s1.up a, q, ⟨fun ρ' p σ' G' H' s' g' => ⟨G', ρ', s', g2.trans g', p⟩, fun ρ' p σ' G' H' s' g' => cc.nx ρ' p σ' G' H' s' (g2.trans g'), fun ρ' p σ' G' H' s' g' => ⟨G', ρ', s', g2.trans g', p⟩, fun r p => cc.rt r p, fun x ρ' p => cc.ex x ρ' p⟩⟩
    | false =>
      rw [if_neg Bool.false_ne_true] at q ⊢
      exact cc.nx _ q σ1 G2 H2 (s1.up a) (g1.trans a.g)
theorem ds_for {tg it : Expr} {t : Tg} {fi : WI} (hp : PassesOwn (model X.prog X.w) X.A X.env X.xe) (hc : X.calm = true) (hi : DI false X E tg it fi) (hg : PG X tg (gOf X.K t)) (hb : DSs X E body f) (hs : ∀ x, foldedSetIterable it X.env x = pure x := by intro _; rfl) :
    DS X E (.For tg it body [] pos) (forW fi t f) := by
  refine ps_imp (ps_for hp hc hi hg hb hs) fun D σ H ⟨Z, G0, H0, Gs, ρ, P, s, q, cc⟩ => ?_
  refine ⟨Z, Gs, ρ, _, s.gr.w, s.rv, q, ⟨fun ds q J G1 H1 a it => ?_, fun x q cls d G1 H1 a r => cc.ex x ρ q cls d σ G1 H1 (s.up a) r⟩⟩
  change forL t f ds ρ P at q
  refine ⟨fun i m σ H => ∃ G ρ, m = ds.length - i ∧ i ≤ ds.length ∧ SI X.K Z G0 H0 G H σ ρ ∧ Same G1 G ∧ forL t f (ds.drop i) ρ P, ⟨ds.length, G1, ρ, rfl, Nat.zero_le _, s.up a, Same.refl _, q⟩, ?_⟩
  rintro i m σ2 H2 ⟨G2, ρ2, rfl, hi, s2, g2, q2⟩
  have adm : Adm false Z G1 H1 G2 H2 := ⟨g2, s2.gr.w⟩
  by_cases hlt : i < ds.length
  · obtain ⟨x, xs, e⟩ : ∃ x xs, ds.drop i = x :: xs := ⟨_, _, List.drop_eq_getElem_cons hlt⟩
    have ex : ds[i]? = some x := by
      have := congrArg List.head? e
      rw [List.head?_drop] at this
      exact this
    have exs : ds.drop (i + 1) = xs := by
      have := congrArg List.tail e
      rw [List.tail_drop] at this
      exact this
    obtain ⟨hgo, hy⟩ := it.go i x G2 H2 adm ex
    rw [e] at q2
    unfold forL at q2
    split at q2
    · rename_i ρ3 e3
      refine .inr ⟨hgo, fun σ' H' => ∃ G ρ, i + 1 ≤ ds.length ∧ SI X.K Z G0 H0 G H' σ' ρ ∧ Same G1 G ∧ forL t f (ds.drop (i + 1)) ρ P, fun σ' H' ⟨G', ρ', h⟩ => ⟨ds.length - (i + 1), by omega, G', ρ', rfl, h⟩, fun u H' yl => ?_⟩
      obtain ⟨G3, a3, r3⟩ := hy u H' yl
      have s3 := s2.up a3
      obtain ⟨σ4, p1, p2, _, p4⟩ := gOf_ok t u x σ2 ρ2 ρ3 a3.w s3.rv r3 e3
      have s4 : SI X.K Z G0 H0 G3 H' σ4 ρ3 := ⟨s3.gr, p1, fun j ys p e1 e2 => let ⟨q1, q2⟩ := p2 j ys _ e1 e2; s3.fr j ys p q1 q2⟩
      have g3 := g2.trans a3.g
      refine p4 _ ⟨Z, G0, H0, G3, ρ3, _, s4, q2, ⟨fun ρ' p σ' G' H' s' g' => ⟨G', ρ', hlt, s', g3.trans g', by rw [exs]; exact p⟩, fun ρ' p σ' G' H' s' g' => cc.nx ρ' p σ' G' H' s' ((a.g.trans g3).trans g'), fun ρ' p σ' G' H' s' g' => ⟨G', ρ', hlt, s', g3.trans g', by rw [exs]; exact p⟩, fun r p => cc.rt r p, fun x ρ' p => cc.ex x ρ' p⟩⟩
    · exact q2.elim
  · have ei : i = ds.length := by omega
    subst ei
    rw [List.drop_length] at q2
    exact .inl ⟨it.stop G2 H2 adm, cc.nx _ q2 σ2 G2 H2 s2 (a.g.trans g2)⟩
/-! ### an own list is changed -/
theorem own_ok {K : PySem.W.Frag} {mg : Str → Option Value} {Z : Zs} {G0 H0 G H : Hp} {σ : Sl} {ρ : SEnv} {D : Ends} {P : Fl → Prop} {i : Nat} {k : List PyData → (List PyData → Prop) → Prop} (s : SI K Z G0 H0 G H σ ρ) (q : ownW i k ρ P) (cc : CovS K mg Z G0 H0 G D E P) :
    ∃ p us xs, σ[i]? = some (some (.ref p)) ∧ H p = some (.lst us) ∧ xs.length ≤ sizeLine ∧ RdAll K G us xs ∧ (k xs fun ys => P (.nx (ρ.set i (some (.own ys))))) ∧ ∀ ys ws, ys.length ≤ sizeLine → RdAll K G ws ys → P (.nx (ρ.set i (some (.own ys)))) → D.nx σ (upd H p (.lst ws)) := by
  unfold ownW at q
  split at q
  · rename_i xs e
    obtain ⟨v, h1, p, us, o⟩ := s.rv.get i _ e
    have ev := o.e
    subst ev
    exact ⟨p, us, xs, h1, o.h, o.l, o.r, q, fun ys ws l r h => cc.nx _ h σ G _ (s.chg e h1 o l r) (Same.refl _)⟩
  · exact q.elim
theorem isOwn_ok {K : PySem.W.Frag} {Z : Zs} {G0 H0 G H : Hp} {σ : Sl} {ρ : SEnv} {i : Nat} (s : SI K Z G0 H0 G H σ ρ) (q : isOwn ρ i = true) : ∃ p us, σ[i]? = some (some (.ref p)) ∧ H p = some (.lst us) := by
  unfold isOwn at q
  split at q
  · rename_i xs e
    obtain ⟨v, h1, p, us, o⟩ := s.rv.get i _ e
    have ev := o.e
    subst ev
    exact ⟨p, us, h1, o.h⟩
  · cases q
theorem ty_list {K : PySem.W.Frag} {H : Hp} {p : Addr} {us : List V} (h : H p = some (.lst us)) : tyV K "list" (.ref p) H := .inl ⟨rfl, us, .inl (.inl h)⟩
variable {x : Expr} {i : Nat} {apos cpos : Pos}
theorem ds_app (hx : PE X x (tVar i)) (ha : DE X E e fa) (hbase : attributeBase x "append" X.env (eval x X.env) = eval x X.env := by rfl)
    (hfew : ((backTo cpos (starEach [e] X.env)).all (fun x => !x.1) && (backToKw cpos (keywordEach [] X.env)).all (fun x => x.1.isSome) && decide ([e].length + ([] : List Keyword).length + (if ([] : List Keyword).isEmpty then 0 else 1) < 30)) = true := by rfl)
    (hline : (apos.endLine == cpos.line) = true := by rfl) (hs : starEach [e] X.env = (false, eval e X.env) :: starEach [] X.env := by rfl) (hsw : swapsWith (.Call (.Attribute x "append" apos) [e] [] cpos) none pos.line X.env = pure false := by rfl) :
    DS X E (.Expr (.Call (.Attribute x "append" apos) [e] [] cpos) pos) (appW i fa) := by
  refine ps_imp (ps_expr (pe_bm PySem.F.plainAttrs_list PySem.F.slot_list_append PySem.F.type_list_append mt_append hx (pa_cons ha pa_nil hs) hbase hfew hline hs rfl) hsw) fun D σ H ⟨Z, G0, H0, G, ρ, P, s, q, cc⟩ => ?_
  obtain ⟨p0, us0, e0, h0⟩ := isOwn_ok s q.1
  refine ⟨.ref p0, e0, ty_list h0, e_ok s q.2 cc fun r v G1 H1 a s1 rf q => ?_⟩
  change (match conv r with
    | some x => ownW i fun xs Q => xs.length < sizeLine ∧ Q (xs ++ [x])
    | none => fun _ _ => False) ρ P at q
  cases ey : conv r with
  | none => rw [ey] at q; exact q.elim
  | some y =>
    rw [ey] at q
    obtain ⟨G2, a2, s2, rd, _⟩ := rf.data a ey
    obtain ⟨p, us, xs, e1, h1, l, r1, q, fin⟩ := own_ok (s.up a2) q (cc.at a2.g)
    rw [e0] at e1
    cases e1
    exact ⟨p0, us, v, rfl, rfl, h1, by rw [r1.length]; exact q.1, fin _ _ (by rw [List.length_append]; exact q.1) (r1.append (.cons rd .nil)) q.2⟩
theorem ds_ext (hx : PE X x (tVar i)) (ha : DE X E e fa) (hbase : attributeBase x "extend" X.env (eval x X.env) = eval x X.env := by rfl)
    (hfew : ((backTo cpos (starEach [e] X.env)).all (fun x => !x.1) && (backToKw cpos (keywordEach [] X.env)).all (fun x => x.1.isSome) && decide ([e].length + ([] : List Keyword).length + (if ([] : List Keyword).isEmpty then 0 else 1) < 30)) = true := by rfl)
    (hline : (apos.endLine == cpos.line) = true := by rfl) (hs : starEach [e] X.env = (false, eval e X.env) :: starEach [] X.env := by rfl) (hsw : swapsWith (.Call (.Attribute x "extend" apos) [e] [] cpos) none pos.line X.env = pure false := by rfl) :
    DS X E (.Expr (.Call (.Attribute x "extend" apos) [e] [] cpos) pos) (extW i fa) := by
  refine ps_imp (ps_expr (pe_bm PySem.F.plainAttrs_list PySem.F.slot_list_extend PySem.F.type_list_extend mt_extend hx (pa_cons ha pa_nil hs) hbase hfew hline hs rfl) hsw) fun D σ H ⟨Z, G0, H0, G, ρ, P, s, q, cc⟩ => ?_
  obtain ⟨p0, us0, e0, h0⟩ := isOwn_ok s q.1
  refine ⟨.ref p0, e0, ty_list h0, e_ok s q.2 cc fun r v G1 H1 a s1 rf q => ?_⟩
  change (match lstOf r with
    | some zs => ownW i fun xs Q => xs.length + zs.length ≤ sizeLine ∧ Q (xs ++ zs)
    | none => fun _ _ => False) ρ P at q
  cases ez : lstOf r with
  | none => rw [ez] at q; exact q.elim
  | some zs =>
    rw [ez] at q
    obtain ⟨b, zv, rfl, hb, lb, rb⟩ := lst_look a.w rf.1 ez
    obtain ⟨p, us, xs, e1, h1, l, r1, q, fin⟩ := own_ok s1 q (cc.at a.g)
    rw [e0] at e1
    cases e1
    exact ⟨p0, b, us, zv, rfl, rfl, h1, hb, by rw [r1.length, rb.length]; exact q.1, fin _ _ (by rw [List.length_append]; exact q.1) (r1.append rb) q.2⟩
/-- own.pop() alone -/
theorem ds_popE (hx : PE X x (tVar i)) (hbase : attributeBase x "pop" X.env (eval x X.env) = eval x X.env := by rfl) (hline : (apos.endLine == cpos.line) = true := by rfl) (hsw : swapsWith (.Call (.Attribute x "pop" apos) [] [] cpos) none pos.line X.env = pure false := by rfl) :
    DS X E (.Expr (.Call (.Attribute x "pop" apos) [] [] cpos) pos) (popE i) := by
  refine ps_imp (ps_expr (pe_bm0 PySem.F.plainAttrs_list PySem.F.slot_list_pop PySem.F.type_list_pop mt_pop hx hbase hline) hsw) fun D σ H ⟨Z, G0, H0, G, ρ, P, s, q, cc⟩ => ?_
  obtain ⟨p, us, xs, e1, h1, l, r1, q, fin⟩ := own_ok s q cc
  obtain ⟨⟨y, ey⟩, q⟩ := q
  obtain ⟨u, eu, _⟩ := r1.at_ ey
  refine ⟨.ref p, e1, ty_list h1, p, us, u, rfl, rfl, h1, by rw [r1.length]; exact eu, fin _ _ ?_ r1.dropLast q⟩
  rw [List.length_dropLast]
  omega
/-- y = own.pop() -/
theorem ds_pop {j : Nat} {y : Str} {p : Pos} (hN : X.N.Nodup) (hj : X.N[j]? = some y) (hy : Loc X.env.scope y) (hx : PE X x (tVar i)) (hbase : attributeBase x "pop" X.env (eval x X.env) = eval x X.env := by rfl) (hline : (apos.endLine == cpos.line) = true := by rfl)
    (hs : swapsWith (.Call (.Attribute x "pop" apos) [] [] cpos) (some (.Name y p)) pos.line X.env = pure false := by rfl) (hf : X.fn y = true ∨ X.env.scope.names.lookup y = some .local := by first | exact .inl rfl | exact .inr rfl | assumption) :
    DS X E (.Assign [.Name y p] (.Call (.Attribute x "pop" apos) [] [] cpos) pos) (popW j i) := by
  refine ps_imp (ps_set hN hj hy (pe_bm0 PySem.F.plainAttrs_list PySem.F.slot_list_pop PySem.F.type_list_pop mt_pop hx hbase hline) hs hf) fun D σ H ⟨Z, G0, H0, G, ρ, P, s, q, cc⟩ => ?_
  unfold popW at q
  split at q
  · rename_i xs e
    obtain ⟨d, ed, q⟩ := q
    obtain ⟨v, h1, p, us, o⟩ := s.rv.get i _ e
    have ev := o.e
    subst ev
    obtain ⟨u, eu, ru⟩ := o.r.at_ ed
    refine ⟨.ref p, h1, ty_list o.h, p, us, u, rfl, rfl, o.h, by rw [o.r.length]; exact eu, ?_⟩
    have s2 := s.chg (ys := xs.dropLast) (ws := us.dropLast) e h1 o (by rw [List.length_dropLast]; have := o.l; omega) o.r.dropLast
    exact cc.nx _ q _ G _ (s2.put (x := .d d) ru rfl) (Same.refl _)
  · exact q.elim
/-- own[e] = v -/
theorem ds_sto {ix : Expr} {sp : Pos} {fi : WE} (hx : PE X x (tVar i)) (hv : DE X E e fa) (hi : DE X E ix fi)
    (ha : ∀ v, assign (.Subscript x ix sp) X.env v = (do
      let ov ← holding [v] (eval x X.env)
      let iv ← holding [v, ov] (eval ix X.env)
      standAt sp
      holding [v, ov, iv] (setItem ov iv v)
      release [v, ov, iv] []) := by intro _; rfl) (hs : swapsWithSole [.Subscript x ix sp] e pos.line X.env = pure false := by rfl) (hw : swappedStores [.Subscript x ix sp] e X.env = pure none := by rfl)
    (h1 : (assignEach [.Subscript x ix sp] X.env).map (·.2) = [assign (.Subscript x ix sp) X.env] := by rfl) (hown : True := trivial) :
    DS X E (.Assign [.Subscript x ix sp] e pos) (fun ρ P => isOwn ρ i = true ∧ stoW i fa fi ρ P) := by
  refine ps_imp (ps_asg hv (pg_sub hx hi set_list ha) hs hw h1) fun D σ H ⟨Z, G0, H0, G, ρ, P, s, q, cc⟩ => ?_
  obtain ⟨p0, us0, e0, h0⟩ := isOwn_ok s q.1
  refine e_ok s q.2 cc fun r v G1 H1 a s1 rf q => ?_
  refine ⟨.ref p0, e0, e_ok s1 q (cc.at a.g) fun y vy G2 H2 a2 s2 ry q => ?_⟩
  change (match conv r, intOf y with
    | some x, some k => ownW i fun xs Q => ∃ j, ixN xs.length k = some j ∧ Q (xs.set j x)
    | _, _ => fun _ _ => False) ρ P at q
  cases ed : conv r with
  | none => rw [ed] at q; exact q.elim
  | some d =>
  cases ek : intOf y with
  | none => rw [ed, ek] at q; exact q.elim
  | some k =>
    rw [ed, ek] at q
    have a12 := a.trans a2
    obtain ⟨G3, a3, s3, rd, _⟩ := (rf.gr a2).data a12 ed
    obtain ⟨p, us, xs, e1, h1, l, r1, q, fin⟩ := own_ok (s.up a3) q (cc.at a3.g)
    rw [e0] at e1
    cases e1
    obtain ⟨j, ej, q⟩ := q
    refine ⟨p0, us, k, j, rfl, int_of ry.1 ek, h1, by rw [r1.length]; exact ej, fin _ _ (by rw [List.length_set]; exact l) (r1.set j rd) q⟩
/-- name op= e -/
def IpD (X : Cx) (op : Operator) (o : Op2) : Prop := ∃ r : TIp, PIp X op r ∧ ∀ Z G H x y vx vy Q P, WO Z G H → RdV X.K Z G H vx x → RdV X.K Z G H vy y → o x y P → (∀ s, P s → ∀ v G' H', Gr Z G H G' H' → RdF X.K Z H G' H' v s → Q v H') → r vx vy H Q
theorem ipd_int {op : Operator} {g : Int → Int → Int} (h : PIp X op (ipI g)) : IpD X op (intOp (fun _ _ => True) fun i j => .int (g i j)) := by
  refine ⟨_, h, fun Z G H x y vx vy Q P w rx ry h k => ?_⟩
  unfold intOp at h
  split at h
  · cases rx
    cases ry
    exact ⟨_, _, rfl, rfl, k _ h.2 _ G H (Gr.refl w) ⟨.int _, fun _ _ e _ => nomatch e⟩⟩
  · exact h.elim
abbrev addI : Op2 := intOp (fun _ _ => True) fun i j => .int (i + j)
theorem ip_addD : IpD X .Add addI := ipd_int ip_add
theorem ip_subD : IpD X .Sub subV := ipd_int ip_sub
theorem ds_aug {op : Operator} {o : Op2} {n : Str} {p : Pos} (ho : IpD X op o) (hN : X.N.Nodup) (hi : X.N[i]? = some n) (hx : Loc X.env.scope n) (ha : DE X E e fa) (hf : X.fn n = true ∨ X.env.scope.names.lookup n = some .local := by first | exact .inl rfl | exact .inr rfl | assumption) :
    DS X E (.AugAssign (.Name n p) op e pos) (augW i o fa) := by
  obtain ⟨r, h1, h2⟩ := ho
  refine ps_imp (ps_aug hN hi hx ha h1 hf) fun D σ H ⟨Z, G0, H0, G, ρ, P, s, q, cc⟩ => ?_
  unfold augW at q
  split at q
  · rename_i r0 er
    obtain ⟨v, e1, r1, no⟩ := getS_ok s.rv er
    refine ⟨v, e1, e_ok s q cc fun y vy G1 H1 a s1 ry q => ?_⟩
    refine h2 Z G1 H1 r0 y v vy _ _ a.w (r1.gr a) ry.1 q fun t ht u G' H' a2 ru => ?_
    split at ht
    · rename_i d ed
      obtain ⟨G2, a3, _, rd, _⟩ := ru.data a2 ed
      exact cc.nx _ ht _ G2 H' ((s1.up a3).put (x := .d d) rd rfl) (a.trans a3).g
    · exact ht.elim
  · exact q.elim
/-- from here on an own list is as all data -/
theorem dss_frz {sts : List Stmt} (i : Nat) (h : DSs X E sts f) : DSs X E sts (frzW i f) := by
  refine pss_imp h fun D σ H ⟨Z, G0, H0, G, ρ, P, s, q, cc⟩ => ?_
  unfold frzW at q
  split at q
  · rename_i xs e
    obtain ⟨v, h1, p, us, o⟩ := s.rv.get i _ e
    have ev := o.e
    subst ev
    have n0 := s.fr i xs p e h1
    have a2 := s.gr.freeze n0 o.g o.h o.z
    have hl : i < ρ.length := (List.getElem?_eq_some_iff.mp e).1
    refine ⟨Z, G0, H0, upd G p (.lst us), _, P, ⟨a2, ⟨fun j y ej => ?_, fun j k as bs u jk q1 q2 q3 q4 => ?_, by simp [s.rv.ln], fun j as ej => ?_⟩, fun j as q' e1 e2 => ?_⟩, q, cc.at (same_freeze o.g)⟩
    · rcases set_get ej with ⟨rfl, z⟩ | ⟨ne, z⟩
      · cases z
        exact ⟨_, h1, .lst upd_same o.l (RdAll.mono (same_freeze o.g) _ _ o.r)⟩
      · obtain ⟨u, w1, w2⟩ := s.rv.get j y z
        refine ⟨u, w1, ?_⟩
        cases y with
        | d y => exact RdD.mono (same_freeze o.g) _ _ w2
        | own as =>
          obtain ⟨q', vs, o'⟩ := w2
          refine ⟨q', vs, o'.e, o'.z, ?_, o'.h, o'.l, RdAll.mono (same_freeze o.g) _ _ o'.r⟩
          rw [upd_ne]
          · exact o'.g
          · intro qp
            rw [o'.e, qp] at w1
            exact s.rv.ne j i as xs _ ne z e w1 h1
        | bor as => exact absurd z (s.rv.nb j as)
        | st => exact w2
    · rcases set_get q1 with ⟨rfl, z⟩ | ⟨n1, z1⟩
      · cases z
      · rcases set_get q2 with ⟨rfl, z⟩ | ⟨n2, z2⟩
        · cases z
        · exact s.rv.ne j k as bs u jk z1 z2 q3 q4
    · rcases set_get ej with ⟨rfl, z⟩ | ⟨n1, z1⟩
      · cases z
      · exact s.rv.nb j as z1
    · rcases set_get e1 with ⟨rfl, z⟩ | ⟨n1, z1⟩
      · cases z
      · exact s.fr j as q' z1 e2
  · exact ⟨Z, G0, H0, G, ρ, P, s, q, cc⟩
/-! ### name = [..] -/
theorem setlc_ok {elt tg iter : Expr} {fi : WI} {t : Tg} {ft : WT} {fe : WE} {vs : List Nat} {m : Tm} (hv : slotsIn vs t = true) {tt : TT} {te : TE} (ht : ∀ σ H Q, tT X.K X.mg (fun _ => E0) ft σ H Q → tt σ H Q) (he : ∀ σ H Q, tE X.K X.mg (fun _ => E0) fe σ H Q → te σ H Q)
    (D : Ends) (σ : Sl) (H : Hp) (h : tS X.K X.mg E (setW m (dLc fi t ft fe vs)) D σ H) : tAsg (tLc (tI true X.K X.mg E fi) (gOf X.K t) tt te vs) (gOfM X.K m) D σ H :=
  asg_ok (fun σ H Q h => lc_ok hv ht he h) D σ H h
theorem ds_setLc0 {elt tg iter : Expr} {scope : Scope} {own : List (Str × Nat)} {fi : WI} {t : Tg} {fe : WE} {n : Str} {py lp : Pos} {m : Tm} (hm : gOfM X.K m = gName i) (hc : X.calm = true) (hN : X.N.Nodup) (hy : X.N[i]? = some n) (hyl : X.env.scope.names.lookup n = some .local)
    (hsw : swapsWith (.ListComp elt [⟨tg, iter, [], 0⟩] scope lp) (some (.Name n py)) pos.line X.env = pure true) (hi : DI true X E tg iter fi) (ok : BlkOk X.N X.env.scope scope own) (hv : slotsIn (own.map (·.2)) t = true)
    (hg : ∀ (s : Shared) (H : Hp) (C : Addr) (cl : List (Str × Addr)) (fp : List Addr), PG (X.blk s H scope (compEnvC scope cl C X.env) fp) tg (gOf X.K t))
    (he : ∀ (s : Shared) (H : Hp) (C : Addr) (cl : List (Str × Addr)) (fp : List Addr), DE (X.blk s H scope (compEnvC scope cl C X.env) fp) (fun _ => E0) elt fe) (hs : ∀ x, foldedSetIterable iter X.env x = pure x := by intro _; rfl) :
    DS X E (.Assign [.Name n py] (.ListComp elt [⟨tg, iter, [], 0⟩] scope lp) pos) (setW m (dLc fi t dYes fe (own.map (·.2)))) :=
  ps_imp (ps_setLc hc hN hy hyl hsw hi ok hg (fun _ _ _ _ _ => pts_nil) he hs) fun D σ H h => by
    have := setlc_ok (elt := elt) (tg := tg) (iter := iter) (m := m) hv (tt := tYes) (fun σ H Q ⟨Z, G, ρ, P, w, v, f, c⟩ => c.val _ f G H (Gr.refl w)) (fun _ _ _ h => h) D σ H h
    rw [hm] at this
    exact this
theorem ds_setLc1 {elt tg iter cnd : Expr} {scope : Scope} {own : List (Str × Nat)} {fi : WI} {t : Tg} {ft : WT} {fe : WE} {n : Str} {py lp : Pos} {m : Tm} (hm : gOfM X.K m = gName i) (hc : X.calm = true) (hN : X.N.Nodup) (hy : X.N[i]? = some n) (hyl : X.env.scope.names.lookup n = some .local)
    (hsw : swapsWith (.ListComp elt [⟨tg, iter, [cnd], 0⟩] scope lp) (some (.Name n py)) pos.line X.env = pure true) (hi : DI true X E tg iter fi) (ok : BlkOk X.N X.env.scope scope own) (hv : slotsIn (own.map (·.2)) t = true)
    (hg : ∀ (s : Shared) (H : Hp) (C : Addr) (cl : List (Str × Addr)) (fp : List Addr), PG (X.blk s H scope (compEnvC scope cl C X.env) fp) tg (gOf X.K t))
    (ht : ∀ (s : Shared) (H : Hp) (C : Addr) (cl : List (Str × Addr)) (fp : List Addr), DT (X.blk s H scope (compEnvC scope cl C X.env) fp) (fun _ => E0) cnd ft)
    (he : ∀ (s : Shared) (H : Hp) (C : Addr) (cl : List (Str × Addr)) (fp : List Addr), DE (X.blk s H scope (compEnvC scope cl C X.env) fp) (fun _ => E0) elt fe) (hs : ∀ x, foldedSetIterable iter X.env x = pure x := by intro _; rfl) :
    DS X E (.Assign [.Name n py] (.ListComp elt [⟨tg, iter, [cnd], 0⟩] scope lp) pos) (setW m (dLc fi t ft fe (own.map (·.2)))) :=
  ps_imp (ps_setLc hc hN hy hyl hsw hi ok hg (fun s H C cl fp => pts_one (ht s H C cl fp)) he hs) fun D σ H h => by
    have := setlc_ok (elt := elt) (tg := tg) (iter := iter) (m := m) hv (fun _ _ _ h => h) (fun _ _ _ h => h) D σ H h
    rw [hm] at this
    exact this
end
end Pw
end

section
set_option Elab.async false
set_option linter.all false
set_option maxRecDepth 100000
set_option maxHeartbeats 4000000
/-! Pw10: a def by its body; the law's drawing. -/
namespace Pw
open PySem PySem.Spec L2
/-- a def's wish, by its body's -/
def fnW (n N : Nat) (b : WS) : WF := fun rs P => rs.length = n ∧ b (rs.map some ++ List.replicate (N - n) none) fun fl => match fl with
  | .nx _ => P (.val (.d .none))
  | .rt r => P (.val r)
  | .ex x _ => P (.exn x)
  | .bk _ => False
  | .ct _ => False
/-- a def of the text, at its global name -/
def FnDef (K : PySem.W.Frag) (mg : Str → Option Value) (x : Str) (st : Stmt) : Prop := ∃ f fd, FunD K x x (defArgs st) (defBody st) (defScope st) [] [] f fd ∧ mg x = some (.ref f)
abbrev CxF (P : Program) (w : World) (K : PySem.W.Frag) (mg : Str → Option Value) (base : Heap) (N : List Str) (x : Str) (st : Stmt) (f : Addr) (cdv : Value) (A : Around) (outer : List Env) (s : Shared) (H : Hp) (E : XK) : Cx :=
  cxOf (L2.CX P w) P w K mg base N x (defScope st) f cdv A outer s H E
abbrev EF (E : XK) : Sl → XK := fun _ => E
section
variable {P : Program} {w : World} {K : PySem.W.Frag} {mg : Str → Option Value} {base : Heap} {x : Str} {st : Stmt} {N ps : List Str} {k n : Nat} {b : WS}
theorem RdA.get {Z : Zs} {G H : Hp} : ∀ {vs : List V} {rs : List SV}, RdA K Z G H vs rs → ∀ (i : Nat) (r : SV), rs[i]? = some r → ∃ v, vs[i]? = some v ∧ RdV K Z G H v r ∧ isPlain r = true
  | _, _, .nil, i, r, e => by simp at e
  | _, _, .cons h p t, 0, r, e => by simp at e; subst e; exact ⟨_, rfl, h, p⟩
  | _, _, .cons h p t, i + 1, r, e => by
    obtain ⟨v, h1, h2⟩ := RdA.get t i r (by simpa using e)
    exact ⟨v, by simpa using h1, h2⟩
theorem start_rv {Z : Zs} {G H : Hp} {vs : List V} {rs : List SV} (ra : RdA K Z G H vs rs) (hN : vs.length ≤ N.length) : RV K Z G H (L2.start N vs) (rs.map some ++ List.replicate (N.length - vs.length) none) := by
  have hl := ra.length
  have key : ∀ (i : Nat) (r : SV), (rs.map some ++ List.replicate (N.length - vs.length) none)[i]? = some (some r) → rs[i]? = some r := fun i r e => by
    by_cases hi : i < rs.length
    · rw [List.getElem?_append_left (by simpa using hi), List.getElem?_map] at e
      cases q : rs[i]? with
      | none => rw [q] at e; cases e
      | some y => rw [q] at e; cases e; rfl
    · rw [List.getElem?_append_right (by simpa using hi), List.getElem?_replicate] at e
      split at e <;> cases e
  refine ⟨fun i r e => ?_, fun i j xs ys v ij e1 e2 => ?_, ?_, fun i xs e => ?_⟩
  · obtain ⟨v, h1, h2, _⟩ := ra.get i r (key i r e)
    refine ⟨v, ?_, h2⟩
    have hi : i < vs.length := (List.getElem?_eq_some_iff.mp h1).1
    unfold L2.start
    rw [List.getElem?_append_left (by simpa using hi), List.getElem?_map, h1]
    rfl
  · obtain ⟨_, _, _, p⟩ := ra.get i _ (key i _ e1)
    cases p
  · unfold L2.start
    rw [List.length_append, List.length_append, List.length_map, List.length_map, List.length_replicate, List.length_replicate, hl]
  · obtain ⟨_, _, _, p⟩ := ra.get i _ (key i _ e)
    cases p
theorem start_si {Z : Zs} {G H : Hp} {vs : List V} {rs : List SV} (w0 : WO Z G H) (ra : RdA K Z G H vs rs) (hN : vs.length ≤ N.length) : SI K Z G H G H (L2.start N vs) (rs.map some ++ List.replicate (N.length - vs.length) none) := by
  refine ⟨Gr.refl w0, start_rv ra hN, fun i xs p e1 _ => ?_⟩
  have := (start_rv (N := N) ra hN).get i _ e1
  -- no own slot at the start
  have hl := ra.length
  by_cases hi : i < rs.length
  · rw [List.getElem?_append_left (by simpa using hi), List.getElem?_map] at e1
    cases q : rs[i]? with
    | none => rw [q] at e1; cases e1
    | some y =>
      rw [q] at e1
      cases e1
      obtain ⟨_, _, _, pl⟩ := ra.get i _ q
      cases pl
  · rw [List.getElem?_append_right (by simpa using hi), List.getElem?_replicate] at e1
    split at e1 <;> cases e1
theorem pre_len {N ps : List Str} {sc : Scope} (S : FnScope N ps sc) : ps.length ≤ N.length := by
  have e := congrArg List.length S.pre
  rw [List.length_take] at e
  omega
theorem mk_callee (F : FnDef K mg x st) (S : FnScope N ps (defScope st)) (hn : ps.length = n)
    (hb : ∀ (kV doc pm : Value) (an : Option Addr) (cdv ct : Value) (us : List Value), us.length = ps.length → bindArgs (PySem.W.fnOf x x (defArgs st) (defBody st) (defScope st) .none kV doc pm an cdv ct) ⟨us, []⟩ = pure (ps.zip us))
    (body : ∀ f cdv A outer s H E, Room k (A.deeper (PyProof.Rows.envOfC x (defScope st) s.heap.objs.size f cdv)) → DSs (CxF P w K mg base N x st f cdv A outer s H E) (EF E) (defBody st) b) : Callee P w K mg base (k + 1) x n (fnW n N.length b) := by
  obtain ⟨f, fd, FD, hm⟩ := F
  refine ⟨f, fd, ps, FD.ok (CX := L2.CX P w) S (fun vs H Q E h => ?_) (fun cdv A outer s H vs Q E hr h => ⟨_, body f cdv A outer s H E hr, ?_⟩), hm, FD.kp, FD.bindsN hb⟩
  · obtain ⟨Z, G, rs, P', w0, ra, hl, _⟩ := h
    rw [← ra.length, hl, hn]
  · obtain ⟨Z, G, rs, P', w0, ra, hl, q, c⟩ := h
    have hvl : vs.length = n := by rw [← ra.length, hl]
    have hN : vs.length ≤ N.length := by rw [hvl, ← hn]; exact pre_len S
    have q2 := q.2
    rw [← hvl] at q2
    refine ⟨Z, G, H, G, _, _, start_si w0 ra hN, q2, ⟨fun ρ p σ G' H' s' g => ?_, fun ρ p => p.elim, fun ρ p => p.elim, fun r p v G' H' a rf => c.val r p v G' H' a rf, fun x ρ p cls d σ G' H' s' r => c.exn x p cls d G' H' s'.gr r⟩⟩
    exact c.val _ p .non G' H' s'.gr ⟨.non, fun _ _ e _ => nomatch e⟩
theorem room65 {A : Around} {k : Nat} (hr : Room k A) : A.units + 65 < cLine := by have := hr.un; omega
theorem room64 {A : Around} {k : Nat} (hr : Room k A) : A.units + 64 < cLine := by have := hr.un; omega
end
/-! ### _law_take -/
def w_take : WF := fun rs P => match rs with
  | [.st, .d (.int most)] => most < 1073741824 ∧ ∀ r : Int, (most < 2 → r = 0) → (2 ≤ most → 0 ≤ r ∧ r < most) → P (.val (.d (.int r)))
  | _ => False
abbrev rLtI : R2 := rI0 fun i j => .bl (decide (i < j))
abbrev rGeI : R2 := rI0 fun i j => .bl (decide (j ≤ i))
abbrev rAddI : R2 := rI0 fun i j => .int (i + j)
abbrev rMulI : R2 := rI CMul fun i j => .int (i * j)
abbrev rDivN : R2 := rI CDivN fun i j => .int (i.fdiv j)
abbrev rModN : R2 := rI (fun _ j => j ≠ 0) fun i j => .int (i.fmod j)
abbrev cInt (t : TE) : TE := tCB (fun xs H Q => (∃ i, xs = [V.int i] ∧ Q (.int i) H) ∨ ∃ k, xs = [.bl k] ∧ Q (.int (if k then 1 else 0)) H) (tCons t tNil)
abbrev cLen (K : PySem.W.Frag) (t : TE) : TE := tCB (fun xs H Q => ∃ x n, xs = [x] ∧ LenV K x H n ∧ Q (V.int (n : Nat)) H) (tCons t tNil)
abbrev kI (i : Int) : TE := tC (.int i)
def bTake (K : PySem.W.Frag) : TS :=
  tSeq (tIfS (tTest (tOp rLtI (tVar 1) (kI 2))) (tRet (kI 0)) tNext)
  (tSeq (tAsg (tOp (rIxL K) (tVar 0) (kI 1)) (gName 2))
  (tSeq (tAsg (tOp rModN (cInt (tOp (rIxL K) (tVar 0) (kI 0))) (cLen K (tVar 2))) (gName 3))
  (tSeq (tAsg (tOp (rIxL K) (tVar 2) (tVar 3)) (gName 4))
  (tSeq (tIfS (tTest (tOp rGeI (tVar 4) (kI 1000000000000000000))) (tSeq (tAsg (tOp rDivN (tVar 4) (tVar 1)) (gSub (tVar 2) (tVar 3) rSetL)) (tRet (tOp rModN (cInt (tVar 4)) (tVar 1)))) tNext)
  (tSeq (tAsg (tOp rAddI (tOp (rIxL K) (tVar 0) (kI 0)) (kI 1)) (gSub (tVar 0) (kI 0) rSetL))
  (tSeq (tAsg (tOp rModN (cInt (tOp rAddI (tOp rMulI (tVar 4) (kI 48271)) (tOp rMulI (tOp (rIxL K) (tVar 0) (kI 0)) (kI 69621)))) (kI 2147483647)) (gName 5))
  (tSeq (tAsg (tOp rModN (cInt (tOp rAddI (tOp rMulI (tVar 5) (kI 16807)) (tOp rMulI (tOp (rIxL K) (tVar 0) (kI 0)) (kI 7919)))) (kI 1000000007)) (gName 5))
  (tRet (tOp rModN (cInt (tOp rDivN (tVar 5) (kI 7))) (tVar 1))))))))))
theorem fmod_pos {a b : Int} (h : 0 < b) : 0 ≤ a.fmod b ∧ a.fmod b < b := by
  rw [Int.fmod_eq_emod_of_nonneg _ (Int.le_of_lt h)]
  exact ⟨Int.emod_nonneg _ (by omega), Int.emod_lt_of_pos _ h⟩
theorem take_sem {K : PySem.W.Frag} {Z : Zs} {G H : Hp} {mg : Str → Option Value} {vs : List V} {rs : List SV} {Q : VK} {E : XK} {P : Out SV → Prop} (w : WO Z G H) (ra : RdA K Z G H vs rs) (q : w_take rs P) (c : Cov K mg Z G H Q E P) :
    bTake K { nx := fun _ H' => Q .non H', rt := Q } (L2.start ["state", "most", "cells", "at", "cell", "mixed"] vs) H := by
  unfold w_take at q
  split at q
  · rename_i most
    obtain ⟨q1, q2⟩ := q
    cases ra with
    | cons r1 _ ra =>
    cases ra with
    | cons r2 _ ra =>
    cases ra
    obtain ⟨p, qa, ez, rfl⟩ := r1
    cases r2
    obtain ⟨_, _, npq, n, cs, hp, hq, hn, hne, hlen, hpos⟩ := w.z p qa ez
    have fin : ∀ (r : Int) (H' : Hp), (most < 2 → r = 0) → (2 ≤ most → 0 ≤ r ∧ r < most) → (∀ a, offZ Z a → H' a = H a) → StOk p qa H' → Q (.int r) H' := fun r H' h1 h2 k st => by
      have off : ∀ a, G a ≠ none → offZ Z a := fun a ha x y e => by
        obtain ⟨g1, g2, _⟩ := w.z x y e
        exact ⟨fun z => ha (by rw [z]; exact g1), fun z => ha (by rw [z]; exact g2)⟩
      refine c.val _ (q2 r h1 h2) _ G H' ⟨Same.refl _, fun a o z e => by rw [k a z]; exact e, fun _ _ h => h, ⟨fun a o e => ?_, fun x y e => ?_⟩⟩ ⟨.int r, fun _ _ e _ => nomatch e⟩
      · rw [k a (off a (by rw [e]; exact fun z => nomatch z))]
        exact w.gh a o e
      · obtain ⟨g1, g2, g3, _⟩ := w.z x y e
        rw [ez] at e
        cases e
        exact ⟨g1, g2, g3, st⟩
    refine ⟨_, rfl, most, 2, rfl, rfl, decide (most < 2), rfl, ?_⟩
    by_cases hm : most < 2
    · rw [decide_eq_true hm]
      exact L2.iteT <| fin 0 H (fun _ => rfl) (fun h => by omega) (fun _ _ => rfl) ⟨n, cs, hp, hq, hn, hne, hlen, hpos⟩
    · rw [decide_eq_false hm]
      refine L2.iteF ?_
      have h2 : 2 ≤ most := by omega
      have lc : 0 < cs.length := by cases cs with | nil => exact absurd rfl hne | cons _ _ => simp
      -- cells, at, cell
      refine ⟨_, rfl, p, _, 1, .ref qa, rfl, rfl, .inl (.inl hp), atI_nat (j := 1) rfl, ?_⟩
      refine ⟨_, rfl, p, _, 0, .int n, rfl, rfl, .inl (.inl hp), atI_nat (j := 0) rfl, .inl ⟨n, rfl, ?_⟩⟩
      refine ⟨_, rfl, .ref qa, cs.length, rfl, .inl ⟨_, .inl (.inl hq), by rw [List.length_map]⟩, n, (cs.length : Int), rfl, rfl, by omega, ?_⟩
      have ha := fmod_pos (a := n) (b := (cs.length : Int)) (by omega)
      obtain ⟨j, hj⟩ : ∃ j : Nat, n.fmod (cs.length : Int) = (j : Int) := ⟨(n.fmod (cs.length : Int)).toNat, by omega⟩
      rw [hj] at ha
      simp only [hj]
      have hjl : j < cs.length := by omega
      obtain ⟨cell, hc⟩ : ∃ cell, cs[j]? = some cell := ⟨cs[j], List.getElem?_eq_getElem hjl⟩
      have hcm : (cs.map V.int)[j]? = some (.int cell) := by rw [List.getElem?_map, hc]; rfl
      have hc0 : 0 ≤ cell := hpos cell (List.mem_of_getElem? hc)
      refine ⟨_, rfl, _, rfl, qa, _, (j : Int), .int cell, rfl, rfl, .inl (.inl hq), atI_nat hcm, ?_⟩
      refine ⟨_, rfl, cell, 1000000000000000000, rfl, rfl, decide ((1000000000000000000 : Int) ≤ cell), rfl, ?_⟩
      have fm := fmod_pos (a := cell) (b := most) (by omega)
      by_cases hbig : (1000000000000000000 : Int) ≤ cell
      · rw [decide_eq_true hbig]
        refine L2.iteT ?_
        refine ⟨_, rfl, _, rfl, cell, most, rfl, rfl, ⟨by omega, by omega⟩, ?_⟩
        refine ⟨_, rfl, _, rfl, qa, _, (j : Int), j, rfl, rfl, hq, ?_, ?_⟩
        · unfold ixN
          rw [if_pos (by omega), if_pos (by rw [List.length_map]; omega)]
          rfl
        · refine ⟨_, rfl, .inl ⟨cell, rfl, _, rfl, cell, most, rfl, rfl, by omega, ?_⟩⟩
          refine fin _ _ (fun h => by omega) (fun _ => fm) (fun a z => ?_) ?_
          · exact upd_ne (z p qa ez).2
          · refine ⟨n, cs.set j (cell.fdiv most), ?_, ?_, hn, ?_, by rw [List.length_set]; exact hlen, fun x hx => ?_⟩
            · rw [upd_ne npq]; exact hp
            · rw [upd_same, List.map_set]
            · intro z
              have e : (cs.set j (cell.fdiv most)).length = 0 := by rw [z]; rfl
              rw [List.length_set] at e
              omega
            · rcases List.mem_or_eq_of_mem_set hx with h | h
              · exact hpos x h
              · rw [h, Int.fdiv_eq_ediv_of_nonneg _ (by omega)]
                exact Int.ediv_nonneg hc0 (by omega)
      · rw [decide_eq_false hbig]
        refine L2.iteF ?_
        -- state[0] = state[0] + 1
        refine ⟨_, rfl, p, _, 0, .int n, rfl, rfl, .inl (.inl hp), atI_nat (j := 0) rfl, n, 1, rfl, rfl, ?_⟩
        refine ⟨_, rfl, p, _, 0, 0, rfl, rfl, hp, rfl, ?_⟩
        have hp' : upd H p (.lst ([V.int n, .ref qa].set 0 (.int (n + 1)))) p = some (.lst [.int (n + 1), .ref qa]) := by rw [upd_same]; rfl
        refine ⟨_, rfl, cell, 48271, rfl, rfl, .inr ⟨by omega, by omega⟩, _, rfl, p, _, 0, .int (n + 1), rfl, rfl, .inl (.inl hp'), atI_nat (j := 0) rfl, n + 1, 69621, rfl, rfl, .inr ⟨by omega, by omega⟩, _, _, rfl, rfl, .inl ⟨_, rfl, _, 2147483647, rfl, rfl, by omega, ?_⟩⟩
        refine ⟨_, rfl, _, 16807, rfl, rfl, .inr ⟨by omega, by omega⟩, _, rfl, p, _, 0, .int (n + 1), rfl, rfl, .inl (.inl hp'), atI_nat (j := 0) rfl, n + 1, 7919, rfl, rfl, .inr ⟨by omega, by omega⟩, _, _, rfl, rfl, .inl ⟨_, rfl, _, 1000000007, rfl, rfl, by omega, ?_⟩⟩
        refine ⟨_, rfl, _, 7, rfl, rfl, ⟨by omega, by decide⟩, .inl ⟨_, rfl, _, rfl, _, most, rfl, rfl, by omega, ?_⟩⟩
        refine fin _ _ (fun h => by omega) (fun _ => fmod_pos (by omega)) (fun a z => upd_ne (z p qa ez).1) ?_
        refine ⟨n + 1, cs, hp', ?_, by omega, hne, hlen, hpos⟩
        rw [upd_ne (Ne.symm npq)]
        exact hq
  · exact q.elim
end Pw
end

section
set_option Elab.async false
set_option linter.all false
set_option maxRecDepth 100000
set_option maxHeartbeats 4000000
/-! Pw11: _law_state, the law's own body. -/
namespace Pw
open PySem PySem.Spec L2
def spState (K : PySem.W.Frag) : Sp := fun vs H Q _ => ∃ (a : Addr) (ns : List Int), vs = [.ref a] ∧ SqL K H a (ns.map V.int) ∧
  ∀ p q H', Same H H' → H p = none → H q = none → p ≠ q → StOk p q H' → Q (.ref p) H'
abbrev cAbs (t : TE) : TE := tCB (fun xs H Q => ∃ i, xs = [V.int i] ∧ Q (.int (if i < 0 then -i else i)) H) (tCons t tNil)
def bState (K : PySem.W.Frag) : TS :=
  tSeq (tAsg (tLc (iList K (tSl (rSlL K) (tVar 0) tNoPart (tPart (kI 63)))) (gName 2) tYes (cAbs (tVar 2)) [2]) (gName 1))
  (tSeq (tIfS (tTest (tOp rEq (cLen K (tVar 1)) (kI 0))) (tAsg (tLst (tCons (kI 0) tNil)) (gName 1)) tNext)
  (tRet (tLst (tCons (kI 0) (tCons (tVar 1) tNil)))))
def absI (i : Int) : Int := if i < 0 then -i else i
theorem cut63 (xs : List V) : cutV xs none (some 63) = xs.take 63 := by
  unfold cutV
  rw [HT.sIx_none, show HT.sIx xs.length xs.length (some 63) = min 63 xs.length from HT.sIx_nat xs.length xs.length 63, List.drop_zero, Nat.sub_zero]
  by_cases h : 63 ≤ xs.length
  · rw [Nat.min_eq_left h]
  · rw [Nat.min_eq_right (by omega), List.take_length, List.take_of_length_le (by omega)]
theorem state_sem {K : PySem.W.Frag} {vs : List V} {H : Hp} {Q : VK} {E : XK} (h : spState K vs H Q E) : bState K { nx := fun _ H' => Q .non H', rt := Q } (L2.start ["script", "cells", "cell"] vs) H := by
  obtain ⟨a, ns, rfl, hS, fin⟩ := h
  have nn : ∀ {H1 : Hp} {p : Addr} {o : HO}, H1 p = none → Same H1 (upd H1 p o) := fun n b u e => by rw [upd_ne (ne_of_none e n)]; exact e
  -- the slice, the list
  refine ⟨_, rfl, 63, rfl, a, ns.map V.int, rfl, hS, fun c nc => ?_⟩
  have s1 : Same H (upd H c (.lst (cutV (ns.map V.int) none (some 63)))) := nn nc
  rw [cut63, ← List.map_take] at s1 ⊢
  refine ⟨c, rfl, ⟨_, .inl (.inl upd_same)⟩, fun D nD => ?_⟩
  have nDc : c ≠ D := fun e => by rw [← e, upd_same] at nD; cases nD
  have nD0 : H D = none := s1.free nD
  refine lc_list (K := K) (a := c) (xs := (ns.take 63).map V.int) (fun i Hc => Same H Hc ∧ Hc c = some (.lst ((ns.take 63).map V.int)) ∧ Hc D = some (.lst (((ns.take 63).take i).map fun n => V.int (absI n))))
    ⟨s1.trans (nn nD), by rw [upd_ne nDc, upd_same], by rw [upd_same]; rfl⟩ (fun i Hc _ h => .inl (.inl h.2.1)) (fun i x Hc hx h => ?_) fun Hc h => ?_
  · obtain ⟨g1, g2, g3⟩ := h
    rw [List.getElem?_map] at hx
    obtain ⟨n, hn, ex⟩ := Option.map_eq_some_iff.mp hx
    subst ex
    refine ⟨by rfl, ?_⟩
    refine ⟨_, rfl, n, rfl, _, g3, ?_, fun b u e => ?_, ?_, ?_⟩
    · rw [List.length_map, List.length_take, List.length_take, sizeLine_eq]
      omega
    · rw [upd_ne (ne_of_none e nD0)]
      exact g1 b u e
    · rw [upd_ne nDc]
      exact g2
    · rw [upd_same]
      have et : ((ns.take 63).take (i + 1)) = (ns.take 63).take i ++ [n] := by
        generalize ns.take 63 = ms at hn
        rw [List.take_add_one, hn]
        rfl
      rw [et, List.map_append]
      rfl
  · obtain ⟨g1, g2, g3⟩ := h
    rw [List.length_map, List.take_of_length_le (Nat.le_refl _)] at g3
    have cs0 : ∀ x ∈ (ns.take 63).map absI, 0 ≤ x := fun x hx => by
      obtain ⟨y, _, rfl⟩ := List.mem_map.mp hx
      unfold absI
      split <;> omega
    have hl63 : ((ns.take 63).map absI).length ≤ 63 := by rw [List.length_map, List.length_take]; omega
    have e3 : Hc D = some (.lst (((ns.take 63).map absI).map V.int)) := by rw [g3, List.map_map]; rfl
    generalize (ns.take 63).map absI = cs at cs0 hl63 e3
    refine ⟨_, rfl, .ref D, cs.length, rfl, .inl ⟨_, .inl (.inl e3), by rw [List.length_map]⟩, rfl, decide (V.int (cs.length : Int) = V.int 0), rfl, ?_⟩
    by_cases h0 : cs = []
    · subst h0
      refine L2.iteT ⟨by rw [sizeLine_eq]; decide, fun p np => ?_⟩
      have npD : p ≠ D := fun e => by rw [e, e3] at np; cases np
      refine ⟨_, rfl, by rw [sizeLine_eq]; exact (by decide : (2 : Nat) ≤ 16777216), fun l nl => ?_⟩
      have nlp : l ≠ p := fun e => by rw [e, upd_same] at nl; cases nl
      have nl0 : Hc l = none := (nn np).free nl
      refine fin l p _ (g1.trans ((nn np).trans (nn nl))) (g1.free nl0) (g1.free np) nlp ⟨0, [0], upd_same, ?_, Int.le_refl _, by simp, by decide, by simp⟩
      rw [upd_ne (Ne.symm nlp), upd_same]
      rfl
    · have hd : decide (V.int (cs.length : Int) = V.int 0) = false := decide_eq_false fun e => by
        have := V.int.inj e
        cases cs with
        | nil => exact h0 rfl
        | cons _ _ => rw [List.length_cons] at this; omega
      rw [hd]
      refine L2.iteF ?_
      refine ⟨_, rfl, by rw [sizeLine_eq]; exact (by decide : (2 : Nat) ≤ 16777216), fun l nl => ?_⟩
      have nlD : l ≠ D := fun e => by rw [e, e3] at nl; cases nl
      refine fin l D _ (g1.trans (nn nl)) (g1.free nl) nD0 nlD ⟨0, cs, upd_same, ?_, Int.le_refl _, h0, hl63, cs0⟩
      rw [upd_ne (Ne.symm nlD)]
      exact e3
/-- the law's promise -/
def spLaw (K : PySem.W.Frag) : Sp := fun vs H Q _ => ∃ (a : Addr) (ns : List Int), vs = [.ref a] ∧ SqL K H a (ns.map V.int) ∧ ns.length ≤ 63 ∧ ∀ H', Q (.bl true) H'
def lawEnv (m : Nat) : SEnv := none :: some .st :: List.replicate m none
theorem law_sem {K : PySem.W.Frag} {mg : Str → Option Value} {E : Sl → XK} {b : WS} {vs : List V} {H : Hp} {Q : VK} {E' : XK} {N : List Str} {m : Nat} (hN : N.length = m + 2) (q : b (lawEnv m) fun fl => fl = .rt (.d (.bool true))) (h : spLaw K vs H Q E') :
    tSeq (tAsg (tCall (spState K) [] E0 (tCons (tVar 0) tNil)) (gName 1)) (tS K mg E b) { nx := fun _ H' => Q .non H', rt := Q } (L2.start N vs) H := by
  obtain ⟨a, ns, rfl, hS, hl, fin⟩ := h
  have es : L2.start N [V.ref a] = some (.ref a) :: none :: List.replicate m none := by
    unfold L2.start
    rw [hN]
    rfl
  rw [es]
  refine ⟨_, rfl, a, ns, rfl, hS, fun p q' H' sm np nq npq st => ?_⟩
  have w : WO (some (p, q')) (fun _ => none) H' := ⟨fun _ _ e => (by cases e), fun x y e => (by cases e; exact ⟨rfl, rfl, npq, st⟩)⟩
  refine ⟨some (p, q'), fun _ => none, H', fun _ => none, lawEnv m, _, ⟨Gr.refl w, ⟨fun i r e => ?_, fun i j xs ys v ij e1 => ?_, ?_, fun i xs e => ?_⟩, fun i xs p e1 => ?_⟩, q, ⟨fun ρ h => (by cases h), fun ρ h => (by cases h), fun ρ h => (by cases h), fun r h v G H1 g rf => ?_, fun x ρ h => (by cases h)⟩⟩
  · match i, e with
    | 0, e => cases e
    | 1, e => cases e; exact ⟨_, rfl, p, q', rfl, rfl⟩
    | i + 2, e =>
      have e' : (List.replicate m (none : Option SV))[i]? = some (some r) := e
      rw [List.getElem?_replicate] at e'
      split at e' <;> cases e'
  · match i, e1 with
    | 0, e => cases e
    | 1, e => cases e
    | i + 2, e =>
      have e' : (List.replicate m (none : Option SV))[i]? = some (some (.own xs)) := e
      rw [List.getElem?_replicate] at e'
      split at e' <;> cases e'
  · show List.length (List.set (some (V.ref a) :: none :: List.replicate m none) 1 (some (V.ref p))) = List.length (none :: some SV.st :: List.replicate m none)
    simp
  · match i, e with
    | 0, e => cases e
    | 1, e => cases e
    | i + 2, e =>
      have e' : (List.replicate m (none : Option SV))[i]? = some (some (.bor xs)) := e
      rw [List.getElem?_replicate] at e'
      split at e' <;> cases e'
  · match i, e1 with
    | 0, e => cases e
    | 1, e => cases e
    | i + 2, e =>
      have e' : (List.replicate m (none : Option SV))[i]? = some (some (.own xs)) := e
      rw [List.getElem?_replicate] at e'
      split at e' <;> cases e'
  · cases h
    cases rf.1
    exact fin H1
end Pw
end

section
set_option Elab.async false
set_option linter.all false
set_option maxRecDepth 100000
set_option maxHeartbeats 4000000
/-! Pw12: an error class over ValueError whose __init__ says super().__init__(..), then sets its fields. -/
namespace Pw
open PySem PySem.Spec L2 NdefX
/-- the function object of such an __init__, its code, its cell -/
structure IniD (P : Program) (K : PySem.W.Frag) (F : NF) (C f : Addr) (fd : FuncData) : Prop where
  ex : ∃ (oc : Value) (od : Option Addr) (kV doc pm : Value) (an : Option Addr) (cc : Addr) (ct : Value) (osl : Array (Option Value)) (ccl : Value) (cdd : Option Addr) (vs : Array Value) (ccs : Array (Option Value)) (file : Str) (tf : Tok)
      (cl : Value) (cld : Option Addr) (csl : Array (Option Value)) (cdD : ClassData),
    F.cl = [(("__class__" : Str), cc)] ∧ fd = PySem.W.fnX F.name F.qual F.params F.body F.scope F.cl .none kV doc pm an (.ref F.c) ct ∧ K.lookup f = some ⟨oc, od, .func fd, osl⟩ ∧ PySem.W.codeIn K (.ref F.c) F.qual = true ∧
      K.lookup F.c = some ⟨ccl, cdd, .fields vs, ccs⟩ ∧ vs[2]? = some (.str file tf) ∧ ((P.main.file : Str) == file) = true ∧ K.lookup cc = some ⟨cl, cld, .cell (some (.ref C)), csl⟩ ∧ PySem.W.clsIn K C = some cdD
  sup : PySem.W.ks_superIn K C C "__init__" = some (some (.builtin "ValueError.__init__"))
  sub : PySem.W.mroIn K C (.ref C) = some true
  sbV : PySem.W.subIn K (.ref C) (.type "ValueError") = some true
  opq : PySem.W.nsIn K cStatics "thirdparty.any" = some none
theorem upd_id {H : Hp} {a : Addr} {o : HO} (e : H a = some o) : upd H a o = H := by
  funext b
  by_cases hb : b = a
  · rw [hb, upd_same, e]
  · rw [upd_ne hb]
section
variable {P : Program} {w : World} {K : PySem.W.Frag} {mg : Str → Option Value} {base : Heap} {CX : CXT} {N ps : List Str} {k : Nat} {f C : Addr} {fd : FuncData} {F : NF} {sp : Sp} {p0 p1 p2 p3 p4 : Pos} {arg : Expr} {rest : List Stmt}
theorem boot_super : bootBuiltins "super" = some (.type "super") := by
  first | exact PyProof.Rows.Boot.«super» | kernel_rfl
theorem ini_ok {pl : Env → Sem Bool} (D : IniD P K F C f fd) (T : OexC K C) (S : NScope N (("self" : Str) :: ps) [("__class__" : Str)] F.scope) (hbd : F.body = .Expr (.Call (.Attribute (.Call (.Name "super" p0) [] [] p1) "__init__" p2) [arg] [] p3) p4 :: rest)
    (har : ∃ ar : Arg, (F.params.posonlyargs ++ F.params.args).head? = some ar ∧ ar.arg = ("self" : Str)) (hks : F.scope.names.lookup ("super" : Str) = some .globalImplicit) (hkc : F.scope.names.lookup ("__class__" : Str) = some .free)
    (hsup : mg "super" = none) (htop : (P.main.scope.names.lookup ("super" : Str)).isSome = false)
    (hstar : ∀ env : Env, starEach [arg] env = (false, eval arg env) :: starEach [] env) (hsw : ∀ env : Env, swapsWith (.Call (.Attribute (.Call (.Name "super" p0) [] [] p1) "__init__" p2) [arg] [] p3) none p4.line env = pure false)
    (hcall : ∀ env : Env, eval (.Call (.Attribute (.Call (.Name "super" p0) [] [] p1) "__init__" p2) [arg] [] p3) env = (do
      let ov ← attributeBase (.Call (.Name "super" p0) [] [] p1) "__init__" env (eval (.Call (.Name "super" p0) [] [] p1) env)
      standAt p2.atName
      let (f, first) ← holding [ov] (getMethod ov "__init__" (pl env))
      callWith p3 f first (backTo p3 (starEach [arg] env)) []))
    (len : ∀ vs H Q E, sp vs H Q E → vs.length = (("self" : Str) :: ps).length)
    (hbody : ∀ (A : Around) (outer : List Env) (s : Shared) (H : Hp) (vs : List V) (Q : VK) (E : XK), sp vs H Q E →
      ∃ (a : Addr) (ur : List V) (te : TE) (t : TS), vs = .ref a :: ur ∧ H a = some (exo a C none) ∧ PE (ncx CX P w K mg base N F f A outer s H E) arg te ∧ PSs (ncx CX P w K mg base N F f A outer s H E) rest t ∧
        te (startF N vs [some (.ref C)]) H fun x H1 => [x].length ≤ sizeLine ∧ H1 a = some (exo a C none) ∧ t { nx := fun _ H' => Q .non H', rt := Q } (startF N vs [some (.ref C)]) H1) :
    FnOk P w K mg base CX (k + 1) f fd (("self" : Str) :: ps) sp := by
  refine ⟨len, fun A outer s H args us vs Q E hr e0 hb r hsp => ?_⟩
  have hl := len _ _ _ _ hsp
  obtain ⟨oc, od, kV, doc, pm, an, cc, ct, osl, ccl, cdd, cvs, ccs, file, tf, cl, cld, csl, cdD, hFc, rfl, lk, hcd, lc, hv2, hfile, lcc, lC⟩ := D.ex
  have KX : K.In s.heap := e0.mod.kin.keeps fun b o e => (e0.bs b o e).1
  have lim : s.heap.NoLimit := e0.mod.nolimit.keeps fun b o e => (e0.bs b o e).1
  have hcc : s.heap.IsCell cc (some (.ref C)) := ⟨_, KX _ _ lcc, rfl⟩
  have hccN : H cc = none := (e0.bs _ _ (e0.mod.kin _ _ lcc)).2
  have CA : CellsAt F.cl [("__class__" : Str)] [some (.ref C)] s.heap H := by
    rw [hFc]
    have lu : ∀ (y : Str) (c : Addr), List.lookup y [(("__class__" : Str), cc)] = some c → y = ("__class__" : Str) ∧ c = cc := fun y c e => by
      by_cases q : y = ("__class__" : Str)
      · subst q
        rw [List.lookup_cons_self] at e
        exact ⟨rfl, (Option.some.inj e).symm⟩
      · rw [List.lookup_cons, show (y == ("__class__" : Str)) = false by simpa using q] at e
        cases e
    refine ⟨rfl, fun y c e => ?_, fun x y c h1 h2 => (lu _ _ h1).1.trans (lu _ _ h2).1.symm, fun i y e => ?_⟩
    · obtain ⟨_, rfl⟩ := lu _ _ e
      exact ⟨hccN, _, hcc⟩
    · cases i with
      | zero =>
        have : y = ("__class__" : Str) := by simpa using e.symm
        subst this
        exact ⟨cc, List.lookup_cons_self, fun v hv => ⟨.ref C, by cases hv; rfl, hcc⟩⟩
      | succ i => simp at e
  obtain ⟨a, ur, te, t, rfl, ea, hpe, hps, hte⟩ := hbody A outer s H vs Q E hsp
  refine PySem.ks_codeAny_call_defAt (body := F.body) (binds := (("self" : Str) :: ps).zip us) hr.depth (KX _ _ lk) rfl lim (PySem.W.codeRec_of KX hcd) rfl hb S.nocell (fun ⟨n, _⟩ hy => S.par n (List.of_mem_zip hy).1) (fun h₁ hns kp => ?_) S.co S.gen S.kind
  have I : Inv (ncx CX P w K mg base N F f A outer s H E) [] (startF N (.ref a :: ur) [some (.ref C)]) H { s with heap := h₁, toks := s.toks + ((("self" : Str) :: ps).zip us).length } := inv_startN S hr.hd e0 hl r CA hns kp
  have hself : ((("self" : Str) :: ps).zip us).reverse.lookup ("self" : Str) = some (.ref a) := by
    have ndP : (("self" : Str) :: ps).Nodup := by
      have q := S.nd.sublist (List.take_sublist ((("self" : Str) :: ps).length + [("__class__" : Str)].length) N)
      rw [S.pre] at q
      exact (List.nodup_append.mp q).1
    cases r with
    | @cons _ u0 _ ur' ra rr =>
      obtain rfl : u0 = Value.ref a := ra
      exact zip_look (i := 0) ndP rfl rfl
  have fin : ∀ {s' : Shared} {σ' : L2.St} {H' : Hp} {v : V} {u : Value}, Inv (ncx CX P w K mg base N F f A outer s H E) [] σ' H' s' → L2.RelV v u → Q v H' → CE outer P w H s Q u s' :=
    fun {s' σ' H' v u} J rv q => ⟨v, H', J.os, J.bare, J.base, J.hok, rv, q⟩
  refine ks_wpAt_mono (Q := SP (ncx CX P w K mg base N F f A outer s H E) [] { nx := fun _ H' => Q .non H', rt := Q }) (E := (ncx CX P w K mg base N F f A outer s H E).xe) ?_ (fun fl s' hs => ?_) (fun e s' hs => hs)
  · show wpAt (model P w) (A.deeper (envF F f s.heap.objs.size)) (.func F.body (envF F f s.heap.objs.size)) (execs F.body (envF F f s.heap.objs.size)) _ _ _
    rw [hbd]
    obtain ⟨ar, har1, har2⟩ := har
    obtain ⟨nm, q, N', bs, bm, sn, sub, ab, col, dd, k0, k1, k2, k3, k5, hC, hbm⟩ := T.cls
    refine ks_wpAt_execs_cons (ks_wpAt_Expr_any (ks_wpAt_MethodCall ?_ (hcall _)) I.quiet (hsw _))
    refine ks_wpAt_super_base (env := envF F f s.heap.objs.size) hks hkc (by decide) rfl (kp _ _ (KX _ _ lk)) rfl har1 rfl (kp _ _ (KX _ _ lc)) rfl hv2 hfile htop ?_
    obtain ⟨mb, hb1, hb2⟩ := I.mod.blt
    refine PySem.W.ks_loadName_global S.kind hks (Calls.loadGlobal_builtin (I.mod.glob.keeps I.bk) hsup (hb1.keeps I.bk) ((hb2 _ (by decide)).trans boot_super) ⟨rfl, ?_⟩)
    refine wpAny_loadName_free S.kind hkc (by show F.cl.lookup _ = _; rw [hFc]; exact List.lookup_cons_self) (hcc.elim fun o ho => ⟨o, kp _ _ ho.1, ho.2⟩) ?_
    rw [har2]
    refine wpAny_loadName_local S.kind (S.par _ (List.mem_cons_self ..)) hns hself ?_
    obtain ⟨oD, hD1, hD2⟩ : ∃ oD, h₁.get? C = some oD ∧ oD.data = .cls cdD := by
      have lC' := lC
      unfold PySem.W.clsIn at lC'
      split at lC'
      · rename_i c d cd' sl ho
        cases lC'
        exact ⟨_, kp _ _ (KX _ _ ho), rfl⟩
      · cases lC'
    refine ks_wpAny_isType_cls hD1 hD2 ⟨rfl, ?_⟩
    obtain ⟨t1, hea⟩ := exo_at I.hok ea
    refine ks_wpAny_call_super hD1 hD2 hea rfl (fun c e => nomatch e) (PySem.W.looks_mroIn I.kIn D.sub) (fun h2 e2 k2 => ?_)
    have I2 := I.kept (t' := s.toks + ((("self" : Str) :: ps).zip us).length) k2
    have hm := D.sup
    unfold PySem.W.ks_superIn at hm
    rw [lC] at hm
    obtain ⟨t2, hea2⟩ := exo_at I2.hok ea
    have hIV : PySem.W.Looks (model P w) h2 (isInstance (.ref a) (.type "ValueError")) true := by
      have IA : PySem.W.InstAt h2 a { cls := .ref C, dict := none, data := .fields #[.ref t2, .none, .none, .none, .bool false, .none] } C none := ⟨hea2, rfl, rfl, trivial⟩
      exact IA.type.andThen (PySem.W.looks_subIn I2.kIn D.sbV)
    have haC : a ≠ C := fun z => by
      rw [z] at hea2
      have := I2.kIn _ _ hC
      rw [this] at hea2
      cases hea2
    refine PySem.W.kxs_getMethod PySem.W.kxs_ValueError e2 (PySem.W.looks_opaque I2.kIn D.opq) (l₀ := cdD.mro) (fun A Q E s k q => wpAny_bind ((PySem.W.looks_clsIn I2.kIn lC) A _ E s k (wpAny_pure q))) rfl I2.kIn hm hIV haC (by decide) ?_
    have I3 := I2.kept (t' := s.toks + ((("self" : Str) :: ps).zip us).length + 1) (h' := h2.push (PySem.W.kxs_mw "ValueError.__init__" a)) fun b o e => Heap.get?_push_of_some _ e
    have hu : (h2.push (PySem.W.kxs_mw "ValueError.__init__" a)).get? h2.objs.size = some (PySem.W.kxs_mw "ValueError.__init__" a) := Heap.get?_push_at rfl rfl
    have I4 := I3.pins_of (pins' := [(h2.objs.size, PySem.W.kxs_mw "ValueError.__init__" a)]) fun p hp => by
      obtain rfl : p = (h2.objs.size, PySem.W.kxs_mw "ValueError.__init__" a) := by simpa using hp
      refine ⟨hu, I2.hok.fresh (Nat.le_refl _), fun z => ?_, I2.nofs (Nat.le_refl _), fun v z => by cases z⟩
      have q1 : (ncx CX P w K mg base N F f A outer s H E).env.locals < h2.objs.size := I2.lt
      exact absurd (show h2.objs.size = (ncx CX P w K mg base N F f A outer s H E).env.locals from z).symm (Nat.ne_of_lt q1)
    rw [hstar]
    refine PySem.W.kxs_callWith (i := "ValueError.__init__") (x := a) (by rfl) (PySem.Calls.evalArgs_plain ?_)
    have hpa : PA (ncx CX P w K mg base N F f A outer s H E) [arg] (tCons te tNil) := pa_cons hpe pa_nil (hstar _)
    have hrun := hpa.run p3 _ _ _ H (fun vs H1 => vs.length ≤ sizeLine ∧ H1 a = some (exo a C none) ∧ t { nx := fun _ H' => Q .non H', rt := Q } (startF N (.ref a :: ur) [some (.ref C)]) H1) I4 hte
    rw [show starEach [arg] (ncx CX P w K mg base N F f A outer s H E).env = _ from hstar _] at hrun
    refine thn hrun fun us1 s1 hus => ?_
    obtain ⟨vs1, H1, I5, r5, l5, ea5, q5⟩ := hus
    have hpin := (I5.pin (h2.objs.size, PySem.W.kxs_mw "ValueError.__init__" a) (List.mem_append_right _ (List.mem_cons_self ..))).1
    refine ⟨hpin, ?_⟩
    have hl1 : us1.length ≤ sizeLine := by rw [← Paired.length r5]; exact l5
    obtain ⟨hp5, g5, d5, tk5, os5⟩ := s1
    obtain ⟨t5, hea5⟩ := exo_at I5.hok ea5
    have FB := PySem.F.excBase_ValueError
    refine wpAny_call (codeAny_of_tree ?_)
    show wpAny _ _ (callAny (.ref h2.objs.size) ⟨us1, []⟩) _ _ _
    simp only [callAny]
    refine wpAny_bind (wpAny_load hpin ?_)
    simp only [PySem.W.kxs_mw, show (Value.type "method-wrapper" == Value.type "method" || Value.type "method-wrapper" == Value.type "builtin_function_or_method" || Value.type "method-wrapper" == Value.type "method-wrapper") = true by decide, if_true]
    refine PySem.W.KFB.if_so (by decide) ?_
    refine wpAny_bind (PySem.W.check_bound_init FB.toExcCallFacts (I5.kIn _ _ hC) hea5 rfl ?_)
    refine wpAny_bind (wpAny_pure (wpAny_pure ?_))
    refine ⟨plainId_quiet FB.init.plain _, codeAny_builtin FB.initEntry ?_⟩
    refine PySem.W.exc_init_tree (cls := .ref C) (t0 := t5) (dv := none) (c2 := .none) (c3 := .none) (b4 := .bool false) hea5 hl1 fun h6 k6 e6 _ => ?_
    have J := I5.write (t' := tk5) (x := a) (e := a) (o := exo a C none) (by rw [ea5]; exact True.intro) (.inl rfl) k6 ⟨_, e6⟩ (exo_ok e6)
    rw [upd_id ea5] at J
    have J0 := J.pins_of (pins' := []) fun p hp => absurd hp (by simp)
    exact wpAt_of_wpAny (hps.run [] _ _ H1 _ J0 q5)
  · cases fl with
    | ret u =>
      obtain ⟨v, σ', H', J, rv, q⟩ := hs
      exact fin J rv q
    | next =>
      obtain ⟨σ', H', J, q⟩ := hs
      exact fin (v := V.non) (u := Value.none) J rfl q
    | brk =>
      obtain ⟨_, _, _, q⟩ := hs
      exact False.elim q
    | cont =>
      obtain ⟨_, _, _, q⟩ := hs
      exact False.elim q
end
end Pw
end

section
set_option Elab.async false
set_option linter.all false
set_option maxRecDepth 100000
set_option maxHeartbeats 4000000
/-! Pw13: raise, try. -/
namespace Pw
open PySem PySem.Spec L2 NdefX
/-- __init__ keeps its one text in the field fld -/
def spIni (C : Addr) (fld : Str) (n : Nat) : Sp := fun vs H Q E => ∃ (a : Addr) (y : Str), vs = [.ref a, .str y] ∧ n + y.length ≤ sizeLine ∧ H a = some (exo a C none) ∧ ∀ dx, H dx = none → dx ≠ a → Q .non (upd (upd H dx (exd dx [(fld, .str y)])) a (exo a C (some dx)))
/-- an error class with one field -/
structure Err1 (P : Program) (w : World) (K : PySem.W.Frag) (mg : Str → Option Value) (base : Heap) (k : Nat) (x fld : Str) (n : Nat) : Prop where
  ex : ∃ (C fI : Addr) (fd : FuncData) (ps : List Str), mg x = some (.ref C) ∧ OexC K C ∧ PySem.W.findIn K (.ref C) "__init__" = some (some (.ref fI)) ∧ PySem.W.typeIn K (.ref fI) = some (.type "function") ∧
    FnOk P w K mg base (L2.CX P w) k fI fd ps (spIni C fld n) ∧ Binds K fd ps []
/-- raise x(a) -/
def raiseW (x fld : Str) (n : Nat) (fa : WE) : WS := eW fa fun r ρ P => match r with
  | .d (.str y) => n + y.length ≤ sizeLine ∧ P (.ex ⟨x, [(fld, .str y)]⟩ ρ)
  | _ => False
theorem none_up {H : Hp} {a dx : Addr} {o1 o2 : HO} {fs : List (Str × V)} (n : H a = none) (ne : dx ≠ a) : upd (del (upd (upd (upd H a o1) dx (exd dx fs)) a o2) a) dx (.xd fs) = upd H dx (.xd fs) := by
  funext b
  by_cases hd : b = dx
  · rw [hd, upd_same, upd_same]
  · rw [upd_ne hd, upd_ne hd]
    by_cases ha : b = a
    · rw [ha, del_same, n]
    · rw [del_ne ha, upd_ne ha, upd_ne hd, upd_ne ha]
section
variable {X : Cx} {E : Sl → XK} {x fld : Str} {k n : Nat} {arg : Expr} {fa : WE} {p pos pos' : Pos}
theorem ds_raise (Er : Err1 X.prog X.w X.K X.mg X.base k x fld n) (hr : Room (k + 1) X.A) (hc : X.calm = true) (tk : Takes X (fun cls d σ H => E σ cls d H)) (hg : Gl X x) (ha : DE X E arg fa) (hdb : (x == ("__debug__" : Str)) = false := by decide)
    (he : starEach [arg] X.env = (false, eval arg X.env) :: starEach [] X.env := by rfl) (hpl : (backTo pos (starEach [] X.env)).any (·.1) = false := by rfl) :
    DS X E (.Raise (some (.Call (.Name x p) [arg] [] pos)) none pos') (raiseW x fld n fa) := by
  obtain ⟨C, fI, fd, ps, hm, T, iC, tI, F, B⟩ := Er.ex
  refine ps_imp (ps_raise hc tk (pmk_oex T iC tI F hr B .nil (passes_call tk fun _ _ _ _ z => z.elim) hg hm (pa_cons ha pa_nil he) hdb he hpl)) fun D σ H ⟨Z, G0, H0, G, ρ, P, s, f, c⟩ => ?_
  refine e_ok s f c fun r v G1 H1 a1 s1 rf q => ?_
  show [v].length ≤ 1000 ∧ _
  refine ⟨by simp, fun a na => ?_⟩
  split at q
  · rename_i y
    obtain ⟨q1, q2⟩ := q
    cases rf.1
    refine ⟨a, y, rfl, q1, upd_same, fun dx n1 ne => ⟨rfl, dx, [(fld, .str y)], upd_same, by rw [upd_ne ne, upd_same], ?_, ?_⟩⟩
    · rw [upd_ne ne] at n1
      exact n1
    · rw [upd_ne ne] at n1
      rw [none_up na ne]
      have g1 : Gr Z G1 H1 G1 (upd H1 dx (.xd [(fld, .str y)])) := (Gr.refl s1.gr.w).upd n1 (none_g s1.gr.w n1) (offZ_new s1.gr.w n1)
      refine c.ex _ ρ q2 _ _ σ G1 _ (s1.up g1) ⟨C, dx, _, hm, rfl, rfl, upd_same, fun f' y' h => ?_⟩
      have e : (f', y') = (fld, PyData.str y) := by simpa using h
      cases e
      exact ⟨_, by simp [List.lookup], .str y⟩
  · exact q.elim
/-- try: .. except x as e: return e.fld; other errors of the classes os go on -/
def clr (i : Nat) : Fl → Fl
  | .nx ρ => .nx (ρ.set i none)
  | .bk ρ => .bk (ρ.set i none)
  | .ct ρ => .ct (ρ.set i none)
  | fl => fl
def tryF (x fld : Str) (os : List Str) (i : Nat) (b : WS) : WS := fun ρ P => b ρ fun fl => match fl with
  | .ex e ρ' => (e.cls = x ∧ i < ρ'.length ∧ ∃ y, e.args.lookup fld = some y ∧ P (.rt (.d y))) ∨ (e.cls ∈ os ∧ P (.ex e ρ'))
  | fl => P fl
/-- what is known of the error classes -/
structure ErrK (K : PySem.W.Frag) (mg : Str → Option Value) (x fld : Str) (os : List Str) (C : Addr) : Prop where
  at_ : mg x = some (.ref C)
  xf : XfC K C
  no : PySem.W.findIn K (.ref C) fld = some none
  me : PySem.W.exmOne K (.ref C) (.ref C) = some true
  ot : ∀ y ∈ os, ∀ C', mg y = some (.ref C') → PySem.W.exmOne K (.ref C') (.ref C) = some false
theorem mem_lookup {fld : Str} {y : PyData} : ∀ {l : List (Str × PyData)}, l.lookup fld = some y → (fld, y) ∈ l
  | [], h => by cases h
  | (g, z) :: r, h => by
    rw [List.lookup_cons] at h
    cases e : (fld == g) with
    | true =>
      rw [e] at h
      have : fld = g := by simpa using e
      cases h
      rw [this]
      exact List.mem_cons_self ..
    | false =>
      rw [e] at h
      exact List.mem_cons_of_mem _ (mem_lookup h)
theorem ds_tryF {C : Addr} {nm : Str} {i : Nat} {os : List Str} {body : List Stmt} {bf : WS} {np p1 p2 p3 : Pos} (ek : ErrK X.K X.mg x fld os C) (hs : X.stack = X.env :: X.outer) (hf : X.env.frame = some X.env.locals) (hN : X.N.Nodup) (hi : X.N[i]? = some nm) (hln : X.env.kindOf nm = some .local)
    (hg : Gl X x) (tk : Takes X (fun cls d σ H => E σ cls d H)) (hb : ∀ (W : WX) (pn : List (Addr × Obj)) (xe : Value → Shared → Prop), Takes (X.tr pn xe) W → PassesOwn (model X.prog X.w) X.A X.env xe → DSs (X.tr pn xe) (fun σ cls d H => W cls d σ H) body bf)
    (hdb : (x == ("__debug__" : Str)) = false := by decide) (hdn : (nm == ("__debug__" : Str)) = false := by decide) (hcn : (nm == ("__classdict__" : Str)) = false := by decide) (hat : ∀ env : Env, attributeBase (.Name nm p1) fld env (eval (.Name nm p1) env) = eval (.Name nm p1) env := by intro _; rfl) :
    DS X E (.Try body [.ExceptHandler (some (.Name x np)) (some nm) [.Return (some (.Attribute (.Name nm p1) fld p2)) p3] pos'] [] [] pos) (tryF x fld os i bf) := by
  refine ps_imp (ps_try_as (tb := fun W => tS X.K X.mg (fun σ cls d H => W cls d σ H) bf) (ts := fun a cls d => tRet (tXf a cls d C fld (tVar i))) hs hf hN hi hln ⟨hg, hdb, .inl ek.at_⟩ tk (fun W pn xe t1 t2 => hb W pn xe t1 t2)
    fun a oe cls d pn hz hfv => pss_one (ps_ret (pe_xf ek.xf ek.no hz hfv (pe_var hi (.inl hln) hdn hcn) (hat _)))) fun D σ H ⟨Z, G0, H0, G, ρ, P, s, f, c⟩ => ?_
  refine ⟨Z, G0, H0, G, ρ, _, s, f, ⟨c.nx, c.bk, c.ct, c.rt, fun e ρ' q cls d σ' G' H' s' r => ?_⟩⟩
  obtain ⟨C', dd, fs, hm, rfl, rfl, hd, hargs⟩ := r
  rcases q with ⟨e1, hl, y, hy, q⟩ | ⟨e1, q⟩
  · rw [e1, ek.at_] at hm
    cases hm
    refine ⟨true, ek.me, fun _ a na => ?_, fun z => nomatch z⟩
    obtain ⟨v, hv1, hv2⟩ := hargs fld y (mem_lookup hy)
    refine ⟨.ref a, ?_, rfl, rfl, dd, fs, v, rfl, hd, hv1, ?_⟩
    · rw [List.getElem?_set_self (by rw [s'.rv.ln]; exact hl)]
    · exact c.rt _ q v G' H' s'.gr ⟨hv2, fun _ _ z _ => nomatch z⟩
  · refine ⟨false, ek.ot _ e1 C' hm, fun z => (nomatch z), fun _ => ?_⟩
    exact c.ex e ρ' q _ _ σ' G' H' s' ⟨C', dd, fs, hm, rfl, rfl, hd, hargs⟩
end
end Pw
end

section
set_option Elab.async false
set_option linter.all false
set_option maxRecDepth 100000
set_option maxHeartbeats 4000000
/-! Pw14: the classes' __init__ with one field. -/
namespace Pw
open PySem PySem.Spec L2 NdefX
section
variable {P : Program} {w : World} {K : PySem.W.Frag} {mg : Str → Option Value} {base : Heap} {CX : CXT} {k : Nat} {f C : Addr} {fd : FuncData} {F : NF} {p0 p1 p2 p3 p4 q1 q2 q3 q4 r0 r1 r2 : Pos} {par fld pre : Str} {pl : Env → Sem Bool} {z : Nat}
theorem ini1 (D : IniD P K F C f fd) (T : OexC K C) (hno : PySem.W.findIn K (.ref C) fld = some none) (S : NScope [("self" : Str), par, ("__class__" : Str)] [("self" : Str), par] [("__class__" : Str)] F.scope)
    (hbd : F.body = [.Expr (.Call (.Attribute (.Call (.Name "super" p0) [] [] p1) "__init__" p2) [.BinOp (.Constant (.str pre) z r0) .Add (.Name par r1) r2] [] p3) p4, .Assign [.Attribute (.Name "self" q1) fld q2] (.Name par q3) q4])
    (har : ∃ ar : Arg, (F.params.posonlyargs ++ F.params.args).head? = some ar ∧ ar.arg = ("self" : Str)) (hks : F.scope.names.lookup ("super" : Str) = some .globalImplicit)
    (hsup : mg "super" = none) (htop : (P.main.scope.names.lookup ("super" : Str)).isSome = false)
    (hstar : ∀ env : Env, starEach [.BinOp (.Constant (.str pre) z r0) .Add (.Name par r1) r2] env = (false, eval (.BinOp (.Constant (.str pre) z r0) .Add (.Name par r1) r2) env) :: starEach [] env)
    (hsw : ∀ env : Env, swapsWith (.Call (.Attribute (.Call (.Name "super" p0) [] [] p1) "__init__" p2) [.BinOp (.Constant (.str pre) z r0) .Add (.Name par r1) r2] [] p3) none p4.line env = pure false)
    (hcall : ∀ env : Env, eval (.Call (.Attribute (.Call (.Name "super" p0) [] [] p1) "__init__" p2) [.BinOp (.Constant (.str pre) z r0) .Add (.Name par r1) r2] [] p3) env = (do
      let ov ← attributeBase (.Call (.Name "super" p0) [] [] p1) "__init__" env (eval (.Call (.Name "super" p0) [] [] p1) env)
      standAt p2.atName
      let (f, first) ← holding [ov] (getMethod ov "__init__" (pl env))
      callWith p3 f first (backTo p3 (starEach [.BinOp (.Constant (.str pre) z r0) .Add (.Name par r1) r2] env)) []))
    (hdp : (par == ("__debug__" : Str)) = false := by decide) (hcp : (par == ("__classdict__" : Str)) = false := by decide) :
    FnOk P w K mg base CX (k + 1) f fd [("self" : Str), par] (spIni C fld pre.length) := by
  refine ini_ok (pl := pl) D T S hbd har hks (S.frk _ (List.mem_cons_self ..)) hsup htop hstar hsw hcall (fun vs H Q E ⟨a, y, e, _⟩ => by rw [e] <;> rfl) fun A outer s H vs Q E ⟨a, y, e, hl, ea, hq⟩ => ?_
  subst e
  refine ⟨a, _, tOp (fun x y H Q => ∃ i j, x = .str i ∧ y = .str j ∧ i.length + j.length ≤ sizeLine ∧ Q (.str (i ++ j)) H) (tC (.str pre)) (tVar 1), tOst K fld (tVar 0) (tVar 1), rfl, ea, ?_, ?_, ?_⟩
  · exact pe_op op_add_str pe_str (pe_var rfl (.inl (S.par _ (by simp))) hdp hcp)
  · exact pss_one (ps_ost (pe_var rfl (.inl (S.par _ (by simp)))) (pe_var rfl (.inl (S.par _ (by simp))) hdp hcp) rfl)
  · refine ⟨_, rfl, pre, y, rfl, rfl, hl, ?_, ea, ?_⟩
    · show 1 ≤ sizeLine
      rw [sizeLine_eq]; omega
    · exact ⟨_, rfl, _, rfl, a, C, rfl, T, hno, .inl ⟨ea, hq⟩⟩
end
end Pw
end

section
set_option Elab.async false
set_option linter.all false
set_option maxRecDepth 100000
set_option maxHeartbeats 4000000
/-! Pw15: the head's facts: defs, constants, error classes with an own __init__. -/
namespace Pw
open PySem PySem.Spec L2 NdefX He
/-- an error class: its name, its __init__'s qualified name, parameters, body, scope, its field -/
structure ErrS where
  cls : Str
  qual : Str
  params : Arguments
  body : List Stmt
  scope : Scope
  flds : List Str
abbrev FnE : Type := Option (Str × Str × Arguments × FuncBody × Scope × Addr × List Str × Value × Addr)
def iAd (K : PySem.W.Frag) (x : Str) : Addr := ma K (ga K x) "__init__"
def fnE (K : PySem.W.Frag) (x : Str) : FnE := match K.lookup (iAd K x) with
  | some ⟨_, _, .func fd, _⟩ => some (fd.name, fd.qualname, fd.params, fd.body, fd.scope, fd.globals, fd.closure.map (·.1), fd.defaults, fd.builtins)
  | _ => none
def ErrS.val (d : ErrS) : FnE := some (("__init__" : Str), d.qual, d.params, .stmts d.body, d.scope, mainGlobals, [("__class__" : Str)], .none, builtinsNs)
/-- its cell holds the class -/
def cellB (K : PySem.W.Frag) (x : Str) : Bool := match K.lookup (iAd K x) with
  | some ⟨_, _, .func fd, _⟩ => (match fd.closure with
    | [(_, cc)] => (match K.lookup cc with
      | some ⟨_, _, .cell (some (.ref C)), _⟩ => decide (C = ga K x)
      | _ => false)
    | _ => false)
  | _ => false
/-- its code -/
def codeB (K : PySem.W.Frag) (file : Str) (x q : Str) : Bool := match K.lookup (iAd K x) with
  | some ⟨_, _, .func fd, _⟩ => (match fd.code with
    | .ref c => PySem.W.codeIn K (.ref c) q && (match K.lookup c with
      | some ⟨_, _, .fields vs, _⟩ => (match (vs[2]? : Option Value) with
        | some (.str y _) => (file == y)
        | _ => false)
      | _ => false)
    | _ => false)
  | _ => false
/-- the class's record -/
def recB (K : PySem.W.Frag) (x : Str) : Bool := match K.lookup (ga K x) with
  | some ⟨.type t, _, .cls cd, sl⟩ => decide (t = "type") && (match cd.mro, sl.toList with
    | .ref C' :: bm, [_, _, _, _, some (.builtin n), _] => decide (C' = ga K x) && (decide (n = "ValueError.__new__") && (!cd.hasDel && (cd.hasDict && PySem.HandSPX.refsVE bm)))
    | _, _ => false)
  | _ => false
def errB (K : PySem.W.Frag) (file : Str) (d : ErrS) : Bool :=
  cellB K d.cls && (codeB K file d.cls d.qual && (recB K d.cls && (decide (PySem.W.ks_superIn K (ga K d.cls) (ga K d.cls) "__init__" = some (some (.builtin "ValueError.__init__"))) && (decide (PySem.W.mroIn K (ga K d.cls) (.ref (ga K d.cls)) = some true) &&
  (decide (PySem.W.subIn K (.ref (ga K d.cls)) (.type "ValueError") = some true) && (decide (PySem.W.nsIn K cStatics "thirdparty.any" = some none) && (eqO (PySem.W.findIn K (.ref (ga K d.cls)) "__setattr__") (some (some (.builtin "object.__setattr__"))) &&
  (decide (PySem.W.subIn K (.ref (ga K d.cls)) (.type "BaseException") = some true) && (decide (PySem.W.typeIn K (.ref (ga K d.cls)) = some (.type "type")) && (PySem.W.keepIn K (.ref (ga K d.cls)) && (eqO (PySem.W.findIn K (.ref (ga K d.cls)) "__init__") (some (some (.ref (iAd K d.cls)))) &&
  (decide (PySem.W.typeIn K (.ref (iAd K d.cls)) = some (.type "function")) && (xfB K (ga K d.cls) && d.flds.all fun f => eqO (PySem.W.findIn K (.ref (ga K d.cls)) f) (some none))))))))))))))
/-- what holds of such a class -/
structure ErrF (P : Program) (K : PySem.W.Frag) (d : ErrS) : Prop where
  ini : ∃ (F : NF) (fd : FuncData), F.params = d.params ∧ F.body = d.body ∧ F.scope = d.scope ∧ IniD P K F (ga K d.cls) (iAd K d.cls) fd
  cls : OexC K (ga K d.cls)
  fnd : PySem.W.findIn K (.ref (ga K d.cls)) "__init__" = some (some (.ref (iAd K d.cls)))
  typ : PySem.W.typeIn K (.ref (iAd K d.cls)) = some (.type "function")
  xf : XfC K (ga K d.cls)
  no : ∀ f ∈ d.flds, PySem.W.findIn K (.ref (ga K d.cls)) f = some none
theorem recB_ok {K : PySem.W.Frag} {x : Str} (h : recB K x = true) :
    (∃ nm q N bs bm sn sub ab col dd k0 k1 k2 k3 k5, K.lookup (ga K x) = some (excClassObj nm q (ga K x) N bs bm true sn sub ab col dd k0 k1 k2 k3 k5 "ValueError.__new__") ∧ PySem.HandSPX.refsVE bm = true) ∧ ∃ cdD, PySem.W.clsIn K (ga K x) = some cdD := by
  unfold recB at h
  split at h
  · rename_i t dd cd sl ho
    obtain ⟨ht, h⟩ := ba h
    have ht := of_decide_eq_true ht
    split at h
    · rename_i C' bm k0 k1 k2 k3 n k5 hm hs
      obtain ⟨h1, h⟩ := ba h
      obtain ⟨h2, h⟩ := ba h
      obtain ⟨h3, h⟩ := ba h
      obtain ⟨h4, h5⟩ := ba h
      have h1 := of_decide_eq_true h1
      have h2 := of_decide_eq_true h2
      obtain ⟨nm, bs, mro, ns, qn, hd, sn, sub, ab, col, del⟩ := cd
      dsimp only at hm h3 h4
      simp only [Bool.not_eq_true'] at h3
      subst hm h3 h4 ht h2
      rw [← h1] at ho
      have hsl : sl = #[k0, k1, k2, k3, some (.builtin "ValueError.__new__"), k5] := by
        obtain ⟨l⟩ := sl
        simp only at hs
        rw [hs]
      subst hsl
      rw [← h1]
      exact ⟨⟨nm, qn, ns, bs, bm, sn, sub, ab, col, dd, k0, k1, k2, k3, k5, ho, h5⟩, ⟨_, by unfold PySem.W.clsIn; rw [ho]⟩⟩
    · cases h
  · cases h
theorem errF_of {P : Program} {K : PySem.W.Frag} {d : ErrS} (e : fnE K d.cls = d.val) (h : errB K P.main.file d = true) : ErrF P K d := by
  unfold errB at h
  obtain ⟨hcell, h⟩ := ba h
  obtain ⟨hcode, h⟩ := ba h
  obtain ⟨hrec, h⟩ := ba h
  obtain ⟨hsup, h⟩ := ba h
  obtain ⟨hmro, h⟩ := ba h
  obtain ⟨hsubV, h⟩ := ba h
  obtain ⟨hopq, h⟩ := ba h
  obtain ⟨hset, h⟩ := ba h
  obtain ⟨hbase, h⟩ := ba h
  obtain ⟨htyC, h⟩ := ba h
  obtain ⟨hkeep, h⟩ := ba h
  obtain ⟨hfnd, h⟩ := ba h
  obtain ⟨htyI, h⟩ := ba h
  obtain ⟨hxf, hno⟩ := ba h
  obtain ⟨hr1, hr2⟩ := recB_ok hrec
  obtain ⟨cdD, hcd⟩ := hr2
  unfold fnE at e
  unfold cellB at hcell
  unfold codeB at hcode
  cases q : K.lookup (iAd K d.cls) with
  | none => rw [q] at e; cases e
  | some o =>
    obtain ⟨oc, od, dt, osl⟩ := o
    rw [q] at e hcell hcode
    cases dt with
    | func fd =>
      obtain ⟨n1, n2, n3, n4, n5, n6, n7, n8, n9, n10, n11, n12, n13, n14, n15⟩ := fd
      have e2 : (some (n1, n2, n3, n4, n5, n6, n7.map (·.1), n8, n15) : FnE) = some (("__init__" : Str), d.qual, d.params, .stmts d.body, d.scope, mainGlobals, [("__class__" : Str)], .none, builtinsNs) := e
      simp only [Option.some.injEq, Prod.mk.injEq] at e2
      obtain ⟨h1, h2, h3, h4, h5, h6, h7, h9, h8⟩ := e2
      dsimp only at hcell hcode
      cases n7 with
      | nil => cases h7
      | cons c0 r =>
        cases r with
        | cons _ _ => simp at h7
        | nil =>
          obtain ⟨cn, cc⟩ := c0
          have hcn : cn = ("__class__" : Str) := by simpa using h7
          subst hcn
          dsimp only at hcell
          split at hcell
          · rename_i cl cld C' csl hcc
            have hC := of_decide_eq_true hcell
            subst hC
            split at hcode
            · rename_i c
              obtain ⟨hc1, hc2⟩ := ba hcode
              split at hc2
              · rename_i ccl cdd cvs ccs hlc
                split at hc2
                · rename_i y tf hv2
                  subst h1 h2 h3 h4 h5 h6 h8 h9
                  refine ⟨⟨⟨_, _, _, _, _, [(("__class__" : Str), cc)], c⟩, _, rfl, rfl, rfl, ⟨⟨oc, od, n9, n10, n11, n12, cc, n14, osl, ccl, cdd, cvs, ccs, y, tf, cl, cld, csl, cdD, rfl, rfl, q, hc1, hlc, hv2, hc2, hcc, hcd⟩, of_decide_eq_true hsup, of_decide_eq_true hmro, of_decide_eq_true hsubV, of_decide_eq_true hopq⟩⟩,
                    ⟨hr1, eqO_ok hset, of_decide_eq_true hbase, of_decide_eq_true htyC, hkeep⟩, eqO_ok hfnd, of_decide_eq_true htyI, xfB_ok hxf, fun f hf => eqO_ok (List.all_eq_true.mp hno f hf)⟩
                · cases hc2
              · cases hc2
            · cases hcode
          · cases hcell
    | _ => cases e
/-! ### the Hook -/
def asP (g : Addr → Option Obj) : Nat → List Addr
  | 0 => [mainGlobals, cStatics]
  | n + 1 => growD g (asP g n)
abbrev AlP : Type := AlD × List FnE × Bool
def obsP (file : Str) (fa : List Fa) (fn : List DefD) (es : List ErrS) (K : PySem.W.Frag) : AlP := (obsD fa fn K, es.map fun d => fnE K d.cls, es.all fun d => errB K file d)
def valP (fn : List DefD) (es : List ErrS) : AlP := (valD fn, es.map ErrS.val, true)
structure SaysP (P : Program) (fa : List Fa) (fn : List DefD) (es : List ErrS) (K : PySem.W.Frag) : Prop where
  d : SaysD fa fn K
  e : ∀ d ∈ es, ErrF P K d
def obsPG (file : Str) (n : Nat) (fa : List Fa) (fn : List DefD) (es : List ErrS) (g : Addr → Option Obj) : AlP := obsP file fa fn es (frG g (asP g n))
theorem map_mem {α β : Type} {f g : α → β} : ∀ {l : List α}, l.map f = l.map g → ∀ d ∈ l, f d = g d
  | [], _, d, h => by cases h
  | a :: r, e, d, h => by
    simp only [List.map_cons, List.cons.injEq] at e
    rcases List.mem_cons.mp h with rfl | h
    · exact e.1
    · exact map_mem e.2 d h
theorem saysP_of {P : Program} {fa : List Fa} {fn : List DefD} {es : List ErrS} {K : PySem.W.Frag} (e : obsP P.main.file fa fn es K = valP fn es) : SaysP P fa fn es K := by
  have e1 : obsD fa fn K = valD fn := congrArg (fun z : AlP => z.1) e
  have e2 : (es.map fun d => fnE K d.cls) = es.map ErrS.val := congrArg (fun z : AlP => z.2.1) e
  have e3 : (es.all fun d => errB K P.main.file d) = true := congrArg (fun z : AlP => z.2.2) e
  exact ⟨e1, fun d hd => errF_of (map_mem e2 d hd) (List.all_eq_true.mp e3 d hd)⟩
def hookP (P : Program) (n : Nat) (fa : List Fa) (fn : List DefD) (es : List ErrS) : PySem.W.Hook where
  α := AlP
  obs := fun s => obsPG P.main.file n fa fn es s.heap.get?
  val := fun _ => valP fn es
  says := fun _ h => ∃ K : PySem.W.Frag, K.In h ∧ SaysP P fa fn es K
  of := fun _ _ e => ⟨_, frG_in, saysP_of e⟩
  keeps := fun _ _ _ ⟨K, hK, c⟩ k => ⟨K, PySem.W.Frag.In.keeps hK k, c⟩
theorem obsPG_eq {P : Program} {n : Nat} {fa : List Fa} {fn : List DefD} {es : List ErrS} {g : Addr → Option Obj} {s : Shared} (h : ∀ a, g a = s.heap.get? a) : obsPG P.main.file n fa fn es g = (hookP P n fa fn es).obs s := by
  have e : g = s.heap.get? := funext h
  rw [e] <;> rfl
/-- no error leaves the law -/
theorem law_calm {P : Program} {w : World} {K : PySem.W.Frag} {mg : Str → Option Value} {base : Heap} {k : Nat} {f : Addr} {fd : FuncData} {ps : List Str} (F : FnOk P w K mg base (L2.CX P w) k f fd ps (spLaw K)) : FnOk P w K mg base CX0 k f fd ps (spLaw K) :=
  ⟨F.len, fun A outer s H args us vs Q E hr he hb hv hs => codeAny_mono (F.run A outer s H args us vs Q (fun _ _ _ => False) hr he hb hv hs) fun r s' h => by
    cases r with
    | ok fl => cases fl <;> exact h
    | error e =>
      obtain ⟨_, _, _, _, _, _, _, _, _, _, _, _, z⟩ := h
      exact z.elim⟩
/-- the law's goal -/
abbrev lawGoal (b : WS) (m : Nat) : Prop := b (lawEnv m) fun fl => fl = .rt (.d (.bool true))
/-- facts by place, as a walk wants them -/
theorem SaysP.fact {P : Program} {fa : List Fa} {fn : List DefD} {es : List ErrS} {K : PySem.W.Frag} (c : SaysP P fa fn es K) (i : Nat) {f : Fa} (h : fa[i]? = some f := by rfl) : f.ok K = true := c.d.fact i h
theorem SaysP.def_ {P : Program} {fa : List Fa} {fn : List DefD} {es : List ErrS} {K : PySem.W.Frag} {h : Heap} {mg : Str → Option Value} (c : SaysP P fa fn es K) (X : K.In h) (G : h.Ns mainGlobals mg) (i : Nat) {x : Str} {st : Stmt} (hd : fn[i]? = some ⟨(x, none), x, x, defArgs st, defBody st, defScope st, [], []⟩ := by rfl) (hg : (Fa.glo x).ok K = true) : FnDef K mg x st := by
  obtain ⟨fd, F⟩ := c.d.def_ i hd
  exact ⟨_, fd, F, glo_ok X G hg⟩
end Pw
end

section
set_option Elab.async false
set_option linter.all false
set_option maxRecDepth 100000
set_option maxHeartbeats 4000000
/-! Pw16: reckoning with denotations: each unfolds to the next one, what follows is kept folded. -/
namespace Pw
open PySem PySem.Spec L2
/-! ### what follows, folded -/
def kS (g : WS) (P : Fl → Prop) : Fl → Prop
  | .nx ρ => g ρ P
  | .rt r => P (.rt r)
  | .bk ρ => P (.bk ρ)
  | .ct ρ => P (.ct ρ)
  | .ex x ρ => P (.ex x ρ)
def kL (g : WS) (P : Fl → Prop) : Fl → Prop
  | .nx ρ => g ρ P
  | .ct ρ => g ρ P
  | .bk ρ => P (.nx ρ)
  | .rt r => P (.rt r)
  | .ex x ρ => P (.ex x ρ)
def kE (k : SV → WS) (ρ : SEnv) (P : Fl → Prop) : Out SV → Prop
  | .val r => k r ρ P
  | .exn x => P (.ex x ρ)
def kT (k : Bool → WS) (ρ : SEnv) (P : Fl → Prop) : Out Bool → Prop
  | .val r => k r ρ P
  | .exn x => P (.ex x ρ)
def kA (k : List SV → WS) (ρ : SEnv) (P : Fl → Prop) : Out (List SV) → Prop
  | .val r => k r ρ P
  | .exn x => P (.ex x ρ)
def kD (k : List PyData → WS) (ρ : SEnv) (P : Fl → Prop) : Out (List PyData) → Prop
  | .val r => k r ρ P
  | .exn x => P (.ex x ρ)
def kM {α β : Type} (k : α → M β) (P : Out β → Prop) : Out α → Prop
  | .val a => k a P
  | .exn x => P (.exn x)
def cRet : SV → WS := fun r _ P => P (.rt r)
def cExp : SV → WS := fun _ ρ P => P (.nx ρ)
def cIf (f g : WS) : Bool → WS := fun k ρ P => if k = true then f ρ P else g ρ P
def cSet (m : Tm) : SV → WS := fun r ρ P => match putT m r ρ with
  | some ρ' => P (.nx ρ')
  | none => False
def cPar (ms : List Tm) : List SV → WS := fun rs ρ P => match putTs ms rs ρ with
  | some ρ' => P (.nx ρ')
  | none => False
def cFor (t : Tg) (b : WS) : List PyData → WS := fun ds => forL t b ds
def cApp (i : Nat) : SV → WS := fun r => match conv r with
  | some x => ownW i fun xs Q => xs.length < sizeLine ∧ Q (xs ++ [x])
  | none => fun _ _ => False
def cExt (i : Nat) : SV → WS := fun r => match lstOf r with
  | some zs => ownW i fun xs Q => xs.length + zs.length ≤ sizeLine ∧ Q (xs ++ zs)
  | none => fun _ _ => False
def cSt2 (i : Nat) (r : SV) : SV → WS := fun ix => match conv r, intOf ix with
  | some x, some k => ownW i fun xs Q => ∃ j, ixN xs.length k = some j ∧ Q (xs.set j x)
  | _, _ => fun _ _ => False
def cSt1 (i : Nat) (fe : WE) : SV → WS := fun r => eW fe (cSt2 i r)
def cWh (t : WT) (b : WS) (n : Nat) : Bool → WS := fun k ρ P => if k = true then b ρ (kL (whileN t b n) P) else P (.nx ρ)
def cRaise (x fld : Str) (n : Nat) : SV → WS := fun r ρ P => match r with
  | .d (.str y) => n + y.length ≤ sizeLine ∧ P (.ex ⟨x, [(fld, .str y)]⟩ ρ)
  | _ => False
def kV (P : Out SV → Prop) : SV → Prop := fun r => P (.val r)
def kVT (P : Out Bool → Prop) : SV → Prop := fun r => ∃ k, boolOf r = some k ∧ P (.val k)
def mB2 (op : Op2) (x : SV) : SV → M SV := fun y P => op x y (kV P)
def mB1 (op : Op2) (fb : SEnv → M SV) (ρ : SEnv) : SV → M SV := fun x => M.bind (fb ρ) (mB2 op x)
def mBT2 (op : Op2) (x : SV) : SV → M Bool := fun y P => op x y (kVT P)
def mBT1 (op : Op2) (fb : SEnv → M SV) (ρ : SEnv) : SV → M Bool := fun x => M.bind (fb ρ) (mBT2 op x)
def mAnd (g : WT) (ρ : SEnv) : Bool → M Bool := fun k P => if k = true then g ρ P else P (.val false)
def mOr (g : WT) (ρ : SEnv) : Bool → M Bool := fun k P => if k = true then P (.val true) else g ρ P
def mNot : Bool → M Bool := fun k P => P (.val (!k))
def mTru : SV → M Bool := fun x P => truV x fun k => P (.val k)
def mToT : SV → M Bool := fun r P => ∃ k, boolOf r = some k ∧ P (.val k)
def mIf (fa fb : WE) (ρ : SEnv) : Bool → M SV := fun k P => if k = true then fa ρ P else fb ρ P
def mC2 (x : SV) : List SV → M (List SV) := fun xs P => P (.val (x :: xs))
def mC1 (fr : WA) (ρ : SEnv) : SV → M (List SV) := fun x => M.bind (fr ρ) (mC2 x)
def mTup : List SV → M SV := fun rs P => match convL rs with
  | some xs => xs.length ≤ 1000 ∧ P (.val (.d (.tuple xs)))
  | none => False
def mLst : List SV → M SV := fun rs P => match convL rs with
  | some xs => xs.length ≤ 1000 ∧ P (.val (.own xs))
  | none => False
def mCall (n : Nat) (wf : WF) : List SV → M SV := fun rs P => rs.length = n ∧ callP wf rs P
def mBlt (op : OpN) : List SV → M SV := fun rs P => op rs (kV P)
def mAndV (fb : WE) (ρ : SEnv) : SV → M SV := fun x P => ∃ k, boolOf x = some k ∧ if k = true then fb ρ P else P (.val (.d (.bool false)))
def mOrV (fb : WE) (ρ : SEnv) : SV → M SV := fun x P => ∃ k, boolOf x = some k ∧ if k = true then P (.val (.d (.bool true))) else fb ρ P
def mNotV : SV → M SV := fun x P => ∃ k, boolOf x = some k ∧ P (.val (.d (.bool (!k))))
def mNeg : SV → M SV := fun x P => match intOf x with
  | some i => P (.val (.d (.int (-i))))
  | none => False
def mSeq (b : Bool) : SV → M (List PyData) := fun x P => match walkOf b x with
  | some xs => P (.val xs)
  | none => False
def mR1 : SV → M (List PyData) := fun x P => match intOf x with
  | some j => (-(2 ^ 62) ≤ j ∧ j < 2 ^ 62 ∧ j.toNat ≤ sizeLine) ∧ P (.val (rngL 0 j.toNat))
  | none => False
def mR22 (x : SV) : SV → M (List PyData) := fun y P => match intOf x, intOf y with
  | some i, some j => ((-(2 ^ 62) ≤ i ∧ i < 2 ^ 62) ∧ (-(2 ^ 62) ≤ j ∧ j < 2 ^ 62) ∧ (j - i).toNat ≤ sizeLine) ∧ P (.val (rngL i (j - i).toNat))
  | _, _ => False
def mR21 (fb : WE) (ρ : SEnv) : SV → M (List PyData) := fun x => M.bind (fb ρ) (mR22 x)
def mIx2 (x : SV) : SV → M SV := fun y P => ixV x y (kV P)
def mIx1 (fb : WE) (ρ : SEnv) : SV → M SV := fun x => M.bind (fb ρ) (mIx2 x)
def mSl3 (x : SV) (lo : Option Int) : Option Int → M SV := fun hi P => slV x lo hi (kV P)
def mSl2 (fh : WO1) (ρ : SEnv) (x : SV) : Option Int → M SV := fun lo => M.bind (fh ρ) (mSl3 x lo)
def mSl1 (fl fh : WO1) (ρ : SEnv) : SV → M SV := fun x => M.bind (fl ρ) (mSl2 fh ρ x)
def mPart : SV → M (Option Int) := fun x P => match intOf x with
  | some i => P (.val (some i))
  | none => False
def mRev : SV → M SV := fun x P => match lstOf x with
  | some xs => P (.val (.own xs.reverse))
  | none => False
def mIsi (T : String) : SV → M SV := fun x P => match look x with
  | some d => P (.val (.d (.bool (isiB (tyD d) T))))
  | none => False
def mIsN (neg : Bool) : SV → M SV := fun x P => P (.val (.d (.bool (if neg then !isNone x else isNone x))))
def kLc (P : Out SV → Prop) : List PyData → Prop := fun ys => P (.val (.own ys))
def mLc (t : Tg) (ft : WT) (fe : WE) (ρ : SEnv) : List PyData → M SV := fun ds P => lcL t ft fe ρ ds (kLc P)
def kCh2 (o : Op2) (fc : WE) (ρ : SEnv) (y : SV) (P : Out SV → Prop) : SV → Prop := fun r => ∃ k, boolOf r = some k ∧ if k = true then (M.bind (fc ρ) (mB2 o y)) P else P (.val (.d (.bool false)))
def mCh2 (o o' : Op2) (fc : WE) (ρ : SEnv) (x : SV) : SV → M SV := fun y P => o x y (kCh2 o' fc ρ y P)
def mCh1 (o o' : Op2) (fb fc : WE) (ρ : SEnv) : SV → M SV := fun x => M.bind (fb ρ) (mCh2 o o' fc ρ x)
/-! ### a step each -/
section
variable {ρ ρ' : SEnv} {P : Fl → Prop} {f g b : WS} {t u : WT} {fa fb fc : WE} {fs fr : WA} {fi : WI} {x y : PyData} {r s : SV} {i j : Int} {e : Exn} {α β : Type}
theorem M_bind {m : M α} {k : α → M β} {Q : Out β → Prop} : M.bind m k Q = m (kM k Q) := id rfl
@[simp] theorem s_seq : seqW f g ρ P = f ρ (kS g P) := id rfl
@[simp] theorem s_eW {k : SV → WS} : eW fa k ρ P = fa ρ (kE k ρ P) := id rfl
@[simp] theorem s_bW {k : Bool → WS} : bW t k ρ P = t ρ (kT k ρ P) := id rfl
@[simp] theorem s_lW {k : List SV → WS} : lW fs k ρ P = fs ρ (kA k ρ P) := id rfl
@[simp] theorem s_ret : retW fa ρ P = fa ρ (kE cRet ρ P) := s_eW
@[simp] theorem s_exp : exprW fa ρ P = fa ρ (kE cExp ρ P) := s_eW
@[simp] theorem s_if : ifW t f g ρ P = t ρ (kT (cIf f g) ρ P) := s_bW
@[simp] theorem s_set {m : Tm} : setW m fa ρ P = fa ρ (kE (cSet m) ρ P) := s_eW
@[simp] theorem s_par {ms : List Tm} : parW ms fs ρ P = fs ρ (kA (cPar ms) ρ P) := s_lW
@[simp] theorem s_for {tg : Tg} : forW fi tg b ρ P = fi ρ (kD (cFor tg b) ρ P) := id rfl
@[simp] theorem s_app {n : Nat} : appW n fa ρ P = (isOwn ρ n = true ∧ fa ρ (kE (cApp n) ρ P)) := by
  unfold appW
  rw [s_eW]
  rfl
@[simp] theorem s_ext {n : Nat} : extW n fa ρ P = (isOwn ρ n = true ∧ fa ρ (kE (cExt n) ρ P)) := by
  unfold extW
  rw [s_eW]
  rfl
@[simp] theorem s_sto {n : Nat} : stoW n fa fb ρ P = fa ρ (kE (cSt1 n fb) ρ P) := by
  unfold stoW
  rw [s_eW]
  rfl
@[simp] theorem s_st1 {n : Nat} : cSt1 n fb r ρ P = fb ρ (kE (cSt2 n r) ρ P) := by
  unfold cSt1
  rw [s_eW]
@[simp] theorem s_raise {x' fld : Str} {n : Nat} : raiseW x' fld n fa ρ P = fa ρ (kE (cRaise x' fld n) ρ P) := s_eW
@[simp] theorem e_bin {op : Op2} {Q : Out SV → Prop} : dBin op fa fb ρ Q = fa ρ (kM (mB1 op fb ρ) Q) := M_bind
@[simp] theorem e_binT {op : Op2} {Q : Out Bool → Prop} : dBinT op fa fb ρ Q = fa ρ (kM (mBT1 op fb ρ) Q) := M_bind
@[simp] theorem e_chain {o o' : Op2} {Q : Out SV → Prop} : dChain o o' fa fb fc ρ Q = fa ρ (kM (mCh1 o o' fb fc ρ) Q) := M_bind
@[simp] theorem e_toT {Q : Out Bool → Prop} : dToT fa ρ Q = fa ρ (kM mToT Q) := M_bind
@[simp] theorem e_isN {n : Bool} {Q : Out SV → Prop} : dIsN n fa ρ Q = fa ρ (kM (mIsN n) Q) := M_bind
@[simp] theorem e_tru {Q : Out Bool → Prop} : dTru fa ρ Q = fa ρ (kM mTru Q) := M_bind
@[simp] theorem e_notT {Q : Out Bool → Prop} : dNotT t ρ Q = t ρ (kM mNot Q) := M_bind
@[simp] theorem e_andT {Q : Out Bool → Prop} : dAndT t u ρ Q = t ρ (kM (mAnd u ρ) Q) := M_bind
@[simp] theorem e_orT {Q : Out Bool → Prop} : dOrT t u ρ Q = t ρ (kM (mOr u ρ) Q) := M_bind
@[simp] theorem e_andV {Q : Out SV → Prop} : dAndV fa fb ρ Q = fa ρ (kM (mAndV fb ρ) Q) := M_bind
@[simp] theorem e_orV {Q : Out SV → Prop} : dOrV fa fb ρ Q = fa ρ (kM (mOrV fb ρ) Q) := M_bind
@[simp] theorem e_notV {Q : Out SV → Prop} : dNotV fa ρ Q = fa ρ (kM mNotV Q) := M_bind
@[simp] theorem e_neg {Q : Out SV → Prop} : dNeg fa ρ Q = fa ρ (kM mNeg Q) := M_bind
@[simp] theorem e_if {Q : Out SV → Prop} : dIf t fa fb ρ Q = t ρ (kM (mIf fa fb ρ) Q) := M_bind
@[simp] theorem e_cons {Q : Out (List SV) → Prop} : dCons fa fr ρ Q = fa ρ (kM (mC1 fr ρ) Q) := M_bind
@[simp] theorem e_tup {Q : Out SV → Prop} : dTup fs ρ Q = fs ρ (kM mTup Q) := M_bind
@[simp] theorem e_lst {Q : Out SV → Prop} : dLst fs ρ Q = fs ρ (kM mLst Q) := M_bind
@[simp] theorem e_call {n : Nat} {wf : WF} {Q : Out SV → Prop} : dCall n wf fs ρ Q = fs ρ (kM (mCall n wf) Q) := M_bind
@[simp] theorem e_blt {op : OpN} {Q : Out SV → Prop} : dBlt op fs ρ Q = fs ρ (kM (mBlt op) Q) := M_bind
@[simp] theorem e_seq {n : Bool} {Q : Out (List PyData) → Prop} : dSeq n fa ρ Q = fa ρ (kM (mSeq n) Q) := M_bind
@[simp] theorem e_r1 {Q : Out (List PyData) → Prop} : dRng1 fa ρ Q = fa ρ (kM mR1 Q) := M_bind
@[simp] theorem e_r2 {Q : Out (List PyData) → Prop} : dRng2 fa fb ρ Q = fa ρ (kM (mR21 fb ρ) Q) := M_bind
@[simp] theorem e_ix {Q : Out SV → Prop} : dIx fa fb ρ Q = fa ρ (kM (mIx1 fb ρ) Q) := M_bind
@[simp] theorem e_sl {fl fh : WO1} {Q : Out SV → Prop} : dSl fa fl fh ρ Q = fa ρ (kM (mSl1 fl fh ρ) Q) := M_bind
@[simp] theorem e_part {Q : Out (Option Int) → Prop} : dPart fa ρ Q = fa ρ (kM mPart Q) := M_bind
@[simp] theorem e_rev {Q : Out SV → Prop} : dRev fa ρ Q = fa ρ (kM mRev Q) := M_bind
@[simp] theorem e_isi {T : String} {Q : Out SV → Prop} : dIsi T fa ρ Q = fa ρ (kM (mIsi T) Q) := M_bind
@[simp] theorem e_lc {tg : Tg} {vs : List Nat} {Q : Out SV → Prop} : dLc fi tg t fa vs ρ Q = fi ρ (kM (mLc tg t fa (wipeD ρ vs)) Q) := M_bind
@[simp] theorem m_b1 {op : Op2} {Q : Out SV → Prop} : mB1 op fb ρ r Q = fb ρ (kM (mB2 op r) Q) := M_bind
@[simp] theorem m_bt1 {op : Op2} {Q : Out Bool → Prop} : mBT1 op fb ρ r Q = fb ρ (kM (mBT2 op r) Q) := M_bind
@[simp] theorem m_ch1 {o o' : Op2} {Q : Out SV → Prop} : mCh1 o o' fb fc ρ r Q = fb ρ (kM (mCh2 o o' fc ρ r) Q) := M_bind
@[simp] theorem m_c1 {Q : Out (List SV) → Prop} : mC1 fr ρ r Q = fr ρ (kM (mC2 r) Q) := M_bind
@[simp] theorem m_ix1 {Q : Out SV → Prop} : mIx1 fb ρ r Q = fb ρ (kM (mIx2 r) Q) := M_bind
@[simp] theorem m_r21 {Q : Out (List PyData) → Prop} : mR21 fb ρ r Q = fb ρ (kM (mR22 r) Q) := M_bind
@[simp] theorem m_sl1 {fl fh : WO1} {Q : Out SV → Prop} : mSl1 fl fh ρ r Q = fl ρ (kM (mSl2 fh ρ r) Q) := M_bind
@[simp] theorem m_sl2 {fh : WO1} {lo : Option Int} {Q : Out SV → Prop} : mSl2 fh ρ r lo Q = fh ρ (kM (mSl3 r lo) Q) := M_bind
@[simp] theorem k_ch2 {o : Op2} {k : Bool} {Q : Out SV → Prop} : kCh2 o fc ρ r Q (.d (.bool k)) = if k = true then fc ρ (kM (mB2 o r) Q) else Q (.val (.d (.bool false))) := by
  have : kCh2 o fc ρ r Q (.d (.bool k)) = ∃ k', boolOf (.d (.bool k)) = some k' ∧ if k' = true then (M.bind (fc ρ) (mB2 o r)) Q else Q (.val (.d (.bool false))) := id rfl
  rw [this, M_bind]
  exact propext ⟨fun ⟨k', e, h⟩ => by cases e; exact h, fun h => ⟨k, rfl, h⟩⟩
@[simp] theorem k_vt {k : Bool} {Q : Out Bool → Prop} : kVT Q (.d (.bool k)) = Q (.val k) := propext ⟨fun ⟨k', e, h⟩ => by cases e; exact h, fun h => ⟨k, rfl, h⟩⟩
@[simp] theorem m_toT {k : Bool} {Q : Out Bool → Prop} : mToT (.d (.bool k)) Q = Q (.val k) := k_vt
@[simp] theorem m_notV {k : Bool} {Q : Out SV → Prop} : mNotV (.d (.bool k)) Q = Q (.val (.d (.bool (!k)))) := propext ⟨fun ⟨k', e, h⟩ => by cases e; exact h, fun h => ⟨k, rfl, h⟩⟩
@[simp] theorem m_andV {k : Bool} {Q : Out SV → Prop} : mAndV fb ρ (.d (.bool k)) Q = if k = true then fb ρ Q else Q (.val (.d (.bool false))) := propext ⟨fun ⟨k', e, h⟩ => by cases e; exact h, fun h => ⟨k, rfl, h⟩⟩
@[simp] theorem m_orV {k : Bool} {Q : Out SV → Prop} : mOrV fb ρ (.d (.bool k)) Q = if k = true then Q (.val (.d (.bool true))) else fb ρ Q := propext ⟨fun ⟨k', e, h⟩ => by cases e; exact h, fun h => ⟨k, rfl, h⟩⟩
theorem w_wh {n : Nat} : whileN t b (n + 1) ρ P = t ρ (kT (cWh t b n) ρ P) := id rfl
@[simp] theorem f_nil {tg : Tg} : forL tg b [] ρ P = P (.nx ρ) := id rfl
theorem f_cons {tg : Tg} {xs : List PyData} : forL tg b (x :: xs) ρ P = match asg tg x ρ with
    | some ρ1 => b ρ1 (kL (forL tg b xs) P)
    | none => False := by
  show (match asg tg x ρ with
    | some ρ1 => b ρ1 _
    | none => False) = _
  cases asg tg x ρ with
  | none => rfl
  | some ρ1 => rfl
/-! ### what follows, applied -/
@[simp] theorem kS_nx : kS g P (.nx ρ) = g ρ P := id rfl
@[simp] theorem kS_rt : kS g P (.rt r) = P (.rt r) := id rfl
@[simp] theorem kS_bk : kS g P (.bk ρ) = P (.bk ρ) := id rfl
@[simp] theorem kS_ct : kS g P (.ct ρ) = P (.ct ρ) := id rfl
@[simp] theorem kS_ex : kS g P (.ex e ρ) = P (.ex e ρ) := id rfl
@[simp] theorem kL_nx : kL g P (.nx ρ) = g ρ P := id rfl
@[simp] theorem kL_rt : kL g P (.rt r) = P (.rt r) := id rfl
@[simp] theorem kL_bk : kL g P (.bk ρ) = P (.nx ρ) := id rfl
@[simp] theorem kL_ct : kL g P (.ct ρ) = g ρ P := id rfl
@[simp] theorem kL_ex : kL g P (.ex e ρ) = P (.ex e ρ) := id rfl
@[simp] theorem kE_v {k : SV → WS} : kE k ρ P (.val r) = k r ρ P := id rfl
@[simp] theorem kE_x {k : SV → WS} : kE k ρ P (.exn e) = P (.ex e ρ) := id rfl
@[simp] theorem kT_v {k : Bool → WS} {c : Bool} : kT k ρ P (.val c) = k c ρ P := id rfl
@[simp] theorem kT_x {k : Bool → WS} : kT k ρ P (.exn e) = P (.ex e ρ) := id rfl
@[simp] theorem kA_v {k : List SV → WS} {rs : List SV} : kA k ρ P (.val rs) = k rs ρ P := id rfl
@[simp] theorem kA_x {k : List SV → WS} : kA k ρ P (.exn e) = P (.ex e ρ) := id rfl
@[simp] theorem kD_v {k : List PyData → WS} {rs : List PyData} : kD k ρ P (.val rs) = k rs ρ P := id rfl
@[simp] theorem kD_x {k : List PyData → WS} : kD k ρ P (.exn e) = P (.ex e ρ) := id rfl
@[simp] theorem kM_v {k : α → M β} {a : α} {Q : Out β → Prop} : kM k Q (.val a) = k a Q := id rfl
@[simp] theorem kM_x {k : α → M β} {Q : Out β → Prop} : kM k Q (.exn e) = Q (.exn e) := id rfl
@[simp] theorem cRet_a : cRet r ρ P = P (.rt r) := id rfl
@[simp] theorem cExp_a : cExp r ρ P = P (.nx ρ) := id rfl
@[simp] theorem cIf_t : cIf f g true ρ P = f ρ P := id rfl
@[simp] theorem cIf_f : cIf f g false ρ P = g ρ P := id rfl
theorem cIf_y {k : Bool} (h : k = true) : cIf f g k ρ P = f ρ P := by rw [h]; rfl
theorem cIf_n {k : Bool} (h : k = false) : cIf f g k ρ P = g ρ P := by rw [h]; rfl
@[simp] theorem cSet_d {n : Nat} : cSet (.dat (.name n)) (.d x) ρ P = P (.nx (ρ.set n (some (.d x)))) := id rfl
@[simp] theorem cSet_l {n : Nat} {xs : List PyData} : cSet (.dat (.name n)) (.own xs) ρ P = P (.nx (ρ.set n (some (.d (.list xs))))) := id rfl
@[simp] theorem cSet_o {n : Nat} {xs : List PyData} : cSet (.ow n) (.own xs) ρ P = P (.nx (ρ.set n (some (.own xs)))) := id rfl
@[simp] theorem cSet_t {ts : List Tg} {xs : List PyData} : cSet (.dat (.tup ts)) (.d (.tuple xs)) ρ P = match asgs ts xs ρ with
    | some ρ' => P (.nx ρ')
    | none => False := id rfl
@[simp] theorem cPar_a {ms : List Tm} {rs : List SV} : cPar ms rs ρ P = match putTs ms rs ρ with
    | some ρ' => P (.nx ρ')
    | none => False := id rfl
@[simp] theorem putTs_nil : putTs [] [] ρ = some ρ := id rfl
@[simp] theorem putTs_d {n : Nat} {ts : List Tm} {rs : List SV} : putTs (.dat (.name n) :: ts) (.d x :: rs) ρ = putTs ts rs (ρ.set n (some (.d x))) := id rfl
@[simp] theorem putTs_l {n : Nat} {xs : List PyData} {ts : List Tm} {rs : List SV} : putTs (.dat (.name n) :: ts) (.own xs :: rs) ρ = putTs ts rs (ρ.set n (some (.d (.list xs)))) := id rfl
@[simp] theorem putTs_o {n : Nat} {xs : List PyData} {ts : List Tm} {rs : List SV} : putTs (.ow n :: ts) (.own xs :: rs) ρ = putTs ts rs (ρ.set n (some (.own xs))) := id rfl
@[simp] theorem asg_n {n : Nat} : asg (.name n) x ρ = some (ρ.set n (some (.d x))) := id rfl
@[simp] theorem asg_t {ts : List Tg} {xs : List PyData} : asg (.tup ts) (.tuple xs) ρ = asgs ts xs ρ := id rfl
@[simp] theorem asgs_nil : asgs [] [] ρ = some ρ := id rfl
@[simp] theorem asgs_n {n : Nat} {ts : List Tg} {xs : List PyData} : asgs (.name n :: ts) (x :: xs) ρ = asgs ts xs (ρ.set n (some (.d x))) := id rfl
@[simp] theorem asgs_t {us ts : List Tg} {ys xs : List PyData} : asgs (.tup us :: ts) (.tuple ys :: xs) ρ = match asgs us ys ρ with
    | some ρ' => asgs ts xs ρ'
    | none => none := id rfl
@[simp] theorem s_skip : skipW ρ P = P (.nx ρ) := id rfl
@[simp] theorem s_brk : brkW ρ P = P (.bk ρ) := id rfl
@[simp] theorem s_cnt : cntW ρ P = P (.ct ρ) := id rfl
@[simp] theorem s_retN : retN ρ P = P (.rt (.d .none)) := id rfl
@[simp] theorem cFor_a {tg : Tg} {ds : List PyData} : cFor tg b ds ρ P = forL tg b ds ρ P := id rfl
/-! ### slots -/
def oVar (o : Option (Option SV)) (Q : Out SV → Prop) : Prop := match o with
  | some (some (.own xs)) => Q (.val (.bor xs))
  | some (some r) => Q (.val r)
  | _ => False
@[simp] theorem e_var {n : Nat} {Q : Out SV → Prop} : dVar n ρ Q = oVar (ρ[n]?) Q := by
  unfold dVar getS oVar
  generalize ρ[n]? = o
  cases o with
  | none => rfl
  | some q => cases q with
    | none => rfl
    | some r => cases r <;> rfl
@[simp] theorem oVar_d {Q : Out SV → Prop} : oVar (some (some (.d x))) Q = Q (.val (.d x)) := id rfl
@[simp] theorem oVar_o {xs : List PyData} {Q : Out SV → Prop} : oVar (some (some (.own xs))) Q = Q (.val (.bor xs)) := id rfl
@[simp] theorem oVar_s {Q : Out SV → Prop} : oVar (some (some .st)) Q = Q (.val .st) := id rfl
def oRet (o : Option (Option SV)) (P : Fl → Prop) : Prop := match o with
  | some (some r) => P (.rt r)
  | _ => False
@[simp] theorem s_retO {n : Nat} : retO n ρ P = oRet (ρ[n]?) P := id rfl
@[simp] theorem oRet_a : oRet (some (some r)) P = P (.rt r) := id rfl
def oFrz (f : WS) (n : Nat) (o : Option (Option SV)) (ρ : SEnv) (P : Fl → Prop) : Prop := match o with
  | some (some (.own xs)) => f (ρ.set n (some (.d (.list xs)))) P
  | _ => f ρ P
@[simp] theorem s_frz {n : Nat} : frzW n f ρ P = oFrz f n (ρ[n]?) ρ P := id rfl
@[simp] theorem oFrz_o {n : Nat} {xs : List PyData} : oFrz f n (some (some (.own xs))) ρ P = f (ρ.set n (some (.d (.list xs)))) P := id rfl
@[simp] theorem oFrz_d {n : Nat} : oFrz f n (some (some (.d x))) ρ P = f ρ P := id rfl
@[simp] theorem oFrz_n {n : Nat} : oFrz f n (some none) ρ P = f ρ P := id rfl
def oOwn (n : Nat) (k : List PyData → (List PyData → Prop) → Prop) (o : Option (Option SV)) (ρ : SEnv) (P : Fl → Prop) : Prop := match o with
  | some (some (.own xs)) => k xs fun ys => P (.nx (ρ.set n (some (.own ys))))
  | _ => False
@[simp] theorem s_own {n : Nat} {k : List PyData → (List PyData → Prop) → Prop} : ownW n k ρ P = oOwn n k (ρ[n]?) ρ P := id rfl
@[simp] theorem oOwn_o {n : Nat} {k : List PyData → (List PyData → Prop) → Prop} {xs : List PyData} : oOwn n k (some (some (.own xs))) ρ P = k xs fun ys => P (.nx (ρ.set n (some (.own ys)))) := id rfl
def oIs (o : Option (Option SV)) : Bool := match o with
  | some (some (.own _)) => true
  | _ => false
@[simp] theorem isOwn_a {n : Nat} : isOwn ρ n = oIs (ρ[n]?) := id rfl
@[simp] theorem oIs_o {xs : List PyData} : oIs (some (some (.own xs))) = true := id rfl
@[simp] theorem cApp_d {n : Nat} : cApp n (.d x) ρ P = oOwn n (fun xs Q => xs.length < sizeLine ∧ Q (xs ++ [x])) (ρ[n]?) ρ P := id rfl
@[simp] theorem cApp_l {n : Nat} {ys : List PyData} : cApp n (.own ys) ρ P = oOwn n (fun xs Q => xs.length < sizeLine ∧ Q (xs ++ [.list ys])) (ρ[n]?) ρ P := id rfl
@[simp] theorem cExt_o {n : Nat} {ys : List PyData} : cExt n (.own ys) ρ P = oOwn n (fun xs Q => xs.length + ys.length ≤ sizeLine ∧ Q (xs ++ ys)) (ρ[n]?) ρ P := id rfl
@[simp] theorem cExt_b {n : Nat} {ys : List PyData} : cExt n (.bor ys) ρ P = oOwn n (fun xs Q => xs.length + ys.length ≤ sizeLine ∧ Q (xs ++ ys)) (ρ[n]?) ρ P := id rfl
@[simp] theorem cExt_l {n : Nat} {ys : List PyData} : cExt n (.d (.list ys)) ρ P = oOwn n (fun xs Q => xs.length + ys.length ≤ sizeLine ∧ Q (xs ++ ys)) (ρ[n]?) ρ P := id rfl
@[simp] theorem cSt2_d {n : Nat} : cSt2 n (.d x) (.d (.int i)) ρ P = oOwn n (fun xs Q => ∃ j, ixN xs.length i = some j ∧ Q (xs.set j x)) (ρ[n]?) ρ P := id rfl
@[simp] theorem cSt2_l {n : Nat} {ys : List PyData} : cSt2 n (.own ys) (.d (.int i)) ρ P = oOwn n (fun xs Q => ∃ j, ixN xs.length i = some j ∧ Q (xs.set j (.list ys))) (ρ[n]?) ρ P := id rfl
/-! ### expressions -/
variable {Q : Out SV → Prop} {R : SV → Prop} {xs ys : List PyData}
@[simp] theorem e_c : dC x ρ Q = Q (.val (.d x)) := id rfl
@[simp] theorem e_nil {Q : Out (List SV) → Prop} : dNil ρ Q = Q (.val []) := id rfl
@[simp] theorem e_yes {Q : Out Bool → Prop} : dYes ρ Q = Q (.val true) := id rfl
@[simp] theorem e_noP {Q : Out (Option Int) → Prop} : dNoP ρ Q = Q (.val none) := id rfl
@[simp] theorem kV_a : kV Q r = Q (.val r) := id rfl
@[simp] theorem m_b2 {op : Op2} : mB2 op r s Q = op r s (kV Q) := id rfl
@[simp] theorem m_bt2 {op : Op2} {Q : Out Bool → Prop} : mBT2 op r s Q = op r s (kVT Q) := id rfl
@[simp] theorem m_ch2 {o o' : Op2} : mCh2 o o' fc ρ r s Q = o r s (kCh2 o' fc ρ s Q) := id rfl
@[simp] theorem m_and_t {Q : Out Bool → Prop} : mAnd u ρ true Q = u ρ Q := id rfl
@[simp] theorem m_and_f {Q : Out Bool → Prop} : mAnd u ρ false Q = Q (.val false) := id rfl
@[simp] theorem m_or_t {Q : Out Bool → Prop} : mOr u ρ true Q = Q (.val true) := id rfl
@[simp] theorem m_or_f {Q : Out Bool → Prop} : mOr u ρ false Q = u ρ Q := id rfl
@[simp] theorem m_not {k : Bool} {Q : Out Bool → Prop} : mNot k Q = Q (.val (!k)) := id rfl
@[simp] theorem m_tru {Q : Out Bool → Prop} : mTru r Q = truV r fun k => Q (.val k) := id rfl
@[simp] theorem m_if_t : mIf fa fb ρ true Q = fa ρ Q := id rfl
@[simp] theorem m_if_f : mIf fa fb ρ false Q = fb ρ Q := id rfl
@[simp] theorem m_c2 {rs : List SV} {Q : Out (List SV) → Prop} : mC2 r rs Q = Q (.val (r :: rs)) := id rfl
@[simp] theorem m_neg : mNeg (.d (.int i)) Q = Q (.val (.d (.int (-i)))) := id rfl
@[simp] theorem m_ix2 : mIx2 r s Q = ixV r s (kV Q) := id rfl
@[simp] theorem m_sl3 {lo hi : Option Int} : mSl3 r lo hi Q = slV r lo hi (kV Q) := id rfl
@[simp] theorem m_part {Q : Out (Option Int) → Prop} : mPart (.d (.int i)) Q = Q (.val (some i)) := id rfl
@[simp] theorem m_call {n : Nat} {wf : WF} {rs : List SV} : mCall n wf rs Q = (rs.length = n ∧ callP wf rs Q) := id rfl
@[simp] theorem m_blt {op : OpN} {rs : List SV} : mBlt op rs Q = op rs (kV Q) := id rfl
@[simp] theorem m_r1 {Q : Out (List PyData) → Prop} : mR1 (.d (.int i)) Q = ((-(2 ^ 62) ≤ i ∧ i < 2 ^ 62 ∧ i.toNat ≤ sizeLine) ∧ Q (.val (rngL 0 i.toNat))) := id rfl
@[simp] theorem m_r22 {Q : Out (List PyData) → Prop} : mR22 (.d (.int i)) (.d (.int j)) Q = (((-(2 ^ 62) ≤ i ∧ i < 2 ^ 62) ∧ (-(2 ^ 62) ≤ j ∧ j < 2 ^ 62) ∧ (j - i).toNat ≤ sizeLine) ∧ Q (.val (rngL i (j - i).toNat))) := id rfl
@[simp] theorem m_seq_t {c : Bool} {Q : Out (List PyData) → Prop} : mSeq c (.d (.tuple xs)) Q = Q (.val xs) := by cases c <;> rfl
@[simp] theorem m_seq_l {c : Bool} {Q : Out (List PyData) → Prop} : mSeq c (.d (.list xs)) Q = Q (.val xs) := by cases c <;> rfl
@[simp] theorem m_seq_o {c : Bool} {Q : Out (List PyData) → Prop} : mSeq c (.own xs) Q = Q (.val xs) := by cases c <;> rfl
@[simp] theorem m_seq_b {Q : Out (List PyData) → Prop} : mSeq true (.bor xs) Q = Q (.val xs) := id rfl
@[simp] theorem m_lc {tg : Tg} {ds : List PyData} : mLc tg t fa ρ ds Q = lcL tg t fa ρ ds (kLc Q) := id rfl
@[simp] theorem kLc_a : kLc Q ys = Q (.val (.own ys)) := id rfl
@[simp] theorem m_rev_o : mRev (.own xs) Q = Q (.val (.own xs.reverse)) := id rfl
@[simp] theorem m_rev_b : mRev (.bor xs) Q = Q (.val (.own xs.reverse)) := id rfl
@[simp] theorem m_rev_l : mRev (.d (.list xs)) Q = Q (.val (.own xs.reverse)) := id rfl
@[simp] theorem m_isi {T : String} : mIsi T (.d x) Q = Q (.val (.d (.bool (isiB (tyD x) T)))) := id rfl
@[simp] theorem m_isN {c : Bool} : mIsN c r Q = Q (.val (.d (.bool (if c then !isNone r else isNone r)))) := id rfl
@[simp] theorem convL_nil : convL [] = some [] := id rfl
@[simp] theorem convL_d {rs : List SV} : convL (.d x :: rs) = (convL rs).map (x :: ·) := by
  show (match conv (.d x), convL rs with | some x, some xs => some (x :: xs) | _, _ => none) = _
  cases convL rs <;> rfl
@[simp] theorem convL_o {rs : List SV} : convL (.own xs :: rs) = (convL rs).map (.list xs :: ·) := by
  show (match conv (.own xs), convL rs with | some x, some xs => some (x :: xs) | _, _ => none) = _
  cases convL rs <;> rfl
def oTup (o : Option (List PyData)) (Q : Out SV → Prop) : Prop := match o with
  | some xs => xs.length ≤ 1000 ∧ Q (.val (.d (.tuple xs)))
  | none => False
def oLst (o : Option (List PyData)) (Q : Out SV → Prop) : Prop := match o with
  | some xs => xs.length ≤ 1000 ∧ Q (.val (.own xs))
  | none => False
@[simp] theorem m_tup {rs : List SV} : mTup rs Q = oTup (convL rs) Q := id rfl
@[simp] theorem m_lst {rs : List SV} : mLst rs Q = oLst (convL rs) Q := id rfl
@[simp] theorem oTup_a : oTup (some xs) Q = (xs.length ≤ 1000 ∧ Q (.val (.d (.tuple xs)))) := id rfl
@[simp] theorem oLst_a : oLst (some xs) Q = (xs.length ≤ 1000 ∧ Q (.val (.own xs))) := id rfl
end
end Pw
end

section
set_option Elab.async false
set_option linter.all false
set_option maxRecDepth 100000
set_option maxHeartbeats 4000000
/-! Pw17: operators over data, calls. -/
namespace Pw
open PySem PySem.Spec L2
section
variable {ρ ρ' : SEnv} {P : Fl → Prop} {f g b : WS} {t u : WT} {fa fb fc : WE} {fi : WI} {x y : PyData} {r s : SV} {i j : Int} {e : Exn} {Q : Out SV → Prop} {R : SV → Prop} {xs ys : List PyData}
@[simp] theorem o_int {C : Int → Int → Prop} {h : Int → Int → PyData} : intOp C h (.d (.int i)) (.d (.int j)) R = (C i j ∧ R (.d (h i j))) := id rfl
@[simp] theorem o_add : addV (.d (.int i)) (.d (.int j)) R = R (.d (.int (i + j))) := id rfl
@[simp] theorem o_addT : addV (.d (.tuple xs)) (.d (.tuple ys)) R = (xs.length + ys.length ≤ sizeLine ∧ R (.d (.tuple (xs ++ ys)))) := id rfl
@[simp] theorem o_addS {a c : Str} : addV (.d (.str a)) (.d (.str c)) R = (a.length + c.length ≤ sizeLine ∧ R (.d (.str (a ++ c)))) := id rfl
@[simp] theorem o_addOO : addV (.own xs) (.own ys) R = (xs.length + ys.length ≤ sizeLine ∧ R (.own (xs ++ ys))) := id rfl
@[simp] theorem o_addOB : addV (.own xs) (.bor ys) R = (xs.length + ys.length ≤ sizeLine ∧ R (.own (xs ++ ys))) := id rfl
@[simp] theorem o_addOL : addV (.own xs) (.d (.list ys)) R = (xs.length + ys.length ≤ sizeLine ∧ R (.own (xs ++ ys))) := id rfl
@[simp] theorem o_addBO : addV (.bor xs) (.own ys) R = (xs.length + ys.length ≤ sizeLine ∧ R (.own (xs ++ ys))) := id rfl
@[simp] theorem o_addBB : addV (.bor xs) (.bor ys) R = (xs.length + ys.length ≤ sizeLine ∧ R (.own (xs ++ ys))) := id rfl
@[simp] theorem o_addBL : addV (.bor xs) (.d (.list ys)) R = (xs.length + ys.length ≤ sizeLine ∧ R (.own (xs ++ ys))) := id rfl
@[simp] theorem o_addLO : addV (.d (.list xs)) (.own ys) R = (xs.length + ys.length ≤ sizeLine ∧ R (.own (xs ++ ys))) := id rfl
@[simp] theorem o_addLB : addV (.d (.list xs)) (.bor ys) R = (xs.length + ys.length ≤ sizeLine ∧ R (.own (xs ++ ys))) := id rfl
@[simp] theorem o_addLL : addV (.d (.list xs)) (.d (.list ys)) R = (xs.length + ys.length ≤ sizeLine ∧ R (.own (xs ++ ys))) := id rfl
@[simp] theorem o_mul : mulV (.d (.int i)) (.d (.int j)) R = (MulOk i j ∧ R (.d (.int (i * j)))) := id rfl
/-- two of anything, compared -/
def oEq (c : Bool) (o p : Option PyData) (R : SV → Prop) : Prop := match o, p with
  | some a, some b => (SeqAt.shaped a = true ∧ SeqAt.shaped b = true) ∧ R (.d (.bool (if c then !PyData.eqv a b else PyData.eqv a b)))
  | _, _ => False
@[simp] theorem o_eq {c : Bool} : eqOp c r s R = oEq c (look r) (look s) R := id rfl
@[simp] theorem oEq_f : oEq false (some x) (some y) R = ((SeqAt.shaped x = true ∧ SeqAt.shaped y = true) ∧ R (.d (.bool (PyData.eqv x y)))) := id rfl
@[simp] theorem oEq_t : oEq true (some x) (some y) R = ((SeqAt.shaped x = true ∧ SeqAt.shaped y = true) ∧ R (.d (.bool (!PyData.eqv x y)))) := id rfl
@[simp] theorem look_d : look (.d x) = some x := id rfl
@[simp] theorem look_o : look (.own xs) = some (.list xs) := id rfl
@[simp] theorem look_b : look (.bor xs) = some (.list xs) := id rfl
def oIn (c : Bool) (o : Option PyData) (p : Option (List PyData)) (R : SV → Prop) : Prop := match o, p with
  | some a, some bs => (SeqAt.shaped a = true ∧ SeqAt.shaped (.list bs) = true) ∧ R (.d (.bool (if c then !(bs.any fun z => PyData.eqv z a) else bs.any fun z => PyData.eqv z a)))
  | _, _ => False
@[simp] theorem o_in {c : Bool} : inOp c r s R = oIn c (look r) (lstOf s) R := id rfl
@[simp] theorem oIn_f : oIn false (some x) (some ys) R = ((SeqAt.shaped x = true ∧ SeqAt.shaped (.list ys) = true) ∧ R (.d (.bool (ys.any fun z => PyData.eqv z x)))) := id rfl
@[simp] theorem oIn_t : oIn true (some x) (some ys) R = ((SeqAt.shaped x = true ∧ SeqAt.shaped (.list ys) = true) ∧ R (.d (.bool (!(ys.any fun z => PyData.eqv z x))))) := id rfl
@[simp] theorem lst_l : lstOf (.d (.list xs)) = some xs := id rfl
@[simp] theorem lst_o : lstOf (.own xs) = some xs := id rfl
@[simp] theorem lst_b : lstOf (.bor xs) = some xs := id rfl
/-! truth -/
@[simp] theorem tru_b {c : Bool} {S : Bool → Prop} : truV (.d (.bool c)) S = S c := id rfl
@[simp] theorem tru_i {S : Bool → Prop} : truV (.d (.int i)) S = S (!decide (i = 0)) := by
  show S (i != 0) = _
  have e : (i != 0) = !decide (i = 0) := by by_cases h : i = 0 <;> simp [h]
  rw [e]
@[simp] theorem tru_n {S : Bool → Prop} : truV (.d .none) S = S false := id rfl
@[simp] theorem tru_t {S : Bool → Prop} : truV (.d (.tuple xs)) S = S (!xs.isEmpty) := id rfl
@[simp] theorem tru_l {S : Bool → Prop} : truV (.d (.list xs)) S = S (!xs.isEmpty) := id rfl
@[simp] theorem tru_o {S : Bool → Prop} : truV (.own xs) S = S (!xs.isEmpty) := id rfl
@[simp] theorem tru_bo {S : Bool → Prop} : truV (.bor xs) S = S (!xs.isEmpty) := id rfl
/-! items -/
def oAt (o : Option PyData) (R : SV → Prop) : Prop := match o with
  | some d => R (.d d)
  | none => False
theorem oAt_x {o : Option PyData} : (∃ d, o = some d ∧ R (.d d)) = oAt o R := by
  cases o with
  | none => exact propext ⟨fun ⟨d, h, _⟩ => (nomatch h), fun h => h.elim⟩
  | some d => exact propext ⟨fun ⟨d', h, q⟩ => by cases h; exact q, fun h => ⟨d, rfl, h⟩⟩
@[simp] theorem oAt_a : oAt (some x) R = R (.d x) := id rfl
@[simp] theorem ix_t : ixV (.d (.tuple xs)) (.d (.int i)) R = oAt (atI xs i) R := oAt_x
@[simp] theorem ix_l : ixV (.d (.list xs)) (.d (.int i)) R = oAt (atI xs i) R := oAt_x
@[simp] theorem ix_o : ixV (.own xs) (.d (.int i)) R = oAt (atI xs i) R := oAt_x
@[simp] theorem ix_b : ixV (.bor xs) (.d (.int i)) R = oAt (atI xs i) R := oAt_x
theorem atI_n {α : Type} {zs : List α} {n : Nat} : atI zs (n : Int) = zs[n]? := by
  unfold atI ixN
  rw [if_pos (by omega)]
  by_cases h : n < zs.length
  · rw [if_pos (by omega)]
    rfl
  · rw [if_neg (by omega), List.getElem?_eq_none (by omega)]
    rfl
theorem atI_neg {α : Type} {zs : List α} {n : Nat} : atI zs (-((n : Int) + 1)) = if n < zs.length then zs[zs.length - 1 - n]? else none := by
  unfold atI ixN
  rw [if_neg (by omega)]
  by_cases h : n < zs.length
  · rw [if_pos (by omega), if_pos h]
    show zs[_]? = _
    congr 1
    omega
  · rw [if_neg (by omega), if_neg h]
    rfl
section
variable {α : Type} {a a' a'' : α} {zs : List α}
@[simp] theorem atI_0 : atI (a :: zs) 0 = some a := atI_n (n := 0)
@[simp] theorem atI_1 : atI (a :: a' :: zs) 1 = some a' := atI_n (n := 1)
@[simp] theorem atI_2 : atI (a :: a' :: a'' :: zs) 2 = some a'' := atI_n (n := 2)
theorem atI_last : atI zs (-1) = zs.getLast? := by
  have := atI_neg (zs := zs) (n := 0)
  rw [show -(((0 : Nat) : Int) + 1) = -1 from rfl] at this
  rw [this]
  cases zs with
  | nil => rfl
  | cons z r => rw [if_pos (by simp), List.getLast?_eq_getElem?]; rfl
end
/-! slices -/
@[simp] theorem sl_t {lo hi : Option Int} : slV (.d (.tuple xs)) lo hi R = R (.d (.tuple (cutD xs lo hi))) := id rfl
@[simp] theorem sl_l {lo hi : Option Int} : slV (.d (.list xs)) lo hi R = R (.own (cutD xs lo hi)) := id rfl
@[simp] theorem sl_o {lo hi : Option Int} : slV (.own xs) lo hi R = R (.own (cutD xs lo hi)) := id rfl
@[simp] theorem sl_b {lo hi : Option Int} : slV (.bor xs) lo hi R = R (.own (cutD xs lo hi)) := id rfl
/-! calls -/
def kF (P : Out SV → Prop) : Fl → Prop
  | .nx _ => P (.val (.d .none))
  | .rt r => P (.val r)
  | .ex x _ => P (.exn x)
  | .bk _ => False
  | .ct _ => False
theorem w_fn {n N : Nat} {rs : List SV} : fnW n N b rs Q = (rs.length = n ∧ b (rs.map some ++ List.replicate (N - n) none) (kF Q)) := id rfl
@[simp] theorem kF_rt : kF Q (.rt r) = Q (.val r) := id rfl
@[simp] theorem kF_nx : kF Q (.nx ρ) = Q (.val (.d .none)) := id rfl
@[simp] theorem kF_ex : kF Q (.ex e ρ) = Q (.exn e) := id rfl
theorem callP_d {wf : WF} {rs : List SV} (h : rs.any isBor = false) (h2 : rs.map argS = rs) : callP wf rs Q = wf rs Q := by
  unfold callP
  rw [h, h2]
  rfl
@[simp] theorem c0 {wf : WF} : callP wf [] Q = wf [] Q := id rfl
@[simp] theorem c1 {wf : WF} : callP wf [.d x] Q = wf [.d x] Q := id rfl
@[simp] theorem c1o {wf : WF} : callP wf [.own xs] Q = wf [.d (.list xs)] Q := id rfl
@[simp] theorem c1b {wf : WF} : callP wf [.bor xs] Q = wf [.d (.list xs)] (borP Q) := id rfl
@[simp] theorem c1s {wf : WF} : callP wf [.st] Q = wf [.st] Q := id rfl
@[simp] theorem c2 {wf : WF} : callP wf [.d x, .d y] Q = wf [.d x, .d y] Q := id rfl
@[simp] theorem c2s {wf : WF} : callP wf [.st, .d y] Q = wf [.st, .d y] Q := id rfl
@[simp] theorem c2so {wf : WF} : callP wf [.st, .own ys] Q = wf [.st, .d (.list ys)] Q := id rfl
@[simp] theorem c2sb {wf : WF} : callP wf [.st, .bor ys] Q = wf [.st, .d (.list ys)] (borP Q) := id rfl
@[simp] theorem c2o {wf : WF} : callP wf [.own xs, .d y] Q = wf [.d (.list xs), .d y] Q := id rfl
@[simp] theorem c2b {wf : WF} : callP wf [.bor xs, .d y] Q = wf [.d (.list xs), .d y] (borP Q) := id rfl
@[simp] theorem c2do {wf : WF} : callP wf [.d x, .own ys] Q = wf [.d x, .d (.list ys)] Q := id rfl
@[simp] theorem c2db {wf : WF} : callP wf [.d x, .bor ys] Q = wf [.d x, .d (.list ys)] (borP Q) := id rfl
@[simp] theorem c3 {wf : WF} {z : PyData} : callP wf [.d x, .d y, .d z] Q = wf [.d x, .d y, .d z] Q := id rfl
@[simp] theorem c3s {wf : WF} {z : PyData} : callP wf [.st, .d y, .d z] Q = wf [.st, .d y, .d z] Q := id rfl
@[simp] theorem c4 {wf : WF} {z z' : PyData} : callP wf [.d x, .d y, .d z, .d z'] Q = wf [.d x, .d y, .d z, .d z'] Q := id rfl
theorem take_n {m : Int} : w_take [.st, .d (.int m)] Q = (m < 1073741824 ∧ ∀ k : Int, (m < 2 → k = 0) → (2 ≤ m → 0 ≤ k ∧ k < m) → Q (.val (.d (.int k)))) := id rfl
/-- a draw below m -/
theorem take_ok {m : Int} (h1 : 1 ≤ m) (h2 : m < 1073741824) (h : ∀ k : Int, 0 ≤ k → k < m → Q (.val (.d (.int k)))) : w_take [.st, .d (.int m)] Q := by
  refine ⟨h2, fun k q1 q2 => ?_⟩
  by_cases hm : m < 2
  · rw [q1 hm]
    exact h 0 (Int.le_refl _) (by omega)
  · exact h k (q2 (by omega)).1 (q2 (by omega)).2
/-! built-in functions -/
@[simp] theorem l_t : lenV [.d (.tuple xs)] R = R (.d (.int xs.length)) := id rfl
@[simp] theorem l_l : lenV [.d (.list xs)] R = R (.d (.int xs.length)) := id rfl
@[simp] theorem l_o : lenV [.own xs] R = R (.d (.int xs.length)) := id rfl
@[simp] theorem l_b : lenV [.bor xs] R = R (.d (.int xs.length)) := id rfl
@[simp] theorem a_i : absV [.d (.int i)] R = R (.d (.int (i.natAbs : Int))) := by
  show R (.d (.int (if i < 0 then -i else i))) = _
  congr 3
  split <;> omega
@[simp] theorem i_i : intV [.d (.int i)] R = R (.d (.int i)) := id rfl
@[simp] theorem max_2 : maxV [.d (.int i), .d (.int j)] R = R (.d (.int (max i j))) := by
  show R (.d (.int (if j > i then j else i))) = _
  congr 3
  split <;> omega
@[simp] theorem min_2 : minV [.d (.int i), .d (.int j)] R = R (.d (.int (min i j))) := by
  show R (.d (.int (if j < i then j else i))) = _
  congr 3
  split <;> omega
@[simp] theorem li_t : listV [.d (.tuple xs)] R = R (.own xs) := id rfl
@[simp] theorem li_l : listV [.d (.list xs)] R = R (.own xs) := id rfl
@[simp] theorem li_o : listV [.own xs] R = R (.own xs) := id rfl
@[simp] theorem li_b : listV [.bor xs] R = R (.own xs) := id rfl
@[simp] theorem tu_t : tupleV [.d (.tuple xs)] R = R (.d (.tuple xs)) := id rfl
@[simp] theorem tu_l : tupleV [.d (.list xs)] R = R (.d (.tuple xs)) := id rfl
@[simp] theorem tu_o : tupleV [.own xs] R = R (.d (.tuple xs)) := id rfl
@[simp] theorem tu_b : tupleV [.bor xs] R = R (.d (.tuple xs)) := id rfl
/-- sorted, of any list -/
theorem so_a {zs : List PyData} (h : lstOf r = some zs) : sortedV [r] R = ((PySem.W.AllAlike zs ∧ PySem.W.Sortable zs ∧ ∀ b, b ∈ zs → b.depth ≤ 60) ∧ R (.own (zs.mergeSort (PySem.W.dataLe false id)))) := by
  show (match lstOf r with | some xs => _ | none => False) = _
  rw [h]
theorem so_o : sortedV [.own xs] R = ((PySem.W.AllAlike xs ∧ PySem.W.Sortable xs ∧ ∀ b, b ∈ xs → b.depth ≤ 60) ∧ R (.own (xs.mergeSort (PySem.W.dataLe false id)))) := id rfl
theorem so_b : sortedV [.bor xs] R = ((PySem.W.AllAlike xs ∧ PySem.W.Sortable xs ∧ ∀ b, b ∈ xs → b.depth ≤ 60) ∧ R (.own (xs.mergeSort (PySem.W.dataLe false id)))) := id rfl
theorem so_l : sortedV [.d (.list xs)] R = ((PySem.W.AllAlike xs ∧ PySem.W.Sortable xs ∧ ∀ b, b ∈ xs → b.depth ≤ 60) ∧ R (.own (xs.mergeSort (PySem.W.dataLe false id)))) := id rfl
/-! equality of data -/
@[simp] theorem eqv_i : PyData.eqv (.int i) (.int j) = decide (i = j) := by
  simp only [PyData.eqv]
  by_cases h : i = j <;> simp [h]
@[simp] theorem eqv_t : PyData.eqv (.tuple xs) (.tuple ys) = PyData.eqvAll xs ys := by simp [PyData.eqv]
@[simp] theorem eqv_l : PyData.eqv (.list xs) (.list ys) = PyData.eqvAll xs ys := by simp [PyData.eqv]
@[simp] theorem eqv_b {c d : Bool} : PyData.eqv (.bool c) (.bool d) = (c == d) := by simp [PyData.eqv]
@[simp] theorem eqv_s {c d : Str} : PyData.eqv (.str c) (.str d) = (c == d) := by simp [PyData.eqv]
@[simp] theorem eqv_n : PyData.eqv .none .none = true := by simp [PyData.eqv]
@[simp] theorem eqA_n : PyData.eqvAll [] [] = true := by simp [PyData.eqvAll]
@[simp] theorem eqA_c : PyData.eqvAll (x :: xs) (y :: ys) = (PyData.eqv x y && PyData.eqvAll xs ys) := by simp [PyData.eqvAll]
@[simp] theorem eqA_l : PyData.eqvAll (x :: xs) [] = false := by simp [PyData.eqvAll]
@[simp] theorem eqA_r : PyData.eqvAll [] (y :: ys) = false := by simp [PyData.eqvAll]
/-! shapes -/
def shp (n : Nat) (d : PyData) : Bool := d.canLay0 && decide (d.depth ≤ n)
def shpA (n : Nat) (ds : List PyData) : Bool := PyData.canLayAll0 ds && decide (PyData.depthAll ds ≤ n)
@[simp] theorem shaped_shp : SeqAt.shaped x = shp 64 x := id rfl
@[simp] theorem shp_i {n : Nat} : shp n (.int i) = true := by simp [shp, PyData.canLay0, PyData.depth]
@[simp] theorem shp_b {n : Nat} {c : Bool} : shp n (.bool c) = true := by simp [shp, PyData.canLay0, PyData.depth]
@[simp] theorem shp_n {n : Nat} : shp n .none = true := by simp [shp, PyData.canLay0, PyData.depth]
theorem shp_t {n : Nat} : shp (n + 1) (.tuple xs) = shpA n xs := by simp [shp, shpA, PyData.canLay0, PyData.depth]
theorem shp_l {n : Nat} : shp (n + 1) (.list xs) = shpA n xs := by simp [shp, shpA, PyData.canLay0, PyData.depth]
@[simp] theorem shpA_n {n : Nat} : shpA n [] = true := by simp [shpA, PyData.canLayAll0, PyData.depthAll]
@[simp] theorem shpA_c {n : Nat} : shpA n (x :: xs) = (shp n x && shpA n xs) := by
  simp only [shpA, shp, PyData.canLayAll0, PyData.depthAll, Nat.max_le, Bool.decide_and]
  cases PyData.canLay0 x <;> cases PyData.canLayAll0 xs <;> simp
theorem shpA_all {n : Nat} : ∀ {zs : List PyData}, (∀ z ∈ zs, shp n z = true) → shpA n zs = true
  | [], _ => shpA_n
  | z :: zs, h => by rw [shpA_c, h z (List.mem_cons_self ..), shpA_all fun y hy => h y (List.mem_cons_of_mem _ hy)]; rfl
@[simp] theorem shp_t64 : shp 64 (.tuple xs) = shpA 63 xs := shp_t
@[simp] theorem shp_t63 : shp 63 (.tuple xs) = shpA 62 xs := shp_t
@[simp] theorem shp_t62 : shp 62 (.tuple xs) = shpA 61 xs := shp_t
@[simp] theorem shp_t61 : shp 61 (.tuple xs) = shpA 60 xs := shp_t
@[simp] theorem shp_t60 : shp 60 (.tuple xs) = shpA 59 xs := shp_t
@[simp] theorem shp_l64 : shp 64 (.list xs) = shpA 63 xs := shp_l
@[simp] theorem shp_l63 : shp 63 (.list xs) = shpA 62 xs := shp_l
@[simp] theorem shp_l62 : shp 62 (.list xs) = shpA 61 xs := shp_l
@[simp] theorem shp_l61 : shp 61 (.list xs) = shpA 60 xs := shp_l
end
/-! sizes -/
def Bd (n : Nat) (i : Int) : Prop := i.natAbs < 2 ^ n
theorem Bd.mulOk {n m : Nat} {i j : Int} (h : Bd n i) (h' : Bd m j) (hn : n + m ≤ 900000 := by decide) : MulOk i j := by
  unfold MulOk CMulW
  have l : ∀ {n : Nat} {i : Int}, Bd n i → i.natAbs.log2 ≤ n := fun {n i} h => by
    by_cases h0 : i.natAbs = 0
    · rw [h0]; simp
    · exact Nat.le_of_lt ((Nat.log2_lt h0).mpr h)
  have := l h
  have := l h'
  omega
theorem Bd.mul {n m : Nat} {i j : Int} (h : Bd n i) (h' : Bd m j) : Bd (n + m) (i * j) := by
  unfold Bd
  rw [Int.natAbs_mul, Nat.pow_add]
  exact Nat.mul_lt_mul'' h h'
theorem Bd.up {n m : Nat} {i : Int} (h : Bd n i) (l : n ≤ m) : Bd m i := Nat.lt_of_lt_of_le h (Nat.pow_le_pow_right (by decide) l)
theorem Bd.add {n m : Nat} {i j : Int} (h : Bd n i) (h' : Bd m j) : Bd (n + m + 1) (i + j) := by
  have h1 := h.up (Nat.le_add_right n m)
  have h2 := h'.up (Nat.le_add_left m n)
  unfold Bd at *
  rw [Nat.pow_succ]
  omega
theorem Bd.neg {n : Nat} {i : Int} (h : Bd n i) : Bd n (-i) := by
  unfold Bd at *
  rw [Int.natAbs_neg]
  exact h
theorem Bd.sub {n m : Nat} {i j : Int} (h : Bd n i) (h' : Bd m j) : Bd (n + m + 1) (i - j) := by
  rw [Int.sub_eq_add_neg]
  exact h.add h'.neg
theorem Bd.lt {i : Int} (h1 : -(2 ^ 62) < i) (h2 : i < 2 ^ 62) : Bd 62 i := by
  unfold Bd
  omega
/-- the product of two small numbers may be made -/
theorem mulOk_lt {i j : Int} (h1 : -(2 ^ 62) < i) (h2 : i < 2 ^ 62) (h3 : -(2 ^ 62) < j) (h4 : j < 2 ^ 62) : MulOk i j := (Bd.lt h1 h2).mulOk (Bd.lt h3 h4)
end Pw
end

section
set_option Elab.async false
set_option linter.all false
set_option maxRecDepth 100000
set_option maxHeartbeats 4000000
/-! Pw18: comprehensions, loops, gcd. -/
namespace Pw
open PySem PySem.Spec L2
section
variable {ρ ρ1 ρ' : SEnv} {P : Fl → Prop} {f g b : WS} {t u : WT} {fa fb fc fe : WE} {fi : WI} {x y : PyData} {r s : SV} {i j : Int} {e : Exn} {Q : Out SV → Prop} {R : SV → Prop} {xs ys : List PyData} {tg : Tg}
def kLE (k : (List PyData → Prop) → Prop) (S : List PyData → Prop) : Out SV → Prop
  | .val r => (match conv r with
    | some y => k fun ys => S (y :: ys)
    | none => False)
  | .exn _ => False
def kLT (fe : WE) (ρ1 : SEnv) (k : (List PyData → Prop) → Prop) (S : List PyData → Prop) : Out Bool → Prop
  | .val true => fe ρ1 (kLE k S)
  | .val false => k S
  | .exn _ => False
@[simp] theorem lc_nil {S : List PyData → Prop} : lcL tg t fe ρ [] S = S [] := id rfl
theorem lc_cons {S : List PyData → Prop} : lcL tg t fe ρ (x :: xs) S = match asg tg x ρ with
    | some ρ1 => t ρ1 (kLT fe ρ1 (lcL tg t fe ρ xs) S)
    | none => False := by
  show (match asg tg x ρ with
    | some ρ1 => t ρ1 _
    | none => False) = _
  cases asg tg x ρ with
  | none => rfl
  | some ρ1 => rfl
@[simp] theorem kLT_t {k : (List PyData → Prop) → Prop} {S : List PyData → Prop} : kLT fe ρ1 k S (.val true) = fe ρ1 (kLE k S) := id rfl
@[simp] theorem kLT_f {k : (List PyData → Prop) → Prop} {S : List PyData → Prop} : kLT fe ρ1 k S (.val false) = k S := id rfl
@[simp] theorem kLE_d {k : (List PyData → Prop) → Prop} {S : List PyData → Prop} : kLE k S (.val (.d y)) = k fun zs => S (y :: zs) := id rfl
@[simp] theorem kLE_o {k : (List PyData → Prop) → Prop} {S : List PyData → Prop} : kLE k S (.val (.own ys)) = k fun zs => S (.list ys :: zs) := id rfl
/-- a comprehension, item by item: h tells of each item whether it is kept, as what -/
theorem lcl_ok (h : PyData → Option PyData) : ∀ (zs : List PyData) (S : List PyData → Prop), (∀ x, x ∈ zs → ∃ ρ1, asg tg x ρ = some ρ1 ∧ match h x with
      | none => ∀ T : Out Bool → Prop, T (.val false) → t ρ1 T
      | some y => (∀ T : Out Bool → Prop, T (.val true) → t ρ1 T) ∧ ∀ T : Out SV → Prop, T (.val (.d y)) → fe ρ1 T) → S (zs.filterMap h) → lcL tg t fe ρ zs S
  | [], S, _, q => q
  | x :: zs, S, k, q => by
    obtain ⟨ρ1, e, w⟩ := k x (List.mem_cons_self ..)
    rw [lc_cons, e]
    have ih := fun S => lcl_ok h zs S fun y hy => k y (List.mem_cons_of_mem _ hy)
    rw [List.filterMap_cons] at q
    show t ρ1 _
    cases hx : h x with
    | none =>
      rw [hx] at w q
      exact w _ (ih _ q)
    | some y =>
      rw [hx] at w q
      exact w.1 _ (w.2 _ (ih _ q))
/-- .. without a filter -/
theorem lc_map (h : PyData → PyData) (zs : List PyData) (S : List PyData → Prop) (k : ∀ x, x ∈ zs → ∃ ρ1, asg tg x ρ = some ρ1 ∧ ∀ T : Out SV → Prop, T (.val (.d (h x))) → fe ρ1 T) (q : S (zs.map h)) : lcL tg dYes fe ρ zs S := by
  refine lcl_ok (fun x => some (h x)) zs S (fun x hx => ?_) ?_
  · obtain ⟨ρ1, e, w⟩ := k x hx
    exact ⟨ρ1, e, fun T hT => hT, w⟩
  · rw [List.filterMap_eq_map']
    exact q
/-- .. a filter alone: the items that pass -/
theorem lc_filter (h : PyData → Bool) (zs : List PyData) (S : List PyData → Prop) (k : ∀ x, x ∈ zs → ∃ ρ1, asg tg x ρ = some ρ1 ∧ (∀ T : Out Bool → Prop, T (.val (h x)) → t ρ1 T) ∧ (h x = true → ∀ T : Out SV → Prop, T (.val (.d x)) → fe ρ1 T)) (q : S (zs.filter h)) : lcL tg t fe ρ zs S := by
  refine lcl_ok (fun x => if h x then some x else none) zs S (fun x hx => ?_) ?_
  · obtain ⟨ρ1, e, w, v⟩ := k x hx
    refine ⟨ρ1, e, ?_⟩
    cases hh : h x with
    | true => rw [hh] at w; exact ⟨w, v hh⟩
    | false => rw [hh] at w; exact w
  · have : (zs.filterMap fun x => if h x then some x else none) = zs.filter h := by
      rw [← List.filterMap_eq_filter]
      rfl
    rw [this]
    exact q
/-- a loop over a list with an invariant: I k ρ: ρ stands when k items are done -/
theorem for_ok (I : Nat → SEnv → Prop) (zs : List PyData) (h0 : I 0 ρ) (hs : ∀ k x ρ, zs[k]? = some x → I k ρ → ∃ ρ1, asg tg x ρ = some ρ1 ∧ ∀ T : Fl → Prop, (∀ ρ', I (k + 1) ρ' → T (.nx ρ')) → (∀ ρ', I (k + 1) ρ' → T (.ct ρ')) → b ρ1 T)
    (he : ∀ ρ', I zs.length ρ' → P (.nx ρ')) : forL tg b zs ρ P := by
  have key : ∀ (ws : List PyData) (k : Nat) (ρ : SEnv), zs.drop k = ws → k ≤ zs.length → I k ρ → forL tg b ws ρ P := by
    intro ws
    induction ws with
    | nil =>
      intro k ρ hd hk hI
      have : k = zs.length := by
        have := congrArg List.length hd
        rw [List.length_drop] at this
        simp at this
        omega
      subst this
      exact he ρ hI
    | cons x ws ih =>
      intro k ρ hd hk hI
      have hx : zs[k]? = some x := by
        have := congrArg (fun l => l[0]?) hd
        simpa using this
      have hlt : k < zs.length := (List.getElem?_eq_some_iff.mp hx).1
      have hd' : zs.drop (k + 1) = ws := by
        have := congrArg List.tail hd
        simpa using this
      obtain ⟨ρ1, e, q⟩ := hs k x ρ hx hI
      rw [f_cons, e]
      refine q _ (fun ρ' hI' => ?_) (fun ρ' hI' => ?_)
      · exact ih (k + 1) ρ' hd' hlt hI'
      · exact ih (k + 1) ρ' hd' hlt hI'
  exact key zs 0 ρ rfl (Nat.zero_le _) h0
/-- .. with break, return -/
theorem for_full (I : Nat → SEnv → Prop) (J : SEnv → Prop) (K : SV → Prop) (zs : List PyData) (h0 : I 0 ρ)
    (hs : ∀ k x ρ, zs[k]? = some x → I k ρ → ∃ ρ1, asg tg x ρ = some ρ1 ∧ ∀ T : Fl → Prop, (∀ ρ', I (k + 1) ρ' → T (.nx ρ')) → (∀ ρ', I (k + 1) ρ' → T (.ct ρ')) → (∀ ρ', J ρ' → T (.bk ρ')) → (∀ r, K r → T (.rt r)) → b ρ1 T)
    (he : ∀ ρ', I zs.length ρ' → P (.nx ρ')) (hj : ∀ ρ', J ρ' → P (.nx ρ')) (hk : ∀ r, K r → P (.rt r)) : forL tg b zs ρ P := by
  have key : ∀ (ws : List PyData) (k : Nat) (ρ : SEnv), zs.drop k = ws → k ≤ zs.length → I k ρ → forL tg b ws ρ P := by
    intro ws
    induction ws with
    | nil =>
      intro k ρ hd hk hI
      have : k = zs.length := by
        have := congrArg List.length hd
        rw [List.length_drop] at this
        simp at this
        omega
      subst this
      exact he ρ hI
    | cons x ws ih =>
      intro k ρ hd hk2 hI
      have hx : zs[k]? = some x := by
        have := congrArg (fun l => l[0]?) hd
        simpa using this
      have hlt : k < zs.length := (List.getElem?_eq_some_iff.mp hx).1
      have hd' : zs.drop (k + 1) = ws := by
        have := congrArg List.tail hd
        simpa using this
      obtain ⟨ρ1, e, q⟩ := hs k x ρ hx hI
      rw [f_cons, e]
      exact q _ (fun ρ' hI' => ih (k + 1) ρ' hd' hlt hI') (fun ρ' hI' => ih (k + 1) ρ' hd' hlt hI') (fun ρ' h => hj ρ' h) fun r h => hk r h
  exact key zs 0 ρ rfl (Nat.zero_le _) h0
/-- a while loop with a measure -/
theorem while_ok (I : SEnv → Prop) (m : SEnv → Nat) (h0 : I ρ) (hs : ∀ ρ, I ρ → (∀ T : Out Bool → Prop, T (.val false) → t ρ T) ∧ P (.nx ρ) ∨ (∀ T : Out Bool → Prop, T (.val true) → t ρ T) ∧ ∀ T : Fl → Prop, (∀ ρ', I ρ' → m ρ' < m ρ → T (.nx ρ')) → b ρ T) : whileW t b ρ P := by
  have key : ∀ (n : Nat) (ρ : SEnv), m ρ < n → I ρ → whileN t b n ρ P := by
    intro n
    induction n with
    | zero => intro ρ h; exact absurd h (Nat.not_lt_zero _)
    | succ n ih =>
      intro ρ h hI
      rw [w_wh]
      rcases hs ρ hI with ⟨q1, q2⟩ | ⟨q1, q2⟩
      · exact q1 _ q2
      · refine q1 _ ?_
        show cWh t b n true ρ P
        unfold cWh
        rw [if_pos rfl]
        exact q2 _ fun ρ' hI' hm => ih ρ' (by omega) hI'
  exact ⟨m ρ + 1, key _ ρ (Nat.lt_succ_self _) h0⟩
end
/-- a range, item by item -/
theorem rngL_get {lo : Int} {n k : Nat} {x : PyData} (h : (rngL lo n)[k]? = some x) : x = .int (lo + k) ∧ k < n := by
  unfold rngL at h
  rw [List.getElem?_map] at h
  obtain ⟨i, hi, e⟩ := Option.map_eq_some_iff.mp h
  have := List.getElem?_eq_some_iff.mp hi
  obtain ⟨h1, h2⟩ := this
  rw [List.length_range] at h1
  rw [List.getElem_range] at h2
  subst h2
  exact ⟨e.symm, h1⟩
@[simp] theorem rngL_ln {lo : Int} {n : Nat} : (rngL lo n).length = n := by unfold rngL; rw [List.length_map, List.length_range]
theorem rngL_mem {lo : Int} {n : Nat} {x : PyData} (h : x ∈ rngL lo n) : ∃ k : Nat, k < n ∧ x = .int (lo + k) := by
  unfold rngL at h
  obtain ⟨k, hk, e⟩ := List.mem_map.mp h
  exact ⟨k, List.mem_range.mp hk, e.symm⟩
/-! ### points -/
abbrev pt (a b : Int) : PyData := .tuple [.int a, .int b]
def mkp (p : Int × Int) : PyData := pt p.1 p.2
def leP (p q : Int × Int) : Bool := decide (p.1 < q.1 ∨ (p.1 = q.1 ∧ p.2 ≤ q.2))
theorem leP_le (p q : Int × Int) : leP p q = PySem.W.dataLe false id (mkp p) (mkp q) := by
  have h := PySem.W.dataLe_ii (β := Int × Int) (fun p => p.1) (fun p => p.2)
  have h2 := congrFun (congrFun h p) q
  exact h2.symm
theorem leP_trans (a b c : Int × Int) (h1 : leP a b = true) (h2 : leP b c = true) : leP a c = true := by
  simp only [leP, decide_eq_true_eq] at *
  omega
theorem leP_total (a b : Int × Int) : (leP a b || leP b a) = true := by
  simp only [leP, Bool.or_eq_true, decide_eq_true_eq]
  omega
theorem sort_mkp (ps : List (Int × Int)) : (ps.map mkp).mergeSort (PySem.W.dataLe false id) = (ps.mergeSort leP).map mkp :=
  (List.map_mergeSort fun a _ b _ => leP_le a b).symm
theorem sort_perm {ps qs : List (Int × Int)} (h : ps.Perm qs) : ps.mergeSort leP = qs.mergeSort leP := by
  refine List.Perm.eq_of_pairwise (le := fun a b => leP a b = true) (fun a b _ _ h1 h2 => ?_) (List.pairwise_mergeSort leP_trans leP_total ps) (List.pairwise_mergeSort leP_trans leP_total qs) (((List.mergeSort_perm ps leP).trans h).trans (List.mergeSort_perm qs leP).symm)
  obtain ⟨a1, a2⟩ := a
  obtain ⟨b1, b2⟩ := b
  simp only [leP, decide_eq_true_eq] at h1 h2
  have : a1 = b1 := by omega
  have : a2 = b2 := by omega
  simp [*]
theorem mkp_alike (ps : List (Int × Int)) : PySem.W.AllAlike (ps.map mkp) := by
  intro d hd d' hd'
  obtain ⟨p, _, rfl⟩ := List.mem_map.mp hd
  obtain ⟨q, _, rfl⟩ := List.mem_map.mp hd'
  rfl
theorem mkp_sortable (ps : List (Int × Int)) : PySem.W.Sortable (ps.map mkp) := .inl fun d hd => by
  obtain ⟨p, _, rfl⟩ := List.mem_map.mp hd
  exact ⟨_, _, rfl⟩
theorem mkp_depth (ps : List (Int × Int)) : ∀ b, b ∈ ps.map mkp → b.depth ≤ 60 := fun d hd => by
  obtain ⟨p, _, rfl⟩ := List.mem_map.mp hd
  simp [mkp, PyData.depth, PyData.depthAll]
theorem so_p {r : SV} {R : SV → Prop} {ps : List (Int × Int)} (h : lstOf r = some (ps.map mkp)) : sortedV [r] R = R (.own ((ps.mergeSort leP).map mkp)) := by
  rw [so_a h, sort_mkp]
  exact propext ⟨fun q => q.2, fun q => ⟨⟨mkp_alike ps, mkp_sortable ps, mkp_depth ps⟩, q⟩⟩
theorem shpA_mkp {n : Nat} (ps : List (Int × Int)) (hn : 1 ≤ n) : shpA n (ps.map mkp) = true := shpA_all fun z hz => by
  obtain ⟨p, _, rfl⟩ := List.mem_map.mp hz
  obtain ⟨m, rfl⟩ : ∃ m, n = m + 1 := ⟨n - 1, by omega⟩
  simp [mkp, shp_t]
theorem eqv_mkp {p q : Int × Int} : PyData.eqv (mkp p) (mkp q) = decide (p = q) := by
  obtain ⟨a, b⟩ := p
  obtain ⟨c, d⟩ := q
  have : PyData.eqv (mkp (a, b)) (mkp (c, d)) = (decide (a = c) && (decide (b = d) && true)) := by simp [mkp]
  rw [this]
  by_cases h1 : a = c <;> by_cases h2 : b = d <;> simp [h1, h2]
theorem eqvAll_mkp : ∀ {ps qs : List (Int × Int)}, PyData.eqvAll (ps.map mkp) (qs.map mkp) = decide (ps = qs)
  | [], [] => by simp
  | [], _ :: _ => by simp
  | _ :: _, [] => by simp
  | p :: ps, q :: qs => by
    rw [List.map_cons, List.map_cons, eqA_c, eqv_mkp, eqvAll_mkp]
    by_cases h1 : p = q <;> by_cases h2 : ps = qs <;> simp [h1, h2]
/-! ### try -/
def kTry (x fld : Str) (os : List Str) (i : Nat) (P : Fl → Prop) : Fl → Prop
  | .ex e ρ' => (e.cls = x ∧ i < ρ'.length ∧ ∃ y, e.args.lookup fld = some y ∧ P (.rt (.d y))) ∨ (e.cls ∈ os ∧ P (.ex e ρ'))
  | .nx ρ => P (.nx ρ)
  | .rt r => P (.rt r)
  | .bk ρ => P (.bk ρ)
  | .ct ρ => P (.ct ρ)
@[simp] theorem s_try {x fld : Str} {os : List Str} {i : Nat} {b : WS} {ρ : SEnv} {P : Fl → Prop} : tryF x fld os i b ρ P = b ρ (kTry x fld os i P) := by
  unfold tryF
  congr 1
  funext fl
  cases fl <;> rfl
@[simp] theorem kTry_rt {x fld : Str} {os : List Str} {i : Nat} {r : SV} {P : Fl → Prop} : kTry x fld os i P (.rt r) = P (.rt r) := id rfl
@[simp] theorem kTry_nx {x fld : Str} {os : List Str} {i : Nat} {ρ : SEnv} {P : Fl → Prop} : kTry x fld os i P (.nx ρ) = P (.nx ρ) := id rfl
theorem kTry_ex {x fld : Str} {os : List Str} {i : Nat} {ρ : SEnv} {y : PyData} {P : Fl → Prop} (hi : i < ρ.length) (h : P (.rt (.d y))) : kTry x fld os i P (.ex ⟨x, [(fld, y)]⟩ ρ) := .inl ⟨rfl, hi, y, by simp [List.lookup], h⟩
@[simp] theorem cRaise_a {x fld : Str} {n : Nat} {ρ : SEnv} {y : Str} {P : Fl → Prop} : cRaise x fld n (.d (.str y)) ρ P = (n + y.length ≤ sizeLine ∧ P (.ex ⟨x, [(fld, .str y)]⟩ ρ)) := id rfl
@[simp] theorem so_pl {R : SV → Prop} {ps : List (Int × Int)} : sortedV [.d (.list (ps.map mkp))] R = R (.own ((ps.mergeSort leP).map mkp)) := so_p rfl
@[simp] theorem so_po {R : SV → Prop} {ps : List (Int × Int)} : sortedV [.own (ps.map mkp)] R = R (.own ((ps.mergeSort leP).map mkp)) := so_p rfl
@[simp] theorem so_pb {R : SV → Prop} {ps : List (Int × Int)} : sortedV [.bor (ps.map mkp)] R = R (.own ((ps.mergeSort leP).map mkp)) := so_p rfl
/-! ### Euclid -/
theorem gcd_step (a b : Int) : Int.gcd b (a.fmod b) = Int.gcd a b := by
  have h : a.fmod b = a - b * a.fdiv b := Int.fmod_def a b
  have e : a = a.fmod b + b * a.fdiv b := by omega
  have d1 : ((Int.gcd b (a.fmod b) : Nat) : Int) ∣ a := by
    rw [e]
    refine Int.dvd_add ?_ (Int.dvd_mul_of_dvd_left (Int.gcd_dvd_left ..) )
    have := Int.gcd_dvd_right b (a.fmod b)
    simpa using this
  have d2 : ((Int.gcd a b : Nat) : Int) ∣ a.fmod b := by
    rw [h]
    exact Int.dvd_sub (Int.gcd_dvd_left ..) (Int.dvd_mul_of_dvd_left (Int.gcd_dvd_right ..))
  apply Nat.dvd_antisymm
  · exact Int.dvd_gcd d1 (Int.gcd_dvd_left ..)
  · exact Int.dvd_gcd (Int.gcd_dvd_right ..) d2
end Pw
end

section
set_option Elab.async false
set_option linter.all false
set_option maxRecDepth 100000
set_option maxHeartbeats 4000000
namespace L01
open PySem PySem.Spec L2 Pw
def top (i : Nat) : Stmt := PySem.Challenge.pw_panewright_k01_whole_points_and_moves.main.body.getD i (.Pass ⟨0, 0, 0, 0⟩)
structure Bl (mg : Str → Option Value) : Prop where
  abs : mg "abs" = none
  all : mg "all" = none
  bool : mg "bool" = none
  int_ : mg "int" = none
  isinstance : mg "isinstance" = none
  len : mg "len" = none
  list_ : mg "list" = none
  max : mg "max" = none
  min : mg "min" = none
  range : mg "range" = none
  sorted : mg "sorted" = none
  tuple : mg "tuple" = none
structure Gc (mg : Str → Option Value) : Prop where
  c_MOST_NUMBER : ∃ t, mg "MOST_NUMBER" = some (.int 1000000 t)
theorem de_gint {X : Cx} {E : Sl → XK} {pos : Pos} {x : Str} {i : Int} (hg : Gl X x) (h : ∃ t, X.mg x = some (.int i t)) (hd : (x == ("__debug__" : Str)) = false := by decide) : DE X E (.Name x pos) (dC (.int i)) := by
  obtain ⟨t, h⟩ := h
  exact de_glob (v := .int i) (d := .int i) hg h ⟨t, rfl⟩ (fun _ => .int i) hd
abbrev i_Misstep : Stmt := (match top 2 with | .ClassDef _ _ _ b .. => b.getD 0 (.Pass ⟨0, 0, 0, 0⟩) | s => s)
abbrev e_Misstep : ErrS := ⟨"Misstep", "Misstep.__init__", defArgs i_Misstep, defBody i_Misstep, defScope i_Misstep, ["word"]⟩
structure Er_Misstep (P : Program) (w : World) (K : PySem.W.Frag) (mg : Str → Option Value) (base : Heap) (C : Addr) : Prop where
  err : Err1 P w K mg base 1 "Misstep" "word" 22
  ek : ErrK K mg "Misstep" "word" [] C
theorem er_Misstep {P : Program} {w : World} {K : PySem.W.Frag} {mg : Str → Option Value} {base : Heap} (hm : mg "Misstep" = some (.ref (He.ga K "Misstep"))) (D : ErrF P K e_Misstep) (hsup : mg "super" = none) (htop : (P.main.scope.names.lookup ("super" : Str)).isSome = false) (hme : PySem.W.exmOne K (.ref (He.ga K "Misstep")) (.ref (He.ga K "Misstep")) = some true) : Er_Misstep P w K mg base (He.ga K "Misstep") := by
  obtain ⟨F, fd, f1, f2, f3, ID⟩ := D.ini
  have hno : PySem.W.findIn K (.ref (He.ga K "Misstep")) "word" = some none := D.no _ (List.mem_cons_self ..)
  have S : NdefX.NScope [("self" : Str), "word", ("__class__" : Str)] [("self" : Str), "word"] [("__class__" : Str)] F.scope := by rw [f3]; exact NdefX.nscope_by (by decide +kernel)
  refine ⟨⟨_, _, fd, _, hm, D.cls, D.fnd, D.typ, ini1 (k := 0) ID D.cls hno S (by rw [f2]; rfl) (by rw [f1]; exact ⟨_, rfl, rfl⟩) (by rw [f3]; rfl) hsup htop (fun _ => rfl) (fun _ => rfl) (fun _ => rfl), ?_⟩, ⟨hm, D.xf, hno, hme, ?_⟩⟩
  · obtain ⟨oc, od, kV, doc, pm, an, cc, ct, osl, ccl, cdd, vs, ccs, file, tf, cl, cld, csl, cdD, h1, rfl, _⟩ := ID.ex
    rw [f1, f2, f3]
    exact .all fun us hl => match us, hl with | [_, _], _ => rfl
  · intro y hy; cases hy
abbrev s__law_cross : Stmt := top 30
abbrev N__law_cross : List Str := ["one", "other"]
theorem sc__law_cross : FnScope N__law_cross ["one", "other"] (defScope s__law_cross) := ⟨rfl, rfl, rfl, by decide +kernel, rfl, by decide +kernel, by decide +kernel⟩
noncomputable def b__law_cross : WS := (retW (dBin subV (dBin mulV (dIx (dVar 0) (dC (.int 0))) (dIx (dVar 1) (dC (.int 1)))) (dBin mulV (dIx (dVar 0) (dC (.int 1))) (dIx (dVar 1) (dC (.int 0))))))
noncomputable def w__law_cross : WF := fnW 2 2 b__law_cross
abbrev s__law_done : Stmt := top 40
abbrev N__law_done : List Str := ["move", "one"]
theorem sc__law_done : FnScope N__law_done ["move", "one"] (defScope s__law_done) := ⟨rfl, rfl, rfl, by decide +kernel, rfl, by decide +kernel, by decide +kernel⟩
noncomputable def b__law_done : WS := (retW (dTup (dCons (dBin addV (dBin addV (dBin mulV (dIx (dIx (dVar 0) (dC (.int 0))) (dC (.int 0))) (dIx (dVar 1) (dC (.int 0)))) (dBin mulV (dIx (dIx (dVar 0) (dC (.int 0))) (dC (.int 1))) (dIx (dVar 1) (dC (.int 1))))) (dIx (dIx (dVar 0) (dC (.int 2))) (dC (.int 0)))) (dCons (dBin addV (dBin addV (dBin mulV (dIx (dIx (dVar 0) (dC (.int 1))) (dC (.int 0))) (dIx (dVar 1) (dC (.int 0)))) (dBin mulV (dIx (dIx (dVar 0) (dC (.int 1))) (dC (.int 1))) (dIx (dVar 1) (dC (.int 1))))) (dIx (dIx (dVar 0) (dC (.int 2))) (dC (.int 1)))) dNil))))
noncomputable def w__law_done : WF := fnW 2 2 b__law_done
abbrev s__law_gcd : Stmt := top 33
abbrev N__law_gcd : List Str := ["one", "other", "turn"]
theorem sc__law_gcd : FnScope N__law_gcd ["one", "other"] (defScope s__law_gcd) := ⟨rfl, rfl, rfl, by decide +kernel, rfl, by decide +kernel, by decide +kernel⟩
noncomputable def b__law_gcd : WS := (seqW (parW [(.dat (.name 0)), (.dat (.name 1))] (dCons (dBlt absV (dCons (dVar 0) dNil)) (dCons (dBlt absV (dCons (dVar 1) dNil)) dNil))) (seqW (forW (dRng1 (dC (.int 200))) (.name 2) (seqW (ifW (dBinT (eqOp false) (dVar 1) (dC (.int 0))) brkW skipW) (parW [(.dat (.name 0)), (.dat (.name 1))] (dCons (dVar 1) (dCons (dBin modV (dBlt intV (dCons (dVar 0) dNil)) (dVar 1)) dNil))))) (retW (dVar 0))))
noncomputable def w__law_gcd : WF := fnW 2 3 b__law_gcd
abbrev s__law_is_point : Stmt := top 41
abbrev N__law_is_point : List Str := ["value", "n"]
theorem sc__law_is_point : FnScope N__law_is_point ["value"] (defScope s__law_is_point) := ⟨rfl, rfl, rfl, by decide +kernel, rfl, by decide +kernel, by decide +kernel⟩
noncomputable def b__law_is_point : WS := (seqW (ifW (dOrT (dNotT (dTru (dIsi "tuple" (dVar 0)))) (dBinT (eqOp true) (dBlt lenV (dCons (dVar 0) dNil)) (dC (.int 2)))) (retW (dC (.bool false))) skipW) (retW (dBin (eqOp false) (dBlt lenV (dCons (dLc (dSeq true (dVar 0)) (.name 1) (dOrT (dNotT (dTru (dIsi "int" (dVar 1)))) (dOrT (dTru (dIsi "bool" (dVar 1))) (dBinT gtV (dBlt absV (dCons (dVar 1) dNil)) (dC (.int 1000000))))) (dVar 1) [1]) dNil)) (dC (.int 0)))))
noncomputable def w__law_is_point : WF := fnW 1 2 b__law_is_point
abbrev s__law_is_move : Stmt := top 42
abbrev N__law_is_move : List Str := ["value", "row"]
theorem sc__law_is_move : FnScope N__law_is_move ["value"] (defScope s__law_is_move) := ⟨rfl, rfl, rfl, by decide +kernel, rfl, by decide +kernel, by decide +kernel⟩
noncomputable def b__law_is_move : WS := (seqW (ifW (dOrT (dNotT (dTru (dIsi "tuple" (dVar 0)))) (dOrT (dBinT (eqOp true) (dBlt lenV (dCons (dVar 0) dNil)) (dC (.int 3))) (dBinT gtV (dBlt lenV (dCons (dLc (dSeq true (dVar 0)) (.name 1) (dNotT (dTru (dCall 1 w__law_is_point (dCons (dVar 1) dNil)))) (dVar 1) [1]) dNil)) (dC (.int 0))))) (retW (dC (.bool false))) skipW) (retW (dBin (eqOp false) (dBlt absV (dCons (dCall 2 w__law_cross (dCons (dIx (dVar 0) (dC (.int 0))) (dCons (dIx (dVar 0) (dC (.int 1))) dNil))) dNil)) (dC (.int 1)))))
noncomputable def w__law_is_move : WF := fnW 1 2 b__law_is_move
abbrev s__law_less : Stmt := top 31
abbrev N__law_less : List Str := ["one", "other"]
theorem sc__law_less : FnScope N__law_less ["one", "other"] (defScope s__law_less) := ⟨rfl, rfl, rfl, by decide +kernel, rfl, by decide +kernel, by decide +kernel⟩
noncomputable def b__law_less : WS := (retW (dTup (dCons (dBin subV (dIx (dVar 0) (dC (.int 0))) (dIx (dVar 1) (dC (.int 0)))) (dCons (dBin subV (dIx (dVar 0) (dC (.int 1))) (dIx (dVar 1) (dC (.int 1)))) dNil))))
noncomputable def w__law_less : WF := fnW 2 2 b__law_less
abbrev s__law_take : Stmt := top 28
abbrev N__law_take : List Str := ["state", "most", "cells", "at", "cell", "mixed"]
theorem sc__law_take : FnScope N__law_take ["state", "most"] (defScope s__law_take) := ⟨rfl, rfl, rfl, by decide +kernel, rfl, by decide +kernel, by decide +kernel⟩
abbrev s__law_move : Stmt := top 39
abbrev N__law_move : List Str := ["state", "rows", "turn", "sort", "step", "k", "n"]
theorem sc__law_move : FnScope N__law_move ["state"] (defScope s__law_move) := ⟨rfl, rfl, rfl, by decide +kernel, rfl, by decide +kernel, by decide +kernel⟩
noncomputable def b__law_move : WS := (seqW (setW (.ow 1) (dLst (dCons (dLst (dCons (dC (.int 1)) (dCons (dC (.int 0)) dNil))) (dCons (dLst (dCons (dC (.int 0)) (dCons (dC (.int 1)) dNil))) dNil)))) (seqW (forW (dRng1 (dCall 2 w_take (dCons (dVar 0) (dCons (dC (.int 5)) dNil)))) (.name 2) (seqW (parW [(.dat (.name 3)), (.dat (.name 4))] (dCons (dCall 2 w_take (dCons (dVar 0) (dCons (dC (.int 4)) dNil))) (dCons (dBin subV (dCall 2 w_take (dCons (dVar 0) (dCons (dC (.int 5)) dNil))) (dC (.int 2))) dNil))) (ifW (dBinT (eqOp false) (dVar 3) (dC (.int 0))) (fun ρ P => isOwn ρ 1 = true ∧ stoW 1 (dLc (dSeq true (dTup (dCons (dC (.int 0)) (dCons (dC (.int 1)) dNil)))) (.name 5) dYes (dBin addV (dIx (dIx (dVar 1) (dC (.int 0))) (dVar 5)) (dBin mulV (dVar 4) (dIx (dIx (dVar 1) (dC (.int 1))) (dVar 5)))) [5]) (dC (.int 0)) ρ P) (ifW (dBinT (eqOp false) (dVar 3) (dC (.int 1))) (fun ρ P => isOwn ρ 1 = true ∧ stoW 1 (dLc (dSeq true (dTup (dCons (dC (.int 0)) (dCons (dC (.int 1)) dNil)))) (.name 5) dYes (dBin addV (dIx (dIx (dVar 1) (dC (.int 1))) (dVar 5)) (dBin mulV (dVar 4) (dIx (dIx (dVar 1) (dC (.int 0))) (dVar 5)))) [5]) (dC (.int 1)) ρ P) (ifW (dBinT (eqOp false) (dVar 3) (dC (.int 2))) (setW (.ow 1) (dRev (dVar 1))) (fun ρ P => isOwn ρ 1 = true ∧ stoW 1 (dLc (dSeq true (dIx (dVar 1) (dC (.int 0)))) (.name 6) dYes (dBin subV (dC (.int 0)) (dVar 6)) [6]) (dC (.int 0)) ρ P)))))) (retW (dTup (dCons (dBlt tupleV (dCons (dIx (dVar 1) (dC (.int 0))) dNil)) (dCons (dBlt tupleV (dCons (dIx (dVar 1) (dC (.int 1))) dNil)) (dCons (dTup (dCons (dBin subV (dCall 2 w_take (dCons (dVar 0) (dCons (dC (.int 9)) dNil))) (dC (.int 4))) (dCons (dBin subV (dCall 2 w_take (dCons (dVar 0) (dCons (dC (.int 9)) dNil))) (dC (.int 4))) dNil))) dNil)))))))
noncomputable def w__law_move : WF := fnW 1 7 b__law_move
abbrev s__law_pick : Stmt := top 29
abbrev N__law_pick : List Str := ["state", "row"]
theorem sc__law_pick : FnScope N__law_pick ["state", "row"] (defScope s__law_pick) := ⟨rfl, rfl, rfl, by decide +kernel, rfl, by decide +kernel, by decide +kernel⟩
noncomputable def b__law_pick : WS := (retW (dIx (dVar 1) (dCall 2 w_take (dCons (dVar 0) (dCons (dBlt lenV (dCons (dVar 1) dNil)) dNil)))))
noncomputable def w__law_pick : WF := fnW 2 2 b__law_pick
abbrev s__law_side : Stmt := top 32
abbrev N__law_side : List Str := ["a", "b", "c"]
theorem sc__law_side : FnScope N__law_side ["a", "b", "c"] (defScope s__law_side) := ⟨rfl, rfl, rfl, by decide +kernel, rfl, by decide +kernel, by decide +kernel⟩
noncomputable def b__law_side : WS := (retW (dCall 2 w__law_cross (dCons (dCall 2 w__law_less (dCons (dVar 1) (dCons (dVar 0) dNil))) (dCons (dCall 2 w__law_less (dCons (dVar 2) (dCons (dVar 0) dNil))) dNil))))
noncomputable def w__law_side : WF := fnW 3 3 b__law_side
abbrev s__law_state : Stmt := top 27
abbrev N__law_state : List Str := ["script", "cells", "cell"]
theorem sc__law_state : FnScope N__law_state ["script"] (defScope s__law_state) := ⟨rfl, rfl, rfl, by decide +kernel, rfl, by decide +kernel, by decide +kernel⟩
abbrev s_divisor : Stmt := top 7
abbrev N_divisor : List Str := ["one", "other"]
theorem sc_divisor : FnScope N_divisor ["one", "other"] (defScope s_divisor) := ⟨rfl, rfl, rfl, by decide +kernel, rfl, by decide +kernel, by decide +kernel⟩
noncomputable def b_divisor : WS := (seqW (parW [(.dat (.name 0)), (.dat (.name 1))] (dCons (dBlt absV (dCons (dVar 0) dNil)) (dCons (dBlt absV (dCons (dVar 1) dNil)) dNil))) (seqW (whileW (dBinT (eqOp true) (dVar 1) (dC (.int 0))) (parW [(.dat (.name 0)), (.dat (.name 1))] (dCons (dVar 1) (dCons (dBin modV (dVar 0) (dVar 1)) dNil)))) (retW (dVar 0))))
noncomputable def w_divisor : WF := fnW 2 2 b_divisor
abbrev s_least_step : Stmt := top 16
abbrev N_least_step : List Str := ["one", "told"]
theorem sc_least_step : FnScope N_least_step ["one"] (defScope s_least_step) := ⟨rfl, rfl, rfl, by decide +kernel, rfl, by decide +kernel, by decide +kernel⟩
noncomputable def b_least_step : WS := (seqW (setW (.dat (.name 1)) (dCall 2 w_divisor (dCons (dIx (dVar 0) (dC (.int 0))) (dCons (dIx (dVar 0) (dC (.int 1))) dNil)))) (seqW (ifW (dBinT (eqOp false) (dVar 1) (dC (.int 0))) (raiseW "Misstep" "word" 22 (dC (.str "nought"))) skipW) (retW (dTup (dCons (dBin fdivV (dIx (dVar 0) (dC (.int 0))) (dVar 1)) (dCons (dBin fdivV (dIx (dVar 0) (dC (.int 1))) (dVar 1)) dNil))))))
noncomputable def w_least_step : WF := fnW 1 2 b_least_step
abbrev s_shares : Stmt := top 24
abbrev N_shares : List Str := ["one", "other", "first", "second", "step", "k"]
theorem sc_shares : FnScope N_shares ["one", "other"] (defScope s_shares) := ⟨rfl, rfl, rfl, by decide +kernel, rfl, by decide +kernel, by decide +kernel⟩
noncomputable def b_shares : WS := (seqW (parW [(.dat (.name 2)), (.dat (.name 3))] (dCons (dTup (dCons (dVar 0) (dCons (dC (.int 1)) (dCons (dC (.int 0)) dNil)))) (dCons (dTup (dCons (dVar 1) (dCons (dC (.int 0)) (dCons (dC (.int 1)) dNil)))) dNil))) (seqW (whileW (dBinT (eqOp true) (dIx (dVar 3) (dC (.int 0))) (dC (.int 0))) (seqW (setW (.dat (.name 4)) (dBin fdivV (dIx (dVar 2) (dC (.int 0))) (dIx (dVar 3) (dC (.int 0))))) (parW [(.dat (.name 2)), (.dat (.name 3))] (dCons (dVar 3) (dCons (dBlt tupleV (dCons (dLc (dRng1 (dC (.int 3))) (.name 5) dYes (dBin subV (dIx (dVar 2) (dVar 5)) (dBin mulV (dVar 4) (dIx (dVar 3) (dVar 5)))) [5]) dNil)) dNil))))) (retW (dIf (dBinT geV (dIx (dVar 2) (dC (.int 0))) (dC (.int 0))) (dTup (dCons (dIx (dVar 2) (dC (.int 1))) (dCons (dIx (dVar 2) (dC (.int 2))) dNil))) (dTup (dCons (dBin subV (dC (.int 0)) (dIx (dVar 2) (dC (.int 1)))) (dCons (dBin subV (dC (.int 0)) (dIx (dVar 2) (dC (.int 2)))) dNil)))))))
noncomputable def w_shares : WF := fnW 2 6 b_shares
abbrev s_move_to_first : Stmt := top 25
abbrev N_move_to_first : List Str := ["one", "x", "y"]
theorem sc_move_to_first : FnScope N_move_to_first ["one"] (defScope s_move_to_first) := ⟨rfl, rfl, rfl, by decide +kernel, rfl, by decide +kernel, by decide +kernel⟩
noncomputable def b_move_to_first : WS := (seqW (ifW (dBinT (eqOp true) (dCall 2 w_divisor (dCons (dIx (dVar 0) (dC (.int 0))) (dCons (dIx (dVar 0) (dC (.int 1))) dNil))) (dC (.int 1))) (raiseW "Misstep" "word" 22 (dC (.str "step"))) skipW) (seqW (setW (.dat (.tup [(.name 1), (.name 2)])) (dCall 2 w_shares (dCons (dIx (dVar 0) (dC (.int 0))) (dCons (dIx (dVar 0) (dC (.int 1))) dNil)))) (retW (dTup (dCons (dTup (dCons (dVar 1) (dCons (dVar 2) dNil))) (dCons (dTup (dCons (dBin subV (dC (.int 0)) (dIx (dVar 0) (dC (.int 1)))) (dCons (dIx (dVar 0) (dC (.int 0))) dNil))) (dCons (dTup (dCons (dC (.int 0)) (dCons (dC (.int 0)) dNil))) dNil)))))))
noncomputable def w_move_to_first : WF := fnW 1 3 b_move_to_first
abbrev s__law_word : Stmt := top 43
abbrev N__law_word : List Str := ["call", "e"]
theorem sc__law_word : FnScope N__law_word ["call"] (defScope s__law_word) := ⟨rfl, rfl, rfl, by decide +kernel, rfl, by decide +kernel, by decide +kernel⟩
noncomputable def b__law_word : WS := (tryF "Misstep" "word" [] 1 (seqW (ifW (dBinT (eqOp false) (dVar 0) (dC (.int 0))) (exprW (dCall 1 w_least_step (dCons (dTup (dCons (dC (.int 0)) (dCons (dC (.int 0)) dNil))) dNil))) (exprW (dCall 1 w_move_to_first (dCons (dTup (dCons (dC (.int 4)) (dCons (dC (.int 6)) dNil))) dNil)))) (retW (dC (.str "")))))
noncomputable def w__law_word : WF := fnW 1 2 b__law_word
abbrev s_dot : Stmt := top 12
abbrev N_dot : List Str := ["one", "other"]
theorem sc_dot : FnScope N_dot ["one", "other"] (defScope s_dot) := ⟨rfl, rfl, rfl, by decide +kernel, rfl, by decide +kernel, by decide +kernel⟩
noncomputable def b_dot : WS := (retW (dBin addV (dBin mulV (dIx (dVar 0) (dC (.int 0))) (dIx (dVar 1) (dC (.int 0)))) (dBin mulV (dIx (dVar 0) (dC (.int 1))) (dIx (dVar 1) (dC (.int 1))))))
noncomputable def w_dot : WF := fnW 2 2 b_dot
abbrev s_moved : Stmt := top 19
abbrev N_moved : List Str := ["move", "one", "first", "second", "shift"]
theorem sc_moved : FnScope N_moved ["move", "one"] (defScope s_moved) := ⟨rfl, rfl, rfl, by decide +kernel, rfl, by decide +kernel, by decide +kernel⟩
noncomputable def b_moved : WS := (seqW (setW (.dat (.tup [(.name 2), (.name 3), (.name 4)])) (dVar 0)) (retW (dTup (dCons (dBin addV (dCall 2 w_dot (dCons (dVar 2) (dCons (dVar 1) dNil))) (dIx (dVar 4) (dC (.int 0)))) (dCons (dBin addV (dCall 2 w_dot (dCons (dVar 3) (dCons (dVar 1) dNil))) (dIx (dVar 4) (dC (.int 1)))) dNil)))))
noncomputable def w_moved : WF := fnW 2 5 b_moved
abbrev s_after : Stmt := top 21
abbrev N_after : List Str := ["move", "other", "rows", "row"]
theorem sc_after : FnScope N_after ["move", "other"] (defScope s_after) := ⟨rfl, rfl, rfl, by decide +kernel, rfl, by decide +kernel, by decide +kernel⟩
noncomputable def b_after : WS := (seqW (setW (.ow 2) (dLst dNil)) (seqW (forW (dSeq false (dSl (dVar 1) dNoP (dPart (dC (.int 2))))) (.name 3) (appW 2 (dTup (dCons (dBin addV (dBin mulV (dIx (dVar 3) (dC (.int 0))) (dIx (dIx (dVar 0) (dC (.int 0))) (dC (.int 0)))) (dBin mulV (dIx (dVar 3) (dC (.int 1))) (dIx (dIx (dVar 0) (dC (.int 1))) (dC (.int 0))))) (dCons (dBin addV (dBin mulV (dIx (dVar 3) (dC (.int 0))) (dIx (dIx (dVar 0) (dC (.int 0))) (dC (.int 1)))) (dBin mulV (dIx (dVar 3) (dC (.int 1))) (dIx (dIx (dVar 0) (dC (.int 1))) (dC (.int 1))))) dNil))))) (retW (dTup (dCons (dIx (dVar 2) (dC (.int 0))) (dCons (dIx (dVar 2) (dC (.int 1))) (dCons (dCall 2 w_moved (dCons (dVar 1) (dCons (dIx (dVar 0) (dC (.int 2))) dNil))) dNil)))))))
noncomputable def w_after : WF := fnW 2 4 b_after
abbrev s_plus : Stmt := top 8
abbrev N_plus : List Str := ["one", "other"]
theorem sc_plus : FnScope N_plus ["one", "other"] (defScope s_plus) := ⟨rfl, rfl, rfl, by decide +kernel, rfl, by decide +kernel, by decide +kernel⟩
noncomputable def b_plus : WS := (retW (dTup (dCons (dBin addV (dIx (dVar 0) (dC (.int 0))) (dIx (dVar 1) (dC (.int 0)))) (dCons (dBin addV (dIx (dVar 0) (dC (.int 1))) (dIx (dVar 1) (dC (.int 1)))) dNil))))
noncomputable def w_plus : WF := fnW 2 2 b_plus
abbrev s_steps : Stmt := top 15
abbrev N_steps : List Str := ["one", "other"]
theorem sc_steps : FnScope N_steps ["one", "other"] (defScope s_steps) := ⟨rfl, rfl, rfl, by decide +kernel, rfl, by decide +kernel, by decide +kernel⟩
noncomputable def b_steps : WS := (retW (dCall 2 w_divisor (dCons (dBin subV (dIx (dVar 0) (dC (.int 0))) (dIx (dVar 1) (dC (.int 0)))) (dCons (dBin subV (dIx (dVar 0) (dC (.int 1))) (dIx (dVar 1) (dC (.int 1)))) dNil))))
noncomputable def w_steps : WF := fnW 2 2 b_steps
abbrev s_times : Stmt := top 10
abbrev N_times : List Str := ["one", "factor"]
theorem sc_times : FnScope N_times ["one", "factor"] (defScope s_times) := ⟨rfl, rfl, rfl, by decide +kernel, rfl, by decide +kernel, by decide +kernel⟩
noncomputable def b_times : WS := (retW (dTup (dCons (dBin mulV (dIx (dVar 0) (dC (.int 0))) (dVar 1)) (dCons (dBin mulV (dIx (dVar 0) (dC (.int 1))) (dVar 1)) dNil))))
noncomputable def w_times : WF := fnW 2 2 b_times
abbrev s_between : Stmt := top 17
abbrev N_between : List Str := ["one", "other", "many", "step", "k"]
theorem sc_between : FnScope N_between ["one", "other"] (defScope s_between) := ⟨rfl, rfl, rfl, by decide +kernel, rfl, by decide +kernel, by decide +kernel⟩
noncomputable def b_between : WS := (seqW (setW (.dat (.name 2)) (dCall 2 w_steps (dCons (dVar 0) (dCons (dVar 1) dNil)))) (seqW (ifW (dBinT (eqOp false) (dVar 2) (dC (.int 0))) (retW (dLst (dCons (dVar 0) dNil))) skipW) (seqW (setW (.dat (.name 3)) (dTup (dCons (dBin fdivV (dBin subV (dIx (dVar 1) (dC (.int 0))) (dIx (dVar 0) (dC (.int 0)))) (dVar 2)) (dCons (dBin fdivV (dBin subV (dIx (dVar 1) (dC (.int 1))) (dIx (dVar 0) (dC (.int 1)))) (dVar 2)) dNil)))) (retW (dLc (dRng1 (dBin addV (dVar 2) (dC (.int 1)))) (.name 4) dYes (dCall 2 w_plus (dCons (dVar 0) (dCons (dCall 2 w_times (dCons (dVar 3) (dCons (dVar 4) dNil))) dNil))) [4])))))
noncomputable def w_between : WF := fnW 2 5 b_between
abbrev s_cross : Stmt := top 11
abbrev N_cross : List Str := ["one", "other"]
theorem sc_cross : FnScope N_cross ["one", "other"] (defScope s_cross) := ⟨rfl, rfl, rfl, by decide +kernel, rfl, by decide +kernel, by decide +kernel⟩
noncomputable def b_cross : WS := (retW (dBin subV (dBin mulV (dIx (dVar 0) (dC (.int 0))) (dIx (dVar 1) (dC (.int 1)))) (dBin mulV (dIx (dVar 0) (dC (.int 1))) (dIx (dVar 1) (dC (.int 0))))))
noncomputable def w_cross : WF := fnW 2 2 b_cross
abbrev s_is_whole : Stmt := top 5
abbrev N_is_whole : List Str := ["value", "low", "high"]
theorem sc_is_whole : FnScope N_is_whole ["value", "low", "high"] (defScope s_is_whole) := ⟨rfl, rfl, rfl, by decide +kernel, rfl, by decide +kernel, by decide +kernel⟩
noncomputable def b_is_whole : WS := (retW (dAndV (dIsi "int" (dVar 0)) (dAndV (dNotV (dIsi "bool" (dVar 0))) (dChain leV leV (dVar 1) (dVar 0) (dVar 2)))))
noncomputable def w_is_whole : WF := fnW 3 3 b_is_whole
abbrev s_is_point : Stmt := top 6
abbrev N_is_point : List Str := ["value", "number"]
theorem sc_is_point : FnScope N_is_point ["value"] (defScope s_is_point) := ⟨rfl, rfl, rfl, by decide +kernel, rfl, by decide +kernel, by decide +kernel⟩
noncomputable def b_is_point : WS := (seqW (ifW (dOrT (dNotT (dTru (dIsi "tuple" (dVar 0)))) (dBinT (eqOp true) (dBlt lenV (dCons (dVar 0) dNil)) (dC (.int 2)))) (retW (dC (.bool false))) skipW) (retW (dBlt allV (dCons (dLc (dSeq true (dVar 0)) (.name 1) dYes (dCall 3 w_is_whole (dCons (dVar 1) (dCons (dBin subV (dC (.int 0)) (dC (.int 1000000))) (dCons (dC (.int 1000000)) dNil)))) [1]) dNil))))
noncomputable def w_is_point : WF := fnW 1 2 b_is_point
abbrev s_is_move : Stmt := top 18
abbrev N_is_move : List Str := ["value", "row"]
theorem sc_is_move : FnScope N_is_move ["value"] (defScope s_is_move) := ⟨rfl, rfl, rfl, by decide +kernel, rfl, by decide +kernel, by decide +kernel⟩
noncomputable def b_is_move : WS := (seqW (ifW (dOrT (dNotT (dTru (dIsi "tuple" (dVar 0)))) (dOrT (dBinT (eqOp true) (dBlt lenV (dCons (dVar 0) dNil)) (dC (.int 3))) (dNotT (dTru (dBlt allV (dCons (dLc (dSeq true (dVar 0)) (.name 1) dYes (dCall 1 w_is_point (dCons (dVar 1) dNil)) [1]) dNil)))))) (retW (dC (.bool false))) skipW) (retW (dBin (eqOp false) (dBlt absV (dCons (dCall 2 w_cross (dCons (dIx (dVar 0) (dC (.int 0))) (dCons (dIx (dVar 0) (dC (.int 1))) dNil))) dNil)) (dC (.int 1)))))
noncomputable def w_is_move : WF := fnW 1 2 b_is_move
abbrev s_is_turning : Stmt := top 23
abbrev N_is_turning : List Str := ["move"]
theorem sc_is_turning : FnScope N_is_turning ["move"] (defScope s_is_turning) := ⟨rfl, rfl, rfl, by decide +kernel, rfl, by decide +kernel, by decide +kernel⟩
noncomputable def b_is_turning : WS := (retW (dBin (eqOp false) (dCall 2 w_cross (dCons (dIx (dVar 0) (dC (.int 0))) (dCons (dIx (dVar 0) (dC (.int 1))) dNil))) (dC (.int 1))))
noncomputable def w_is_turning : WF := fnW 1 1 b_is_turning
abbrev s_less : Stmt := top 9
abbrev N_less : List Str := ["one", "other"]
theorem sc_less : FnScope N_less ["one", "other"] (defScope s_less) := ⟨rfl, rfl, rfl, by decide +kernel, rfl, by decide +kernel, by decide +kernel⟩
noncomputable def b_less : WS := (retW (dTup (dCons (dBin subV (dIx (dVar 0) (dC (.int 0))) (dIx (dVar 1) (dC (.int 0)))) (dCons (dBin subV (dIx (dVar 0) (dC (.int 1))) (dIx (dVar 1) (dC (.int 1)))) dNil))))
noncomputable def w_less : WF := fnW 2 2 b_less
abbrev s_side : Stmt := top 13
abbrev N_side : List Str := ["a", "b", "c"]
theorem sc_side : FnScope N_side ["a", "b", "c"] (defScope s_side) := ⟨rfl, rfl, rfl, by decide +kernel, rfl, by decide +kernel, by decide +kernel⟩
noncomputable def b_side : WS := (retW (dCall 2 w_cross (dCons (dCall 2 w_less (dCons (dVar 1) (dCons (dVar 0) dNil))) (dCons (dCall 2 w_less (dCons (dVar 2) (dCons (dVar 0) dNil))) dNil))))
noncomputable def w_side : WF := fnW 3 3 b_side
abbrev s_sign : Stmt := top 14
abbrev N_sign : List Str := ["number"]
theorem sc_sign : FnScope N_sign ["number"] (defScope s_sign) := ⟨rfl, rfl, rfl, by decide +kernel, rfl, by decide +kernel, by decide +kernel⟩
noncomputable def b_sign : WS := (retW (dIf (dBinT gtV (dVar 0) (dC (.int 0))) (dC (.int 1)) (dIf (dBinT (eqOp false) (dVar 0) (dC (.int 0))) (dC (.int 0)) (dBin subV (dC (.int 0)) (dC (.int 1))))))
noncomputable def w_sign : WF := fnW 1 1 b_sign
abbrev s_stays : Stmt := top 20
abbrev N_stays : List Str := []
theorem sc_stays : FnScope N_stays [] (defScope s_stays) := ⟨rfl, rfl, rfl, by decide +kernel, rfl, by decide +kernel, by decide +kernel⟩
noncomputable def b_stays : WS := (retW (dTup (dCons (dTup (dCons (dC (.int 1)) (dCons (dC (.int 0)) dNil))) (dCons (dTup (dCons (dC (.int 0)) (dCons (dC (.int 1)) dNil))) (dCons (dTup (dCons (dC (.int 0)) (dCons (dC (.int 0)) dNil))) dNil)))))
noncomputable def w_stays : WF := fnW 0 0 b_stays
abbrev s_undone : Stmt := top 22
abbrev N_undone : List Str := ["move", "a", "b", "c", "d", "shift", "size", "first", "second", "back"]
theorem sc_undone : FnScope N_undone ["move"] (defScope s_undone) := ⟨rfl, rfl, rfl, by decide +kernel, rfl, by decide +kernel, by decide +kernel⟩
noncomputable def b_undone : WS := (seqW (setW (.dat (.tup [(.tup [(.name 1), (.name 2)]), (.tup [(.name 3), (.name 4)]), (.name 5)])) (dVar 0)) (seqW (setW (.dat (.name 6)) (dBin subV (dBin mulV (dVar 1) (dVar 4)) (dBin mulV (dVar 2) (dVar 3)))) (seqW (parW [(.dat (.name 7)), (.dat (.name 8))] (dCons (dTup (dCons (dBin mulV (dVar 4) (dVar 6)) (dCons (dBin subV (dC (.int 0)) (dBin mulV (dVar 2) (dVar 6))) dNil))) (dCons (dTup (dCons (dBin subV (dC (.int 0)) (dBin mulV (dVar 3) (dVar 6))) (dCons (dBin mulV (dVar 1) (dVar 6)) dNil))) dNil))) (seqW (setW (.dat (.name 9)) (dTup (dCons (dCall 2 w_dot (dCons (dVar 7) (dCons (dVar 5) dNil))) (dCons (dCall 2 w_dot (dCons (dVar 8) (dCons (dVar 5) dNil))) dNil)))) (retW (dTup (dCons (dVar 7) (dCons (dVar 8) (dCons (dTup (dCons (dBin subV (dC (.int 0)) (dIx (dVar 9) (dC (.int 0)))) (dCons (dBin subV (dC (.int 0)) (dIx (dVar 9) (dC (.int 1)))) dNil))) dNil)))))))))
noncomputable def w_undone : WF := fnW 1 10 b_undone
abbrev s_law : Stmt := top 44
abbrev N_law : List Str := ["script", "state", "size", "a", "b", "c", "factor", "many", "near", "row", "due", "x", "y", "k", "one", "other", "both", "back", "point", "p", "q", "small", "told", "first", "value"]
theorem sc_law : FnScope N_law ["script"] (defScope s_law) := ⟨rfl, rfl, rfl, by decide +kernel, rfl, by decide +kernel, by decide +kernel⟩
noncomputable def t_law_0 : WS := (setW (.dat (.name 2)) (dCall 2 w__law_pick (dCons (dVar 1) (dCons (dLst (dCons (dC (.int 4)) (dCons (dC (.int 20)) (dCons (dC (.int 1000)) dNil)))) dNil))))
noncomputable def t_law_1 : WS := (parW [(.dat (.name 3)), (.dat (.name 4)), (.dat (.name 5))] (dCons (dTup (dCons (dBin subV (dCall 2 w_take (dCons (dVar 1) (dCons (dBin mulV (dC (.int 2)) (dVar 2)) dNil))) (dVar 2)) (dCons (dCall 2 w_take (dCons (dVar 1) (dCons (dVar 2) dNil))) dNil))) (dCons (dTup (dCons (dCall 2 w_take (dCons (dVar 1) (dCons (dVar 2) dNil))) (dCons (dBin subV (dCall 2 w_take (dCons (dVar 1) (dCons (dBin mulV (dC (.int 2)) (dVar 2)) dNil))) (dVar 2)) dNil))) (dCons (dTup (dCons (dBin subV (dCall 2 w_take (dCons (dVar 1) (dCons (dC (.int 9)) dNil))) (dC (.int 4))) (dCons (dCall 2 w_take (dCons (dVar 1) (dCons (dC (.int 9)) dNil))) dNil))) dNil))))
noncomputable def t_law_2 : WS := (setW (.dat (.name 6)) (dBin subV (dCall 2 w_take (dCons (dVar 1) (dCons (dC (.int 9)) dNil))) (dC (.int 4))))
noncomputable def t_law_3 : WS := (ifW (dOrT (dBinT (eqOp true) (dCall 2 w_plus (dCons (dVar 3) (dCons (dVar 4) dNil))) (dTup (dCons (dBin addV (dIx (dVar 3) (dC (.int 0))) (dIx (dVar 4) (dC (.int 0)))) (dCons (dBin addV (dIx (dVar 3) (dC (.int 1))) (dIx (dVar 4) (dC (.int 1)))) dNil)))) (dOrT (dBinT (eqOp true) (dCall 2 w_less (dCons (dVar 3) (dCons (dVar 4) dNil))) (dCall 2 w__law_less (dCons (dVar 3) (dCons (dVar 4) dNil)))) (dOrT (dBinT (eqOp true) (dCall 2 w_times (dCons (dVar 3) (dCons (dVar 6) dNil))) (dTup (dCons (dBin mulV (dIx (dVar 3) (dC (.int 0))) (dVar 6)) (dCons (dBin mulV (dIx (dVar 3) (dC (.int 1))) (dVar 6)) dNil)))) (dBinT (eqOp true) (dCall 2 w_cross (dCons (dVar 3) (dCons (dVar 4) dNil))) (dCall 2 w__law_cross (dCons (dVar 3) (dCons (dVar 4) dNil))))))) (retW (dC (.bool false))) skipW)
noncomputable def t_law_4 : WS := (ifW (dOrT (dBinT (eqOp true) (dCall 2 w_dot (dCons (dVar 3) (dCons (dVar 4) dNil))) (dBin addV (dBin mulV (dIx (dVar 3) (dC (.int 0))) (dIx (dVar 4) (dC (.int 0)))) (dBin mulV (dIx (dVar 3) (dC (.int 1))) (dIx (dVar 4) (dC (.int 1)))))) (dOrT (dBinT (eqOp true) (dCall 3 w_side (dCons (dVar 3) (dCons (dVar 4) (dCons (dVar 5) dNil)))) (dCall 3 w__law_side (dCons (dVar 3) (dCons (dVar 4) (dCons (dVar 5) dNil))))) (dOrT (dBinT (eqOp true) (dCall 1 w_sign (dCons (dVar 6) dNil)) (dIf (dBinT gtV (dVar 6) (dC (.int 0))) (dC (.int 1)) (dIf (dBinT (eqOp false) (dVar 6) (dC (.int 0))) (dC (.int 0)) (dNeg (dC (.int 1)))))) (dBinT (eqOp true) (dC (.int 1000000)) (dC (.int 1000000)))))) (retW (dC (.bool false))) skipW)
noncomputable def t_law_5 : WS := (setW (.dat (.name 7)) (dCall 2 w__law_gcd (dCons (dBin subV (dIx (dVar 3) (dC (.int 0))) (dIx (dVar 4) (dC (.int 0)))) (dCons (dBin subV (dIx (dVar 3) (dC (.int 1))) (dIx (dVar 4) (dC (.int 1)))) dNil))))
noncomputable def t_law_6 : WS := (ifW (dOrT (dBinT (eqOp true) (dCall 2 w_steps (dCons (dVar 3) (dCons (dVar 4) dNil))) (dVar 7)) (dBinT (eqOp true) (dCall 2 w_divisor (dCons (dIx (dVar 3) (dC (.int 0))) (dCons (dIx (dVar 3) (dC (.int 1))) dNil))) (dCall 2 w__law_gcd (dCons (dIx (dVar 3) (dC (.int 0))) (dCons (dIx (dVar 3) (dC (.int 1))) dNil))))) (retW (dC (.bool false))) skipW)
noncomputable def t_law_7 : WS := (setW (.dat (.name 8)) (dTup (dCons (dBin subV (dCall 2 w_take (dCons (dVar 1) (dCons (dC (.int 13)) dNil))) (dC (.int 6))) (dCons (dBin subV (dCall 2 w_take (dCons (dVar 1) (dCons (dC (.int 13)) dNil))) (dC (.int 6))) dNil))))
noncomputable def t_law_8 : WS := (setW (.dat (.name 9)) (dCall 2 w_between (dCons (dVar 5) (dCons (dVar 8) dNil))))
noncomputable def t_law_9 : WS := (setW (.dat (.name 10)) (dLst dNil))
noncomputable def t_law_10 : WS := (forW (dRng2 (dBlt minV (dCons (dIx (dVar 5) (dC (.int 0))) (dCons (dIx (dVar 8) (dC (.int 0))) dNil))) (dBin addV (dBlt maxV (dCons (dIx (dVar 5) (dC (.int 0))) (dCons (dIx (dVar 8) (dC (.int 0))) dNil))) (dC (.int 1)))) (.name 11) (setW (.dat (.name 10)) (dBin addV (dVar 10) (dLc (dRng2 (dBlt minV (dCons (dIx (dVar 5) (dC (.int 1))) (dCons (dIx (dVar 8) (dC (.int 1))) dNil))) (dBin addV (dBlt maxV (dCons (dIx (dVar 5) (dC (.int 1))) (dCons (dIx (dVar 8) (dC (.int 1))) dNil))) (dC (.int 1)))) (.name 12) (dBinT (eqOp false) (dCall 3 w__law_side (dCons (dVar 5) (dCons (dVar 8) (dCons (dTup (dCons (dVar 11) (dCons (dVar 12) dNil))) dNil)))) (dC (.int 0))) (dTup (dCons (dVar 11) (dCons (dVar 12) dNil))) [12]))))
noncomputable def t_law_11 : WS := (ifW (dOrT (dBinT (eqOp true) (dBlt sortedV (dCons (dVar 9) dNil)) (dBlt sortedV (dCons (dVar 10) dNil))) (dOrT (dBinT (eqOp true) (dIx (dVar 9) (dC (.int 0))) (dVar 5)) (dOrT (dBinT (eqOp true) (dIx (dVar 9) (dNeg (dC (.int 1)))) (dVar 8)) (dBinT gtV (dBlt lenV (dCons (dLc (dRng2 (dC (.int 2)) (dBlt lenV (dCons (dVar 9) dNil))) (.name 13) (dBinT (eqOp true) (dCall 2 w__law_less (dCons (dIx (dVar 9) (dVar 13)) (dCons (dIx (dVar 9) (dBin subV (dVar 13) (dC (.int 1)))) dNil))) (dCall 2 w__law_less (dCons (dIx (dVar 9) (dC (.int 1))) (dCons (dIx (dVar 9) (dC (.int 0))) dNil)))) (dVar 13) [13]) dNil)) (dC (.int 0)))))) (retW (dC (.bool false))) skipW)
noncomputable def t_law_12 : WS := (parW [(.dat (.name 14)), (.dat (.name 15))] (dCons (dCall 1 w__law_move (dCons (dVar 1) dNil)) (dCons (dCall 1 w__law_move (dCons (dVar 1) dNil)) dNil)))
noncomputable def t_law_13 : WS := (ifW (dOrT (dBinT (eqOp true) (dCall 2 w_moved (dCons (dVar 14) (dCons (dVar 3) dNil))) (dCall 2 w__law_done (dCons (dVar 14) (dCons (dVar 3) dNil)))) (dOrT (dBinT (eqOp true) (dCall 0 w_stays dNil) (dTup (dCons (dTup (dCons (dC (.int 1)) (dCons (dC (.int 0)) dNil))) (dCons (dTup (dCons (dC (.int 0)) (dCons (dC (.int 1)) dNil))) (dCons (dTup (dCons (dC (.int 0)) (dCons (dC (.int 0)) dNil))) dNil))))) (dOrT (dBinT (eqOp true) (dCall 2 w_moved (dCons (dCall 0 w_stays dNil) (dCons (dVar 3) dNil))) (dVar 3)) (dBinT (eqOp true) (dCall 1 w_is_turning (dCons (dVar 14) dNil)) (dBin (eqOp false) (dCall 2 w__law_cross (dCons (dIx (dVar 14) (dC (.int 0))) (dCons (dIx (dVar 14) (dC (.int 1))) dNil))) (dC (.int 1))))))) (retW (dC (.bool false))) skipW)
noncomputable def t_law_14 : WS := (parW [(.dat (.name 16)), (.dat (.name 17))] (dCons (dCall 2 w_after (dCons (dVar 14) (dCons (dVar 15) dNil))) (dCons (dCall 1 w_undone (dCons (dVar 14) dNil)) dNil)))
noncomputable def t_law_15 : WS := (forW (dSeq false (dTup (dCons (dVar 3) (dCons (dVar 4) (dCons (dTup (dCons (dC (.int 0)) (dCons (dC (.int 0)) dNil))) (dCons (dTup (dCons (dC (.int 1)) (dCons (dC (.int 0)) dNil))) (dCons (dTup (dCons (dC (.int 0)) (dCons (dC (.int 1)) dNil))) dNil))))))) (.name 18) (ifW (dOrT (dBinT (eqOp true) (dCall 2 w__law_done (dCons (dVar 16) (dCons (dVar 18) dNil))) (dCall 2 w__law_done (dCons (dVar 15) (dCons (dCall 2 w__law_done (dCons (dVar 14) (dCons (dVar 18) dNil))) dNil)))) (dBinT (eqOp true) (dCall 2 w__law_done (dCons (dVar 17) (dCons (dCall 2 w__law_done (dCons (dVar 14) (dCons (dVar 18) dNil))) dNil))) (dVar 18))) (retW (dC (.bool false))) skipW))
noncomputable def t_law_16 : WS := (ifW (dOrT (dNotT (dTru (dCall 1 w__law_is_move (dCons (dVar 16) dNil)))) (dOrT (dNotT (dTru (dCall 1 w__law_is_move (dCons (dVar 17) dNil)))) (dBinT (eqOp true) (dCall 2 w_after (dCons (dVar 14) (dCons (dVar 17) dNil))) (dCall 0 w_stays dNil)))) (retW (dC (.bool false))) skipW)
noncomputable def t_law_17 : WS := (parW [(.dat (.name 11)), (.dat (.name 12))] (dCons (dBin subV (dCall 2 w_take (dCons (dVar 1) (dCons (dC (.int 200)) dNil))) (dC (.int 100))) (dCons (dBin subV (dCall 2 w_take (dCons (dVar 1) (dCons (dC (.int 200)) dNil))) (dC (.int 100))) dNil)))
noncomputable def t_law_18 : WS := (setW (.dat (.tup [(.name 19), (.name 20)])) (dCall 2 w_shares (dCons (dVar 11) (dCons (dVar 12) dNil))))
noncomputable def t_law_19 : WS := (ifW (dBinT (eqOp true) (dBin addV (dBin mulV (dVar 19) (dVar 11)) (dBin mulV (dVar 20) (dVar 12))) (dCall 2 w__law_gcd (dCons (dVar 11) (dCons (dVar 12) dNil)))) (retW (dC (.bool false))) skipW)
noncomputable def t_law_20 : WS := (ifW (dOrT (dBinT (eqOp true) (dVar 11) (dC (.int 0))) (dBinT (eqOp true) (dVar 12) (dC (.int 0)))) (seqW (setW (.dat (.name 21)) (dCall 2 w__law_gcd (dCons (dVar 11) (dCons (dVar 12) dNil)))) (seqW (setW (.dat (.name 22)) (dTup (dCons (dBin fdivV (dVar 11) (dVar 21)) (dCons (dBin fdivV (dVar 12) (dVar 21)) dNil)))) (seqW (setW (.dat (.name 23)) (dCall 1 w_move_to_first (dCons (dVar 22) dNil))) (ifW (dOrT (dBinT (eqOp true) (dCall 1 w_least_step (dCons (dTup (dCons (dVar 11) (dCons (dVar 12) dNil))) dNil)) (dVar 22)) (dOrT (dBinT (eqOp true) (dCall 2 w__law_done (dCons (dVar 23) (dCons (dVar 22) dNil))) (dTup (dCons (dC (.int 1)) (dCons (dC (.int 0)) dNil)))) (dOrT (dBinT (eqOp true) (dCall 2 w__law_cross (dCons (dIx (dVar 23) (dC (.int 0))) (dCons (dIx (dVar 23) (dC (.int 1))) dNil))) (dC (.int 1))) (dBinT (eqOp true) (dIx (dVar 23) (dC (.int 2))) (dTup (dCons (dC (.int 0)) (dCons (dC (.int 0)) dNil))))))) (retW (dC (.bool false))) skipW)))) skipW)
noncomputable def t_law_21 : WS := (forW (dSeq false (dLst (dCons (dVar 3) (dCons (dBlt listV (dCons (dVar 3) dNil)) (dCons (dBin addV (dVar 3) (dTup (dCons (dC (.int 1)) dNil))) (dCons (dC .none) (dCons (dTup (dCons (dC (.int 1000001)) (dCons (dC (.int 0)) dNil))) (dCons (dTup (dCons (dC (.bool true)) (dCons (dC (.int 2)) dNil))) (dCons (dTup (dCons (dC (.str "1")) (dCons (dC (.int 2)) dNil))) (dCons (dTup (dCons (dNeg (dC (.int 1000000))) (dCons (dC (.int 5)) dNil))) dNil)))))))))) (.name 24) (ifW (dBinT (eqOp true) (dCall 1 w_is_point (dCons (dVar 24) dNil)) (dCall 1 w__law_is_point (dCons (dVar 24) dNil))) (retW (dC (.bool false))) skipW))
noncomputable def t_law_22 : WS := (forW (dSeq false (dLst (dCons (dVar 14) (dCons (dBlt listV (dCons (dVar 14) dNil)) (dCons (dSl (dVar 14) dNoP (dPart (dC (.int 2)))) (dCons (dTup (dCons (dTup (dCons (dC (.int 2)) (dCons (dC (.int 0)) dNil))) (dCons (dTup (dCons (dC (.int 0)) (dCons (dC (.int 1)) dNil))) (dCons (dTup (dCons (dC (.int 0)) (dCons (dC (.int 0)) dNil))) dNil)))) (dCons (dTup (dCons (dTup (dCons (dC (.int 1)) (dCons (dC (.int 0)) dNil))) (dCons (dTup (dCons (dC (.int 0)) (dCons (dC (.int 1)) dNil))) (dCons (dC .none) dNil)))) (dCons (dC .none) (dCons (dTup (dCons (dTup (dCons (dC (.int 1)) (dCons (dC (.int 1)) dNil))) (dCons (dTup (dCons (dC (.int 1)) (dCons (dC (.int 2)) dNil))) (dCons (dTup (dCons (dC (.int 0)) (dCons (dC (.int 0)) dNil))) dNil)))) (dCons (dTup (dCons (dTup (dCons (dC (.int 0)) (dCons (dC (.int 1)) dNil))) (dCons (dTup (dCons (dC (.int 1)) (dCons (dC (.int 0)) dNil))) (dCons (dTup (dCons (dC (.int 5)) (dCons (dC (.int 5)) dNil))) dNil)))) (dCons (dTup (dCons (dIx (dVar 14) (dC (.int 0))) (dCons (dIx (dVar 14) (dC (.int 0))) (dCons (dIx (dVar 14) (dC (.int 2))) dNil)))) dNil))))))))))) (.name 24) (ifW (dBinT (eqOp true) (dCall 1 w_is_move (dCons (dVar 24) dNil)) (dCall 1 w__law_is_move (dCons (dVar 24) dNil))) (retW (dC (.bool false))) skipW))
noncomputable def t_law_23 : WS := (ifW (dBinT (eqOp true) (dLst (dCons (dCall 3 w_is_whole (dCons (dC (.int 3)) (dCons (dC (.int 0)) (dCons (dC (.int 3)) dNil)))) (dCons (dCall 3 w_is_whole (dCons (dC (.int 4)) (dCons (dC (.int 0)) (dCons (dC (.int 3)) dNil)))) (dCons (dCall 3 w_is_whole (dCons (dC (.bool true)) (dCons (dC (.int 0)) (dCons (dC (.int 3)) dNil)))) dNil)))) (dLst (dCons (dC (.bool true)) (dCons (dC (.bool false)) (dCons (dC (.bool false)) dNil))))) (retW (dC (.bool false))) skipW)
noncomputable def t_law_24 : WS := (retW (dAndV (dBin (eqOp false) (dCall 1 w__law_word (dCons (dC (.int 0)) dNil)) (dC (.str "nought"))) (dBin (eqOp false) (dCall 1 w__law_word (dCons (dC (.int 1)) dNil)) (dC (.str "step")))))
noncomputable def b_law : WS := seqW t_law_0 (seqW t_law_1 (seqW t_law_2 (seqW t_law_3 (seqW t_law_4 (seqW t_law_5 (seqW t_law_6 (seqW t_law_7 (seqW t_law_8 (seqW t_law_9 (seqW t_law_10 (seqW t_law_11 (seqW t_law_12 (seqW t_law_13 (seqW t_law_14 (seqW t_law_15 (seqW t_law_16 (seqW t_law_17 (seqW t_law_18 (seqW t_law_19 (seqW t_law_20 (seqW t_law_21 (seqW t_law_22 (seqW t_law_23 (t_law_24))))))))))))))))))))))))
section
variable {P : Program} {w : World} {K : PySem.W.Frag} {mg : Str → Option Value} {base : Heap}

theorem ok__law_take (B : Bl mg) (F : FnDef K mg "_law_take" s__law_take) : Callee P w K mg base 1 "_law_take" 2 w_take := by
  obtain ⟨f, fd, FD, hm⟩ := F
  refine ⟨f, fd, _, FD.ok (CX := L2.CX P w) sc__law_take (fun vs H Q E h => ?_) (fun cdv A outer s H vs Q E hr h => ⟨bTake K, ?_, ?_⟩), hm, FD.kp, FD.bindsN fun _ _ _ _ _ _ us hl => match us, hl with | [_, _], _ => rfl⟩
  · obtain ⟨Z, G, rs, P', w0, ra, hl, _⟩ := h
    rw [← ra.length, hl]; rfl
  · have nd := sc__law_take.nd
    exact pss_cons (ps_if (pt_cmpR op_lt (pv 1) pe_int (by rfl)) (pss_one (ps_ret pe_int)) pss_nil)
      (pss_cons (ps_set (i := 2) nd rfl (.inl rfl) (pe_ix ix_list (pv 0) pe_int (fun _ _ => rfl)))
      (pss_cons (ps_set (i := 3) nd rfl (.inl rfl) (pe_op op_modN (pe_callTy call_int1 (by rfl) B.int_ PyProof.Rows.boot_int (pa_cons (pe_ix ix_list (pv 0) pe_int (fun _ _ => rfl)) pa_nil)) (pe_callB call_len (by rfl) B.len boot_len (pa_cons (pv 2) pa_nil))))
      (pss_cons (ps_set (i := 4) nd rfl (.inl rfl) (pe_ix ix_list (pv 2) (pv 3) (fun _ _ => rfl)))
      (pss_cons (ps_if (pt_cmpR op_ge (pv 4) pe_int (by rfl)) (pss_cons (ps_asg (pe_op op_fdivN (pv 4) (pv 1)) (pg_sub (pv 2) (pv 3) set_list)) (pss_one (ps_ret (pe_op op_modN (pe_callTy call_int1 (by rfl) B.int_ PyProof.Rows.boot_int (pa_cons (pv 4) pa_nil)) (pv 1))))) pss_nil)
      (pss_cons (ps_asg (pe_op op_add (pe_ix ix_list (pv 0) pe_int (fun _ _ => rfl)) pe_int) (pg_sub (pv 0) pe_int set_list))
      (pss_cons (ps_set (i := 5) nd rfl (.inl rfl) (pe_op op_modN (pe_callTy call_int1 (by rfl) B.int_ PyProof.Rows.boot_int (pa_cons (pe_op op_add (pe_op op_mul (pv 4) pe_int) (pe_op op_mul (pe_ix ix_list (pv 0) pe_int (fun _ _ => rfl)) pe_int)) pa_nil)) pe_int))
      (pss_cons (ps_set (i := 5) nd rfl (.inl rfl) (pe_op op_modN (pe_callTy call_int1 (by rfl) B.int_ PyProof.Rows.boot_int (pa_cons (pe_op op_add (pe_op op_mul (pv 5) pe_int) (pe_op op_mul (pe_ix ix_list (pv 0) pe_int (fun _ _ => rfl)) pe_int)) pa_nil)) pe_int))
      (pss_one (ps_ret (pe_op op_modN (pe_callTy call_int1 (by rfl) B.int_ PyProof.Rows.boot_int (pa_cons (pe_op op_fdivN (pv 5) pe_int) pa_nil)) (pv 1)))))))))))
  · obtain ⟨Z, G, rs, P', w0, ra, hl, q, c⟩ := h
    exact take_sem w0 ra q c
theorem ok__law_state (B : Bl mg) {f : Addr} {fd : FuncData} (FD : FunD K "_law_state" "_law_state" (defArgs s__law_state) (defBody s__law_state) (defScope s__law_state) [] [] f fd) : FnOk P w K mg base (L2.CX P w) 1 f fd ["script"] (spState K) := by
  refine FD.ok sc__law_state (fun vs H Q E h => ?_) (fun cdv A outer s H vs Q E hr h => ⟨bState K, ?_, state_sem h⟩)
  · obtain ⟨a, ns, rfl, _⟩ := h
    rfl
  · have nd := sc__law_state.nd
    exact pss_cons (ps_setLc (own := [("cell", 2)]) rfl nd rfl rfl (sw_true rfl rfl rfl (by decide +kernel)) (pi_list (pe_slice sl_list (pv 0) po_none (po_some pe_int))) (blkOk_by (N := N__law_state) (sc := (defScope s__law_state)) (own := [("cell", 2)]) (by decide +kernel)) (fun _ _ _ _ _ => pg_name nd rfl (.inl rfl)) (fun _ _ _ _ _ => pts_nil) (fun _ _ _ _ _ => pe_callB call_abs (by rfl) B.abs PyProof.Rows.boot_abs (pa_cons (pv 2) pa_nil)))
      (pss_cons (ps_if (pt_cmpR op_eq (pe_callB call_len (by rfl) B.len boot_len (pa_cons (pv 1) pa_nil)) pe_int (by rfl)) (pss_one (ps_set (i := 1) nd rfl (.inl rfl) (pe_lst (pa_cons pe_int pa_nil)))) pss_nil) (pss_one (ps_ret (pe_lst (pa_cons pe_int (pa_cons (pv 1) pa_nil))))))

theorem ok__law_cross (B : Bl mg) (G : Gc mg) (F : FnDef K mg "_law_cross" s__law_cross)  : Callee P w K mg base 1 "_law_cross" 2 w__law_cross := by
  refine mk_callee (N := N__law_cross) F sc__law_cross rfl (fun _ _ _ _ _ _ us hl => match us, hl with | [_, _], _ => rfl) fun f cdv A outer s H E hr => ?_
  have nd := sc__law_cross.nd
  exact (dss_one (ds_ret (de_bin od_sub (de_bin od_mul (de_ix (dv 0) de_int) (de_ix (dv 1) de_int)) (de_bin od_mul (de_ix (dv 0) de_int) (de_ix (dv 1) de_int)))))
theorem ok__law_done (B : Bl mg) (G : Gc mg) (F : FnDef K mg "_law_done" s__law_done)  : Callee P w K mg base 1 "_law_done" 2 w__law_done := by
  refine mk_callee (N := N__law_done) F sc__law_done rfl (fun _ _ _ _ _ _ us hl => match us, hl with | [_, _], _ => rfl) fun f cdv A outer s H E hr => ?_
  have nd := sc__law_done.nd
  exact (dss_one (ds_ret (de_tup (da_cons (de_bin od_add (de_bin od_add (de_bin od_mul (de_ix (de_ix (dv 0) de_int) de_int) (de_ix (dv 1) de_int)) (de_bin od_mul (de_ix (de_ix (dv 0) de_int) de_int) (de_ix (dv 1) de_int))) (de_ix (de_ix (dv 0) de_int) de_int)) (da_cons (de_bin od_add (de_bin od_add (de_bin od_mul (de_ix (de_ix (dv 0) de_int) de_int) (de_ix (dv 1) de_int)) (de_bin od_mul (de_ix (de_ix (dv 0) de_int) de_int) (de_ix (dv 1) de_int))) (de_ix (de_ix (dv 0) de_int) de_int)) da_nil)))))
theorem ok__law_gcd (B : Bl mg) (G : Gc mg) (F : FnDef K mg "_law_gcd" s__law_gcd)  : Callee P w K mg base 1 "_law_gcd" 2 w__law_gcd := by
  refine mk_callee (N := N__law_gcd) F sc__law_gcd rfl (fun _ _ _ _ _ _ us hl => match us, hl with | [_, _], _ => rfl) fun f cdv A outer s H E hr => ?_
  have nd := sc__law_gcd.nd
  exact (dss_cons (ds_par2 gm_dat gm_dat rfl nd rfl rfl (by decide) rfl rfl (da_cons (de_blt cd_abs (by rfl) B.abs PyProof.Rows.boot_abs (da_cons (dv 0) da_nil)) (da_cons (de_blt cd_abs (by rfl) B.abs PyProof.Rows.boot_abs (da_cons (dv 1) da_nil)) da_nil)) (by with_unfolding_all rfl)) (dss_cons (ds_for (passes_of rfl) rfl (di_rng1 false (by rfl) B.range de_int) (dg_name nd rfl (.inl rfl)) (dss_cons (ds_if (dt_cmp (od_eq (room64 hr)) (dv 1) de_int (by rfl)) (dss_one ds_brk) dss_nil) (dss_one (ds_par2 gm_dat gm_dat rfl nd rfl rfl (by decide) rfl rfl (da_cons (dv 1) (da_cons (de_bin od_mod (de_ty cd_int (by rfl) B.int_ PyProof.Rows.boot_int (da_cons (dv 0) da_nil)) (dv 1)) da_nil)) (by with_unfolding_all rfl))))) (dss_one (ds_ret (dv 0)))))
theorem ok__law_is_point (B : Bl mg) (G : Gc mg) (F : FnDef K mg "_law_is_point" s__law_is_point)  : Callee P w K mg base 1 "_law_is_point" 1 w__law_is_point := by
  refine mk_callee (N := N__law_is_point) F sc__law_is_point rfl (fun _ _ _ _ _ _ us hl => match us, hl with | [_], _ => rfl) fun f cdv A outer s H E hr => ?_
  have nd := sc__law_is_point.nd
  exact (dss_cons (ds_if (dt_w (dw_or (dt_not (dt_tru (de_isi (T := "tuple") (dv 0) (by rfl) B.isinstance (by rfl) B.tuple (by decide +kernel) (by decide +kernel)))) (dw_or1 (dt_cmp (od_ne (room64 hr)) (de_blt cd_len (by rfl) B.len boot_len (da_cons (dv 0) da_nil)) de_int (by rfl))))) (dss_one (ds_ret de_bl)) dss_nil) (dss_one (ds_ret (de_cmp (od_eq (room64 hr)) (de_blt cd_len (by rfl) B.len boot_len (da_cons (de_lc1 (own := [("n", 1)]) rfl nd (di_seq true (dv 0)) (blkOk_by (N := N__law_is_point) (sc := (defScope s__law_is_point)) (own := [("n", 1)]) (by decide +kernel)) rfl (fun _ _ _ _ _ => (dg_name nd rfl (.inl rfl))) (fun _ _ _ _ _ => (dt_w (dw_or (dt_not (dt_tru (de_isi (T := "int") (dv 1) (by rfl) B.isinstance (by rfl) B.int_ (by decide +kernel) (by decide +kernel)))) (dw_or (dt_tru (de_isi (T := "bool") (dv 1) (by rfl) B.isinstance (by rfl) B.bool (by decide +kernel) (by decide +kernel))) (dw_or1 (dt_cmp od_gt (de_blt cd_abs (by rfl) B.abs PyProof.Rows.boot_abs (da_cons (dv 1) da_nil)) de_int (by rfl))))))) (fun _ _ _ _ _ => (dv 1))) da_nil)) de_int (by rfl)))))
theorem ok__law_is_move (B : Bl mg) (G : Gc mg) (F : FnDef K mg "_law_is_move" s__law_is_move) (C__law_cross : Callee P w K mg base 1 "_law_cross" 2 w__law_cross) (C__law_is_point : Callee P w K mg base 1 "_law_is_point" 1 w__law_is_point) : Callee P w K mg base 2 "_law_is_move" 1 w__law_is_move := by
  refine mk_callee (N := N__law_is_move) F sc__law_is_move rfl (fun _ _ _ _ _ _ us hl => match us, hl with | [_], _ => rfl) fun f cdv A outer s H E hr => ?_
  have nd := sc__law_is_move.nd
  exact (dss_cons (ds_if (dt_w (dw_or (dt_not (dt_tru (de_isi (T := "tuple") (dv 0) (by rfl) B.isinstance (by rfl) B.tuple (by decide +kernel) (by decide +kernel)))) (dw_or (dt_cmp (od_ne (room64 hr)) (de_blt cd_len (by rfl) B.len boot_len (da_cons (dv 0) da_nil)) de_int (by rfl)) (dw_or1 (dt_cmp od_gt (de_blt cd_len (by rfl) B.len boot_len (da_cons (de_lc1 (own := [("row", 1)]) rfl nd (di_seq true (dv 0)) (blkOk_by (N := N__law_is_move) (sc := (defScope s__law_is_move)) (own := [("row", 1)]) (by decide +kernel)) rfl (fun _ _ _ _ _ => (dg_name nd rfl (.inl rfl))) (fun _ _ _ _ _ => (dt_not (dt_tru (de_call C__law_is_point hr (by rfl) takes0 (da_cons (dv 1) da_nil))))) (fun _ _ _ _ _ => (dv 1))) da_nil)) de_int (by rfl)))))) (dss_one (ds_ret de_bl)) dss_nil) (dss_one (ds_ret (de_cmp (od_eq (room64 hr)) (de_blt cd_abs (by rfl) B.abs PyProof.Rows.boot_abs (da_cons (de_call C__law_cross hr (by rfl) (takes_of rfl rfl rfl rfl) (da_cons (de_ix (dv 0) de_int) (da_cons (de_ix (dv 0) de_int) da_nil))) da_nil)) de_int (by rfl)))))
theorem ok__law_less (B : Bl mg) (G : Gc mg) (F : FnDef K mg "_law_less" s__law_less)  : Callee P w K mg base 1 "_law_less" 2 w__law_less := by
  refine mk_callee (N := N__law_less) F sc__law_less rfl (fun _ _ _ _ _ _ us hl => match us, hl with | [_, _], _ => rfl) fun f cdv A outer s H E hr => ?_
  have nd := sc__law_less.nd
  exact (dss_one (ds_ret (de_tup (da_cons (de_bin od_sub (de_ix (dv 0) de_int) (de_ix (dv 1) de_int)) (da_cons (de_bin od_sub (de_ix (dv 0) de_int) (de_ix (dv 1) de_int)) da_nil)))))
theorem ok__law_move (B : Bl mg) (G : Gc mg) (F : FnDef K mg "_law_move" s__law_move) (C__law_take : Callee P w K mg base 1 "_law_take" 2 w_take) : Callee P w K mg base 2 "_law_move" 1 w__law_move := by
  refine mk_callee (N := N__law_move) F sc__law_move rfl (fun _ _ _ _ _ _ us hl => match us, hl with | [_], _ => rfl) fun f cdv A outer s H E hr => ?_
  have nd := sc__law_move.nd
  exact (dss_cons (ds_setO nd rfl (.inr rfl) (de_lst (da_cons (de_lst (da_cons de_int (da_cons de_int da_nil))) (da_cons (de_lst (da_cons de_int (da_cons de_int da_nil))) da_nil)))) (dss_cons (ds_for (passes_of rfl) rfl (di_rng1 false (by rfl) B.range (de_call C__law_take hr (by rfl) (takes_of rfl rfl rfl rfl) (da_cons (dv 0) (da_cons de_int da_nil)))) (dg_name nd rfl (.inl rfl)) (dss_cons (ds_parT rfl (da_cons (de_call C__law_take hr (by rfl) (takes_of rfl rfl rfl rfl) (da_cons (dv 0) (da_cons de_int da_nil))) (da_cons (de_bin od_sub (de_call C__law_take hr (by rfl) (takes_of rfl rfl rfl rfl) (da_cons (dv 0) (da_cons de_int da_nil))) de_int) da_nil)) (dgm_cons (dgm_dat (dg_name nd rfl (.inl rfl))) (dgm_cons (dgm_dat (dg_name nd rfl (.inr rfl))) dgm_nil))) (dss_one (ds_if (dt_cmp (od_eq (room64 hr)) (dv 3) de_int (by rfl)) (dss_one (ds_sto (i := 1) (pv 1) (de_lc0 (own := [("k", 5)]) rfl nd (di_seq true (de_tup (da_cons de_int (da_cons de_int da_nil)))) (blkOk_by (N := N__law_move) (sc := (defScope s__law_move)) (own := [("k", 5)]) (by decide +kernel)) rfl (fun _ _ _ _ _ => (dg_name nd rfl (.inl rfl))) (fun _ _ _ _ _ => (de_bin od_add (de_ix (de_ix (dv 1) de_int) (dv 5)) (de_bin od_mul (dv 4) (de_ix (de_ix (dv 1) de_int) (dv 5)))))) de_int)) (dss_one (ds_if (dt_cmp (od_eq (room64 hr)) (dv 3) de_int (by rfl)) (dss_one (ds_sto (i := 1) (pv 1) (de_lc0 (own := [("k", 5)]) rfl nd (di_seq true (de_tup (da_cons de_int (da_cons de_int da_nil)))) (blkOk_by (N := N__law_move) (sc := (defScope s__law_move)) (own := [("k", 5)]) (by decide +kernel)) rfl (fun _ _ _ _ _ => (dg_name nd rfl (.inl rfl))) (fun _ _ _ _ _ => (de_bin od_add (de_ix (de_ix (dv 1) de_int) (dv 5)) (de_bin od_mul (dv 4) (de_ix (de_ix (dv 1) de_int) (dv 5)))))) de_int)) (dss_one (ds_if (dt_cmp (od_eq (room64 hr)) (dv 3) de_int (by rfl)) (dss_one (ds_setO nd rfl (.inr rfl) (de_rev (dv 1)))) (dss_one (ds_sto (i := 1) (pv 1) (de_lc0 (own := [("n", 6)]) rfl nd (di_seq true (de_ix (dv 1) de_int)) (blkOk_by (N := N__law_move) (sc := (defScope s__law_move)) (own := [("n", 6)]) (by decide +kernel)) rfl (fun _ _ _ _ _ => (dg_name nd rfl (.inl rfl))) (fun _ _ _ _ _ => (de_bin od_sub de_int (dv 6)))) de_int)))))))))) (dss_one (ds_ret (de_tup (da_cons (de_ty cd_tuple (by rfl) B.tuple PyProof.Rows.boot_tuple (da_cons (de_ix (dv 1) de_int) da_nil)) (da_cons (de_ty cd_tuple (by rfl) B.tuple PyProof.Rows.boot_tuple (da_cons (de_ix (dv 1) de_int) da_nil)) (da_cons (de_tup (da_cons (de_bin od_sub (de_call C__law_take hr (by rfl) (takes_of rfl rfl rfl rfl) (da_cons (dv 0) (da_cons de_int da_nil))) de_int) (da_cons (de_bin od_sub (de_call C__law_take hr (by rfl) (takes_of rfl rfl rfl rfl) (da_cons (dv 0) (da_cons de_int da_nil))) de_int) da_nil))) da_nil))))))))
theorem ok__law_pick (B : Bl mg) (G : Gc mg) (F : FnDef K mg "_law_pick" s__law_pick) (C__law_take : Callee P w K mg base 1 "_law_take" 2 w_take) : Callee P w K mg base 2 "_law_pick" 2 w__law_pick := by
  refine mk_callee (N := N__law_pick) F sc__law_pick rfl (fun _ _ _ _ _ _ us hl => match us, hl with | [_, _], _ => rfl) fun f cdv A outer s H E hr => ?_
  have nd := sc__law_pick.nd
  exact (dss_one (ds_ret (de_ix (dv 1) (de_call C__law_take hr (by rfl) (takes_of rfl rfl rfl rfl) (da_cons (dv 0) (da_cons (de_blt cd_len (by rfl) B.len boot_len (da_cons (dv 1) da_nil)) da_nil))))))
theorem ok__law_side (B : Bl mg) (G : Gc mg) (F : FnDef K mg "_law_side" s__law_side) (C__law_cross : Callee P w K mg base 1 "_law_cross" 2 w__law_cross) (C__law_less : Callee P w K mg base 1 "_law_less" 2 w__law_less) : Callee P w K mg base 2 "_law_side" 3 w__law_side := by
  refine mk_callee (N := N__law_side) F sc__law_side rfl (fun _ _ _ _ _ _ us hl => match us, hl with | [_, _, _], _ => rfl) fun f cdv A outer s H E hr => ?_
  have nd := sc__law_side.nd
  exact (dss_one (ds_ret (de_call C__law_cross hr (by rfl) (takes_of rfl rfl rfl rfl) (da_cons (de_call C__law_less hr (by rfl) (takes_of rfl rfl rfl rfl) (da_cons (dv 1) (da_cons (dv 0) da_nil))) (da_cons (de_call C__law_less hr (by rfl) (takes_of rfl rfl rfl rfl) (da_cons (dv 2) (da_cons (dv 0) da_nil))) da_nil)))))
theorem ok_divisor (B : Bl mg) (G : Gc mg) (F : FnDef K mg "divisor" s_divisor)  : Callee P w K mg base 1 "divisor" 2 w_divisor := by
  refine mk_callee (N := N_divisor) F sc_divisor rfl (fun _ _ _ _ _ _ us hl => match us, hl with | [_, _], _ => rfl) fun f cdv A outer s H E hr => ?_
  have nd := sc_divisor.nd
  exact (dss_cons (ds_par2 gm_dat gm_dat rfl nd rfl rfl (by decide) rfl rfl (da_cons (de_blt cd_abs (by rfl) B.abs PyProof.Rows.boot_abs (da_cons (dv 0) da_nil)) (da_cons (de_blt cd_abs (by rfl) B.abs PyProof.Rows.boot_abs (da_cons (dv 1) da_nil)) da_nil)) (by with_unfolding_all rfl)) (dss_cons (ds_while (passes_of rfl) (dt_cmp (od_ne (room64 hr)) (dv 1) de_int (by rfl)) (dss_one (ds_par2 gm_dat gm_dat rfl nd rfl rfl (by decide) rfl rfl (da_cons (dv 1) (da_cons (de_bin od_mod (dv 0) (dv 1)) da_nil)) (by with_unfolding_all rfl)))) (dss_one (ds_ret (dv 0)))))
theorem ok_least_step (B : Bl mg) (G : Gc mg) (F : FnDef K mg "least_step" s_least_step) (C_divisor : Callee P w K mg base 1 "divisor" 2 w_divisor) {A_Misstep : Addr} (C_Misstep : Er_Misstep P w K mg base A_Misstep) : Callee P w K mg base 3 "least_step" 1 w_least_step := by
  refine mk_callee (N := N_least_step) F sc_least_step rfl (fun _ _ _ _ _ _ us hl => match us, hl with | [_], _ => rfl) fun f cdv A outer s H E hr => ?_
  have nd := sc_least_step.nd
  exact (dss_cons (ds_set nd rfl (.inl rfl) (de_call C_divisor (hr.mono (by decide)) (by rfl) (takes_of rfl rfl rfl rfl) (da_cons (de_ix (dv 0) de_int) (da_cons (de_ix (dv 0) de_int) da_nil)))) (dss_cons (ds_if (dt_cmp (od_eq (room64 hr)) (dv 1) de_int (by rfl)) (dss_one (ds_raise (C_Misstep.err) hr rfl (takes_of rfl rfl rfl rfl) (by rfl) de_str)) dss_nil) (dss_one (ds_ret (de_tup (da_cons (de_bin od_fdiv (de_ix (dv 0) de_int) (dv 1)) (da_cons (de_bin od_fdiv (de_ix (dv 0) de_int) (dv 1)) da_nil)))))))
theorem ok_shares (B : Bl mg) (G : Gc mg) (F : FnDef K mg "shares" s_shares)  : Callee P w K mg base 1 "shares" 2 w_shares := by
  refine mk_callee (N := N_shares) F sc_shares rfl (fun _ _ _ _ _ _ us hl => match us, hl with | [_, _], _ => rfl) fun f cdv A outer s H E hr => ?_
  have nd := sc_shares.nd
  exact (dss_cons (ds_parT rfl (da_cons (de_tup (da_cons (dv 0) (da_cons de_int (da_cons de_int da_nil)))) (da_cons (de_tup (da_cons (dv 1) (da_cons de_int (da_cons de_int da_nil)))) da_nil)) (dgm_cons (dgm_dat (dg_name nd rfl (.inr rfl))) (dgm_cons (dgm_dat (dg_name nd rfl (.inr rfl))) dgm_nil))) (dss_cons (ds_while (passes_of rfl) (dt_cmp (od_ne (room64 hr)) (de_ix (dv 3) de_int) de_int (by rfl)) (dss_cons (ds_set nd rfl (.inr rfl) (de_bin od_fdiv (de_ix (dv 2) de_int) (de_ix (dv 3) de_int))) (dss_one (ds_parT rfl (da_cons (dv 3) (da_cons (de_ty cd_tuple (by rfl) B.tuple PyProof.Rows.boot_tuple (da_cons (de_lc0 (own := [("k", 5)]) rfl nd (di_rng1 true (by rfl) B.range de_int) (blkOk_by (N := N_shares) (sc := (defScope s_shares)) (own := [("k", 5)]) (by decide +kernel)) rfl (fun _ _ _ _ _ => (dg_name nd rfl (.inl rfl))) (fun _ _ _ _ _ => (de_bin od_sub (de_ix (dv 2) (dv 5)) (de_bin od_mul (dv 4) (de_ix (dv 3) (dv 5)))))) da_nil)) da_nil)) (dgm_cons (dgm_dat (dg_name nd rfl (.inr rfl))) (dgm_cons (dgm_dat (dg_name nd rfl (.inr rfl))) dgm_nil)))))) (dss_one (ds_ret (de_if (dt_cmp od_ge (de_ix (dv 2) de_int) de_int (by rfl)) (de_tup (da_cons (de_ix (dv 2) de_int) (da_cons (de_ix (dv 2) de_int) da_nil))) (de_tup (da_cons (de_bin od_sub de_int (de_ix (dv 2) de_int)) (da_cons (de_bin od_sub de_int (de_ix (dv 2) de_int)) da_nil))))))))
theorem ok_move_to_first (B : Bl mg) (G : Gc mg) (F : FnDef K mg "move_to_first" s_move_to_first) (C_divisor : Callee P w K mg base 1 "divisor" 2 w_divisor) (C_shares : Callee P w K mg base 1 "shares" 2 w_shares) {A_Misstep : Addr} (C_Misstep : Er_Misstep P w K mg base A_Misstep) : Callee P w K mg base 3 "move_to_first" 1 w_move_to_first := by
  refine mk_callee (N := N_move_to_first) F sc_move_to_first rfl (fun _ _ _ _ _ _ us hl => match us, hl with | [_], _ => rfl) fun f cdv A outer s H E hr => ?_
  have nd := sc_move_to_first.nd
  exact (dss_cons (ds_if (dt_cmp (od_ne (room64 hr)) (de_call C_divisor (hr.mono (by decide)) (by rfl) (takes_of rfl rfl rfl rfl) (da_cons (de_ix (dv 0) de_int) (da_cons (de_ix (dv 0) de_int) da_nil))) de_int (by rfl)) (dss_one (ds_raise (C_Misstep.err) hr rfl (takes_of rfl rfl rfl rfl) (by rfl) de_str)) dss_nil) (dss_cons (ds_asg (de_call C_shares (hr.mono (by decide)) (by rfl) (takes_of rfl rfl rfl rfl) (da_cons (de_ix (dv 0) de_int) (da_cons (de_ix (dv 0) de_int) da_nil))) (dg_tup rfl (dgs_cons (dg_name nd rfl (.inl rfl)) (dgs_cons (dg_name nd rfl (.inl rfl)) dgs_nil)))) (dss_one (ds_ret (de_tup (da_cons (de_tup (da_cons (dv 1) (da_cons (dv 2) da_nil))) (da_cons (de_tup (da_cons (de_bin od_sub de_int (de_ix (dv 0) de_int)) (da_cons (de_ix (dv 0) de_int) da_nil))) (da_cons (de_tup (da_cons de_int (da_cons de_int da_nil))) da_nil))))))))
theorem ok__law_word (B : Bl mg) (G : Gc mg) (F : FnDef K mg "_law_word" s__law_word) (C_least_step : Callee P w K mg base 3 "least_step" 1 w_least_step) (C_move_to_first : Callee P w K mg base 3 "move_to_first" 1 w_move_to_first) {A_Misstep : Addr} (C_Misstep : Er_Misstep P w K mg base A_Misstep) : Callee P w K mg base 4 "_law_word" 1 w__law_word := by
  refine mk_callee (N := N__law_word) F sc__law_word rfl (fun _ _ _ _ _ _ us hl => match us, hl with | [_], _ => rfl) fun f cdv A outer s H E hr => ?_
  have nd := sc__law_word.nd
  exact (dss_one (ds_tryF (i := 1) (os := []) (C_Misstep.ek) rfl rfl nd rfl rfl (by rfl) (takes_of rfl rfl rfl rfl) (fun W pn xe tk pa => (dss_cons (ds_if (dt_cmp (od_eq (room64 hr)) (dv 0) de_int (by rfl)) (dss_one (ds_expr (de_call C_least_step hr (by rfl) tk (da_cons (de_tup (da_cons de_int (da_cons de_int da_nil))) da_nil)))) (dss_one (ds_expr (de_call C_move_to_first hr (by rfl) tk (da_cons (de_tup (da_cons de_int (da_cons de_int da_nil))) da_nil))))) (dss_one (ds_ret de_str))))))
theorem ok_dot (B : Bl mg) (G : Gc mg) (F : FnDef K mg "dot" s_dot)  : Callee P w K mg base 1 "dot" 2 w_dot := by
  refine mk_callee (N := N_dot) F sc_dot rfl (fun _ _ _ _ _ _ us hl => match us, hl with | [_, _], _ => rfl) fun f cdv A outer s H E hr => ?_
  have nd := sc_dot.nd
  exact (dss_one (ds_ret (de_bin od_add (de_bin od_mul (de_ix (dv 0) de_int) (de_ix (dv 1) de_int)) (de_bin od_mul (de_ix (dv 0) de_int) (de_ix (dv 1) de_int)))))
theorem ok_moved (B : Bl mg) (G : Gc mg) (F : FnDef K mg "moved" s_moved) (C_dot : Callee P w K mg base 1 "dot" 2 w_dot) : Callee P w K mg base 2 "moved" 2 w_moved := by
  refine mk_callee (N := N_moved) F sc_moved rfl (fun _ _ _ _ _ _ us hl => match us, hl with | [_, _], _ => rfl) fun f cdv A outer s H E hr => ?_
  have nd := sc_moved.nd
  exact (dss_cons (ds_asg (dv 0) (dg_tup rfl (dgs_cons (dg_name nd rfl (.inl rfl)) (dgs_cons (dg_name nd rfl (.inl rfl)) (dgs_cons (dg_name nd rfl (.inl rfl)) dgs_nil))))) (dss_one (ds_ret (de_tup (da_cons (de_bin od_add (de_call C_dot hr (by rfl) (takes_of rfl rfl rfl rfl) (da_cons (dv 2) (da_cons (dv 1) da_nil))) (de_ix (dv 4) de_int)) (da_cons (de_bin od_add (de_call C_dot hr (by rfl) (takes_of rfl rfl rfl rfl) (da_cons (dv 3) (da_cons (dv 1) da_nil))) (de_ix (dv 4) de_int)) da_nil))))))
theorem ok_after (B : Bl mg) (G : Gc mg) (F : FnDef K mg "after" s_after) (C_moved : Callee P w K mg base 2 "moved" 2 w_moved) : Callee P w K mg base 3 "after" 2 w_after := by
  refine mk_callee (N := N_after) F sc_after rfl (fun _ _ _ _ _ _ us hl => match us, hl with | [_, _], _ => rfl) fun f cdv A outer s H E hr => ?_
  have nd := sc_after.nd
  exact (dss_cons (ds_setO nd rfl (.inl rfl) (de_lst da_nil)) (dss_cons (ds_for (passes_of rfl) rfl (di_seq false (de_sl (dv 1) do_none (do_some de_int))) (dg_name nd rfl (.inl rfl)) (dss_one (ds_app (i := 2) (pv 2) (de_tup (da_cons (de_bin od_add (de_bin od_mul (de_ix (dv 3) de_int) (de_ix (de_ix (dv 0) de_int) de_int)) (de_bin od_mul (de_ix (dv 3) de_int) (de_ix (de_ix (dv 0) de_int) de_int))) (da_cons (de_bin od_add (de_bin od_mul (de_ix (dv 3) de_int) (de_ix (de_ix (dv 0) de_int) de_int)) (de_bin od_mul (de_ix (dv 3) de_int) (de_ix (de_ix (dv 0) de_int) de_int))) da_nil)))))) (dss_one (ds_ret (de_tup (da_cons (de_ix (dv 2) de_int) (da_cons (de_ix (dv 2) de_int) (da_cons (de_call C_moved hr (by rfl) (takes_of rfl rfl rfl rfl) (da_cons (dv 1) (da_cons (de_ix (dv 0) de_int) da_nil))) da_nil))))))))
theorem ok_plus (B : Bl mg) (G : Gc mg) (F : FnDef K mg "plus" s_plus)  : Callee P w K mg base 1 "plus" 2 w_plus := by
  refine mk_callee (N := N_plus) F sc_plus rfl (fun _ _ _ _ _ _ us hl => match us, hl with | [_, _], _ => rfl) fun f cdv A outer s H E hr => ?_
  have nd := sc_plus.nd
  exact (dss_one (ds_ret (de_tup (da_cons (de_bin od_add (de_ix (dv 0) de_int) (de_ix (dv 1) de_int)) (da_cons (de_bin od_add (de_ix (dv 0) de_int) (de_ix (dv 1) de_int)) da_nil)))))
theorem ok_steps (B : Bl mg) (G : Gc mg) (F : FnDef K mg "steps" s_steps) (C_divisor : Callee P w K mg base 1 "divisor" 2 w_divisor) : Callee P w K mg base 2 "steps" 2 w_steps := by
  refine mk_callee (N := N_steps) F sc_steps rfl (fun _ _ _ _ _ _ us hl => match us, hl with | [_, _], _ => rfl) fun f cdv A outer s H E hr => ?_
  have nd := sc_steps.nd
  exact (dss_one (ds_ret (de_call C_divisor hr (by rfl) (takes_of rfl rfl rfl rfl) (da_cons (de_bin od_sub (de_ix (dv 0) de_int) (de_ix (dv 1) de_int)) (da_cons (de_bin od_sub (de_ix (dv 0) de_int) (de_ix (dv 1) de_int)) da_nil)))))
theorem ok_times (B : Bl mg) (G : Gc mg) (F : FnDef K mg "times" s_times)  : Callee P w K mg base 1 "times" 2 w_times := by
  refine mk_callee (N := N_times) F sc_times rfl (fun _ _ _ _ _ _ us hl => match us, hl with | [_, _], _ => rfl) fun f cdv A outer s H E hr => ?_
  have nd := sc_times.nd
  exact (dss_one (ds_ret (de_tup (da_cons (de_bin od_mul (de_ix (dv 0) de_int) (dv 1)) (da_cons (de_bin od_mul (de_ix (dv 0) de_int) (dv 1)) da_nil)))))
theorem ok_between (B : Bl mg) (G : Gc mg) (F : FnDef K mg "between" s_between) (C_plus : Callee P w K mg base 1 "plus" 2 w_plus) (C_steps : Callee P w K mg base 2 "steps" 2 w_steps) (C_times : Callee P w K mg base 1 "times" 2 w_times) : Callee P w K mg base 3 "between" 2 w_between := by
  refine mk_callee (N := N_between) F sc_between rfl (fun _ _ _ _ _ _ us hl => match us, hl with | [_, _], _ => rfl) fun f cdv A outer s H E hr => ?_
  have nd := sc_between.nd
  exact (dss_cons (ds_set nd rfl (.inl rfl) (de_call C_steps hr (by rfl) (takes_of rfl rfl rfl rfl) (da_cons (dv 0) (da_cons (dv 1) da_nil)))) (dss_cons (ds_if (dt_cmp (od_eq (room64 hr)) (dv 2) de_int (by rfl)) (dss_one (ds_ret (de_lst (da_cons (dv 0) da_nil)))) dss_nil) (dss_cons (ds_set nd rfl (.inr rfl) (de_tup (da_cons (de_bin od_fdiv (de_bin od_sub (de_ix (dv 1) de_int) (de_ix (dv 0) de_int)) (dv 2)) (da_cons (de_bin od_fdiv (de_bin od_sub (de_ix (dv 1) de_int) (de_ix (dv 0) de_int)) (dv 2)) da_nil)))) (dss_one (ds_ret (de_lc0 (own := [("k", 4)]) rfl nd (di_rng1 true (by rfl) B.range (de_bin od_add (dv 2) de_int)) (blkOk_by (N := N_between) (sc := (defScope s_between)) (own := [("k", 4)]) (by decide +kernel)) rfl (fun _ _ _ _ _ => (dg_name nd rfl (.inl rfl))) (fun _ _ _ _ _ => (de_call C_plus (hr.mono (by decide)) (by rfl) takes0 (da_cons (dv 0) (da_cons (de_call C_times (hr.mono (by decide)) (by rfl) takes0 (da_cons (dv 3) (da_cons (dv 4) da_nil))) da_nil))))))))))
theorem ok_cross (B : Bl mg) (G : Gc mg) (F : FnDef K mg "cross" s_cross)  : Callee P w K mg base 1 "cross" 2 w_cross := by
  refine mk_callee (N := N_cross) F sc_cross rfl (fun _ _ _ _ _ _ us hl => match us, hl with | [_, _], _ => rfl) fun f cdv A outer s H E hr => ?_
  have nd := sc_cross.nd
  exact (dss_one (ds_ret (de_bin od_sub (de_bin od_mul (de_ix (dv 0) de_int) (de_ix (dv 1) de_int)) (de_bin od_mul (de_ix (dv 0) de_int) (de_ix (dv 1) de_int)))))
theorem ok_is_whole (B : Bl mg) (G : Gc mg) (F : FnDef K mg "is_whole" s_is_whole)  : Callee P w K mg base 1 "is_whole" 3 w_is_whole := by
  refine mk_callee (N := N_is_whole) F sc_is_whole rfl (fun _ _ _ _ _ _ us hl => match us, hl with | [_, _, _], _ => rfl) fun f cdv A outer s H E hr => ?_
  have nd := sc_is_whole.nd
  exact (dss_one (ds_ret (de_and (de_isi (T := "int") (dv 0) (by rfl) B.isinstance (by rfl) B.int_ (by decide +kernel) (by decide +kernel)) (de_and (de_not (de_isi (T := "bool") (dv 0) (by rfl) B.isinstance (by rfl) B.bool (by decide +kernel) (by decide +kernel))) (de_one (de_chain od_le od_le (dv 1) (dv 0) (dv 2)))))))
theorem ok_is_point (B : Bl mg) (G : Gc mg) (F : FnDef K mg "is_point" s_is_point) (C_is_whole : Callee P w K mg base 1 "is_whole" 3 w_is_whole) : Callee P w K mg base 2 "is_point" 1 w_is_point := by
  refine mk_callee (N := N_is_point) F sc_is_point rfl (fun _ _ _ _ _ _ us hl => match us, hl with | [_], _ => rfl) fun f cdv A outer s H E hr => ?_
  have nd := sc_is_point.nd
  exact (dss_cons (ds_if (dt_w (dw_or (dt_not (dt_tru (de_isi (T := "tuple") (dv 0) (by rfl) B.isinstance (by rfl) B.tuple (by decide +kernel) (by decide +kernel)))) (dw_or1 (dt_cmp (od_ne (room64 hr)) (de_blt cd_len (by rfl) B.len boot_len (da_cons (dv 0) da_nil)) de_int (by rfl))))) (dss_one (ds_ret de_bl)) dss_nil) (dss_one (ds_ret (de_blt (cd_all rfl) (by rfl) B.all PyProof.Rows.boot_all (da_cons (de_lc0 (own := [("number", 1)]) rfl nd (di_seq true (dv 0)) (blkOk_by (N := N_is_point) (sc := (defScope s_is_point)) (own := [("number", 1)]) (by decide +kernel)) rfl (fun _ _ _ _ _ => (dg_name nd rfl (.inl rfl))) (fun _ _ _ _ _ => (de_call C_is_whole hr (by rfl) takes0 (da_cons (dv 1) (da_cons (de_bin od_sub de_int (de_gint (by rfl) G.c_MOST_NUMBER)) (da_cons (de_gint (by rfl) G.c_MOST_NUMBER) da_nil)))))) da_nil)))))
theorem ok_is_move (B : Bl mg) (G : Gc mg) (F : FnDef K mg "is_move" s_is_move) (C_cross : Callee P w K mg base 1 "cross" 2 w_cross) (C_is_point : Callee P w K mg base 2 "is_point" 1 w_is_point) : Callee P w K mg base 3 "is_move" 1 w_is_move := by
  refine mk_callee (N := N_is_move) F sc_is_move rfl (fun _ _ _ _ _ _ us hl => match us, hl with | [_], _ => rfl) fun f cdv A outer s H E hr => ?_
  have nd := sc_is_move.nd
  exact (dss_cons (ds_if (dt_w (dw_or (dt_not (dt_tru (de_isi (T := "tuple") (dv 0) (by rfl) B.isinstance (by rfl) B.tuple (by decide +kernel) (by decide +kernel)))) (dw_or (dt_cmp (od_ne (room64 hr)) (de_blt cd_len (by rfl) B.len boot_len (da_cons (dv 0) da_nil)) de_int (by rfl)) (dw_or1 (dt_not (dt_tru (de_blt (cd_all rfl) (by rfl) B.all PyProof.Rows.boot_all (da_cons (de_lc0 (own := [("row", 1)]) rfl nd (di_seq true (dv 0)) (blkOk_by (N := N_is_move) (sc := (defScope s_is_move)) (own := [("row", 1)]) (by decide +kernel)) rfl (fun _ _ _ _ _ => (dg_name nd rfl (.inl rfl))) (fun _ _ _ _ _ => (de_call C_is_point hr (by rfl) takes0 (da_cons (dv 1) da_nil)))) da_nil)))))))) (dss_one (ds_ret de_bl)) dss_nil) (dss_one (ds_ret (de_cmp (od_eq (room64 hr)) (de_blt cd_abs (by rfl) B.abs PyProof.Rows.boot_abs (da_cons (de_call C_cross (hr.mono (by decide)) (by rfl) (takes_of rfl rfl rfl rfl) (da_cons (de_ix (dv 0) de_int) (da_cons (de_ix (dv 0) de_int) da_nil))) da_nil)) de_int (by rfl)))))
theorem ok_is_turning (B : Bl mg) (G : Gc mg) (F : FnDef K mg "is_turning" s_is_turning) (C_cross : Callee P w K mg base 1 "cross" 2 w_cross) : Callee P w K mg base 2 "is_turning" 1 w_is_turning := by
  refine mk_callee (N := N_is_turning) F sc_is_turning rfl (fun _ _ _ _ _ _ us hl => match us, hl with | [_], _ => rfl) fun f cdv A outer s H E hr => ?_
  have nd := sc_is_turning.nd
  exact (dss_one (ds_ret (de_cmp (od_eq (room64 hr)) (de_call C_cross hr (by rfl) (takes_of rfl rfl rfl rfl) (da_cons (de_ix (dv 0) de_int) (da_cons (de_ix (dv 0) de_int) da_nil))) de_int (by rfl))))
theorem ok_less (B : Bl mg) (G : Gc mg) (F : FnDef K mg "less" s_less)  : Callee P w K mg base 1 "less" 2 w_less := by
  refine mk_callee (N := N_less) F sc_less rfl (fun _ _ _ _ _ _ us hl => match us, hl with | [_, _], _ => rfl) fun f cdv A outer s H E hr => ?_
  have nd := sc_less.nd
  exact (dss_one (ds_ret (de_tup (da_cons (de_bin od_sub (de_ix (dv 0) de_int) (de_ix (dv 1) de_int)) (da_cons (de_bin od_sub (de_ix (dv 0) de_int) (de_ix (dv 1) de_int)) da_nil)))))
theorem ok_side (B : Bl mg) (G : Gc mg) (F : FnDef K mg "side" s_side) (C_cross : Callee P w K mg base 1 "cross" 2 w_cross) (C_less : Callee P w K mg base 1 "less" 2 w_less) : Callee P w K mg base 2 "side" 3 w_side := by
  refine mk_callee (N := N_side) F sc_side rfl (fun _ _ _ _ _ _ us hl => match us, hl with | [_, _, _], _ => rfl) fun f cdv A outer s H E hr => ?_
  have nd := sc_side.nd
  exact (dss_one (ds_ret (de_call C_cross hr (by rfl) (takes_of rfl rfl rfl rfl) (da_cons (de_call C_less hr (by rfl) (takes_of rfl rfl rfl rfl) (da_cons (dv 1) (da_cons (dv 0) da_nil))) (da_cons (de_call C_less hr (by rfl) (takes_of rfl rfl rfl rfl) (da_cons (dv 2) (da_cons (dv 0) da_nil))) da_nil)))))
theorem ok_sign (B : Bl mg) (G : Gc mg) (F : FnDef K mg "sign" s_sign)  : Callee P w K mg base 1 "sign" 1 w_sign := by
  refine mk_callee (N := N_sign) F sc_sign rfl (fun _ _ _ _ _ _ us hl => match us, hl with | [_], _ => rfl) fun f cdv A outer s H E hr => ?_
  have nd := sc_sign.nd
  exact (dss_one (ds_ret (de_if (dt_cmp od_gt (dv 0) de_int (by rfl)) de_int (de_if (dt_cmp (od_eq (room64 hr)) (dv 0) de_int (by rfl)) de_int (de_bin od_sub de_int de_int)))))
theorem ok_stays (B : Bl mg) (G : Gc mg) (F : FnDef K mg "stays" s_stays)  : Callee P w K mg base 1 "stays" 0 w_stays := by
  refine mk_callee (N := N_stays) F sc_stays rfl (fun _ _ _ _ _ _ us hl => match us, hl with | [], _ => rfl) fun f cdv A outer s H E hr => ?_
  have nd := sc_stays.nd
  exact (dss_one (ds_ret (de_tup (da_cons (de_tup (da_cons de_int (da_cons de_int da_nil))) (da_cons (de_tup (da_cons de_int (da_cons de_int da_nil))) (da_cons (de_tup (da_cons de_int (da_cons de_int da_nil))) da_nil))))))
theorem ok_undone (B : Bl mg) (G : Gc mg) (F : FnDef K mg "undone" s_undone) (C_dot : Callee P w K mg base 1 "dot" 2 w_dot) : Callee P w K mg base 2 "undone" 1 w_undone := by
  refine mk_callee (N := N_undone) F sc_undone rfl (fun _ _ _ _ _ _ us hl => match us, hl with | [_], _ => rfl) fun f cdv A outer s H E hr => ?_
  have nd := sc_undone.nd
  exact (dss_cons (ds_asg (dv 0) (dg_tup rfl (dgs_cons (dg_tup rfl (dgs_cons (dg_name nd rfl (.inl rfl)) (dgs_cons (dg_name nd rfl (.inl rfl)) dgs_nil))) (dgs_cons (dg_tup rfl (dgs_cons (dg_name nd rfl (.inl rfl)) (dgs_cons (dg_name nd rfl (.inl rfl)) dgs_nil))) (dgs_cons (dg_name nd rfl (.inl rfl)) dgs_nil))))) (dss_cons (ds_set nd rfl (.inl rfl) (de_bin od_sub (de_bin od_mul (dv 1) (dv 4)) (de_bin od_mul (dv 2) (dv 3)))) (dss_cons (ds_par2 gm_dat gm_dat rfl nd rfl rfl (by decide) rfl rfl (da_cons (de_tup (da_cons (de_bin od_mul (dv 4) (dv 6)) (da_cons (de_bin od_sub de_int (de_bin od_mul (dv 2) (dv 6))) da_nil))) (da_cons (de_tup (da_cons (de_bin od_sub de_int (de_bin od_mul (dv 3) (dv 6))) (da_cons (de_bin od_mul (dv 1) (dv 6)) da_nil))) da_nil)) (by with_unfolding_all rfl)) (dss_cons (ds_set nd rfl (.inl rfl) (de_tup (da_cons (de_call C_dot hr (by rfl) (takes_of rfl rfl rfl rfl) (da_cons (dv 7) (da_cons (dv 5) da_nil))) (da_cons (de_call C_dot hr (by rfl) (takes_of rfl rfl rfl rfl) (da_cons (dv 8) (da_cons (dv 5) da_nil))) da_nil)))) (dss_one (ds_ret (de_tup (da_cons (dv 7) (da_cons (dv 8) (da_cons (de_tup (da_cons (de_bin od_sub de_int (de_ix (dv 9) de_int)) (da_cons (de_bin od_sub de_int (de_ix (dv 9) de_int)) da_nil))) da_nil))))))))))
theorem ok_law (B : Bl mg) (G : Gc mg) {f fs : Addr} {fd fds : FuncData} (FD : FunD K "law" "law" (defArgs s_law) (defBody s_law) (defScope s_law) [] [] f fd) (FS : FunD K "_law_state" "_law_state" (defArgs s__law_state) (defBody s__law_state) (defScope s__law_state) [] [] fs fds) (gS : mg "_law_state" = some (.ref fs)) (hlaw : b_law (lawEnv 23) fun fl => fl = .rt (.d (.bool true))) (C__law_cross : Callee P w K mg base 1 "_law_cross" 2 w__law_cross) (C__law_done : Callee P w K mg base 1 "_law_done" 2 w__law_done) (C__law_gcd : Callee P w K mg base 1 "_law_gcd" 2 w__law_gcd) (C__law_is_move : Callee P w K mg base 2 "_law_is_move" 1 w__law_is_move) (C__law_is_point : Callee P w K mg base 1 "_law_is_point" 1 w__law_is_point) (C__law_less : Callee P w K mg base 1 "_law_less" 2 w__law_less) (C__law_move : Callee P w K mg base 2 "_law_move" 1 w__law_move) (C__law_pick : Callee P w K mg base 2 "_law_pick" 2 w__law_pick) (C__law_side : Callee P w K mg base 2 "_law_side" 3 w__law_side) (C__law_take : Callee P w K mg base 1 "_law_take" 2 w_take) (C__law_word : Callee P w K mg base 4 "_law_word" 1 w__law_word) (C_after : Callee P w K mg base 3 "after" 2 w_after) (C_between : Callee P w K mg base 3 "between" 2 w_between) (C_cross : Callee P w K mg base 1 "cross" 2 w_cross) (C_divisor : Callee P w K mg base 1 "divisor" 2 w_divisor) (C_dot : Callee P w K mg base 1 "dot" 2 w_dot) (C_is_move : Callee P w K mg base 3 "is_move" 1 w_is_move) (C_is_point : Callee P w K mg base 2 "is_point" 1 w_is_point) (C_is_turning : Callee P w K mg base 2 "is_turning" 1 w_is_turning) (C_is_whole : Callee P w K mg base 1 "is_whole" 3 w_is_whole) (C_least_step : Callee P w K mg base 3 "least_step" 1 w_least_step) (C_less : Callee P w K mg base 1 "less" 2 w_less) (C_move_to_first : Callee P w K mg base 3 "move_to_first" 1 w_move_to_first) (C_moved : Callee P w K mg base 2 "moved" 2 w_moved) (C_plus : Callee P w K mg base 1 "plus" 2 w_plus) (C_shares : Callee P w K mg base 1 "shares" 2 w_shares) (C_side : Callee P w K mg base 2 "side" 3 w_side) (C_sign : Callee P w K mg base 1 "sign" 1 w_sign) (C_stays : Callee P w K mg base 1 "stays" 0 w_stays) (C_steps : Callee P w K mg base 2 "steps" 2 w_steps) (C_times : Callee P w K mg base 1 "times" 2 w_times) (C_undone : Callee P w K mg base 2 "undone" 1 w_undone) : FnOk P w K mg base (L2.CX P w) 5 f fd ["script"] (spLaw K) := by
  refine FD.ok sc_law (fun vs H Q E h => ?_) (fun cdv A outer s H vs Q E hr h => ⟨_, ?_, law_sem (mg := mg) (E := EF E) rfl hlaw h⟩)
  · obtain ⟨a, ns, rfl, _⟩ := h
    rfl
  have nd := sc_law.nd
  refine pss_cons (ps_set (i := 1) nd rfl (.inl rfl) (pe_call (ok__law_state B FS) (hr.mono (by decide)) (by rfl) gS FS.kp (FS.bindsN fun _ _ _ _ _ _ us hl => match us, hl with | [_], _ => rfl) .nil (passes_call (takes_of (E := E) rfl rfl rfl rfl) fun _ _ _ _ z => z.elim) (pa_cons (pv 0) pa_nil))) ?_
  exact (dss_cons (ds_set nd rfl (.inl rfl) (de_call C__law_pick (hr.mono (by decide)) (by rfl) (takes_of rfl rfl rfl rfl) (da_cons (dv 1) (da_cons (de_lst (da_cons de_int (da_cons de_int (da_cons de_int da_nil)))) da_nil)))) (dss_cons (ds_parT rfl (da_cons (de_tup (da_cons (de_bin od_sub (de_call C__law_take (hr.mono (by decide)) (by rfl) (takes_of rfl rfl rfl rfl) (da_cons (dv 1) (da_cons (de_bin od_mul de_int (dv 2)) da_nil))) (dv 2)) (da_cons (de_call C__law_take (hr.mono (by decide)) (by rfl) (takes_of rfl rfl rfl rfl) (da_cons (dv 1) (da_cons (dv 2) da_nil))) da_nil))) (da_cons (de_tup (da_cons (de_call C__law_take (hr.mono (by decide)) (by rfl) (takes_of rfl rfl rfl rfl) (da_cons (dv 1) (da_cons (dv 2) da_nil))) (da_cons (de_bin od_sub (de_call C__law_take (hr.mono (by decide)) (by rfl) (takes_of rfl rfl rfl rfl) (da_cons (dv 1) (da_cons (de_bin od_mul de_int (dv 2)) da_nil))) (dv 2)) da_nil))) (da_cons (de_tup (da_cons (de_bin od_sub (de_call C__law_take (hr.mono (by decide)) (by rfl) (takes_of rfl rfl rfl rfl) (da_cons (dv 1) (da_cons de_int da_nil))) de_int) (da_cons (de_call C__law_take (hr.mono (by decide)) (by rfl) (takes_of rfl rfl rfl rfl) (da_cons (dv 1) (da_cons de_int da_nil))) da_nil))) da_nil))) (dgm_cons (dgm_dat (dg_name nd rfl (.inl rfl))) (dgm_cons (dgm_dat (dg_name nd rfl (.inl rfl))) (dgm_cons (dgm_dat (dg_name nd rfl (.inr rfl))) dgm_nil)))) (dss_cons (ds_set nd rfl (.inl rfl) (de_bin od_sub (de_call C__law_take (hr.mono (by decide)) (by rfl) (takes_of rfl rfl rfl rfl) (da_cons (dv 1) (da_cons de_int da_nil))) de_int)) (dss_cons (ds_if (dt_w (dw_or (dt_cmp (od_ne (room64 hr)) (de_call C_plus (hr.mono (by decide)) (by rfl) (takes_of rfl rfl rfl rfl) (da_cons (dv 3) (da_cons (dv 4) da_nil))) (de_tup (da_cons (de_bin od_add (de_ix (dv 3) de_int) (de_ix (dv 4) de_int)) (da_cons (de_bin od_add (de_ix (dv 3) de_int) (de_ix (dv 4) de_int)) da_nil))) (by rfl)) (dw_or (dt_cmp (od_ne (room64 hr)) (de_call C_less (hr.mono (by decide)) (by rfl) (takes_of rfl rfl rfl rfl) (da_cons (dv 3) (da_cons (dv 4) da_nil))) (de_call C__law_less (hr.mono (by decide)) (by rfl) (takes_of rfl rfl rfl rfl) (da_cons (dv 3) (da_cons (dv 4) da_nil))) (by rfl)) (dw_or (dt_cmp (od_ne (room64 hr)) (de_call C_times (hr.mono (by decide)) (by rfl) (takes_of rfl rfl rfl rfl) (da_cons (dv 3) (da_cons (dv 6) da_nil))) (de_tup (da_cons (de_bin od_mul (de_ix (dv 3) de_int) (dv 6)) (da_cons (de_bin od_mul (de_ix (dv 3) de_int) (dv 6)) da_nil))) (by rfl)) (dw_or1 (dt_cmp (od_ne (room64 hr)) (de_call C_cross (hr.mono (by decide)) (by rfl) (takes_of rfl rfl rfl rfl) (da_cons (dv 3) (da_cons (dv 4) da_nil))) (de_call C__law_cross (hr.mono (by decide)) (by rfl) (takes_of rfl rfl rfl rfl) (da_cons (dv 3) (da_cons (dv 4) da_nil))) (by rfl))))))) (dss_one (ds_ret de_bl)) dss_nil) (dss_cons (ds_if (dt_w (dw_or (dt_cmp (od_ne (room64 hr)) (de_call C_dot (hr.mono (by decide)) (by rfl) (takes_of rfl rfl rfl rfl) (da_cons (dv 3) (da_cons (dv 4) da_nil))) (de_bin od_add (de_bin od_mul (de_ix (dv 3) de_int) (de_ix (dv 4) de_int)) (de_bin od_mul (de_ix (dv 3) de_int) (de_ix (dv 4) de_int))) (by rfl)) (dw_or (dt_cmp (od_ne (room64 hr)) (de_call C_side (hr.mono (by decide)) (by rfl) (takes_of rfl rfl rfl rfl) (da_cons (dv 3) (da_cons (dv 4) (da_cons (dv 5) da_nil)))) (de_call C__law_side (hr.mono (by decide)) (by rfl) (takes_of rfl rfl rfl rfl) (da_cons (dv 3) (da_cons (dv 4) (da_cons (dv 5) da_nil)))) (by rfl)) (dw_or (dt_cmp (od_ne (room64 hr)) (de_call C_sign (hr.mono (by decide)) (by rfl) (takes_of rfl rfl rfl rfl) (da_cons (dv 6) da_nil)) (de_if (dt_cmp od_gt (dv 6) de_int (by rfl)) de_int (de_if (dt_cmp (od_eq (room64 hr)) (dv 6) de_int (by rfl)) de_int (de_neg de_int))) (by rfl)) (dw_or1 (dt_cmp (od_ne (room64 hr)) (de_gint (by rfl) G.c_MOST_NUMBER) de_int (by rfl))))))) (dss_one (ds_ret de_bl)) dss_nil) (dss_cons (ds_set nd rfl (.inl rfl) (de_call C__law_gcd (hr.mono (by decide)) (by rfl) (takes_of rfl rfl rfl rfl) (da_cons (de_bin od_sub (de_ix (dv 3) de_int) (de_ix (dv 4) de_int)) (da_cons (de_bin od_sub (de_ix (dv 3) de_int) (de_ix (dv 4) de_int)) da_nil)))) (dss_cons (ds_if (dt_w (dw_or (dt_cmp (od_ne (room64 hr)) (de_call C_steps (hr.mono (by decide)) (by rfl) (takes_of rfl rfl rfl rfl) (da_cons (dv 3) (da_cons (dv 4) da_nil))) (dv 7) (by rfl)) (dw_or1 (dt_cmp (od_ne (room64 hr)) (de_call C_divisor (hr.mono (by decide)) (by rfl) (takes_of rfl rfl rfl rfl) (da_cons (de_ix (dv 3) de_int) (da_cons (de_ix (dv 3) de_int) da_nil))) (de_call C__law_gcd (hr.mono (by decide)) (by rfl) (takes_of rfl rfl rfl rfl) (da_cons (de_ix (dv 3) de_int) (da_cons (de_ix (dv 3) de_int) da_nil))) (by rfl))))) (dss_one (ds_ret de_bl)) dss_nil) (dss_cons (ds_set nd rfl (.inr rfl) (de_tup (da_cons (de_bin od_sub (de_call C__law_take (hr.mono (by decide)) (by rfl) (takes_of rfl rfl rfl rfl) (da_cons (dv 1) (da_cons de_int da_nil))) de_int) (da_cons (de_bin od_sub (de_call C__law_take (hr.mono (by decide)) (by rfl) (takes_of rfl rfl rfl rfl) (da_cons (dv 1) (da_cons de_int da_nil))) de_int) da_nil)))) (dss_cons (ds_set nd rfl (.inr rfl) (de_call C_between (hr.mono (by decide)) (by rfl) (takes_of rfl rfl rfl rfl) (da_cons (dv 5) (da_cons (dv 8) da_nil)))) (dss_cons (ds_set nd rfl (.inl rfl) (de_lst da_nil)) (dss_cons (ds_for (passes_of rfl) rfl (di_rng2 false (by rfl) B.range (de_blt (cd_min rfl) (by rfl) B.min PyProof.Rows.boot_min (da_cons (de_ix (dv 5) de_int) (da_cons (de_ix (dv 8) de_int) da_nil))) (de_bin od_add (de_blt (cd_max rfl) (by rfl) B.max PyProof.Rows.boot_max (da_cons (de_ix (dv 5) de_int) (da_cons (de_ix (dv 8) de_int) da_nil))) de_int)) (dg_name nd rfl (.inr rfl)) (dss_one (ds_set nd rfl (.inl rfl) (de_bin od_add (dv 10) (de_lc1 (own := [("y", 12)]) rfl nd (di_rng2 true (by rfl) B.range (de_blt (cd_min rfl) (by rfl) B.min PyProof.Rows.boot_min (da_cons (de_ix (dv 5) de_int) (da_cons (de_ix (dv 8) de_int) da_nil))) (de_bin od_add (de_blt (cd_max rfl) (by rfl) B.max PyProof.Rows.boot_max (da_cons (de_ix (dv 5) de_int) (da_cons (de_ix (dv 8) de_int) da_nil))) de_int)) (blkOk_by (N := N_law) (sc := (defScope s_law)) (own := [("y", 12)]) (by decide +kernel)) rfl (fun _ _ _ _ _ => (dg_name nd rfl (.inl rfl))) (fun _ _ _ _ _ => (dt_cmp (od_eq (room64 hr)) (de_call C__law_side (hr.mono (by decide)) (by rfl) takes0 (da_cons (dv 5) (da_cons (dv 8) (da_cons (de_tup (da_cons (dv 11) (da_cons (dv 12) da_nil))) da_nil)))) de_int (by rfl))) (fun _ _ _ _ _ => (de_tup (da_cons (dv 11) (da_cons (dv 12) da_nil))))))))) (dss_cons (ds_if (dt_w (dw_or (dt_cmp (od_ne (room64 hr)) (de_blt (cd_sorted (room64 hr)) (by rfl) B.sorted PyProof.Rows.boot_sorted (da_cons (dv 9) da_nil)) (de_blt (cd_sorted (room64 hr)) (by rfl) B.sorted PyProof.Rows.boot_sorted (da_cons (dv 10) da_nil)) (by rfl)) (dw_or (dt_cmp (od_ne (room64 hr)) (de_ix (dv 9) de_int) (dv 5) (by rfl)) (dw_or (dt_cmp (od_ne (room64 hr)) (de_ix (dv 9) (de_neg de_int)) (dv 8) (by rfl)) (dw_or1 (dt_cmp od_gt (de_blt cd_len (by rfl) B.len boot_len (da_cons (de_lc1 (own := [("k", 13)]) rfl nd (di_rng2 true (by rfl) B.range de_int (de_blt cd_len (by rfl) B.len boot_len (da_cons (dv 9) da_nil))) (blkOk_by (N := N_law) (sc := (defScope s_law)) (own := [("k", 13)]) (by decide +kernel)) rfl (fun _ _ _ _ _ => (dg_name nd rfl (.inl rfl))) (fun _ _ _ _ _ => (dt_cmp (od_ne (room64 hr)) (de_call C__law_less (hr.mono (by decide)) (by rfl) takes0 (da_cons (de_ix (dv 9) (dv 13)) (da_cons (de_ix (dv 9) (de_bin od_sub (dv 13) de_int)) da_nil))) (de_call C__law_less (hr.mono (by decide)) (by rfl) takes0 (da_cons (de_ix (dv 9) de_int) (da_cons (de_ix (dv 9) de_int) da_nil))) (by rfl))) (fun _ _ _ _ _ => (dv 13))) da_nil)) de_int (by rfl))))))) (dss_one (ds_ret de_bl)) dss_nil) (dss_cons (ds_par2 gm_dat gm_dat rfl nd rfl rfl (by decide) rfl rfl (da_cons (de_call C__law_move (hr.mono (by decide)) (by rfl) (takes_of rfl rfl rfl rfl) (da_cons (dv 1) da_nil)) (da_cons (de_call C__law_move (hr.mono (by decide)) (by rfl) (takes_of rfl rfl rfl rfl) (da_cons (dv 1) da_nil)) da_nil)) (by with_unfolding_all rfl)) (dss_cons (ds_if (dt_w (dw_or (dt_cmp (od_ne (room64 hr)) (de_call C_moved (hr.mono (by decide)) (by rfl) (takes_of rfl rfl rfl rfl) (da_cons (dv 14) (da_cons (dv 3) da_nil))) (de_call C__law_done (hr.mono (by decide)) (by rfl) (takes_of rfl rfl rfl rfl) (da_cons (dv 14) (da_cons (dv 3) da_nil))) (by rfl)) (dw_or (dt_cmp (od_ne (room64 hr)) (de_call0 C_stays (hr.mono (by decide)) (by rfl) (takes_of rfl rfl rfl rfl)) (de_tup (da_cons (de_tup (da_cons de_int (da_cons de_int da_nil))) (da_cons (de_tup (da_cons de_int (da_cons de_int da_nil))) (da_cons (de_tup (da_cons de_int (da_cons de_int da_nil))) da_nil)))) (by rfl)) (dw_or (dt_cmp (od_ne (room64 hr)) (de_call C_moved (hr.mono (by decide)) (by rfl) (takes_of rfl rfl rfl rfl) (da_cons (de_call0 C_stays (hr.mono (by decide)) (by rfl) (takes_of rfl rfl rfl rfl)) (da_cons (dv 3) da_nil))) (dv 3) (by rfl)) (dw_or1 (dt_cmp (od_ne (room64 hr)) (de_call C_is_turning (hr.mono (by decide)) (by rfl) (takes_of rfl rfl rfl rfl) (da_cons (dv 14) da_nil)) (de_cmp (od_eq (room64 hr)) (de_call C__law_cross (hr.mono (by decide)) (by rfl) (takes_of rfl rfl rfl rfl) (da_cons (de_ix (dv 14) de_int) (da_cons (de_ix (dv 14) de_int) da_nil))) de_int (by rfl)) (by rfl))))))) (dss_one (ds_ret de_bl)) dss_nil) (dss_cons (ds_par2 gm_dat gm_dat rfl nd rfl rfl (by decide) rfl rfl (da_cons (de_call C_after (hr.mono (by decide)) (by rfl) (takes_of rfl rfl rfl rfl) (da_cons (dv 14) (da_cons (dv 15) da_nil))) (da_cons (de_call C_undone (hr.mono (by decide)) (by rfl) (takes_of rfl rfl rfl rfl) (da_cons (dv 14) da_nil)) da_nil)) (by with_unfolding_all rfl)) (dss_cons (ds_for (passes_of rfl) rfl (di_seq false (de_tup (da_cons (dv 3) (da_cons (dv 4) (da_cons (de_tup (da_cons de_int (da_cons de_int da_nil))) (da_cons (de_tup (da_cons de_int (da_cons de_int da_nil))) (da_cons (de_tup (da_cons de_int (da_cons de_int da_nil))) da_nil))))))) (dg_name nd rfl (.inl rfl)) (dss_one (ds_if (dt_w (dw_or (dt_cmp (od_ne (room64 hr)) (de_call C__law_done (hr.mono (by decide)) (by rfl) (takes_of rfl rfl rfl rfl) (da_cons (dv 16) (da_cons (dv 18) da_nil))) (de_call C__law_done (hr.mono (by decide)) (by rfl) (takes_of rfl rfl rfl rfl) (da_cons (dv 15) (da_cons (de_call C__law_done (hr.mono (by decide)) (by rfl) (takes_of rfl rfl rfl rfl) (da_cons (dv 14) (da_cons (dv 18) da_nil))) da_nil))) (by rfl)) (dw_or1 (dt_cmp (od_ne (room64 hr)) (de_call C__law_done (hr.mono (by decide)) (by rfl) (takes_of rfl rfl rfl rfl) (da_cons (dv 17) (da_cons (de_call C__law_done (hr.mono (by decide)) (by rfl) (takes_of rfl rfl rfl rfl) (da_cons (dv 14) (da_cons (dv 18) da_nil))) da_nil))) (dv 18) (by rfl))))) (dss_one (ds_ret de_bl)) dss_nil))) (dss_cons (ds_if (dt_w (dw_or (dt_not (dt_tru (de_call C__law_is_move (hr.mono (by decide)) (by rfl) (takes_of rfl rfl rfl rfl) (da_cons (dv 16) da_nil)))) (dw_or (dt_not (dt_tru (de_call C__law_is_move (hr.mono (by decide)) (by rfl) (takes_of rfl rfl rfl rfl) (da_cons (dv 17) da_nil)))) (dw_or1 (dt_cmp (od_ne (room64 hr)) (de_call C_after (hr.mono (by decide)) (by rfl) (takes_of rfl rfl rfl rfl) (da_cons (dv 14) (da_cons (dv 17) da_nil))) (de_call0 C_stays (hr.mono (by decide)) (by rfl) (takes_of rfl rfl rfl rfl)) (by rfl)))))) (dss_one (ds_ret de_bl)) dss_nil) (dss_cons (ds_parT rfl (da_cons (de_bin od_sub (de_call C__law_take (hr.mono (by decide)) (by rfl) (takes_of rfl rfl rfl rfl) (da_cons (dv 1) (da_cons de_int da_nil))) de_int) (da_cons (de_bin od_sub (de_call C__law_take (hr.mono (by decide)) (by rfl) (takes_of rfl rfl rfl rfl) (da_cons (dv 1) (da_cons de_int da_nil))) de_int) da_nil)) (dgm_cons (dgm_dat (dg_name nd rfl (.inr rfl))) (dgm_cons (dgm_dat (dg_name nd rfl (.inl rfl))) dgm_nil))) (dss_cons (ds_asg (de_call C_shares (hr.mono (by decide)) (by rfl) (takes_of rfl rfl rfl rfl) (da_cons (dv 11) (da_cons (dv 12) da_nil))) (dg_tup rfl (dgs_cons (dg_name nd rfl (.inl rfl)) (dgs_cons (dg_name nd rfl (.inl rfl)) dgs_nil)))) (dss_cons (ds_if (dt_cmp (od_ne (room64 hr)) (de_bin od_add (de_bin od_mul (dv 19) (dv 11)) (de_bin od_mul (dv 20) (dv 12))) (de_call C__law_gcd (hr.mono (by decide)) (by rfl) (takes_of rfl rfl rfl rfl) (da_cons (dv 11) (da_cons (dv 12) da_nil))) (by rfl)) (dss_one (ds_ret de_bl)) dss_nil) (dss_cons (ds_if (dt_w (dw_or (dt_cmp (od_ne (room64 hr)) (dv 11) de_int (by rfl)) (dw_or1 (dt_cmp (od_ne (room64 hr)) (dv 12) de_int (by rfl))))) (dss_cons (ds_set nd rfl (.inl rfl) (de_call C__law_gcd (hr.mono (by decide)) (by rfl) (takes_of rfl rfl rfl rfl) (da_cons (dv 11) (da_cons (dv 12) da_nil)))) (dss_cons (ds_set nd rfl (.inl rfl) (de_tup (da_cons (de_bin od_fdiv (dv 11) (dv 21)) (da_cons (de_bin od_fdiv (dv 12) (dv 21)) da_nil)))) (dss_cons (ds_set nd rfl (.inl rfl) (de_call C_move_to_first (hr.mono (by decide)) (by rfl) (takes_of rfl rfl rfl rfl) (da_cons (dv 22) da_nil))) (dss_one (ds_if (dt_w (dw_or (dt_cmp (od_ne (room64 hr)) (de_call C_least_step (hr.mono (by decide)) (by rfl) (takes_of rfl rfl rfl rfl) (da_cons (de_tup (da_cons (dv 11) (da_cons (dv 12) da_nil))) da_nil)) (dv 22) (by rfl)) (dw_or (dt_cmp (od_ne (room64 hr)) (de_call C__law_done (hr.mono (by decide)) (by rfl) (takes_of rfl rfl rfl rfl) (da_cons (dv 23) (da_cons (dv 22) da_nil))) (de_tup (da_cons de_int (da_cons de_int da_nil))) (by rfl)) (dw_or (dt_cmp (od_ne (room64 hr)) (de_call C__law_cross (hr.mono (by decide)) (by rfl) (takes_of rfl rfl rfl rfl) (da_cons (de_ix (dv 23) de_int) (da_cons (de_ix (dv 23) de_int) da_nil))) de_int (by rfl)) (dw_or1 (dt_cmp (od_ne (room64 hr)) (de_ix (dv 23) de_int) (de_tup (da_cons de_int (da_cons de_int da_nil))) (by rfl))))))) (dss_one (ds_ret de_bl)) dss_nil))))) dss_nil) (dss_cons (ds_for (passes_of rfl) rfl (di_seq false (de_lst (da_cons (dv 3) (da_cons (de_ty cd_list (by rfl) B.list_ PyProof.Rows.boot_list (da_cons (dv 3) da_nil)) (da_cons (de_bin od_add (dv 3) (de_tup (da_cons de_int da_nil))) (da_cons de_non (da_cons (de_tup (da_cons de_int (da_cons de_int da_nil))) (da_cons (de_tup (da_cons de_bl (da_cons de_int da_nil))) (da_cons (de_tup (da_cons de_str (da_cons de_int da_nil))) (da_cons (de_tup (da_cons (de_neg de_int) (da_cons de_int da_nil))) da_nil)))))))))) (dg_name nd rfl (.inl rfl)) (dss_one (ds_if (dt_cmp (od_ne (room64 hr)) (de_call C_is_point (hr.mono (by decide)) (by rfl) (takes_of rfl rfl rfl rfl) (da_cons (dv 24) da_nil)) (de_call C__law_is_point (hr.mono (by decide)) (by rfl) (takes_of rfl rfl rfl rfl) (da_cons (dv 24) da_nil)) (by rfl)) (dss_one (ds_ret de_bl)) dss_nil))) (dss_cons (ds_for (passes_of rfl) rfl (di_seq false (de_lst (da_cons (dv 14) (da_cons (de_ty cd_list (by rfl) B.list_ PyProof.Rows.boot_list (da_cons (dv 14) da_nil)) (da_cons (de_sl (dv 14) do_none (do_some de_int)) (da_cons (de_tup (da_cons (de_tup (da_cons de_int (da_cons de_int da_nil))) (da_cons (de_tup (da_cons de_int (da_cons de_int da_nil))) (da_cons (de_tup (da_cons de_int (da_cons de_int da_nil))) da_nil)))) (da_cons (de_tup (da_cons (de_tup (da_cons de_int (da_cons de_int da_nil))) (da_cons (de_tup (da_cons de_int (da_cons de_int da_nil))) (da_cons de_non da_nil)))) (da_cons de_non (da_cons (de_tup (da_cons (de_tup (da_cons de_int (da_cons de_int da_nil))) (da_cons (de_tup (da_cons de_int (da_cons de_int da_nil))) (da_cons (de_tup (da_cons de_int (da_cons de_int da_nil))) da_nil)))) (da_cons (de_tup (da_cons (de_tup (da_cons de_int (da_cons de_int da_nil))) (da_cons (de_tup (da_cons de_int (da_cons de_int da_nil))) (da_cons (de_tup (da_cons de_int (da_cons de_int da_nil))) da_nil)))) (da_cons (de_tup (da_cons (de_ix (dv 14) de_int) (da_cons (de_ix (dv 14) de_int) (da_cons (de_ix (dv 14) de_int) da_nil)))) da_nil))))))))))) (dg_name nd rfl (.inl rfl)) (dss_one (ds_if (dt_cmp (od_ne (room64 hr)) (de_call C_is_move (hr.mono (by decide)) (by rfl) (takes_of rfl rfl rfl rfl) (da_cons (dv 24) da_nil)) (de_call C__law_is_move (hr.mono (by decide)) (by rfl) (takes_of rfl rfl rfl rfl) (da_cons (dv 24) da_nil)) (by rfl)) (dss_one (ds_ret de_bl)) dss_nil))) (dss_cons (ds_if (dt_cmp (od_ne (room64 hr)) (de_lst (da_cons (de_call C_is_whole (hr.mono (by decide)) (by rfl) (takes_of rfl rfl rfl rfl) (da_cons de_int (da_cons de_int (da_cons de_int da_nil)))) (da_cons (de_call C_is_whole (hr.mono (by decide)) (by rfl) (takes_of rfl rfl rfl rfl) (da_cons de_int (da_cons de_int (da_cons de_int da_nil)))) (da_cons (de_call C_is_whole (hr.mono (by decide)) (by rfl) (takes_of rfl rfl rfl rfl) (da_cons de_bl (da_cons de_int (da_cons de_int da_nil)))) da_nil)))) (de_lst (da_cons de_bl (da_cons de_bl (da_cons de_bl da_nil)))) (by rfl)) (dss_one (ds_ret de_bl)) dss_nil) (dss_one (ds_ret (de_and (de_cmp (od_eq (room64 hr)) (de_call C__law_word hr (by rfl) (takes_of rfl rfl rfl rfl) (da_cons de_int da_nil)) de_str (by rfl)) (de_one (de_cmp (od_eq (room64 hr)) (de_call C__law_word hr (by rfl) (takes_of rfl rfl rfl rfl) (da_cons de_int da_nil)) de_str (by rfl))))))))))))))))))))))))))))))
end
end L01
end

section
set_option Elab.async false
set_option linter.all false
set_option maxRecDepth 100000
set_option maxHeartbeats 4000000
namespace L01
open PySem PySem.Spec L2 Pw
section
variable {a b c d e f m : Int} {Q : Out SV → Prop}
@[simp] theorem plus_e : w_plus [.d (pt a b), .d (pt c d)] Q = Q (.val (.d (pt (a + c) (b + d)))) := by
  unfold w_plus; rw [w_fn]; simp [b_plus]
@[simp] theorem less_e : w_less [.d (pt a b), .d (pt c d)] Q = Q (.val (.d (pt (a - c) (b - d)))) := by
  unfold w_less; rw [w_fn]; simp [b_less]
@[simp] theorem lless_e : w__law_less [.d (pt a b), .d (pt c d)] Q = Q (.val (.d (pt (a - c) (b - d)))) := by
  unfold w__law_less; rw [w_fn]; simp [b__law_less]
@[simp] theorem times_e : w_times [.d (pt a b), .d (.int m)] Q = (MulOk a m ∧ MulOk b m ∧ Q (.val (.d (pt (a * m) (b * m))))) := by
  unfold w_times; rw [w_fn]; simp [b_times]
@[simp] theorem cross_e : w_cross [.d (pt a b), .d (pt c d)] Q = (MulOk a d ∧ MulOk b c ∧ Q (.val (.d (.int (a * d - b * c))))) := by
  unfold w_cross; rw [w_fn]; simp [b_cross]
@[simp] theorem lcross_e : w__law_cross [.d (pt a b), .d (pt c d)] Q = (MulOk a d ∧ MulOk b c ∧ Q (.val (.d (.int (a * d - b * c))))) := by
  unfold w__law_cross; rw [w_fn]; simp [b__law_cross]
@[simp] theorem dot_e : w_dot [.d (pt a b), .d (pt c d)] Q = (MulOk a c ∧ MulOk b d ∧ Q (.val (.d (.int (a * c + b * d))))) := by
  unfold w_dot; rw [w_fn]; simp [b_dot]
@[simp] theorem side_e : w_side [.d (pt a b), .d (pt c d), .d (pt e f)] Q = (MulOk (c - a) (f - b) ∧ MulOk (d - b) (e - a) ∧ Q (.val (.d (.int ((c - a) * (f - b) - (d - b) * (e - a)))))) := by
  unfold w_side; rw [w_fn]; simp [b_side]
@[simp] theorem lside_e : w__law_side [.d (pt a b), .d (pt c d), .d (pt e f)] Q = (MulOk (c - a) (f - b) ∧ MulOk (d - b) (e - a) ∧ Q (.val (.d (.int ((c - a) * (f - b) - (d - b) * (e - a)))))) := by
  unfold w__law_side; rw [w_fn]; simp [b__law_side]
theorem sign_ok (h : Q (.val (.d (.int (if 0 < m then 1 else if m = 0 then 0 else -1))))) : w_sign [.d (.int m)] Q := by
  unfold w_sign; rw [w_fn]; simp [b_sign]
  by_cases h1 : 0 < m
  · rw [if_pos h1] at h; simp [h1]; exact h
  · rw [if_neg h1] at h
    by_cases h2 : m = 0
    · rw [if_pos h2] at h; simp [h2]; exact h
    · rw [if_neg h2] at h; simp [h1, h2]; exact h
/-! gcd -/
theorem divisor_ok (h : Q (.val (.d (.int (Int.gcd a b : Nat))))) : w_divisor [.d (.int a), .d (.int b)] Q := by
  unfold w_divisor; rw [w_fn]; simp [b_divisor]
  refine while_ok (fun ρ => ∃ x y : Int, ρ = [some (.d (.int x)), some (.d (.int y))] ∧ 0 ≤ x ∧ 0 ≤ y ∧ Int.gcd x y = Int.gcd a b) (fun ρ => match (ρ[1]? : Option (Option SV)) with
    | some (some (.d (.int y))) => y.toNat
    | _ => 0) ⟨_, _, rfl, by omega, by omega, rfl⟩ fun ρ ⟨x, y, e, h1, h2, h3⟩ => ?_
  subst e
  by_cases hy : y = 0
  · refine .inl ⟨fun T hT => by simp [hy]; exact hT, ?_⟩
    simp
    subst hy
    rw [Int.gcd_zero_right] at h3
    rw [← h3] at h
    have : (x.natAbs : Int) = x := by omega
    rw [this] at h
    exact h
  · refine .inr ⟨fun T hT => by simp [hy]; exact hT, fun T hT => ?_⟩
    simp [hy]
    have hp : 0 < y := by omega
    have f1 := Int.fmod_nonneg_of_pos x hp
    have f2 := Int.fmod_lt_of_pos x hp
    exact hT _ ⟨_, _, rfl, h2, f1, by rw [gcd_step, h3]⟩ (by show (x.fmod y).toNat < y.toNat; omega)
theorem lgcd_ok (hb : Bd 90 b) (h : Q (.val (.d (.int (Int.gcd a b : Nat))))) : w__law_gcd [.d (.int a), .d (.int b)] Q := by
  unfold w__law_gcd; rw [w_fn]; simp [b__law_gcd, List.replicate]
  refine ⟨by rw [sizeLine_eq]; decide, ?_⟩
  have hb' : (b.natAbs : Int) < 2 ^ 90 := by unfold Bd at hb; omega
  refine for_full (fun k ρ => ∃ (x y : Int) (o : Option SV), ρ = [some (.d (.int x)), some (.d (.int y)), o] ∧ 0 ≤ x ∧ 0 ≤ y ∧ Int.gcd x y = Int.gcd a b ∧ (k = 0 → y < 2 ^ 90) ∧ (1 ≤ k → y < x ∧ x * y * 2 ^ k < 2 ^ 182))
    (fun ρ => ∃ (x : Int) (o : Option SV), ρ = [some (.d (.int x)), some (.d (.int 0)), o] ∧ 0 ≤ x ∧ Int.gcd x 0 = Int.gcd a b) (fun _ => False) _ ⟨_, _, _, rfl, by omega, by omega, rfl, fun _ => hb', fun h => absurd h (by decide)⟩ (fun k z ρ hz hI => ?_) (fun ρ hI => ?_) (fun ρ hJ => ?_) (fun r hr => hr.elim)
  · obtain ⟨x, y, o, rfl, h1, h2, h3, h4, h5⟩ := hI
    obtain ⟨rfl, hk⟩ := rngL_get hz
    refine ⟨_, rfl, fun T t1 t2 t3 _ => ?_⟩
    by_cases hy : y = 0
    · subst hy
      simp
      exact t3 _ ⟨_, _, rfl, h1, h3⟩
    · simp [hy]
      have hp : 0 < y := by omega
      have f1 := Int.fmod_nonneg_of_pos x hp
      have f2 := Int.fmod_lt_of_pos x hp
      refine t1 _ ⟨_, _, _, rfl, h2, f1, by rw [gcd_step, h3], fun h => absurd h (Nat.succ_ne_zero k), fun _ => ⟨f2, ?_⟩⟩
      have ex : x.fmod y = x - y * x.fdiv y := Int.fmod_def x y
      generalize x.fmod y = z at f1 f2 ex ⊢
      generalize x.fdiv y = w at ex
      have hq : 0 ≤ w ∨ w < 0 := by omega
      by_cases hk0 : k = 0
      · subst hk0
        have hy9 := h4 rfl
        have : y * z ≤ 2 ^ 90 * 2 ^ 90 := Int.mul_le_mul (by omega) (by omega) f1 (by decide)
        omega
      · obtain ⟨g1, g2⟩ := h5 (by omega)
        have hw : 1 ≤ w := by
          by_cases hw : 1 ≤ w
          · exact hw
          · have : y * w ≤ 0 := Int.mul_nonpos_of_nonneg_of_nonpos (by omega) (by omega)
            omega
        have hyw : y ≤ y * w := by
          have := Int.mul_le_mul_of_nonneg_left hw (show 0 ≤ y by omega)
          omega
        have hz : z * 2 ≤ x := by omega
        have e1 : y * z * 2 ^ (k + 1) = y * (z * 2) * 2 ^ k := by rw [Int.pow_succ]; grind
        rw [e1]
        have e2 : y * (z * 2) ≤ x * y := by
          have := Int.mul_le_mul_of_nonneg_left hz (show 0 ≤ y by omega)
          rw [Int.mul_comm x y]
          exact this
        have e3 := Int.mul_le_mul_of_nonneg_right e2 (show (0 : Int) ≤ 2 ^ k from Int.le_of_lt (Int.pow_pos (by decide)))
        omega
  · obtain ⟨x, y, o, rfl, h1, h2, h3, h4, h5⟩ := hI
    obtain ⟨g1, g2⟩ := h5 (by simp)
    have hy : y = 0 := by
      by_cases hy : y = 0
      · exact hy
      · exfalso
        have : 1 * 1 ≤ x * y := Int.mul_le_mul (by omega) (by omega) (by decide) (by omega)
        have := Int.mul_le_mul_of_nonneg_right this (show (0 : Int) ≤ 2 ^ (rngL 0 (Int.toNat 200)).length from Int.le_of_lt (Int.pow_pos (by decide)))
        rw [rngL_ln] at *
        have : (2 : Int) ^ (Int.toNat 200) = 2 ^ 200 := rfl
        omega
    subst hy
    simp
    rw [Int.gcd_zero_right] at h3
    rw [← h3] at h
    have : (x.natAbs : Int) = x := by omega
    rw [this] at h
    exact h
  · obtain ⟨x, o, rfl, h1, h3⟩ := hJ
    simp
    rw [Int.gcd_zero_right] at h3
    rw [← h3] at h
    have : (x.natAbs : Int) = x := by omega
    rw [this] at h
    exact h
end
end L01
end

section
set_option Elab.async false
set_option linter.all false
set_option maxRecDepth 100000
set_option maxHeartbeats 4000000
namespace L01
open PySem PySem.Spec L2 Pw
theorem fmod_neg_bd {x y : Int} (h : y < 0) : x.fmod y ≤ 0 ∧ y < x.fmod y := by
  have e : x.fmod y = -((-x).fmod (-y)) := by
    rw [Int.neg_fmod_neg]
    omega
  have h1 := Int.fmod_nonneg_of_pos (-x) (show 0 < -y by omega)
  have h2 := Int.fmod_lt_of_pos (-x) (show 0 < -y by omega)
  omega
theorem gcd_fmod_lt {x y : Int} (hy : y ≠ 0) : (x.fmod y).natAbs < y.natAbs := by
  rcases Int.lt_or_gt_of_ne hy with h | h
  · have := fmod_neg_bd (x := x) h
    omega
  · have h1 := Int.fmod_nonneg_of_pos x h
    have h2 := Int.fmod_lt_of_pos x h
    omega
theorem fdiv_le {x y : Int} (hy : y ≠ 0) : (x.fdiv y).natAbs ≤ x.natAbs := by
  have h1 := gcd_fmod_lt (x := x) hy
  have h2 : x.fmod y = x - y * x.fdiv y := Int.fmod_def x y
  by_cases h : (x.fdiv y).natAbs ≤ x.natAbs
  · exact h
  · exfalso
    have h3 : (y * x.fdiv y).natAbs = y.natAbs * (x.fdiv y).natAbs := Int.natAbs_mul ..
    have h4 : y.natAbs * (x.natAbs + 1) ≤ y.natAbs * (x.fdiv y).natAbs := Nat.mul_le_mul_left _ (by omega)
    have h5 : 1 * x.natAbs ≤ y.natAbs * x.natAbs := Nat.mul_le_mul_right _ (by omega)
    rw [Nat.mul_add] at h4
    omega
theorem _root_.Pw.Bd.add2 {n : Nat} {i j : Int} (h : Bd n i) (h' : Bd n j) : Bd (n + 1) (i + j) := by
  unfold Bd at *
  rw [Nat.pow_succ]
  omega
theorem Bd_sub2 {n : Nat} {i j : Int} (h : Bd n i) (h' : Bd n j) : Bd (n + 1) (i - j) := by
  unfold Bd at *
  rw [Nat.pow_succ]
  omega
theorem Bd_step {n k m : Nat} {s q u : Int} (h1 : Bd n s) (h2 : Bd k q) (h3 : Bd n u) (hm : k + n + 1 ≤ m) : Bd m (s - q * u) :=
  (Bd_sub2 (h1.up (by omega)) (h2.mul h3)).up hm
section
variable {a b c d e f m : Int} {Q : Out SV → Prop}
theorem shares_ok (ha : a.natAbs ≤ 1000) (hb : b.natAbs ≤ 1000) (h : ∀ p q : Int, p * a + q * b = (Int.gcd a b : Nat) → Bd 40000 p → Bd 40000 q → Q (.val (.d (pt p q)))) : w_shares [.d (.int a), .d (.int b)] Q := by
  unfold w_shares; rw [w_fn]; simp [b_shares, List.replicate]
  refine while_ok (fun ρ => ∃ (x s t y u v : Int) (o1 o2 : Option SV), ρ = [some (.d (.int a)), some (.d (.int b)), some (.d (.tuple [.int x, .int s, .int t])), some (.d (.tuple [.int y, .int u, .int v])), o1, o2] ∧
      x = s * a + t * b ∧ y = u * a + v * b ∧ Int.gcd x y = Int.gcd a b ∧ x.natAbs ≤ 1000 ∧ y.natAbs ≤ 1000 ∧ Bd (30 * (1000 - y.natAbs) + 1) s ∧ Bd (30 * (1000 - y.natAbs) + 1) t ∧ Bd (30 * (1000 - y.natAbs) + 1) u ∧ Bd (30 * (1000 - y.natAbs) + 1) v)
    (fun ρ => match (ρ[3]? : Option (Option SV)) with
    | some (some (.d (.tuple (.int y :: _)))) => y.natAbs
    | _ => 0) ⟨_, _, _, _, _, _, _, _, rfl, by omega, by omega, rfl, ha, hb, ?_, ?_, ?_, ?_⟩ fun ρ ⟨x, s, t, y, u, v, o1, o2, e, h1, h2, h3, h4, h5, b1, b2, b3, b4⟩ => ?_
  · exact Bd.up (n := 1) (by unfold Bd; decide) (by omega)
  · exact Bd.up (n := 1) (by unfold Bd; decide) (by omega)
  · exact Bd.up (n := 1) (by unfold Bd; decide) (by omega)
  · exact Bd.up (n := 1) (by unfold Bd; decide) (by omega)
  subst e
  by_cases hy : y = 0
  · refine .inl ⟨fun T hT => by simp [hy]; exact hT, ?_⟩
    simp
    subst hy
    have hg : (x.natAbs : Int) = (Int.gcd a b : Nat) := by rw [← h3, Int.gcd_zero_right]
    by_cases hx : 0 ≤ x
    · simp [hx]
      exact h s t (by rw [← hg]; omega) (b1.up (by omega)) (b2.up (by omega))
    · simp [hx]
      refine h (-s) (-t) ?_ (b1.neg.up (by omega)) (b2.neg.up (by omega))
      rw [← hg, Int.neg_mul, Int.neg_mul]
      omega
  · refine .inr ⟨fun T hT => by simp [hy]; exact hT, fun T hT => ?_⟩
    have f1 := gcd_fmod_lt (x := x) hy
    have f2 := fdiv_le (x := x) hy
    have f3 : x.fmod y = x - y * x.fdiv y := Int.fmod_def x y
    have f4 := gcd_step x y
    have bd : Bd 10 (x.fdiv y) := by unfold Bd; omega
    have m1 : MulOk (x.fdiv y) y := bd.mulOk (m := 10) (by unfold Bd; omega)
    have m2 : MulOk (x.fdiv y) u := bd.mulOk b3 (by omega)
    have m3 : MulOk (x.fdiv y) v := bd.mulOk b4 (by omega)
    simp [hy, DivOk, rngL, List.range_succ, lc_cons, wipeD, m1, m2, m3]
    refine ⟨by omega, by rw [sizeLine_eq]; decide, ?_⟩
    rw [Int.mul_comm] at f3
    rw [← f3]
    refine hT _ ⟨_, _, _, _, _, _, _, _, rfl, h2, ?_, by rw [f4, h3], h5, by omega, b3.up (by omega), b4.up (by omega), ?_, ?_⟩ f1
    · rw [f3, h1, h2]
      grind
    · exact Bd_step b1 bd b3 (by omega)
    · exact Bd_step b2 bd b4 (by omega)
/-! moves -/
abbrev mv (a b c d e f : Int) : PyData := .tuple [pt a b, pt c d, pt e f]
variable {a' b' c' d' e' f' x y : Int}
@[simp] theorem done_e : w__law_done [.d (mv a b c d e f), .d (pt x y)] Q = (MulOk a x ∧ MulOk b y ∧ MulOk c x ∧ MulOk d y ∧ Q (.val (.d (pt (a * x + b * y + e) (c * x + d * y + f))))) := by
  unfold w__law_done; rw [w_fn]; simp [b__law_done, and_assoc]
@[simp] theorem moved_e : w_moved [.d (mv a b c d e f), .d (pt x y)] Q = (MulOk a x ∧ MulOk b y ∧ MulOk c x ∧ MulOk d y ∧ Q (.val (.d (pt (a * x + b * y + e) (c * x + d * y + f))))) := by
  unfold w_moved; rw [w_fn]; simp [b_moved, List.replicate, and_assoc]
@[simp] theorem stays_e : w_stays [] Q = Q (.val (.d (mv 1 0 0 1 0 0))) := by
  unfold w_stays; rw [w_fn]; simp [b_stays]
@[simp] theorem turning_e : w_is_turning [.d (mv a b c d e f)] Q = (MulOk a d ∧ MulOk b c ∧ Q (.val (.d (.bool (decide (a * d - b * c = 1)))))) := by
  unfold w_is_turning; rw [w_fn]; simp [b_is_turning]
theorem after_ok (ha : Bd 30 a) (hb : Bd 30 b) (hc : Bd 30 c) (hd : Bd 30 d) (he : Bd 30 e) (hf : Bd 30 f) (ha' : Bd 30 a') (hb' : Bd 30 b') (hc' : Bd 30 c') (hd' : Bd 30 d')
    (h : Q (.val (.d (mv (a' * a + b' * c) (a' * b + b' * d) (c' * a + d' * c) (c' * b + d' * d) (a' * e + b' * f + e') (c' * e + d' * f + f'))))) : w_after [.d (mv a b c d e f), .d (mv a' b' c' d' e' f')] Q := by
  unfold w_after; rw [w_fn]
  simp [b_after, List.replicate, cutD, HT.sIx, f_cons, ha'.mulOk ha, hb'.mulOk hc, ha'.mulOk hb, hb'.mulOk hd, hc'.mulOk ha, hd'.mulOk hc, hc'.mulOk hb, hd'.mulOk hd, ha'.mulOk he, hb'.mulOk hf, hc'.mulOk he, hd'.mulOk hf]
  exact ⟨by rw [sizeLine_eq]; decide, by rw [sizeLine_eq]; decide, h⟩
theorem undone_ok (ha : Bd 30 a) (hb : Bd 30 b) (hc : Bd 30 c) (hd : Bd 30 d) (he : Bd 30 e) (hf : Bd 30 f)
    (h : ∀ s : Int, s = a * d - b * c → Q (.val (.d (mv (d * s) (-(b * s)) (-(c * s)) (a * s) (-(d * s * e + -(b * s) * f)) (-(-(c * s) * e + a * s * f)))))) : w_undone [.d (mv a b c d e f)] Q := by
  unfold w_undone; rw [w_fn]
  simp [b_undone, List.replicate]
  have hs : Bd 200 (a * d - b * c) := ((ha.mul hd).sub (hb.mul hc)).up (by decide)
  exact ⟨ha.mulOk hd, hb.mulOk hc, hd.mulOk hs, hb.mulOk hs, hc.mulOk hs, ha.mulOk hs, (hd.mul hs).mulOk he, (hb.mul hs).neg.mulOk hf, (hc.mul hs).neg.mulOk he, (ha.mul hs).mulOk hf, h _ rfl⟩
theorem lmove_ok (h : ∀ a b c d e f : Int, (a * d - b * c = 1 ∨ a * d - b * c = -1) → a.natAbs ≤ 81 → b.natAbs ≤ 81 → c.natAbs ≤ 81 → d.natAbs ≤ 81 → -4 ≤ e → e ≤ 4 → -4 ≤ f → f ≤ 4 → Q (.val (.d (mv a b c d e f)))) : w__law_move [.st] Q := by
  unfold w__law_move; rw [w_fn]
  simp [b__law_move, List.replicate]
  refine take_ok (by decide) (by decide) fun n n0 n1 => ?_
  simp
  refine ⟨⟨by omega, by rw [sizeLine_eq]; omega⟩, ?_⟩
  refine for_ok (fun k ρ => ∃ (a b c d : Int) (o2 o3 o4 o5 o6 : Option SV), ρ = [some .st, some (.own [.list [.int a, .int b], .list [.int c, .int d]]), o2, o3, o4, o5, o6] ∧ (a * d - b * c = 1 ∨ a * d - b * c = -1) ∧ a.natAbs ≤ 3 ^ k ∧ b.natAbs ≤ 3 ^ k ∧ c.natAbs ≤ 3 ^ k ∧ d.natAbs ≤ 3 ^ k)
    _ ⟨_, _, _, _, _, _, _, _, _, rfl, by decide, by decide, by decide, by decide, by decide⟩ (fun k z ρ hz hI => ?_) (fun ρ hI => ?_)
  · obtain ⟨a, b, c, d, o2, o3, o4, o5, o6, rfl, hd, b1, b2, b3, b4⟩ := hI
    obtain ⟨rfl, hk⟩ := rngL_get hz
    refine ⟨_, rfl, fun T t1 _ => ?_⟩
    simp
    refine take_ok (by decide) (by decide) fun s s0 s1 => ?_
    simp
    refine take_ok (by decide) (by decide) fun t t0 t1' => ?_
    have hst : (t - 2).natAbs ≤ 2 := by omega
    have h3 : 3 ^ (k + 1) = 3 ^ k * 3 := Nat.pow_succ ..
    have h81 : 3 ^ k ≤ 3 ^ 4 := Nat.pow_le_pow_right (by decide) (by omega)
    have nx : ∀ {p q : Int}, p.natAbs ≤ 3 ^ k → q.natAbs ≤ 3 ^ k → (p + (t - 2) * q).natAbs ≤ 3 ^ (k + 1) := fun {p q} hp hq => by
      have h1 : ((t - 2) * q).natAbs = (t - 2).natAbs * q.natAbs := Int.natAbs_mul ..
      have h2 : (t - 2).natAbs * q.natAbs ≤ 2 * 3 ^ k := Nat.mul_le_mul hst hq
      omega
    have up : ∀ {p : Int}, p.natAbs ≤ 3 ^ k → p.natAbs ≤ 3 ^ (k + 1) := fun hp => by omega
    have upn : ∀ {p : Int}, p.natAbs ≤ 3 ^ k → (-p).natAbs ≤ 3 ^ (k + 1) := fun hp => by omega
    have mm : ∀ {q : Int}, q.natAbs ≤ 3 ^ k → Pw.MulOk (t - 2) q := fun hq => mulOk_lt (by omega) (by omega) (by omega) (by omega)
    have m1 := mm b1
    have m2 := mm b2
    have m3 := mm b3
    have m4 := mm b4
    obtain rfl | rfl | rfl | rfl : s = 0 ∨ s = 1 ∨ s = 2 ∨ s = 3 := by omega
    · simp [lc_cons, wipeD, m3, m4, ixN]
      refine t1 _ ⟨_, _, _, _, _, _, _, _, _, rfl, ?_, nx b1 b3, nx b2 b4, up b3, up b4⟩
      have : (a + (t - 2) * c) * d - (b + (t - 2) * d) * c = a * d - b * c := by grind
      rw [this]
      exact hd
    · simp [lc_cons, wipeD, m1, m2, ixN]
      refine t1 _ ⟨_, _, _, _, _, _, _, _, _, rfl, ?_, up b1, up b2, nx b3 b1, nx b4 b2⟩
      have : a * (d + (t - 2) * b) - b * (c + (t - 2) * a) = a * d - b * c := by grind
      rw [this]
      exact hd
    · simp
      refine t1 _ ⟨_, _, _, _, _, _, _, _, _, rfl, ?_, up b3, up b4, up b1, up b2⟩
      have : c * b - d * a = -(a * d - b * c) := by grind
      rw [this]
      omega
    · simp [lc_cons, wipeD, ixN]
      refine t1 _ ⟨_, _, _, _, _, _, _, _, _, rfl, ?_, upn b1, upn b2, up b3, up b4⟩
      have : -a * d - -b * c = -(a * d - b * c) := by grind
      rw [this]
      omega
  · obtain ⟨a, b, c, d, o2, o3, o4, o5, o6, rfl, hd, b1, b2, b3, b4⟩ := hI
    rw [rngL_ln] at b1 b2 b3 b4
    have h81 : 3 ^ n.toNat ≤ 81 := Nat.pow_le_pow_right (by decide) (show n.toNat ≤ 4 by omega)
    simp
    refine take_ok (by decide) (by decide) fun s s0 s1 => ?_
    simp
    refine take_ok (by decide) (by decide) fun t t0 t1' => ?_
    simp
    exact h _ _ _ _ _ _ hd (Nat.le_trans b1 h81) (Nat.le_trans b2 h81) (Nat.le_trans b3 h81) (Nat.le_trans b4 h81) (by omega) (by omega) (by omega) (by omega)
end
end L01
end

section
set_option Elab.async false
set_option linter.all false
set_option maxRecDepth 100000
set_option maxHeartbeats 4000000
namespace L01
open PySem PySem.Spec L2 Pw
section
variable {a b c d e f m : Int} {Q : Out SV → Prop}
theorem steps_ok (h : Q (.val (.d (.int (Int.gcd (a - c) (b - d) : Nat))))) : w_steps [.d (pt a b), .d (pt c d)] Q := by
  unfold w_steps; rw [w_fn]; simp [b_steps]
  exact divisor_ok (by simp; exact h)
/-- the points of between -/
def betw (a b c d : Int) : List (Int × Int) := (List.range (Int.gcd (c - a) (d - b) + 1)).map fun (k : Nat) => (a + (c - a).fdiv (Int.gcd (c - a) (d - b) : Nat) * k, b + (d - b).fdiv (Int.gcd (c - a) (d - b) : Nat) * k)
theorem between_ok (h1 : (c - a).natAbs ≤ 1000) (h2 : (d - b).natAbs ≤ 1000) (h : Q (.val (.own ((betw a b c d).map mkp)))) : w_between [.d (pt a b), .d (pt c d)] Q := by
  unfold w_between; rw [w_fn]; simp [b_between, List.replicate]
  refine steps_ok ?_
  have hg : Int.gcd (a - c) (b - d) = Int.gcd (c - a) (d - b) := by
    rw [← Int.neg_gcd, ← Int.gcd_neg, show -(a - c) = c - a by omega, show -(b - d) = d - b by omega]
  rw [hg]
  unfold betw at h
  have hle : Int.gcd (c - a) (d - b) ≤ 1000 := by
    by_cases h0 : c - a = 0
    · by_cases h3 : d - b = 0
      · rw [h0, h3]; decide
      · exact Nat.le_trans (Nat.le_of_dvd (by omega) (Int.gcd_dvd_natAbs_right (c - a) (d - b))) h2
    · exact Nat.le_trans (Nat.le_of_dvd (by omega) (Int.gcd_dvd_natAbs_left (c - a) (d - b))) h1
  generalize hG : Int.gcd (c - a) (d - b) = g at h hle ⊢
  by_cases h0 : g = 0
  · subst h0
    simp
    have := Int.gcd_eq_zero_iff.mp hG
    rw [this.1, this.2] at h
    simp [mkp] at h
    exact h
  · have hgz : ((g : Nat) : Int) ≠ 0 := by omega
    simp [hgz, DivOk, h0]
    refine ⟨by omega, ⟨by omega, by omega, by rw [sizeLine_eq]; omega⟩, ?_⟩
    refine lc_map (fun x => match x with
      | .int k => pt (a + (c - a).fdiv (g : Nat) * k) (b + (d - b).fdiv (g : Nat) * k)
      | x => x) _ _ (fun x hx => ?_) ?_
    · obtain ⟨k, hk, rfl⟩ := rngL_mem hx
      refine ⟨_, rfl, fun T hT => ?_⟩
      have f1 := fdiv_le (x := c - a) hgz
      have f2 := fdiv_le (x := d - b) hgz
      have b1 : Bd 10 ((c - a).fdiv (g : Nat)) := by unfold Bd; omega
      have b2 : Bd 10 ((d - b).fdiv (g : Nat)) := by unfold Bd; omega
      have b3 : Bd 10 (k : Int) := by unfold Bd; omega
      simp [wipeD, b1.mulOk b3, b2.mulOk b3]
      simpa using hT
    · simp [rngL] at h ⊢
      have e : (g : Int).toNat = g := by omega
      simpa [Function.comp_def, mkp] using h
end
end L01
end

section
set_option Elab.async false
set_option linter.all false
set_option maxRecDepth 100000
set_option maxHeartbeats 4000000
namespace L01
open PySem PySem.Spec L2 Pw
theorem bezout : ∀ (n : Nat) (a b : Int), b.natAbs ≤ n → ∃ p q : Int, p * a + q * b = (Int.gcd a b : Nat) := by
  intro n
  induction n with
  | zero =>
    intro a b h
    have : b = 0 := by omega
    subst this
    rw [Int.gcd_zero_right]
    by_cases h : 0 ≤ a
    · exact ⟨1, 0, by omega⟩
    · exact ⟨-1, 0, by omega⟩
  | succ n ih =>
    intro a b h
    by_cases hb : b = 0
    · exact ih a b (by omega)
    · have h1 := gcd_fmod_lt (x := a) hb
      obtain ⟨p, q, e⟩ := ih b (a.fmod b) (by omega)
      rw [gcd_step] at e
      rw [Int.fmod_def] at e
      exact ⟨q, p - q * a.fdiv b, by rw [← e]; grind⟩
theorem gcd_split (A B : Int) : ∃ sx sy : Int, A = sx * (Int.gcd A B : Nat) ∧ B = sy * (Int.gcd A B : Nat) ∧ ((Int.gcd A B : Nat) ≠ 0 → A.fdiv (Int.gcd A B : Nat) = sx ∧ B.fdiv (Int.gcd A B : Nat) = sy ∧ ∃ p q : Int, p * sx + q * sy = 1) := by
  obtain ⟨sx, e1⟩ := Int.gcd_dvd_left A B
  obtain ⟨sy, e2⟩ := Int.gcd_dvd_right A B
  refine ⟨sx, sy, by rw [Int.mul_comm]; exact e1, by rw [Int.mul_comm]; exact e2, fun h => ?_⟩
  have hz : ((Int.gcd A B : Nat) : Int) ≠ 0 := by omega
  refine ⟨?_, ?_, ?_⟩
  · exact Int.fdiv_eq_of_eq_mul_right hz e1
  · exact Int.fdiv_eq_of_eq_mul_right hz e2
  · obtain ⟨p, q, e⟩ := bezout _ A B (Nat.le_refl _)
    refine ⟨p, q, ?_⟩
    have : ((Int.gcd A B : Nat) : Int) * (p * sx + q * sy) = ((Int.gcd A B : Nat) : Int) * 1 := by
      rw [Int.mul_one]
      generalize ((Int.gcd A B : Nat) : Int) = g at *
      rw [← e]
      rw [e1, e2]
      grind
    exact Int.eq_of_mul_eq_mul_left hz this
/-- the points of the box that lie on the line -/
def scan (x0 y0 : Int) (nx ny : Nat) (f : Int → Int → Bool) : List (Int × Int) := (List.range nx).flatMap fun (i : Nat) => ((List.range ny).map fun (j : Nat) => (x0 + i, y0 + j)).filter fun p => f p.1 p.2
theorem scan_mem {x0 y0 : Int} {nx ny : Nat} {f : Int → Int → Bool} {p : Int × Int} : p ∈ scan x0 y0 nx ny f ↔ (x0 ≤ p.1 ∧ p.1 < x0 + nx ∧ y0 ≤ p.2 ∧ p.2 < y0 + ny ∧ f p.1 p.2 = true) := by
  unfold scan
  simp only [List.mem_flatMap, List.mem_range, List.mem_filter, List.mem_map]
  constructor
  · rintro ⟨i, hi, ⟨j, hj, rfl⟩, hf⟩
    exact ⟨by simp only []; omega, by simp only []; omega, by simp only []; omega, by simp only []; omega, hf⟩
  · rintro ⟨h1, h2, h3, h4, h5⟩
    obtain ⟨x, y⟩ := p
    simp only at *
    refine ⟨(x - x0).toNat, by omega, ⟨(y - y0).toNat, by omega, ?_⟩, h5⟩
    simp
    omega
theorem scan_nodup {x0 y0 : Int} {nx ny : Nat} {f : Int → Int → Bool} : (scan x0 y0 nx ny f).Nodup := by
  unfold scan List.Nodup
  rw [List.pairwise_flatMap]
  refine ⟨fun i _ => ?_, ?_⟩
  · refine List.Pairwise.filter _ ?_
    rw [List.pairwise_map]
    refine List.Pairwise.imp ?_ List.pairwise_lt_range
    intro a b h e
    simp at e
    omega
  · refine List.Pairwise.imp ?_ List.pairwise_lt_range
    intro a b h x hx y hy e
    obtain ⟨hx1, _⟩ := List.mem_filter.mp hx
    obtain ⟨hy1, _⟩ := List.mem_filter.mp hy
    obtain ⟨j, _, rfl⟩ := List.mem_map.mp hx1
    obtain ⟨k, _, rfl⟩ := List.mem_map.mp hy1
    simp at e
    omega
theorem betw_nodup (a b c d : Int) : (betw a b c d).Nodup := by
  unfold betw List.Nodup
  rw [List.pairwise_map]
  obtain ⟨sx, sy, e1, e2, hs⟩ := gcd_split (c - a) (d - b)
  by_cases h : Int.gcd (c - a) (d - b) = 0
  · rw [h]
    simp
  · obtain ⟨h1, h2, p, q, h3⟩ := hs h
    rw [h1, h2]
    refine List.Pairwise.imp ?_ List.pairwise_lt_range
    intro k l hkl e
    simp only [Prod.mk.injEq] at e
    have f1 : sx * k = sx * l := by omega
    have f2 : sy * k = sy * l := by omega
    have : (k : Int) = l := by
      have e3 : (p * sx + q * sy) * k = (p * sx + q * sy) * l := by grind
      rw [h3] at e3
      omega
    omega
theorem betw_mem {a b c d : Int} {p : Int × Int} : p ∈ betw a b c d ↔ (min a c ≤ p.1 ∧ p.1 ≤ max a c ∧ min b d ≤ p.2 ∧ p.2 ≤ max b d ∧ (c - a) * (p.2 - b) - (d - b) * (p.1 - a) = 0) := by
  obtain ⟨x, y⟩ := p
  unfold betw
  simp only [List.mem_map, List.mem_range, Prod.mk.injEq]
  obtain ⟨sx, sy, e1, e2, hs⟩ := gcd_split (c - a) (d - b)
  by_cases h : Int.gcd (c - a) (d - b) = 0
  · rw [h] at e1 e2 ⊢
    have : c = a := by simp at e1; omega
    have : d = b := by simp at e2; omega
    subst c d
    simp
    omega
  · obtain ⟨h1, h2, p, q, h3⟩ := hs h
    rw [h1, h2]
    generalize Int.gcd (c - a) (d - b) = g at *
    have mono : ∀ {s k : Int}, 0 ≤ k → k ≤ g → (0 ≤ s → 0 ≤ s * k ∧ s * k ≤ s * g) ∧ (s ≤ 0 → s * g ≤ s * k ∧ s * k ≤ 0) := fun {s k} k0 k1 => by
      refine ⟨fun h => ⟨Int.mul_nonneg h k0, Int.mul_le_mul_of_nonneg_left k1 h⟩, fun h => ⟨Int.mul_le_mul_of_nonpos_left h k1, Int.mul_nonpos_of_nonpos_of_nonneg h k0⟩⟩
    constructor
    · rintro ⟨k, hk, rfl, rfl⟩
      have m1 := mono (s := sx) (k := k) (by omega) (by omega)
      have m2 := mono (s := sy) (k := k) (by omega) (by omega)
      refine ⟨?_, ?_, ?_, ?_, ?_⟩
      · rcases Int.le_total 0 sx with h | h
        · have := m1.1 h; omega
        · have := m1.2 h; omega
      · rcases Int.le_total 0 sx with h | h
        · have := m1.1 h; omega
        · have := m1.2 h; omega
      · rcases Int.le_total 0 sy with h | h
        · have := m2.1 h; omega
        · have := m2.2 h; omega
      · rcases Int.le_total 0 sy with h | h
        · have := m2.1 h; omega
        · have := m2.2 h; omega
      · rw [e1, e2]
        grind
    · rintro ⟨b1, b2, b3, b4, e⟩
      have hg : (g : Int) ≠ 0 := by omega
      have ec : sx * (y - b) = sy * (x - a) := by
        rw [e1, e2] at e
        have : (g : Int) * (sx * (y - b)) = g * (sy * (x - a)) := by grind
        exact Int.eq_of_mul_eq_mul_left hg this
      have k1 : sx * (p * (x - a) + q * (y - b)) = x - a := by
        have : sx * (p * (x - a) + q * (y - b)) = (p * sx + q * sy) * (x - a) := by grind
        rw [this, h3]
        omega
      have k2 : sy * (p * (x - a) + q * (y - b)) = y - b := by
        have : sy * (p * (x - a) + q * (y - b)) = (p * sx + q * sy) * (y - b) := by grind
        rw [this, h3]
        omega
      generalize p * (x - a) + q * (y - b) = k at k1 k2
      have inr : ∀ {s X A : Int}, s ≠ 0 → s * k = X → s * g = A → (0 ≤ A → 0 ≤ X ∧ X ≤ A) → (A ≤ 0 → A ≤ X ∧ X ≤ 0) → 0 ≤ k ∧ k ≤ g := fun {s X A} hs0 hX hA p1 p2 => by
        rcases Int.lt_or_gt_of_ne hs0 with h | h
        · have hA0 : A ≤ 0 := by rw [← hA]; exact Int.mul_nonpos_of_nonpos_of_nonneg (by omega) (by omega)
          obtain ⟨q1, q2⟩ := p2 hA0
          rw [← hX] at q1 q2
          rw [← hA] at q1
          constructor
          · by_cases hk : 0 ≤ k
            · exact hk
            · have := Int.mul_pos_of_neg_of_neg h (show k < 0 by omega)
              omega
          · by_cases hk : k ≤ g
            · exact hk
            · have := Int.mul_lt_mul_of_neg_left (show (g : Int) < k by omega) h
              omega
        · have hA0 : 0 ≤ A := by rw [← hA]; exact Int.mul_nonneg (by omega) (by omega)
          obtain ⟨q1, q2⟩ := p1 hA0
          rw [← hX] at q1 q2
          rw [← hA] at q2
          constructor
          · by_cases hk : 0 ≤ k
            · exact hk
            · have := Int.mul_neg_of_pos_of_neg h (show k < 0 by omega)
              omega
          · by_cases hk : k ≤ g
            · exact hk
            · have := Int.mul_lt_mul_of_pos_left (show (g : Int) < k by omega) h
              omega
      have hk : 0 ≤ k ∧ k ≤ g := by
        by_cases hsx : sx = 0
        · have hsy : sy ≠ 0 := fun z => by rw [hsx, z] at h3; simp at h3
          exact inr hsy k2 e2.symm (fun _ => by omega) (fun _ => by omega)
        · exact inr hsx k1 e1.symm (fun _ => by omega) (fun _ => by omega)
      refine ⟨k.toNat, by omega, ?_, ?_⟩
      · rw [show ((k.toNat : Nat) : Int) = k by omega]; omega
      · rw [show ((k.toNat : Nat) : Int) = k by omega]; omega
theorem betw_scan {a b c d : Int} {f : Int → Int → Bool} (hf : ∀ x y, f x y = decide ((c - a) * (y - b) - (d - b) * (x - a) = 0)) :
    (betw a b c d).mergeSort leP = (scan (min a c) (min b d) (max a c + 1 - min a c).toNat (max b d + 1 - min b d).toNat f).mergeSort leP := by
  refine sort_perm ((List.perm_ext_iff_of_nodup (betw_nodup ..) scan_nodup).mpr fun p => ?_)
  rw [betw_mem, scan_mem, hf, decide_eq_true_eq]
  omega
end L01
end

section
set_option Elab.async false
set_option linter.all false
set_option maxRecDepth 100000
set_option maxHeartbeats 4000000
namespace L01
open PySem PySem.Spec L2 Pw
section
variable {a b c d e f m : Int} {Q : Out SV → Prop} {v : PyData}
theorem least_ok (h1 : a.natAbs ≤ 1000) (h2 : b.natAbs ≤ 1000) (h0 : Int.gcd a b ≠ 0) (h : Q (.val (.d (pt (a.fdiv (Int.gcd a b : Nat)) (b.fdiv (Int.gcd a b : Nat)))))) : w_least_step [.d (pt a b)] Q := by
  unfold w_least_step; rw [w_fn]; simp [b_least_step, List.replicate]
  refine divisor_ok ?_
  have hle : Int.gcd a b ≤ 1000 := by
    by_cases h3 : a = 0
    · have h4 : b ≠ 0 := fun z => h0 (by rw [h3, z]; rfl)
      exact Nat.le_trans (Nat.le_of_dvd (by omega) (Int.gcd_dvd_natAbs_right a b)) h2
    · exact Nat.le_trans (Nat.le_of_dvd (by omega) (Int.gcd_dvd_natAbs_left a b)) h1
  generalize Int.gcd a b = g at *
  simp [h0, DivOk]
  exact ⟨by omega, h⟩
theorem least_bad (h : Q (.exn ⟨"Misstep", [("word", .str "nought")]⟩)) : w_least_step [.d (pt 0 0)] Q := by
  unfold w_least_step; rw [w_fn]; simp [b_least_step, List.replicate]
  refine divisor_ok ?_
  simp
  exact ⟨by rw [sizeLine_eq]; decide, h⟩
theorem first_ok (h1 : a.natAbs ≤ 1000) (h2 : b.natAbs ≤ 1000) (h0 : Int.gcd a b = 1) (h : ∀ p q : Int, p * a + q * b = 1 → Bd 40000 p → Bd 40000 q → Q (.val (.d (mv p q (-b) a 0 0)))) : w_move_to_first [.d (pt a b)] Q := by
  unfold w_move_to_first; rw [w_fn]; simp [b_move_to_first, List.replicate]
  refine divisor_ok ?_
  rw [h0]
  simp
  refine shares_ok h1 h2 fun p q e b1 b2 => ?_
  rw [h0] at e
  simp
  exact h p q e b1 b2
theorem first_bad (h : Q (.exn ⟨"Misstep", [("word", .str "step")]⟩)) : w_move_to_first [.d (pt 4 6)] Q := by
  unfold w_move_to_first; rw [w_fn]; simp [b_move_to_first, List.replicate]
  refine divisor_ok ?_
  rw [show Int.gcd 4 6 = 2 from rfl]
  simp
  exact ⟨by rw [sizeLine_eq]; decide, h⟩
theorem word0_ok (h : Q (.val (.d (.str "nought")))) : w__law_word [.d (.int 0)] Q := by
  unfold w__law_word; rw [w_fn]; simp [b__law_word, List.replicate]
  refine least_bad ?_
  simp
  exact kTry_ex (by simp) h
theorem word1_ok (h : Q (.val (.d (.str "step")))) : w__law_word [.d (.int 1)] Q := by
  unfold w__law_word; rw [w_fn]; simp [b__law_word, List.replicate]
  refine first_bad ?_
  simp
  exact kTry_ex (by simp) h
/-! forms -/
def isW (v : PyData) (lo hi : Int) : Bool := match v with
  | .int i => decide (lo ≤ i) && decide (i ≤ hi)
  | _ => false
theorem whole_ok {lo hi : Int} (h : Q (.val (.d (.bool (isW v lo hi))))) : w_is_whole [.d v, .d (.int lo), .d (.int hi)] Q := by
  unfold w_is_whole; rw [w_fn]; simp [b_is_whole]
  cases v with
  | int i =>
    simp [isiB, tyD]
    by_cases h1 : lo ≤ i
    · simp [h1]
      simpa [isW, h1] using h
    · simp [h1]
      simpa [isW, h1] using h
  | bool i => simpa [isiB, tyD, isW] using h
  | _ => simpa [isiB, tyD, isW] using h
def isPt (v : PyData) : Bool := match v with
  | .tuple [x, y] => isW x (-1000000) 1000000 && isW y (-1000000) 1000000
  | _ => false
theorem isPt_len {xs : List PyData} (h : xs.length ≠ 2) : isPt (.tuple xs) = false := by
  match xs, h with
  | [], _ => rfl
  | [_], _ => rfl
  | [_, _], h => exact absurd rfl h
  | _ :: _ :: _ :: _, _ => rfl
theorem point_ok (h : Q (.val (.d (.bool (isPt v))))) : w_is_point [.d v] Q := by
  unfold w_is_point; rw [w_fn]; simp [b_is_point, List.replicate]
  cases v with
  | tuple xs =>
    simp [isiB, tyD]
    by_cases hl : xs.length = 2
    · match xs, hl with
      | [x, y], _ =>
        simp [lc_cons, wipeD]
        refine whole_ok ?_
        simp [lc_cons]
        refine whole_ok ?_
        simp [allV, onBools, boolsOf]
        simpa [isPt] using h
    · have : ¬ ((xs.length : Int) = 2) := by omega
      simp [hl, this]
      rw [isPt_len hl] at h
      exact h
  | _ => simpa [isiB, tyD, isPt] using h
theorem isW_law {x : PyData} : isW x (-1000000) 1000000 = match x with
    | .int i => decide (i.natAbs ≤ 1000000)
    | _ => false := by
  cases x with
  | int i =>
    simp only [isW]
    by_cases h1 : -1000000 ≤ i <;> by_cases h2 : i ≤ 1000000 <;> simp [h1, h2] <;> omega
  | _ => rfl
theorem lpoint_ok (h : Q (.val (.d (.bool (isPt v))))) : w__law_is_point [.d v] Q := by
  unfold w__law_is_point; rw [w_fn]; simp [b__law_is_point, List.replicate]
  cases v with
  | tuple xs =>
    simp [isiB, tyD]
    by_cases hl : xs.length = 2
    · match xs, hl with
      | [x, y], _ =>
        simp
        have hh : isPt (.tuple [x, y]) = (isW x (-1000000) 1000000 && isW y (-1000000) 1000000) := rfl
        rw [hh] at h
        refine lc_filter (fun z => !isW z (-1000000) 1000000) _ _ (fun z _ => ⟨_, rfl, ?_, fun _ T hT => by simpa [wipeD] using hT⟩) ?_
        · intro T hT
          rw [isW_law] at hT
          cases z with
          | int i =>
            by_cases h1 : i.natAbs ≤ 1000000
            · have h2 : ¬ (1000000 : Int) < (i.natAbs : Int) := by omega
              simp only [h1] at hT
              simpa [wipeD, isiB, tyD, h2] using hT
            · have h2 : (1000000 : Int) < (i.natAbs : Int) := by omega
              simp only [h1] at hT
              simpa [wipeD, isiB, tyD, h2] using hT
          | _ => simpa [wipeD, isiB, tyD] using hT
        · cases hx : isW x (-1000000) 1000000 <;> cases hy : isW y (-1000000) 1000000 <;> simpa [hx, hy] using h
    · have : ¬ ((xs.length : Int) = 2) := by omega
      simp [hl, this]
      rw [isPt_len hl] at h
      exact h
  | _ => simpa [isiB, tyD, isPt] using h
end
end L01
end

section
set_option Elab.async false
set_option linter.all false
set_option maxRecDepth 100000
set_option maxHeartbeats 4000000
namespace L01
open PySem PySem.Spec L2 Pw
section
variable {a b c d e f m : Int} {Q : Out SV → Prop} {v x y z : PyData}
theorem isPt_inv (h : isPt v = true) : ∃ a b : Int, v = pt a b ∧ a.natAbs ≤ 1000000 ∧ b.natAbs ≤ 1000000 := by
  cases v with
  | tuple xs =>
    by_cases hl : xs.length = 2
    · match xs, hl with
      | [x, y], _ =>
        have hh : isPt (.tuple [x, y]) = (isW x (-1000000) 1000000 && isW y (-1000000) 1000000) := rfl
        rw [hh, isW_law, isW_law] at h
        cases x with
        | int i => cases y with
          | int j =>
            simp at h
            exact ⟨i, j, rfl, h.1, h.2⟩
          | _ => simp at h
        | _ => simp at h
    · rw [isPt_len hl] at h
      cases h
  | _ => cases h
def det (x y : PyData) : Int := match x, y with
  | .tuple [.int a, .int b], .tuple [.int c, .int d] => a * d - b * c
  | _, _ => 0
def isMv (v : PyData) : Bool := match v with
  | .tuple [x, y, z] => isPt x && (isPt y && isPt z) && decide ((det x y).natAbs = 1)
  | _ => false
theorem isMv_len {xs : List PyData} (h : xs.length ≠ 3) : isMv (.tuple xs) = false := by
  match xs, h with
  | [], _ => rfl
  | [_], _ => rfl
  | [_, _], _ => rfl
  | [_, _, _], h => exact absurd rfl h
  | _ :: _ :: _ :: _ :: _, _ => rfl
theorem move_ok (h : Q (.val (.d (.bool (isMv v))))) : w_is_move [.d v] Q := by
  unfold w_is_move; rw [w_fn]; simp [b_is_move, List.replicate]
  cases v with
  | tuple xs =>
    simp [isiB, tyD]
    by_cases hl : xs.length = 3
    · match xs, hl with
      | [x, y, z], _ =>
        have hh : isMv (.tuple [x, y, z]) = (isPt x && (isPt y && isPt z) && decide ((det x y).natAbs = 1)) := rfl
        rw [hh] at h
        simp [lc_cons, wipeD]
        refine point_ok ?_
        simp [lc_cons]
        refine point_ok ?_
        simp [lc_cons]
        refine point_ok ?_
        simp [allV, onBools, boolsOf]
        cases hx : isPt x with
        | false => simpa [hx] using h
        | true =>
          cases hy : isPt y with
          | false => simpa [hy] using h
          | true =>
            cases hz : isPt z with
            | false => simpa [hz] using h
            | true =>
              obtain ⟨a, b, rfl, h1, h2⟩ := isPt_inv hx
              obtain ⟨c, d, rfl, h3, h4⟩ := isPt_inv hy
              have m1 : MulOk a d := mulOk_lt (by omega) (by omega) (by omega) (by omega)
              have m2 : MulOk b c := mulOk_lt (by omega) (by omega) (by omega) (by omega)
              rw [hx, hy, hz] at h
              by_cases hd : (a * d - b * c).natAbs = 1
              · simpa [det, hd, m1, m2] using h
              · have hd' : ¬ (((a * d - b * c).natAbs : Int) = 1) := by omega
                simpa [det, hd, hd', m1, m2] using h
    · have : ¬ ((xs.length : Int) = 3) := by omega
      simp [hl, this]
      rw [isMv_len hl] at h
      exact h
  | _ => simpa [isiB, tyD, isMv] using h
theorem lmv_ok (h : Q (.val (.d (.bool (isMv v))))) : w__law_is_move [.d v] Q := by
  unfold w__law_is_move; rw [w_fn]; simp [b__law_is_move, List.replicate]
  cases v with
  | tuple xs =>
    simp [isiB, tyD]
    by_cases hl : xs.length = 3
    · match xs, hl with
      | [x, y, z], _ =>
        have hh : isMv (.tuple [x, y, z]) = (isPt x && (isPt y && isPt z) && decide ((det x y).natAbs = 1)) := rfl
        rw [hh] at h
        simp
        refine lc_filter (fun z => !isPt z) _ _ (fun z _ => ⟨_, rfl, ?_, fun _ T hT => by simpa [wipeD] using hT⟩) ?_
        · intro T hT
          simp [wipeD]
          refine lpoint_ok ?_
          simpa using hT
        · cases hx : isPt x with
          | false => cases hy : isPt y <;> cases hz : isPt z <;> simpa [hx, hy, hz] using h
          | true =>
            cases hy : isPt y with
            | false => cases hz : isPt z <;> simpa [hx, hy, hz] using h
            | true =>
              cases hz : isPt z with
              | false => simpa [hx, hy, hz] using h
              | true =>
                obtain ⟨a, b, rfl, h1, h2⟩ := isPt_inv hx
                obtain ⟨c, d, rfl, h3, h4⟩ := isPt_inv hy
                have m1 : MulOk a d := mulOk_lt (by omega) (by omega) (by omega) (by omega)
                have m2 : MulOk b c := mulOk_lt (by omega) (by omega) (by omega) (by omega)
                rw [hx, hy, hz] at h
                by_cases hd : (a * d - b * c).natAbs = 1
                · simpa [det, hd, hx, hy, hz, m1, m2] using h
                · have hd' : ¬ (((a * d - b * c).natAbs : Int) = 1) := by omega
                  simpa [det, hd, hd', hx, hy, hz, m1, m2] using h
    · have : ¬ ((xs.length : Int) = 3) := by omega
      simp [hl, this]
      rw [isMv_len hl] at h
      exact h
  | _ => simpa [isiB, tyD, isMv] using h
end
theorem pick3_ok {Q : Out SV → Prop} (h : ∀ n : Int, 1 ≤ n → n ≤ 1000 → Q (.val (.d (.int n)))) : w__law_pick [.st, .d (.list [.int 4, .int 20, .int 1000])] Q := by
  unfold w__law_pick; rw [w_fn]; simp [b__law_pick]
  refine take_ok (by decide) (by decide) fun k k0 k1 => ?_
  obtain rfl | rfl | rfl : k = 0 ∨ k = 1 ∨ k = 2 := by omega
  all_goals simp
  · exact h _ (by decide) (by decide)
  · exact h _ (by decide) (by decide)
  · exact h _ (by decide) (by decide)
end L01
end

section
set_option Elab.async false
set_option linter.all false
set_option maxRecDepth 100000
set_option maxHeartbeats 8000000
namespace L01
open PySem PySem.Spec L2 Pw
theorem scan_succ {x0 y0 : Int} {k ny : Nat} {f : Int → Int → Bool} : scan x0 y0 (k + 1) ny f = scan x0 y0 k ny f ++ ((List.range ny).map fun (j : Nat) => (x0 + k, y0 + j)).filter fun p => f p.1 p.2 := by
  unfold scan
  rw [List.range_succ, List.flatMap_append]
  simp
theorem scan_len {x0 y0 : Int} {ny : Nat} {f : Int → Int → Bool} : ∀ k : Nat, (scan x0 y0 k ny f).length ≤ k * ny
  | 0 => by simp [scan]
  | k + 1 => by
    rw [scan_succ, List.length_append, Nat.succ_mul]
    have := scan_len (x0 := x0) (y0 := y0) (ny := ny) (f := f) k
    have h2 := List.length_filter_le (fun p : Int × Int => f p.1 p.2) ((List.range ny).map fun (j : Nat) => (x0 + (k : Int), y0 + (j : Int)))
    rw [List.length_map, List.length_range] at h2
    omega
def rowF (f : Int → Int → Bool) (x : Int) (z : PyData) : Option PyData := match z with
  | .int y => if f x y then some (pt x y) else none
  | _ => none
theorem row_fm {x y0 : Int} {ny : Nat} {f : Int → Int → Bool} : (rngL y0 ny).filterMap (rowF f x) = (((List.range ny).map fun (j : Nat) => (x, y0 + (j : Int))).filter fun p => f p.1 p.2).map mkp := by
  unfold rngL
  generalize List.range ny = l
  induction l with
  | nil => rfl
  | cons j l ih =>
    rw [List.map_cons, List.filterMap_cons, List.map_cons, List.filter_cons]
    cases h : f x (y0 + j) with
    | true => simp [h, ih, mkp, rowF]
    | false => simp [h, ih, rowF]
section
variable {a b c d : Int}
def gg (a b c d : Int) : Nat := Int.gcd (c - a) (d - b)
theorem betw_len : (betw a b c d).length = gg a b c d + 1 := by
  unfold betw gg
  rw [List.length_map, List.length_range]
theorem betw_get {k : Nat} (h : k ≤ gg a b c d) : (betw a b c d)[k]? = some (a + (c - a).fdiv (gg a b c d : Nat) * k, b + (d - b).fdiv (gg a b c d : Nat) * k) := by
  unfold betw gg at *
  rw [List.getElem?_map, List.getElem?_range (by omega)]
  rfl
theorem betw_first : atI ((betw a b c d).map mkp) 0 = some (pt a b) := by
  rw [show (0 : Int) = ((0 : Nat) : Int) from rfl, atI_n, List.getElem?_map, betw_get (Nat.zero_le _)]
  simp [mkp]
theorem betw_last : atI ((betw a b c d).map mkp) (-1) = some (pt c d) := by
  rw [Pw.atI_last, List.getLast?_eq_getElem?, List.length_map, betw_len, List.getElem?_map, show gg a b c d + 1 - 1 = gg a b c d from rfl, betw_get (Nat.le_refl _)]
  unfold gg
  obtain ⟨sx, sy, e1, e2, hs⟩ := gcd_split (c - a) (d - b)
  by_cases h : Int.gcd (c - a) (d - b) = 0
  · rw [h] at e1 e2 ⊢
    simp at e1 e2
    simp [mkp]
    omega
  · obtain ⟨h1, h2, _⟩ := hs h
    rw [h1, h2]
    simp [mkp]
    omega
theorem betw_at {i : Int} (h0 : 0 ≤ i) (h : i ≤ gg a b c d) : atI ((betw a b c d).map mkp) i = some (pt (a + (c - a).fdiv (gg a b c d : Nat) * i) (b + (d - b).fdiv (gg a b c d : Nat) * i)) := by
  obtain ⟨k, rfl⟩ : ∃ k : Nat, i = k := ⟨i.toNat, by omega⟩
  rw [atI_n, List.getElem?_map, betw_get (by omega)]
  rfl
end
end L01
end

section
set_option Elab.async false
set_option linter.all false
set_option maxRecDepth 100000
set_option maxHeartbeats 8000000
namespace L01
open PySem PySem.Spec L2 Pw
section
variable {a b c d e f m : Int} {Q : Out SV → Prop} {v x y z : PyData} {G : Fl → Prop} {o2 o5 o6 o7 o8 o9 o10 o11 o12 o13 o14 o15 o16 o17 o18 o19 o20 o21 o22 o23 o24 : Option SV} {a0 a1 b0 b1 : Int}
theorem tail23 (hG : (fun fl => fl = Fl.rt (.d (.bool true))) = G) {ρ : SEnv} : seqW t_law_23 t_law_24 ρ G := by
  simp [t_law_23]
  refine whole_ok ?_
  simp
  refine whole_ok ?_
  simp
  refine whole_ok ?_
  simp [isW, t_law_24]
  refine word0_ok ?_
  simp
  refine ⟨by decide +kernel, ?_⟩
  refine word1_ok ?_
  simp
  exact ⟨by decide +kernel, by rw [← hG]⟩
theorem eqb {k : Bool} : PyData.eqv (.bool k) (.bool k) = true := by cases k <;> rfl
theorem tail21 (hG : (fun fl => fl = Fl.rt (.d (.bool true))) = G) : seqW t_law_21 (seqW t_law_22 (seqW t_law_23 t_law_24))
    [none, some .st, o2, some (.d (pt a0 a1)), o5, o6, o7, o8, o9, o10, o11, o12, o13, o14, some (.d (mv a b c d e f)), o15, o16, o17, o18, o19, o20, o21, o22, o23, o24] G := by
  simp [t_law_21]
  refine ⟨by rw [sizeLine_eq]; decide, ?_⟩
  refine for_ok (fun k ρ => ∃ o, ρ = [none, some .st, o2, some (.d (pt a0 a1)), o5, o6, o7, o8, o9, o10, o11, o12, o13, o14, some (.d (mv a b c d e f)), o15, o16, o17, o18, o19, o20, o21, o22, o23, o]) _ ⟨_, rfl⟩ (fun k z ρ hz ⟨o, hI⟩ => ?_) (fun ρ ⟨o, hI⟩ => ?_)
  · subst hI
    refine ⟨_, rfl, fun T t1 _ => ?_⟩
    simp
    refine point_ok ?_
    simp
    refine lpoint_ok ?_
    simp
    exact t1 _ ⟨_, rfl⟩
  · subst hI
    simp [t_law_22, cutD, HT.sIx]
    refine for_ok (fun k ρ => ∃ o, ρ = [none, some .st, o2, some (.d (pt a0 a1)), o5, o6, o7, o8, o9, o10, o11, o12, o13, o14, some (.d (mv a b c d e f)), o15, o16, o17, o18, o19, o20, o21, o22, o23, o]) _ ⟨_, rfl⟩ (fun k z ρ hz ⟨o, hI⟩ => ?_) (fun ρ ⟨o, hI⟩ => ?_)
    · subst hI
      refine ⟨_, rfl, fun T t1 _ => ?_⟩
      simp
      refine move_ok ?_
      simp
      refine lmv_ok ?_
      simp
      exact t1 _ ⟨_, rfl⟩
    · simp
      have := tail23 hG (ρ := ρ)
      simpa using this
theorem if_or {T1 T2 : WT} {A g : WS} {ρ : SEnv} {k1 k2 : Bool} (h1 : ∀ Q : Out Bool → Prop, Q (.val k1) → T1 ρ Q) (h2 : ∀ Q : Out Bool → Prop, Q (.val k2) → T2 ρ Q) (hy : (k1 || k2) = true → seqW A g ρ G) (hn : (k1 || k2) = false → g ρ G) : seqW (ifW (dOrT T1 T2) A skipW) g ρ G := by
  rw [s_seq, s_if, e_orT]
  refine h1 _ ?_
  cases k1 with
  | true => exact hy rfl
  | false =>
    refine h2 _ ?_
    cases k2 with
    | true => exact hy rfl
    | false => exact hn rfl
theorem gcd_le1000 {x y : Int} (h1 : x.natAbs ≤ 1000) (h2 : y.natAbs ≤ 1000) : Int.gcd x y ≤ 1000 := by
  by_cases h0 : x = 0
  · by_cases h3 : y = 0
    · rw [h0, h3]; decide
    · exact Nat.le_trans (Nat.le_of_dvd (by omega) (Int.gcd_dvd_natAbs_right x y)) h2
  · exact Nat.le_trans (Nat.le_of_dvd (by omega) (Int.gcd_dvd_natAbs_left x y)) h1
theorem tail17 (hG : (fun fl => fl = Fl.rt (.d (.bool true))) = G) : seqW t_law_17 (seqW t_law_18 (seqW t_law_19 (seqW t_law_20 (seqW t_law_21 (seqW t_law_22 (seqW t_law_23 t_law_24))))))
    [none, some .st, o2, some (.d (pt a0 a1)), o5, o6, o7, o8, o9, o10, o11, o12, o13, o14, some (.d (mv a b c d e f)), o15, o16, o17, o18, o19, o20, o21, o22, o23, o24] G := by
  simp [t_law_17]
  refine take_ok (by omega) (by omega) fun k1 k10 k11 => ?_
  simp
  refine take_ok (by omega) (by omega) fun k2 k20 k21 => ?_
  obtain ⟨x, ex, xl, xu⟩ : ∃ x, x = k1 - 100 ∧ -100 ≤ x ∧ x ≤ 100 := ⟨_, rfl, by omega, by omega⟩
  obtain ⟨y, ey, yl, yu⟩ : ∃ y, y = k2 - 100 ∧ -100 ≤ y ∧ y ≤ 100 := ⟨_, rfl, by omega, by omega⟩
  rw [← ex]
  simp
  rw [← ey]
  simp [t_law_18]
  refine shares_ok (by omega) (by omega) fun p q epq bp bq => ?_
  have bx : Bd 90 x := by unfold Bd; omega
  have bY : Bd 90 y := by unfold Bd; omega
  simp [t_law_19, bp.mulOk bx, bq.mulOk bY, epq]
  refine lgcd_ok bY ?_
  have hle := gcd_le1000 (x := x) (y := y) (by omega) (by omega)
  simp
  unfold t_law_20
  show seqW (ifW _ _ _) _ _ _
  refine if_or (k1 := !decide (x = 0)) (k2 := !decide (y = 0)) (fun Q hQ => by simpa using hQ) (fun Q hQ => by simpa using hQ) (fun hk => ?_) (fun _ => ?_)
  · have hg : Int.gcd x y ≠ 0 := fun z => by
      obtain ⟨z1, z2⟩ := Int.gcd_eq_zero_iff.mp z
      rw [z1, z2] at hk
      simp at hk
    obtain ⟨sx, sy, e1, e2, hs⟩ := gcd_split x y
    obtain ⟨h1, h2, u, w, hb⟩ := hs hg
    clear hs
    have hsx : sx.natAbs ≤ 100 := by rw [← h1]; exact Nat.le_trans (fdiv_le (by omega)) (by omega)
    have hsy : sy.natAbs ≤ 100 := by rw [← h2]; exact Nat.le_trans (fdiv_le (by omega)) (by omega)
    have hg1 : Int.gcd sx sy = 1 := by
      have d : ((Int.gcd sx sy : Nat) : Int) ∣ 1 := by
        rw [← hb]
        exact Int.dvd_add (Int.dvd_mul_of_dvd_right (Int.gcd_dvd_left ..)) (Int.dvd_mul_of_dvd_right (Int.gcd_dvd_right ..))
      have d2 := Int.natAbs_dvd_natAbs.mpr d
      simpa using d2
    have dz : ((Int.gcd x y : Nat) : Int) ≠ 0 := by omega
    have dk : DivOk x (Int.gcd x y : Nat) := ⟨dz, by omega⟩
    have dk2 : DivOk y (Int.gcd x y : Nat) := ⟨dz, by omega⟩
    simp
    refine lgcd_ok bY ?_
    simp [dk, dk2, h1, h2]
    refine first_ok (by omega) (by omega) hg1 fun p' q' e' bp' bq' => ?_
    simp
    refine least_ok (by omega) (by omega) hg ?_
    have bsx : Bd 90 sx := by unfold Bd; omega
    have bsy : Bd 90 sy := by unfold Bd; omega
    have c1 : sx * sy - sy * sx = 0 := by grind
    have c2 : -sy * sx + sx * sy = 0 := by grind
    have c4 : p' * sx - q' * -sy = 1 := by grind
    have c5 : p' * sx + q' * sy = 1 := e'
    have c3 : p' * sx + q' * sy = 1 := e'
    simp [h1, h2, bp'.mulOk bsx, bq'.mulOk bsy, bsy.neg.mulOk bsx, bsx.mulOk bsy, bq'.mulOk bsy.neg, c2, c3, c4]
    exact tail21 hG
  · exact tail21 hG
end
end L01
end

section
set_option Elab.async false
set_option linter.all false
set_option maxRecDepth 100000
set_option maxHeartbeats 1000000
namespace L01
open PySem PySem.Spec L2 Pw
section
variable {a b c d e f a' b' c' d' e' f' : Int} {Q : Out SV → Prop} {v x y z : PyData} {G : Fl → Prop} {o2 o5 o6 o7 o8 o9 o10 o11 o12 o13 o14 o15 o16 o17 o18 o19 o20 o21 o22 o23 o24 : Option SV} {a0 a1 b0 b1 : Int}
theorem prod_le {x y : Int} {A B : Nat} (hx : x.natAbs ≤ A) (hy : y.natAbs ≤ B) : (x * y).natAbs ≤ A * B := by
  rw [Int.natAbs_mul]
  exact Nat.mul_le_mul hx hy
theorem sum_le {x y : Int} {A B : Nat} (hx : x.natAbs ≤ A) (hy : y.natAbs ≤ B) : (x + y).natAbs ≤ A + B := Nat.le_trans (Int.natAbs_add_le ..) (Nat.add_le_add hx hy)
theorem neg_le {x : Int} {A : Nat} (hx : x.natAbs ≤ A) : (-x).natAbs ≤ A := by rw [Int.natAbs_neg]; exact hx
theorem bdn {x : Int} {A : Nat} (hx : x.natAbs ≤ A) (hA : A < 2 ^ 30 := by decide) : Bd 30 x := Nat.lt_of_le_of_lt hx hA
theorem up_le {x : Int} {A : Nat} (hx : x.natAbs ≤ A) (hA : A ≤ 1000000 := by decide) : x.natAbs ≤ 1000000 := Nat.le_trans hx hA
theorem isMv_mv (hd : a * d - b * c = 1 ∨ a * d - b * c = -1) (h1 : a.natAbs ≤ 1000000) (h2 : b.natAbs ≤ 1000000) (h3 : c.natAbs ≤ 1000000) (h4 : d.natAbs ≤ 1000000) (h5 : e.natAbs ≤ 1000000) (h6 : f.natAbs ≤ 1000000) : isMv (mv a b c d e f) = true := by
  have p : ∀ {x y : Int}, x.natAbs ≤ 1000000 → y.natAbs ≤ 1000000 → isPt (pt x y) = true := fun {x y} hx hy => by
    have hh : isPt (.tuple [.int x, .int y]) = (isW (.int x) (-1000000) 1000000 && isW (.int y) (-1000000) 1000000) := rfl
    rw [hh, isW_law, isW_law]
    simp [hx, hy]
  have hh : isMv (mv a b c d e f) = (isPt (pt a b) && (isPt (pt c d) && isPt (pt e f)) && decide ((det (pt a b) (pt c d)).natAbs = 1)) := rfl
  rw [hh, p h1 h2, p h3 h4, p h5 h6]
  have : (det (pt a b) (pt c d)).natAbs = 1 := by
    show (a * d - b * c).natAbs = 1
    omega
  simp [this]
theorem tail12 (hG : (fun fl => fl = Fl.rt (.d (.bool true))) = G) (ha0 : a0.natAbs ≤ 1000) (ha1 : a1.natAbs ≤ 1000) (hb0 : b0.natAbs ≤ 1000) (hb1 : b1.natAbs ≤ 1000) :
    seqW t_law_12 (seqW t_law_13 (seqW t_law_14 (seqW t_law_15 (seqW t_law_16 (seqW t_law_17 (seqW t_law_18 (seqW t_law_19 (seqW t_law_20 (seqW t_law_21 (seqW t_law_22 (seqW t_law_23 t_law_24)))))))))))
    [none, some .st, o2, some (.d (pt a0 a1)), some (.d (pt b0 b1)), o5, o6, o7, o8, o9, o10, o11, o12, o13, o14, o15, o16, o17, o18, o19, o20, o21, o22, o23, o24] G := by
  simp [t_law_12]
  refine lmove_ok fun a b c d e f hd q1 q2 q3 q4 el eu fl fu => ?_
  simp
  refine lmove_ok fun a' b' c' d' e' f' hd' q1' q2' q3' q4' el' eu' fl' fu' => ?_
  have ne : e.natAbs ≤ 4 := by omega
  have nf : f.natAbs ≤ 4 := by omega
  have ne' : e'.natAbs ≤ 4 := by omega
  have nf' : f'.natAbs ≤ 4 := by omega
  clear el eu fl fu el' eu' fl' fu'
  have bd : ∀ {x : Int}, x.natAbs ≤ 1000 → Bd 30 x := fun h => bdn h
  have B1 := bdn q1
  have B2 := bdn q2
  have B3 := bdn q3
  have B4 := bdn q4
  have B5 := bdn ne
  have B6 := bdn nf
  have B1' := bdn q1'
  have B2' := bdn q2'
  have B3' := bdn q3'
  have B4' := bdn q4'
  have B5' := bdn ne'
  have B6' := bdn nf'
  have A0 := bd ha0
  have A1 := bd ha1
  have one : Bd 30 (1 : Int) := by unfold Bd; decide
  have zero : Bd 30 (0 : Int) := by unfold Bd; decide
  simp [t_law_13, B1.mulOk A0, B2.mulOk A1, B3.mulOk A0, B4.mulOk A1, one.mulOk A0, zero.mulOk A1, zero.mulOk A0, one.mulOk A1, B1.mulOk B4, B2.mulOk B3]
  simp [t_law_14]
  refine after_ok B1 B2 B3 B4 B5 B6 B1' B2' B3' B4' ?_
  simp
  refine undone_ok B1 B2 B3 B4 B5 B6 fun s hs => ?_
  have hs1 : s = 1 ∨ s = -1 := by rw [hs]; exact hd
  have hss : s * s = 1 := by rcases hs1 with h | h <;> rw [h] <;> decide
  have S : Bd 30 s := by rcases hs1 with h | h <;> rw [h] <;> unfold Bd <;> decide
  simp [t_law_15]
  have sN : s.natAbs ≤ 1 := by rcases hs1 with h | h <;> rw [h] <;> decide
  have N1 := sum_le (prod_le q1' q1) (prod_le q2' q3)
  have N2 := sum_le (prod_le q1' q2) (prod_le q2' q4)
  have N3 := sum_le (prod_le q3' q1) (prod_le q4' q3)
  have N4 := sum_le (prod_le q3' q2) (prod_le q4' q4)
  have N5 := sum_le (sum_le (prod_le q1' ne) (prod_le q2' nf)) ne'
  have N6 := sum_le (sum_le (prod_le q3' ne) (prod_le q4' nf)) nf'
  have M1 := prod_le q4 sN
  have M2 := neg_le (prod_le q2 sN)
  have M3 := neg_le (prod_le q3 sN)
  have M4 := prod_le q1 sN
  have M5 := neg_le (sum_le (prod_le M1 ne) (prod_le M2 nf))
  have M6 := neg_le (sum_le (prod_le M3 ne) (prod_le M4 nf))
  have C1 := bdn N1
  have C2 := bdn N2
  have C3 := bdn N3
  have C4 := bdn N4
  have D1 := bdn M1
  have D2 := bdn M2
  have D3 := bdn M3
  have D4 := bdn M4
  refine for_ok (fun k ρ => ∃ o, ρ = [none, some .st, o2, some (.d (pt a0 a1)), some (.d (pt b0 b1)), o5, o6, o7, o8, o9, o10, o11, o12, o13, some (.d (mv a b c d e f)), some (.d (mv a' b' c' d' e' f')),
      some (.d (mv (a' * a + b' * c) (a' * b + b' * d) (c' * a + d' * c) (c' * b + d' * d) (a' * e + b' * f + e') (c' * e + d' * f + f'))), some (.d (mv (d * s) (-(b * s)) (-(c * s)) (a * s) (-(d * s * e + -(b * s) * f)) (-(-(c * s) * e + a * s * f)))), o, o19, o20, o21, o22, o23, o24]) _ ⟨_, rfl⟩ (fun k z ρ hz ⟨o, hI⟩ => ?_) (fun ρ ⟨o, hI⟩ => ?_)
  · subst hI
    refine ⟨_, rfl, fun T t1 _ => ?_⟩
    obtain ⟨u, v, hz', hu, hv⟩ : ∃ u v : Int, z = pt u v ∧ u.natAbs ≤ 1000 ∧ v.natAbs ≤ 1000 := by
      have hm := List.mem_of_getElem? hz
      simp only [List.mem_cons, List.not_mem_nil, or_false] at hm
      rcases hm with h | h | h | h | h
      · exact ⟨_, _, h, ha0, ha1⟩
      · exact ⟨_, _, h, hb0, hb1⟩
      · exact ⟨_, _, h, by decide, by decide⟩
      · exact ⟨_, _, h, by decide, by decide⟩
      · exact ⟨_, _, h, by decide, by decide⟩
    subst hz'
    have U := bdn hu
    have V := bdn hv
    have W1 : Bd 100 (a * u + b * v + e) := (((B1.mul U).add2 ((B2.mul V))).add (B5.up (show 30 ≤ 30 by omega))).up (by decide)
    have W2 : Bd 100 (c * u + d * v + f) := (((B3.mul U).add2 ((B4.mul V))).add (B6.up (show 30 ≤ 30 by omega))).up (by decide)
    have E1 : (a' * a + b' * c) * u + (a' * b + b' * d) * v + (a' * e + b' * f + e') = a' * (a * u + b * v + e) + b' * (c * u + d * v + f) + e' := by grind
    have E2 : (c' * a + d' * c) * u + (c' * b + d' * d) * v + (c' * e + d' * f + f') = c' * (a * u + b * v + e) + d' * (c * u + d * v + f) + f' := by grind
    have E3 : d * s * (a * u + b * v + e) + -(b * s) * (c * u + d * v + f) + -(d * s * e + -(b * s) * f) = u := by grind
    have E4 : -(c * s) * (a * u + b * v + e) + a * s * (c * u + d * v + f) + -(-(c * s) * e + a * s * f) = v := by grind
    simp [C1.mulOk U, C2.mulOk V, C3.mulOk U, C4.mulOk V, B1.mulOk U, B2.mulOk V, B3.mulOk U, B4.mulOk V, B1'.mulOk W1, B2'.mulOk W2, B3'.mulOk W1, B4'.mulOk W2, D1.mulOk W1, D2.mulOk W2, D3.mulOk W1, D4.mulOk W2, E1, E2, E3, E4]
    exact t1 _ ⟨_, rfl⟩
  · subst hI
    simp [t_law_16]
    have hdb : (a' * a + b' * c) * (c' * b + d' * d) - (a' * b + b' * d) * (c' * a + d' * c) = (a' * d' - b' * c') * (a * d - b * c) := by grind
    have hdb2 : (a' * a + b' * c) * (c' * b + d' * d) - (a' * b + b' * d) * (c' * a + d' * c) = 1 ∨ (a' * a + b' * c) * (c' * b + d' * d) - (a' * b + b' * d) * (c' * a + d' * c) = -1 := by
      rw [hdb]
      rcases hd with h | h <;> rcases hd' with h' | h' <;> rw [h, h'] <;> decide
    have hdk : d * s * (a * s) - -(b * s) * -(c * s) = 1 ∨ d * s * (a * s) - -(b * s) * -(c * s) = -1 := by
      have : d * s * (a * s) - -(b * s) * -(c * s) = s := by grind
      rw [this]
      exact hs1
    refine lmv_ok ?_
    rw [isMv_mv hdb2 (up_le N1) (up_le N2) (up_le N3) (up_le N4) (up_le N5) (up_le N6)]
    simp
    refine lmv_ok ?_
    rw [isMv_mv hdk (up_le M1) (up_le M2) (up_le M3) (up_le M4) (up_le M5) (up_le M6)]
    simp
    refine after_ok B1 B2 B3 B4 B5 B6 D1 D2 D3 D4 ?_
    have F1 : d * s * a + -(b * s) * c = 1 := by grind
    have F2 : d * s * b + -(b * s) * d = 0 := by grind
    have F3 : -(c * s) * a + a * s * c = 0 := by grind
    have F4 : -(c * s) * b + a * s * d = 1 := by grind
    have F5 : d * s * e + -(b * s) * f + -(d * s * e + -(b * s) * f) = 0 := Int.add_right_neg _
    have F6 : -(c * s) * e + a * s * f + -(-(c * s) * e + a * s * f) = 0 := Int.add_right_neg _
    rw [F1, F2, F3, F4, F5, F6]
    simp
    exact tail17 hG
end
end L01
end

section
set_option Elab.async false
set_option linter.all false
set_option maxRecDepth 100000
set_option maxHeartbeats 1000000
namespace L01
open PySem PySem.Spec L2 Pw
theorem law_holds : lawGoal b_law 23 := by
  show b_law (lawEnv 23) _
  generalize hG : (fun fl => fl = Fl.rt (.d (.bool true))) = G
  simp [b_law, lawEnv, List.replicate, t_law_0]
  refine pick3_ok fun n n0 n1 => ?_
  have mn : MulOk 2 n := mulOk_lt (by omega) (by omega) (by omega) (by omega)
  simp [t_law_1, mn]
  refine take_ok (by omega) (by omega) fun k1 k10 k11 => ?_
  simp
  refine take_ok (by omega) (by omega) fun a1 a10 a11 => ?_
  simp
  refine take_ok (by omega) (by omega) fun b0 b00 b01 => ?_
  simp [mn]
  refine take_ok (by omega) (by omega) fun k2 k20 k21 => ?_
  simp
  refine take_ok (by omega) (by omega) fun k3 k30 k31 => ?_
  simp
  refine take_ok (by omega) (by omega) fun c1 c10 c11 => ?_
  simp [t_law_2]
  refine take_ok (by omega) (by omega) fun k4 k40 k41 => ?_
  obtain ⟨a0, ea0, a0l, a0u⟩ : ∃ a0, a0 = k1 - n ∧ -1000 ≤ a0 ∧ a0 ≤ 1000 := ⟨_, rfl, by omega, by omega⟩
  obtain ⟨b1, eb1, b1l, b1u⟩ : ∃ b1, b1 = k2 - n ∧ -1000 ≤ b1 ∧ b1 ≤ 1000 := ⟨_, rfl, by omega, by omega⟩
  obtain ⟨c0, ec0, c0l, c0u⟩ : ∃ c0, c0 = k3 - 4 ∧ -4 ≤ c0 ∧ c0 ≤ 4 := ⟨_, rfl, by omega, by omega⟩
  obtain ⟨f, ef, fl, fu⟩ : ∃ f, f = k4 - 4 ∧ -4 ≤ f ∧ f ≤ 4 := ⟨_, rfl, by omega, by omega⟩
  rw [← ea0, ← eb1, ← ec0]
  simp
  rw [← ef]
  have am : -1000 ≤ a1 ∧ a1 ≤ 1000 := by omega
  have bm : -1000 ≤ b0 ∧ b0 ≤ 1000 := by omega
  clear ea0 eb1 ec0 ef mn k10 k11 k20 k21 k30 k31 k40 k41 b00 b01 a10 a11 
  clear k1 k2 k3 k4 
  have mo : ∀ {i j : Int}, -5000 ≤ i → i ≤ 5000 → -5000 ≤ j → j ≤ 5000 → MulOk i j := fun h1 h2 h3 h4 => mulOk_lt (by omega) (by omega) (by omega) (by omega)
  have q1 : MulOk a0 f := mo (by omega) (by omega) (by omega) (by omega)
  have q2 : MulOk a1 f := mo (by omega) (by omega) (by omega) (by omega)
  have q3 : MulOk a0 b1 := mo (by omega) (by omega) (by omega) (by omega)
  have q4 : MulOk a1 b0 := mo (by omega) (by omega) (by omega) (by omega)
  have q5 : MulOk a0 b0 := mo (by omega) (by omega) (by omega) (by omega)
  have q6 : MulOk a1 b1 := mo (by omega) (by omega) (by omega) (by omega)
  have q7 : MulOk (b0 - a0) (c1 - a1) := mo (by omega) (by omega) (by omega) (by omega)
  have q8 : MulOk (b1 - a1) (c0 - a0) := mo (by omega) (by omega) (by omega) (by omega)
  simp [t_law_3, q1, q2, q3, q4]
  simp [t_law_4, q5, q6, q7, q8]
  refine sign_ok ?_
  have hsg : ∀ {T : Prop}, (0 < f → T) → (f = 0 → T) → (f < 0 → T) → T := fun h1 h2 h3 => by
    rcases Int.lt_trichotomy f 0 with h | h | h
    · exact h3 h
    · exact h2 h
    · exact h1 h
  have g0 : Bd 90 (a1 - b1) := by unfold Bd; omega
  have g1 : Bd 90 a1 := by unfold Bd; omega
  -- steps, divisor
  have tail : seqW t_law_5 (seqW t_law_6 (seqW t_law_7 (seqW t_law_8 (seqW t_law_9 (seqW t_law_10 (seqW t_law_11 (seqW t_law_12 (seqW t_law_13 (seqW t_law_14 (seqW t_law_15 (seqW t_law_16 (seqW t_law_17 (seqW t_law_18 (seqW t_law_19 (seqW t_law_20 (seqW t_law_21 (seqW t_law_22 (seqW t_law_23 t_law_24))))))))))))))))))
      [none, some .st, some (.d (.int n)), some (.d (pt a0 a1)), some (.d (pt b0 b1)), some (.d (pt c0 c1)), some (.d (.int f)), none, none, none, none, none, none, none, none, none, none, none, none, none, none, none, none, none, none] G := by
    clear hsg q1 q2 q3 q4 q5 q6 q7 q8
    simp [t_law_5]
    refine lgcd_ok g0 ?_
    simp [t_law_6]
    refine steps_ok ?_
    simp
    refine divisor_ok ?_
    simp
    refine lgcd_ok g1 ?_
    simp [t_law_7]
    refine take_ok (by omega) (by omega) fun k1 k10 k11 => ?_
    simp
    refine take_ok (by omega) (by omega) fun k2 k20 k21 => ?_
    obtain ⟨d0, ed0, d0l, d0u⟩ : ∃ d0, d0 = k1 - 6 ∧ -6 ≤ d0 ∧ d0 ≤ 6 := ⟨_, rfl, by omega, by omega⟩
    obtain ⟨d1, ed1, d1l, d1u⟩ : ∃ d1, d1 = k2 - 6 ∧ -6 ≤ d1 ∧ d1 ≤ 6 := ⟨_, rfl, by omega, by omega⟩
    rw [← ed0]
    simp
    rw [← ed1]
    clear ed0 ed1
    simp [t_law_8]
    refine between_ok (by omega) (by omega) ?_
    simp [t_law_9, t_law_10]
    refine ⟨⟨by omega, by omega, by rw [sizeLine_eq]; omega⟩, ?_⟩
    refine for_ok (fun k ρ => ∃ o1 o2, ρ = [none, some .st, some (.d (.int n)), some (.d (pt a0 a1)), some (.d (pt b0 b1)), some (.d (pt c0 c1)), some (.d (.int f)), some (.d (.int ((a0 - b0).gcd (a1 - b1) : Nat))), some (.d (pt d0 d1)), some (.d (.list ((betw c0 c1 d0 d1).map mkp))),
        some (.d (.list ((scan (min c0 d0) (min c1 d1) k (max c1 d1 + 1 - min c1 d1).toNat fun x y => decide ((d0 - c0) * (y - c1) - (d1 - c1) * (x - c0) = 0)).map mkp))), o1, o2, none, none, none, none, none, none, none, none, none, none, none, none])
      _ ⟨_, _, rfl⟩ (fun k z ρ hz hI => ?_) (fun ρ hI => ?_)
    · obtain ⟨o1, o2, rfl⟩ := hI
      obtain ⟨rfl, hk⟩ := rngL_get hz
      refine ⟨_, rfl, fun T t1 _ => ?_⟩
      have hl := scan_len (x0 := min c0 d0) (y0 := min c1 d1) (ny := (max c1 d1 + 1 - min c1 d1).toNat) (f := fun x y => decide ((d0 - c0) * (y - c1) - (d1 - c1) * (x - c0) = 0)) (k + 1)
      have hl2 : (k + 1) * (max c1 d1 + 1 - min c1 d1).toNat ≤ 40 * 40 := Nat.mul_le_mul (by omega) (by omega)
      simp
      refine ⟨⟨by omega, by omega, by rw [sizeLine_eq]; omega⟩, ?_⟩
      refine lcl_ok (rowF (fun x y => decide ((d0 - c0) * (y - c1) - (d1 - c1) * (x - c0) = 0)) (min c0 d0 + k)) _ _ (fun z hz2 => ?_) ?_
      · obtain ⟨j, hj, rfl⟩ := rngL_mem hz2
        refine ⟨_, rfl, ?_⟩
        have m1 : MulOk (d0 - c0) (min c1 d1 + j - c1) := mo (by omega) (by omega) (by omega) (by omega)
        have m2 : MulOk (d1 - c1) (min c0 d0 + k - c0) := mo (by omega) (by omega) (by omega) (by omega)
        by_cases he : (d0 - c0) * (min c1 d1 + j - c1) - (d1 - c1) * (min c0 d0 + k - c0) = 0
        · simp only [rowF, he, decide_true, if_true]
          refine ⟨fun T hT => ?_, fun T hT => ?_⟩
          · simp [wipeD, m1, m2, he]
            exact hT
          · simp [wipeD]
            exact hT
        · simp only [rowF, he, decide_false]
          intro T hT
          simp [wipeD, m1, m2, he]
          exact hT
      · have e := row_fm (x := min c0 d0 + k) (y0 := min c1 d1) (ny := (max c1 d1 + 1 - min c1 d1).toNat) (f := fun x y => decide ((d0 - c0) * (y - c1) - (d1 - c1) * (x - c0) = 0))
        rw [e]
        rw [scan_succ, List.length_append] at hl
        simp only [kLc_a, kM_v, m_b2, o_addLO, kV_a, kE_v, cSet_l, List.length_map]
        refine ⟨by rw [sizeLine_eq]; omega, ?_⟩
        refine t1 _ ⟨some (.d (.int (min c0 d0 + k))), o2, ?_⟩
        rw [scan_succ, List.map_append]
        rfl
    obtain ⟨o1, o2, rfl⟩ := hI
    rw [rngL_ln]
    have hsort := betw_scan (a := c0) (b := c1) (c := d0) (d := d1) (f := fun x y => decide ((d0 - c0) * (y - c1) - (d1 - c1) * (x - c0) = 0)) fun _ _ => rfl
    generalize (scan (min c0 d0) (min c1 d1) (max c0 d0 + 1 - min c0 d0).toNat (max c1 d1 + 1 - min c1 d1).toNat fun x y => decide ((d0 - c0) * (y - c1) - (d1 - c1) * (x - c0) = 0)) = sc at hsort
    have hsh : shpA 63 ((sc.mergeSort leP).map mkp) = true := shpA_mkp _ (by decide)
    have eq1 : PyData.eqvAll ((sc.mergeSort leP).map mkp) ((sc.mergeSort leP).map mkp) = true := by rw [eqvAll_mkp]; simp
    have glen := betw_len (a := c0) (b := c1) (c := d0) (d := d1)
    have hg1000 : gg c0 c1 d0 d1 ≤ 1000 := gcd_le1000 (by omega) (by omega)
    simp [t_law_11, hsort, hsh, eq1, betw_first, betw_last, glen]
    refine ⟨⟨⟨by omega, by omega⟩, by rw [sizeLine_eq]; omega⟩, ?_⟩
    refine lcl_ok (fun _ => none) _ _ (fun z hz => ?_) ?_
    · obtain ⟨k, hk, rfl⟩ := rngL_mem hz
      refine ⟨_, rfl, fun T hT => ?_⟩
      have i1 := betw_at (a := c0) (b := c1) (c := d0) (d := d1) (i := 2 + k) (by omega) (by omega)
      have i2 := betw_at (a := c0) (b := c1) (c := d0) (d := d1) (i := 2 + k - 1) (by omega) (by omega)
      have i3 := betw_at (a := c0) (b := c1) (c := d0) (d := d1) (i := 1) (by omega) (by omega)
      have i4 := betw_first (a := c0) (b := c1) (c := d0) (d := d1)
      generalize (d0 - c0).fdiv (gg c0 c1 d0 d1 : Nat) = sx at i1 i2 i3
      generalize (d1 - c1).fdiv (gg c0 c1 d0 d1 : Nat) = sy at i1 i2 i3
      have j1 : c0 + sx * (2 + k) - (c0 + sx * (2 + k - 1)) = c0 + sx * 1 - c0 := by grind
      have j2 : c1 + sy * (2 + k) - (c1 + sy * (2 + k - 1)) = c1 + sy * 1 - c1 := by grind
      simp only [wipeD, List.foldl, List.set_cons_zero, List.set_cons_succ] at *
      simp [i1, i2, i3, i4, j1, j2]
      exact hT
    · have e : ∀ l : List PyData, l.filterMap (fun _ => (none : Option PyData)) = [] := fun l => by induction l with
        | nil => rfl
        | cons _ _ ih => exact ih
      rw [e]
      simp
      exact tail12 hG (by omega) (by omega) (by omega) (by omega)
  refine hsg (fun h => ?_) (fun h => ?_) (fun h => ?_)
  · simp [h]
    exact tail
  · simp [h]
    subst h
    exact tail
  · have h1 : ¬ 0 < f := by omega
    have h2 : ¬ f = 0 := by omega
    simp [h1, h2]
    exact tail
end L01
end

section
set_option Elab.async false
set_option linter.all false
set_option maxRecDepth 100000
set_option maxHeartbeats 0
namespace L01
open PySem PySem.Spec L2 Pw
def d__law_cross : He.DefD := ⟨("_law_cross", none), "_law_cross", "_law_cross", defArgs s__law_cross, defBody s__law_cross, defScope s__law_cross, [], []⟩
def d__law_done : He.DefD := ⟨("_law_done", none), "_law_done", "_law_done", defArgs s__law_done, defBody s__law_done, defScope s__law_done, [], []⟩
def d__law_gcd : He.DefD := ⟨("_law_gcd", none), "_law_gcd", "_law_gcd", defArgs s__law_gcd, defBody s__law_gcd, defScope s__law_gcd, [], []⟩
def d__law_is_point : He.DefD := ⟨("_law_is_point", none), "_law_is_point", "_law_is_point", defArgs s__law_is_point, defBody s__law_is_point, defScope s__law_is_point, [], []⟩
def d__law_is_move : He.DefD := ⟨("_law_is_move", none), "_law_is_move", "_law_is_move", defArgs s__law_is_move, defBody s__law_is_move, defScope s__law_is_move, [], []⟩
def d__law_less : He.DefD := ⟨("_law_less", none), "_law_less", "_law_less", defArgs s__law_less, defBody s__law_less, defScope s__law_less, [], []⟩
def d__law_take : He.DefD := ⟨("_law_take", none), "_law_take", "_law_take", defArgs s__law_take, defBody s__law_take, defScope s__law_take, [], []⟩
def d__law_move : He.DefD := ⟨("_law_move", none), "_law_move", "_law_move", defArgs s__law_move, defBody s__law_move, defScope s__law_move, [], []⟩
def d__law_pick : He.DefD := ⟨("_law_pick", none), "_law_pick", "_law_pick", defArgs s__law_pick, defBody s__law_pick, defScope s__law_pick, [], []⟩
def d__law_side : He.DefD := ⟨("_law_side", none), "_law_side", "_law_side", defArgs s__law_side, defBody s__law_side, defScope s__law_side, [], []⟩
def d__law_state : He.DefD := ⟨("_law_state", none), "_law_state", "_law_state", defArgs s__law_state, defBody s__law_state, defScope s__law_state, [], []⟩
def d_divisor : He.DefD := ⟨("divisor", none), "divisor", "divisor", defArgs s_divisor, defBody s_divisor, defScope s_divisor, [], []⟩
def d_least_step : He.DefD := ⟨("least_step", none), "least_step", "least_step", defArgs s_least_step, defBody s_least_step, defScope s_least_step, [], []⟩
def d_shares : He.DefD := ⟨("shares", none), "shares", "shares", defArgs s_shares, defBody s_shares, defScope s_shares, [], []⟩
def d_move_to_first : He.DefD := ⟨("move_to_first", none), "move_to_first", "move_to_first", defArgs s_move_to_first, defBody s_move_to_first, defScope s_move_to_first, [], []⟩
def d__law_word : He.DefD := ⟨("_law_word", none), "_law_word", "_law_word", defArgs s__law_word, defBody s__law_word, defScope s__law_word, [], []⟩
def d_dot : He.DefD := ⟨("dot", none), "dot", "dot", defArgs s_dot, defBody s_dot, defScope s_dot, [], []⟩
def d_moved : He.DefD := ⟨("moved", none), "moved", "moved", defArgs s_moved, defBody s_moved, defScope s_moved, [], []⟩
def d_after : He.DefD := ⟨("after", none), "after", "after", defArgs s_after, defBody s_after, defScope s_after, [], []⟩
def d_plus : He.DefD := ⟨("plus", none), "plus", "plus", defArgs s_plus, defBody s_plus, defScope s_plus, [], []⟩
def d_steps : He.DefD := ⟨("steps", none), "steps", "steps", defArgs s_steps, defBody s_steps, defScope s_steps, [], []⟩
def d_times : He.DefD := ⟨("times", none), "times", "times", defArgs s_times, defBody s_times, defScope s_times, [], []⟩
def d_between : He.DefD := ⟨("between", none), "between", "between", defArgs s_between, defBody s_between, defScope s_between, [], []⟩
def d_cross : He.DefD := ⟨("cross", none), "cross", "cross", defArgs s_cross, defBody s_cross, defScope s_cross, [], []⟩
def d_is_whole : He.DefD := ⟨("is_whole", none), "is_whole", "is_whole", defArgs s_is_whole, defBody s_is_whole, defScope s_is_whole, [], []⟩
def d_is_point : He.DefD := ⟨("is_point", none), "is_point", "is_point", defArgs s_is_point, defBody s_is_point, defScope s_is_point, [], []⟩
def d_is_move : He.DefD := ⟨("is_move", none), "is_move", "is_move", defArgs s_is_move, defBody s_is_move, defScope s_is_move, [], []⟩
def d_is_turning : He.DefD := ⟨("is_turning", none), "is_turning", "is_turning", defArgs s_is_turning, defBody s_is_turning, defScope s_is_turning, [], []⟩
def d_less : He.DefD := ⟨("less", none), "less", "less", defArgs s_less, defBody s_less, defScope s_less, [], []⟩
def d_side : He.DefD := ⟨("side", none), "side", "side", defArgs s_side, defBody s_side, defScope s_side, [], []⟩
def d_sign : He.DefD := ⟨("sign", none), "sign", "sign", defArgs s_sign, defBody s_sign, defScope s_sign, [], []⟩
def d_stays : He.DefD := ⟨("stays", none), "stays", "stays", defArgs s_stays, defBody s_stays, defScope s_stays, [], []⟩
def d_undone : He.DefD := ⟨("undone", none), "undone", "undone", defArgs s_undone, defBody s_undone, defScope s_undone, [], []⟩
def d_law : He.DefD := ⟨("law", none), "law", "law", defArgs s_law, defBody s_law, defScope s_law, [], []⟩
def fn : List He.DefD := ([d__law_cross, d__law_done, d__law_gcd, d__law_is_point, d__law_is_move, d__law_less, d__law_take, d__law_move, d__law_pick, d__law_side, d__law_state, d_divisor, d_least_step, d_shares, d_move_to_first, d__law_word, d_dot, d_moved, d_after, d_plus, d_steps, d_times, d_between, d_cross, d_is_whole, d_is_point, d_is_move, d_is_turning, d_less, d_side] : List He.DefD) ++ ([d_sign, d_stays, d_undone, d_law] : List He.DefD)
def fa : List He.Fa := ([.free "abs", .free "all", .free "bool", .free "int", .free "isinstance", .free "len", .free "list", .free "max", .free "min", .free "range", .free "sorted", .free "tuple", .int "MOST_NUMBER" 1000000, .glo "_law_cross", .glo "_law_done", .glo "_law_gcd", .glo "_law_is_point", .glo "_law_is_move", .glo "_law_less", .glo "_law_take", .glo "_law_move", .glo "_law_pick", .glo "_law_side", .glo "_law_state", .glo "divisor", .glo "least_step", .glo "shares", .glo "move_to_first", .glo "_law_word", .glo "dot"] : List He.Fa) ++ ([.glo "moved", .glo "after", .glo "plus", .glo "steps", .glo "times", .glo "between", .glo "cross", .glo "is_whole", .glo "is_point", .glo "is_move", .glo "is_turning", .glo "less", .glo "side", .glo "sign", .glo "stays", .glo "undone", .glo "law", .free "super", .glo "Misstep", .exm "Misstep" "Misstep" true] : List He.Fa)
def es : List ErrS := [e_Misstep]
abbrev Pr : Program := PySem.Challenge.rw_panewright_k01_whole_points_and_moves.prog
abbrev R : PySem.W.OpenRow := PySem.W.OpenLaw.row PySem.Challenge.rw_panewright_k01_whole_points_and_moves
abbrev hk : PySem.W.Hook := hookP Pr 6 fa fn es
def ob (s : PySem.W.SharedT) : AlP := obsPG Pr.main.file 6 fa fn es (HandSHeadRun.getT s)
theorem ob_eq (s : PySem.W.SharedT) : ob s = hk.obs s.abs := obsPG_eq (HandSHeadRun.getT_eq s)
def loose : List Str := (["Wrong", "Misstep", "MOST_NUMBER", "is_whole", "is_point", "divisor", "plus", "less", "times", "cross", "dot", "side", "sign", "steps", "least_step", "between", "is_move", "moved", "stays", "after", "undone", "is_turning", "shares", "move_to_first", "_law_state", "_law_take", "_law_pick", "_law_cross", "_law_less", "_law_side"] : List Str) ++ (["_law_gcd", "_law_hull", "_law_pane", "_law_holds", "_law_points", "_law_drawn", "_law_move", "_law_done", "_law_is_point", "_law_is_move", "_law_word"] : List Str)
theorem run (w : World) : HandSHeadRun.RunEq R (PySem.W.view R.prog [44]) hk ob 2000 loose w := by
  intro os
  kernel_rfl
theorem facts {w : World} {K : PySem.W.Frag} {h : Heap} {mg : Str → Option Value} {f : Addr} (hlaw : b_law (lawEnv 23) fun fl => fl = .rt (.d (.bool true))) (X : K.In h) (G : h.Ns mainGlobals mg) (hfa : mg ("law" : Str) = some (.ref f)) (c : SaysP Pr fa fn es K) :
    ∃ fd : FuncData, (∀ (s : Shared) (v : Value), BindsTo s fd ⟨[v], []⟩ [("script", v)]) ∧ ∀ base : Heap, K.In base → base.Ns mainGlobals mg → FnOk Pr w K mg base CX0 5 f fd ["script"] (spLaw K) := by
  have B : Bl mg := ⟨He.free_ok X G (c.fact 0 (f := .free "abs") rfl), He.free_ok X G (c.fact 1 (f := .free "all") rfl), He.free_ok X G (c.fact 2 (f := .free "bool") rfl), He.free_ok X G (c.fact 3 (f := .free "int") rfl), He.free_ok X G (c.fact 4 (f := .free "isinstance") rfl), He.free_ok X G (c.fact 5 (f := .free "len") rfl), He.free_ok X G (c.fact 6 (f := .free "list") rfl), He.free_ok X G (c.fact 7 (f := .free "max") rfl), He.free_ok X G (c.fact 8 (f := .free "min") rfl), He.free_ok X G (c.fact 9 (f := .free "range") rfl), He.free_ok X G (c.fact 10 (f := .free "sorted") rfl), He.free_ok X G (c.fact 11 (f := .free "tuple") rfl)⟩
  have G0 : Gc mg := ⟨He.int_ok X G (c.fact 12 (f := .int "MOST_NUMBER" 1000000) rfl)⟩
  have F__law_cross : FnDef K mg "_law_cross" s__law_cross := c.def_ X G 0 (x := "_law_cross") (st := s__law_cross) rfl (c.fact 13 (f := .glo "_law_cross") rfl)
  have F__law_done : FnDef K mg "_law_done" s__law_done := c.def_ X G 1 (x := "_law_done") (st := s__law_done) rfl (c.fact 14 (f := .glo "_law_done") rfl)
  have F__law_gcd : FnDef K mg "_law_gcd" s__law_gcd := c.def_ X G 2 (x := "_law_gcd") (st := s__law_gcd) rfl (c.fact 15 (f := .glo "_law_gcd") rfl)
  have F__law_is_point : FnDef K mg "_law_is_point" s__law_is_point := c.def_ X G 3 (x := "_law_is_point") (st := s__law_is_point) rfl (c.fact 16 (f := .glo "_law_is_point") rfl)
  have F__law_is_move : FnDef K mg "_law_is_move" s__law_is_move := c.def_ X G 4 (x := "_law_is_move") (st := s__law_is_move) rfl (c.fact 17 (f := .glo "_law_is_move") rfl)
  have F__law_less : FnDef K mg "_law_less" s__law_less := c.def_ X G 5 (x := "_law_less") (st := s__law_less) rfl (c.fact 18 (f := .glo "_law_less") rfl)
  have F__law_take : FnDef K mg "_law_take" s__law_take := c.def_ X G 6 (x := "_law_take") (st := s__law_take) rfl (c.fact 19 (f := .glo "_law_take") rfl)
  have F__law_move : FnDef K mg "_law_move" s__law_move := c.def_ X G 7 (x := "_law_move") (st := s__law_move) rfl (c.fact 20 (f := .glo "_law_move") rfl)
  have F__law_pick : FnDef K mg "_law_pick" s__law_pick := c.def_ X G 8 (x := "_law_pick") (st := s__law_pick) rfl (c.fact 21 (f := .glo "_law_pick") rfl)
  have F__law_side : FnDef K mg "_law_side" s__law_side := c.def_ X G 9 (x := "_law_side") (st := s__law_side) rfl (c.fact 22 (f := .glo "_law_side") rfl)
  have F_divisor : FnDef K mg "divisor" s_divisor := c.def_ X G 11 (x := "divisor") (st := s_divisor) rfl (c.fact 24 (f := .glo "divisor") rfl)
  have F_least_step : FnDef K mg "least_step" s_least_step := c.def_ X G 12 (x := "least_step") (st := s_least_step) rfl (c.fact 25 (f := .glo "least_step") rfl)
  have F_shares : FnDef K mg "shares" s_shares := c.def_ X G 13 (x := "shares") (st := s_shares) rfl (c.fact 26 (f := .glo "shares") rfl)
  have F_move_to_first : FnDef K mg "move_to_first" s_move_to_first := c.def_ X G 14 (x := "move_to_first") (st := s_move_to_first) rfl (c.fact 27 (f := .glo "move_to_first") rfl)
  have F__law_word : FnDef K mg "_law_word" s__law_word := c.def_ X G 15 (x := "_law_word") (st := s__law_word) rfl (c.fact 28 (f := .glo "_law_word") rfl)
  have F_dot : FnDef K mg "dot" s_dot := c.def_ X G 16 (x := "dot") (st := s_dot) rfl (c.fact 29 (f := .glo "dot") rfl)
  have F_moved : FnDef K mg "moved" s_moved := c.def_ X G 17 (x := "moved") (st := s_moved) rfl (c.fact 30 (f := .glo "moved") rfl)
  have F_after : FnDef K mg "after" s_after := c.def_ X G 18 (x := "after") (st := s_after) rfl (c.fact 31 (f := .glo "after") rfl)
  have F_plus : FnDef K mg "plus" s_plus := c.def_ X G 19 (x := "plus") (st := s_plus) rfl (c.fact 32 (f := .glo "plus") rfl)
  have F_steps : FnDef K mg "steps" s_steps := c.def_ X G 20 (x := "steps") (st := s_steps) rfl (c.fact 33 (f := .glo "steps") rfl)
  have F_times : FnDef K mg "times" s_times := c.def_ X G 21 (x := "times") (st := s_times) rfl (c.fact 34 (f := .glo "times") rfl)
  have F_between : FnDef K mg "between" s_between := c.def_ X G 22 (x := "between") (st := s_between) rfl (c.fact 35 (f := .glo "between") rfl)
  have F_cross : FnDef K mg "cross" s_cross := c.def_ X G 23 (x := "cross") (st := s_cross) rfl (c.fact 36 (f := .glo "cross") rfl)
  have F_is_whole : FnDef K mg "is_whole" s_is_whole := c.def_ X G 24 (x := "is_whole") (st := s_is_whole) rfl (c.fact 37 (f := .glo "is_whole") rfl)
  have F_is_point : FnDef K mg "is_point" s_is_point := c.def_ X G 25 (x := "is_point") (st := s_is_point) rfl (c.fact 38 (f := .glo "is_point") rfl)
  have F_is_move : FnDef K mg "is_move" s_is_move := c.def_ X G 26 (x := "is_move") (st := s_is_move) rfl (c.fact 39 (f := .glo "is_move") rfl)
  have F_is_turning : FnDef K mg "is_turning" s_is_turning := c.def_ X G 27 (x := "is_turning") (st := s_is_turning) rfl (c.fact 40 (f := .glo "is_turning") rfl)
  have F_less : FnDef K mg "less" s_less := c.def_ X G 28 (x := "less") (st := s_less) rfl (c.fact 41 (f := .glo "less") rfl)
  have F_side : FnDef K mg "side" s_side := c.def_ X G 29 (x := "side") (st := s_side) rfl (c.fact 42 (f := .glo "side") rfl)
  have F_sign : FnDef K mg "sign" s_sign := c.def_ X G 30 (x := "sign") (st := s_sign) rfl (c.fact 43 (f := .glo "sign") rfl)
  have F_stays : FnDef K mg "stays" s_stays := c.def_ X G 31 (x := "stays") (st := s_stays) rfl (c.fact 44 (f := .glo "stays") rfl)
  have F_undone : FnDef K mg "undone" s_undone := c.def_ X G 32 (x := "undone") (st := s_undone) rfl (c.fact 45 (f := .glo "undone") rfl)
  obtain ⟨fdS, FS⟩ := c.d.def_ 10 (d := d__law_state) rfl
  obtain ⟨fd, FD⟩ := c.d.def_ 33 (d := d_law) rfl
  have e := hfa.symm.trans (He.glo_ok X G (c.fact 46 (f := .glo "law") rfl))
  cases e
  have hsup := He.free_ok X G (c.fact 47 (f := .free "super") rfl)
  have m_Misstep := He.glo_ok X G (c.fact 48 (f := .glo "Misstep") rfl)
  have x_Misstep_Misstep := He.exm_ok (c.fact 49 (f := .exm "Misstep" "Misstep" true) rfl)
  have bl := FunD.bindsA (ps := ["script"]) FD fun _ _ _ _ _ _ us hl => match us, hl with | [_], _ => rfl
  refine ⟨fd, fun s v => bl s [v] rfl, fun base _ _ => ?_⟩
  have C_Misstep := er_Misstep (P := Pr) (w := w) (base := base) m_Misstep (c.e e_Misstep (by simp [es])) hsup (by kernel_rfl) x_Misstep_Misstep
  have C__law_cross := ok__law_cross (P := Pr) (w := w) (base := base) B G0 F__law_cross 
  have C__law_done := ok__law_done (P := Pr) (w := w) (base := base) B G0 F__law_done 
  have C__law_gcd := ok__law_gcd (P := Pr) (w := w) (base := base) B G0 F__law_gcd 
  have C__law_is_point := ok__law_is_point (P := Pr) (w := w) (base := base) B G0 F__law_is_point 
  have C__law_is_move := ok__law_is_move (P := Pr) (w := w) (base := base) B G0 F__law_is_move C__law_cross C__law_is_point
  have C__law_less := ok__law_less (P := Pr) (w := w) (base := base) B G0 F__law_less 
  have C__law_take := ok__law_take (P := Pr) (w := w) (base := base) B F__law_take
  have C__law_move := ok__law_move (P := Pr) (w := w) (base := base) B G0 F__law_move C__law_take
  have C__law_pick := ok__law_pick (P := Pr) (w := w) (base := base) B G0 F__law_pick C__law_take
  have C__law_side := ok__law_side (P := Pr) (w := w) (base := base) B G0 F__law_side C__law_cross C__law_less
  have C_divisor := ok_divisor (P := Pr) (w := w) (base := base) B G0 F_divisor 
  have C_least_step := ok_least_step (P := Pr) (w := w) (base := base) B G0 F_least_step C_divisor C_Misstep
  have C_shares := ok_shares (P := Pr) (w := w) (base := base) B G0 F_shares 
  have C_move_to_first := ok_move_to_first (P := Pr) (w := w) (base := base) B G0 F_move_to_first C_divisor C_shares C_Misstep
  have C__law_word := ok__law_word (P := Pr) (w := w) (base := base) B G0 F__law_word C_least_step C_move_to_first C_Misstep
  have C_dot := ok_dot (P := Pr) (w := w) (base := base) B G0 F_dot 
  have C_moved := ok_moved (P := Pr) (w := w) (base := base) B G0 F_moved C_dot
  have C_after := ok_after (P := Pr) (w := w) (base := base) B G0 F_after C_moved
  have C_plus := ok_plus (P := Pr) (w := w) (base := base) B G0 F_plus 
  have C_steps := ok_steps (P := Pr) (w := w) (base := base) B G0 F_steps C_divisor
  have C_times := ok_times (P := Pr) (w := w) (base := base) B G0 F_times 
  have C_between := ok_between (P := Pr) (w := w) (base := base) B G0 F_between C_plus C_steps C_times
  have C_cross := ok_cross (P := Pr) (w := w) (base := base) B G0 F_cross 
  have C_is_whole := ok_is_whole (P := Pr) (w := w) (base := base) B G0 F_is_whole 
  have C_is_point := ok_is_point (P := Pr) (w := w) (base := base) B G0 F_is_point C_is_whole
  have C_is_move := ok_is_move (P := Pr) (w := w) (base := base) B G0 F_is_move C_cross C_is_point
  have C_is_turning := ok_is_turning (P := Pr) (w := w) (base := base) B G0 F_is_turning C_cross
  have C_less := ok_less (P := Pr) (w := w) (base := base) B G0 F_less 
  have C_side := ok_side (P := Pr) (w := w) (base := base) B G0 F_side C_cross C_less
  have C_sign := ok_sign (P := Pr) (w := w) (base := base) B G0 F_sign 
  have C_stays := ok_stays (P := Pr) (w := w) (base := base) B G0 F_stays 
  have C_undone := ok_undone (P := Pr) (w := w) (base := base) B G0 F_undone C_dot
  exact law_calm (ok_law B G0 FD FS (He.glo_ok X G (c.fact 23 (f := .glo "_law_state") rfl)) hlaw C__law_cross C__law_done C__law_gcd C__law_is_move C__law_is_point C__law_less C__law_move C__law_pick C__law_side C__law_take C__law_word C_after C_between C_cross C_divisor C_dot C_is_move C_is_point C_is_turning C_is_whole C_least_step C_less C_move_to_first C_moved C_plus C_shares C_side C_sign C_stays C_steps C_times C_undone)
end L01
open PySem PySem.W PySem.Calls PyProof.Rows
theorem L01.holds_of (hlaw : Pw.lawGoal L01.b_law 23) : PySem.Challenge.rw_panewright_k01_whole_points_and_moves.Holds := by
  w_on; o_law
  refine HandSHeadRun.head_any (r := OpenLaw.row PySem.Challenge.rw_panewright_k01_whole_points_and_moves) (q := view (OpenLaw.row PySem.Challenge.rw_panewright_k01_whole_points_and_moves).prog [44]) (H := L01.hk) (ob := L01.ob) (M := 2000) (loose := L01.loose) (d := HandSHeadRun.topDef (OpenLaw.row PySem.Challenge.rw_panewright_k01_whole_points_and_moves).prog 44) (kwd := []) L01.ob_eq
    (by kernel_rfl) (fun s => by kernel_rfl) L01.run (by kernel_rfl) (by kernel_rfl) (by kernel_rfl) (by rfl) (by first | assumption | decide +kernel) (by decide +kernel) ⟨rfl, rfl, rfl, rfl, rfl, by decide +kernel⟩ ?hw ?hc
  case hw => w_witness2
  case hc =>
    refine L2.walk_ofE (l := PySem.Challenge.rw_panewright_k01_whole_points_and_moves) (n := 63) (k := 5) (x := "script") (CX := L2.CX0) rfl (by decide) (by kernel_rfl) ⟨rfl, by decide, by decide⟩ ?F (fun _ _ _ _ z => z)
    intro w mg fa h Y G hmg0
    obtain ⟨K, KX, c⟩ := Y
    have hmg : mg ("law" : PySem.Str) = some (.ref fa) := by
      have e : (HandSHeadRun.topDef (OpenLaw.row PySem.Challenge.rw_panewright_k01_whole_points_and_moves).prog 44).name = ("law" : PySem.Str) := by kernel_rfl
      rw [← e]
      exact hmg0
    obtain ⟨fd, hb, hF⟩ := L01.facts (w := w) hlaw KX G hmg c
    exact ⟨K, fd, Pw.spLaw K, KX, hb, fun H a ns hl _ hS => ⟨a, ns, rfl, hS, hl, fun _ => rfl⟩, hF⟩
end

theorem PySem.Challenge.cw_panewright_k01_whole_points_and_moves_holds : PySem.Challenge.rw_panewright_k01_whole_points_and_moves.Holds :=
  L01.holds_of L01.law_holds
