import PyProof.Rows.All
import Wide.All
import OpenK.AllK
import Wide.FinOn
import PyProof.EqAt
import PyProof.EqKinds
import PyProof.TupleCall
import HandS.ForMost
import HandS.ForExc
import HandS.Wide
import HandS.Flow
import HandS.IsInst
import HandS.Deep
import HandS.NoneIn
import HandS.Style
import HandS.CallLocal
import HandS.SortInts
import HandS.TupAny
import HandS.Lambda
import HandS.SetFor
import HandS.Strs
import HandS.Text
import HandS.ExcIs
import HandS.ExcValue
import HandS.EndTab
import PyProof.WalkInts
import KE.KMinKey
import HandS.SortKw
import PySem.Challenge.RW_stretchkeeper_k01_stretches
set_option Elab.async false
set_option linter.all false
set_option maxRecDepth 100000
set_option maxHeartbeats 4000000
/-! # The data layer: plain data D, what represents it in an abstract heap, and data-level readings of the hand layer's rules -/
namespace L2.DL
open PySem PySem.Spec PyProof.Rows

/-- plain data (kp: a Keeper's begins and turns; scr: the script as it was handed in; adr: a fixed object; ty: a built-in class) -/
inductive D where
  | non | bl (b : Bool) | int (i : Int) | str (s : Str)
  | lst (ds : List D) | tup (ds : List D) | dic (ks : List Key) (ds : List D)
  | kp (b : Bool) (ts : List Int) | scr (ns : List Int) | adr (a : Addr) | ty (n : String) | exc (c : Addr)

/-- a caught exception of the class c -/
def ExT (c a : Addr) : HO := .ext fun h => ∃ (oe : Obj) (vs : Array Value), h.get? a = some oe ∧ Zc (.ref c) none oe ∧ oe.data = .fields vs
/-- a Keeper's attributes -/
def kf (b : Bool) (l : Addr) : List (Str × V) := [("begins", .bl b), ("turns", .ref l)]

mutual
/-- v stands for d in H (C: the class Keeper) -/
def Rep (K : PySem.W.Frag) (C : Addr) (H : Hp) : D → V → Prop
  | .non, v => v = .non
  | .bl b, v => v = .bl b
  | .int i, v => v = .int i
  | .str s, v => v = .str s
  | .adr a, v => v = .ref a
  | .ty n, v => v = .ty n
  | .lst ds, v => ∃ a vs, v = .ref a ∧ H a = some (.lst vs) ∧ RepL K C H ds vs
  | .tup ds, v => ∃ a vs, v = .ref a ∧ H a = some (.tup vs) ∧ RepL K C H ds vs
  | .dic ks ds, v => ∃ a vs, v = .ref a ∧ H a = some (.dK (ks.zip vs)) ∧ RepL K C H ds vs ∧ ks.length = ds.length
  | .kp b ts, v => ∃ a dx l, v = .ref a ∧ H a = some (.ins C dx (kf b l)) ∧ H l = some (.lst (ts.map V.int))
  | .scr ns, v => ∃ a, v = .ref a ∧ SqL K H a (ns.map V.int)
  | .exc c, v => ∃ a, v = .ref a ∧ H a = some (ExT c a)
def RepL (K : PySem.W.Frag) (C : Addr) (H : Hp) : List D → List V → Prop
  | [], vs => vs = []
  | d :: ds, vs => ∃ v r, vs = v :: r ∧ Rep K C H d v ∧ RepL K C H ds r
end

section
variable {K : PySem.W.Frag} {C : Addr} {H H' : Hp}
mutual
theorem Rep.mono (s : Same H H') : ∀ (d : D) {v : V}, Rep K C H d v → Rep K C H' d v
  | .non, _, h => h
  | .bl _, _, h => h
  | .int _, _, h => h
  | .str _, _, h => h
  | .adr _, _, h => h
  | .ty _, _, h => h
  | .lst ds, v, h => by
    obtain ⟨a, vs, e, h1, h2⟩ := h
    exact ⟨a, vs, e, s _ _ h1, RepL.mono s ds h2⟩
  | .tup ds, v, h => by
    obtain ⟨a, vs, e, h1, h2⟩ := h
    exact ⟨a, vs, e, s _ _ h1, RepL.mono s ds h2⟩
  | .dic ks ds, v, h => by
    obtain ⟨a, vs, e, h1, h2, h3⟩ := h
    exact ⟨a, vs, e, s _ _ h1, RepL.mono s ds h2, h3⟩
  | .kp b ts, v, h => by
    obtain ⟨a, dx, l, e, h1, h2⟩ := h
    exact ⟨a, dx, l, e, s _ _ h1, s _ _ h2⟩
  | .scr ns, v, h => by
    obtain ⟨a, e, h1⟩ := h
    exact ⟨a, e, s.seq h1⟩
  | .exc c, v, h => by
    obtain ⟨a, e, h1⟩ := h
    exact ⟨a, e, s _ _ h1⟩
theorem RepL.mono (s : Same H H') : ∀ (ds : List D) {vs : List V}, RepL K C H ds vs → RepL K C H' ds vs
  | [], _, h => h
  | d :: ds, vs, h => by
    obtain ⟨v, r, e, h1, h2⟩ := h
    exact ⟨v, r, e, Rep.mono s d h1, RepL.mono s ds h2⟩
end
theorem RepL.length : ∀ {ds : List D} {vs : List V}, RepL K C H ds vs → vs.length = ds.length
  | [], _, h => by
    have e : _ = _ := h
    rw [e]
    rfl
  | d :: ds, vs, h => by
    obtain ⟨v, r, e, h1, h2⟩ := h
    rw [e, List.length_cons, List.length_cons, RepL.length h2]
theorem RepL.get : ∀ {ds : List D} {vs : List V} {i : Nat} {d : D}, RepL K C H ds vs → ds[i]? = some d → ∃ v, vs[i]? = some v ∧ Rep K C H d v
  | [], _, _, _, _, e => by simp at e
  | d :: ds, vs, 0, d', h, e => by
    obtain ⟨v, r, rfl, h1, h2⟩ := h
    have e' : d = d' := by simpa using e
    subst e'
    exact ⟨v, rfl, h1⟩
  | d :: ds, vs, i + 1, d', h, e => by
    obtain ⟨v, r, rfl, h1, h2⟩ := h
    obtain ⟨w, e1, e2⟩ := RepL.get (i := i) (d := d') h2 (by simpa using e)
    exact ⟨w, by simpa using e1, e2⟩
theorem RepL.get' : ∀ {ds : List D} {vs : List V} {i : Nat} {v : V}, RepL K C H ds vs → vs[i]? = some v → ∃ d, ds[i]? = some d ∧ Rep K C H d v
  | [], _, _, _, h, e => by
    have q : _ = _ := h
    subst q
    simp at e
  | d :: ds, vs, 0, v', h, e => by
    obtain ⟨v, r, rfl, h1, h2⟩ := h
    have e' : v = v' := by simpa using e
    subst e'
    exact ⟨d, rfl, h1⟩
  | d :: ds, vs, i + 1, v', h, e => by
    obtain ⟨v, r, rfl, h1, h2⟩ := h
    obtain ⟨w, e1, e2⟩ := RepL.get' (i := i) (v := v') h2 (by simpa using e)
    exact ⟨w, by simpa using e1, e2⟩
theorem RepL.append : ∀ {ds es : List D} {vs ws : List V}, RepL K C H ds vs → RepL K C H es ws → RepL K C H (ds ++ es) (vs ++ ws)
  | [], _, _, _, h, h' => by
    have e : _ = _ := h
    subst e
    exact h'
  | d :: ds, es, vs, ws, h, h' => by
    obtain ⟨v, r, rfl, h1, h2⟩ := h
    exact ⟨v, r ++ ws, rfl, h1, RepL.append h2 h'⟩
theorem RepL.one {d : D} {v : V} (h : Rep K C H d v) : RepL K C H [d] [v] := ⟨v, [], rfl, h, rfl⟩
theorem RepL.take : ∀ {ds : List D} {vs : List V} (n : Nat), RepL K C H ds vs → RepL K C H (ds.take n) (vs.take n)
  | _, _, 0, _ => rfl
  | [], _, n + 1, h => by
    have e : _ = _ := h
    subst e
    rfl
  | d :: ds, vs, n + 1, h => by
    obtain ⟨v, r, rfl, h1, h2⟩ := h
    exact ⟨v, r.take n, rfl, h1, RepL.take n h2⟩
theorem RepL.drop : ∀ {ds : List D} {vs : List V} (n : Nat), RepL K C H ds vs → RepL K C H (ds.drop n) (vs.drop n)
  | _, _, 0, h => h
  | [], _, n + 1, h => by
    have e : _ = _ := h
    subst e
    rfl
  | d :: ds, vs, n + 1, h => by
    obtain ⟨v, r, rfl, h1, h2⟩ := h
    exact RepL.drop n h2
theorem RepL.reverse : ∀ {ds : List D} {vs : List V}, RepL K C H ds vs → RepL K C H ds.reverse vs.reverse
  | [], _, h => by
    have e : _ = _ := h
    subst e
    rfl
  | d :: ds, vs, h => by
    obtain ⟨v, r, rfl, h1, h2⟩ := h
    rw [List.reverse_cons, List.reverse_cons]
    exact (RepL.reverse h2).append (RepL.one h1)
theorem RepL.ints (H : Hp) : ∀ (ns : List Int), RepL K C H (ns.map D.int) (ns.map V.int)
  | [] => rfl
  | n :: r => ⟨.int n, r.map V.int, rfl, rfl, RepL.ints H r⟩
theorem RepL.of_ints : ∀ {ns : List Int} {vs : List V}, RepL K C H (ns.map D.int) vs → vs = ns.map V.int
  | [], _, h => h
  | n :: r, vs, h => by
    obtain ⟨v, r', rfl, h1, h2⟩ := h
    have e : v = V.int n := h1
    rw [e, RepL.of_ints h2]
    rfl
theorem RepL.bools (H : Hp) : ∀ (ns : List Bool), RepL K C H (ns.map D.bl) (ns.map V.bl)
  | [] => rfl
  | n :: r => ⟨.bl n, r.map V.bl, rfl, rfl, RepL.bools H r⟩
theorem RepL.of_bools : ∀ {ns : List Bool} {vs : List V}, RepL K C H (ns.map D.bl) vs → vs = ns.map V.bl
  | [], _, h => h
  | n :: r, vs, h => by
    obtain ⟨v, r', rfl, h1, h2⟩ := h
    have e : v = V.bl n := h1
    rw [e, RepL.of_bools h2]
    rfl
theorem RepL.strs (H : Hp) : ∀ (ns : List Str), RepL K C H (ns.map D.str) (ns.map V.str)
  | [] => rfl
  | n :: r => ⟨.str n, r.map V.str, rfl, rfl, RepL.strs H r⟩
theorem RepL.of_strs : ∀ {ns : List Str} {vs : List V}, RepL K C H (ns.map D.str) vs → vs = ns.map V.str
  | [], _, h => h
  | n :: r, vs, h => by
    obtain ⟨v, r', rfl, h1, h2⟩ := h
    have e : v = V.str n := h1
    rw [e, RepL.of_strs h2]
    rfl
end

/-- the heap without some places -/
def wo (H : Hp) (O : List Addr) : Hp := fun a => if a ∈ O then none else H a
theorem wo_some {H : Hp} {O : List Addr} {a : Addr} {o : HO} (h : wo H O a = some o) : H a = some o := by
  unfold wo at h
  split at h
  · cases h
  · exact h
theorem wo_of {H : Hp} {O : List Addr} {a : Addr} {o : HO} (h : H a = some o) (n : a ∉ O) : wo H O a = some o := by
  unfold wo
  rw [if_neg n]
  exact h
theorem wo_same {H H' : Hp} (O : List Addr) (s : Same H H') : Same (wo H O) (wo H' O) := fun b o h => by
  have n : b ∉ O := fun z => by
    unfold wo at h
    rw [if_pos z] at h
    cases h
  exact wo_of (s _ _ (wo_some h)) n
theorem wo_le (H : Hp) (O : List Addr) : Same (wo H O) H := fun b o h => wo_some h
theorem wo_sub (H : Hp) {O O' : List Addr} (h : ∀ a ∈ O', a ∈ O) : Same (wo H O) (wo H O') := fun b o e => by
  have n : b ∉ O := fun z => by
    unfold wo at e
    rw [if_pos z] at e
    cases e
  exact wo_of (wo_some e) fun z => n (h b z)
theorem wo_nil (H : Hp) : Same H (wo H []) := fun b o h => wo_of h (by simp)
/-- all places of O are taken -/
def Al (O : List Addr) (H : Hp) : Prop := ∀ a ∈ O, H a ≠ none
theorem Al.mono {O : List Addr} {H H' : Hp} (h : Al O H) (s : Same H H') : Al O H' := fun a ha e => h a ha (s.free e)
theorem Al.nil (H : Hp) : Al [] H := fun _ h => by simp at h
theorem Al.new {O : List Addr} {H : Hp} (h : Al O H) {p : Addr} (e : H p = none) : p ∉ O := fun z => h p z e
theorem Same.new {H : Hp} {p : Addr} {o : HO} (h : H p = none) : Same H (upd H p o) := fun b u e => by
  rw [upd_ne (ne_of_none e h)]
  exact e

/-- a slot's content: a value, a list of the def's own that it still fills, or (in a slot of no name) what the Keeper at p, the list at p holds -/
inductive DV where
  | v (d : D) | own (ds : List D) | kst (p : Addr) (b : Bool) (ts : List Int) | ls (p : Addr) (ds : List D) | tb (p : Addr) (q : Str)
abbrev Env := List (Option DV)
abbrev DE := Env → (D → Prop) → (Addr → Prop) → Prop
abbrev DT := Env → (Bool → Prop) → (Addr → Prop) → Prop
abbrev DA := Env → (List D → Prop) → (Addr → Prop) → Prop
abbrev DS := Env → (Env → Prop) → (D → Prop) → (Addr → Prop) → Prop
abbrev DG := D → Env → (Env → Prop) → Prop
/-- the Keepers that ρ tells of: kept apart, each told of once -/
structure Stq (C : Addr) (B : Hp) (O : List Addr) (H : Hp) (ρ : Env) : Prop where
  at_ : ∀ (i : Nat) (p : Addr) (b : Bool) (ts : List Int), ρ[i]? = some (some (.kst p b ts)) → p ∈ O ∧ B p = none ∧ ∃ dx l, H p = some (.ins C dx (kf b l)) ∧ wo H O l = some (.lst (ts.map V.int))
  one : ∀ (i j : Nat) (p : Addr) (b b' : Bool) (ts ts' : List Int), ρ[i]? = some (some (.kst p b ts)) → ρ[j]? = some (some (.kst p b' ts')) → i = j
theorem Stq.to {C : Addr} {B B' H H' : Hp} {O O' : List Addr} {ρ ρ' : Env} (k : Stq C B O H ρ) (hρ : ∀ (j : Nat) (p : Addr) (b : Bool) (ts : List Int), ρ'[j]? = some (some (.kst p b ts)) → ρ[j]? = some (some (.kst p b ts)))
    (hO : ∀ a dx fs, a ∈ O → H a = some (.ins C dx fs) → a ∈ O') (hH : ∀ a dx fs, a ∈ O → B a = none → H a = some (.ins C dx fs) → (∃ (i : Nat) (b : Bool) (ts : List Int), ρ'[i]? = some (some (DV.kst a b ts))) → H' a = some (.ins C dx fs)) (hw : Same (wo H O) (wo H' O')) (hB : ∀ a, a ∈ O → B a = none → B' a = none) : Stq C B' O' H' ρ' where
  at_ := fun i p b ts e => by
    obtain ⟨h1, h2, dx, l, h3, h4⟩ := k.at_ i p b ts (hρ _ _ _ _ e)
    exact ⟨hO _ _ _ h1 h3, hB _ h1 h2, dx, l, hH _ _ _ h1 h2 h3 ⟨i, b, ts, e⟩, hw _ _ h4⟩
  one := fun i j p b b' ts ts' e e' => k.one i j p b b' ts ts' (hρ _ _ _ _ e) (hρ _ _ _ _ e')
/-- the lists that ρ tells of: kept apart, each told of once, none of them an own list of a slot -/
structure Lsq (K : PySem.W.Frag) (C : Addr) (B : Hp) (O : List Addr) (H : Hp) (σ : St) (ρ : Env) : Prop where
  at_ : ∀ (i : Nat) (p : Addr) (ds : List D), ρ[i]? = some (some (.ls p ds)) → p ∈ O ∧ B p = none ∧ ∃ vs, H p = some (.lst vs) ∧ RepL K C (wo H O) ds vs
  one : ∀ (i j : Nat) (p : Addr) (ds es : List D), ρ[i]? = some (some (.ls p ds)) → ρ[j]? = some (some (.ls p es)) → i = j
  no : ∀ (i j : Nat) (p : Addr) (ds es : List D), ρ[i]? = some (some (.ls p ds)) → ρ[j]? = some (some (.own es)) → σ[j]? ≠ some (some (.ref p))
theorem Lsq.to {K : PySem.W.Frag} {C : Addr} {B B' H H' : Hp} {O O' : List Addr} {σ σ' : St} {ρ ρ' : Env} (k : Lsq K C B O H σ ρ) (hρ : ∀ (j : Nat) (p : Addr) (ds : List D), ρ'[j]? = some (some (.ls p ds)) → ρ[j]? = some (some (.ls p ds)))
    (hO : ∀ (i : Nat) (p : Addr) (ds : List D) (vs : List V), ρ[i]? = some (some (.ls p ds)) → H p = some (.lst vs) → p ∈ O → p ∈ O') (hH : ∀ (i : Nat) (p : Addr) (ds : List D) (vs : List V), ρ[i]? = some (some (.ls p ds)) → p ∈ O → B p = none → H p = some (.lst vs) → H' p = some (.lst vs))
    (hw : Same (wo H O) (wo H' O')) (hB : ∀ a, a ∈ O → B a = none → B' a = none) (hn : ∀ (i j : Nat) (p : Addr) (ds es : List D), ρ[i]? = some (some (.ls p ds)) → ρ'[j]? = some (some (.own es)) → σ'[j]? ≠ some (some (.ref p))) : Lsq K C B' O' H' σ' ρ' where
  at_ := fun i p ds e => by
    have e' := hρ _ _ _ e
    obtain ⟨h1, h2, vs, h3, h4⟩ := k.at_ i p ds e'
    exact ⟨hO i p ds vs e' h3 h1, hB _ h1 h2, vs, hH i p ds vs e' h1 h2 h3, RepL.mono hw ds h4⟩
  one := fun i j p ds es e e' => k.one i j p ds es (hρ _ _ _ e) (hρ _ _ _ e')
  no := fun i j p ds es e e' => hn i j p ds es (hρ _ _ _ e) e'
theorem set_ls {ρ : Env} {i : Nat} {x : Option DV} (hx : ∀ p ds, x ≠ some (.ls p ds)) : ∀ (j : Nat) (p : Addr) (ds : List D), (ρ.set i x)[j]? = some (some (.ls p ds)) → ρ[j]? = some (some (.ls p ds)) := fun j p ds e => by
  by_cases h : i = j
  · subst h
    by_cases hl : i < ρ.length
    · rw [List.getElem?_set_self hl] at e
      exact absurd (Option.some.inj e) (hx p ds)
    · rw [List.getElem?_eq_none (by rw [List.length_set]; omega)] at e
      cases e
  · rwa [List.getElem?_set_ne h] at e
/-- the tables of code objects that ρ tells of -/
structure Tbq (B : Hp) (O : List Addr) (H : Hp) (ρ : Env) : Prop where
  at_ : ∀ (i : Nat) (p : Addr) (q : Str), ρ[i]? = some (some (.tb p q)) → p ∈ O ∧ B p = none ∧ LamX.TabS H p q
  one : ∀ (i j : Nat) (p : Addr) (q q' : Str), ρ[i]? = some (some (.tb p q)) → ρ[j]? = some (some (.tb p q')) → q = q'
/-- all but lists and Keepers stay -/
def SameX (H H' : Hp) : Prop := ∀ a o, H a = some o → (∀ xs, o ≠ .lst xs) → (∀ c dx fs, o ≠ .ins c dx fs) → H' a = some o
theorem SameX.of {H H' : Hp} (s : Same H H') : SameX H H' := fun a o e _ _ => s a o e
theorem SameX.refl (H : Hp) : SameX H H := fun _ _ e _ _ => e
theorem SameX.upd {H : Hp} {p : Addr} {xs : List V} {o : HO} (h : H p = some (.lst xs)) : SameX H (upd H p o) := fun a u e n _ => by
  rw [upd_ne fun q => by rw [q, h] at e; cases e; exact n xs rfl]
  exact e
theorem tabS_x {H H' : Hp} {p : Addr} {q : Str} (s : SameX H H') (t : LamX.TabS H p q) : LamX.TabS H' p q := by
  obtain ⟨ps, h1, h2, h3⟩ := t
  refine ⟨ps, s _ _ h1 (fun _ z => by cases z) (fun _ _ _ z => by cases z), h2, fun pos cv hc => ?_⟩
  obtain ⟨c, e1, e2⟩ := h3 pos cv hc
  exact ⟨c, e1, s _ _ e2 (fun _ z => by unfold LamX.CodeO at z; cases z) (fun _ _ _ z => by unfold LamX.CodeO at z; cases z)⟩
theorem Tbq.to {B B' H H' : Hp} {O O' : List Addr} {ρ ρ' : Env} (k : Tbq B O H ρ) (hρ : ∀ (j : Nat) (p : Addr) (q : Str), ρ'[j]? = some (some (.tb p q)) → ρ[j]? = some (some (.tb p q))) (hO : ∀ p ps, H p = some (.tbl ps) → p ∈ O → p ∈ O') (hH : SameX H H') (hB : ∀ a, a ∈ O → B a = none → B' a = none) : Tbq B' O' H' ρ' where
  at_ := fun i p q e => by
    obtain ⟨h1, h2, h3⟩ := k.at_ i p q (hρ _ _ _ e)
    obtain ⟨ps, e1, _⟩ := id h3
    exact ⟨hO p ps e1 h1, hB _ h1 h2, tabS_x hH h3⟩
  one := fun i j p q q' e e' => k.one i j p q q' (hρ _ _ _ e) (hρ _ _ _ e')
theorem set_tb {ρ : Env} {i : Nat} {x : Option DV} (hx : ∀ p q, x ≠ some (.tb p q)) : ∀ (j : Nat) (p : Addr) (q : Str), (ρ.set i x)[j]? = some (some (.tb p q)) → ρ[j]? = some (some (.tb p q)) := fun j p q e => by
  by_cases h : i = j
  · subst h
    by_cases hl : i < ρ.length
    · rw [List.getElem?_set_self hl] at e
      exact absurd (Option.some.inj e) (hx p q)
    · rw [List.getElem?_eq_none (by rw [List.length_set]; omega)] at e
      cases e
  · rwa [List.getElem?_set_ne h] at e
/-- a slot that another thing comes into tells of no Keeper -/
theorem set_kst {ρ : Env} {i : Nat} {x : Option DV} (hx : ∀ p b ts, x ≠ some (.kst p b ts)) : ∀ (j : Nat) (p : Addr) (b : Bool) (ts : List Int), (ρ.set i x)[j]? = some (some (.kst p b ts)) → ρ[j]? = some (some (.kst p b ts)) := fun j p b ts e => by
  by_cases h : i = j
  · subst h
    by_cases hl : i < ρ.length
    · rw [List.getElem?_set_self hl] at e
      exact absurd (Option.some.inj e) (hx p b ts)
    · rw [List.getElem?_eq_none (by rw [List.length_set]; omega)] at e
      cases e
  · rwa [List.getElem?_set_ne h] at e
/-- the slots σ in H stand for ρ; B: the heap at the entry, O0: places that the caller keeps apart; O: places that no value leans on (O0 and the own lists) -/
structure Ok (K : PySem.W.Frag) (C : Addr) (B : Hp) (O0 O : List Addr) (H : Hp) (σ : St) (ρ : Env) : Prop where
  base : Same B H
  al0 : Al O0 B
  al : Al O H
  sub0 : ∀ a ∈ O0, a ∈ O
  new : ∀ a ∈ O, a ∉ O0 → B a = none
  len : σ.length = ρ.length
  val : ∀ (i : Nat) (d : D), ρ[i]? = some (some (.v d)) → ∃ x, σ[i]? = some (some x) ∧ Rep K C (wo H O) d x
  own : ∀ (i : Nat) (ds : List D), ρ[i]? = some (some (.own ds)) → ∃ p vs, σ[i]? = some (some (.ref p)) ∧ p ∈ O ∧ B p = none ∧ H p = some (.lst vs) ∧ RepL K C (wo H O) ds vs
  uniq : ∀ (i j : Nat) (ds es : List D), ρ[i]? = some (some (.own ds)) → ρ[j]? = some (some (.own es)) → σ[i]? = σ[j]? → i = j
  st : Stq C B O H ρ
  ls : Lsq K C B O H σ ρ
  tb : Tbq B O H ρ
section
variable {K : PySem.W.Frag} {C : Addr} {B H H' : Hp} {O0 O : List Addr} {σ : St} {ρ : Env}
theorem set_own {ρ : Env} {i j : Nat} {d : D} {ds : List D} (e : (ρ.set i (some (DV.v d)))[j]? = some (some (.own ds))) : ρ[j]? = some (some (.own ds)) ∧ i ≠ j := by
  by_cases h : i = j
  · subst h
    by_cases hl : i < ρ.length
    · rw [List.getElem?_set_self hl] at e
      simp at e
    · rw [List.getElem?_eq_none (by rw [List.length_set]; omega)] at e
      cases e
  · rw [List.getElem?_set_ne h] at e
    exact ⟨e, h⟩
theorem Ok.ext (k : Ok K C B O0 O H σ ρ) (s : Same H H') : Ok K C B O0 O H' σ ρ where
  base := k.base.trans s
  al0 := k.al0
  al := k.al.mono s
  sub0 := k.sub0
  new := k.new
  len := k.len
  val := fun i d e => by
    obtain ⟨x, e1, e2⟩ := k.val i d e
    exact ⟨x, e1, Rep.mono (wo_same O s) d e2⟩
  own := fun i ds e => by
    obtain ⟨p, vs, e1, e2, e3, e4, e5⟩ := k.own i ds e
    exact ⟨p, vs, e1, e2, e3, s _ _ e4, RepL.mono (wo_same O s) ds e5⟩
  uniq := k.uniq
  st := k.st.to (fun _ _ _ _ e => e) (fun _ _ _ h _ => h) (fun _ _ _ _ _ e _ => s _ _ e) (wo_same O s) (fun _ _ h => h)
  ls := k.ls.to (fun _ _ _ e => e) (fun _ _ _ _ _ _ h => h) (fun _ _ _ _ _ _ _ e => s _ _ e) (wo_same O s) (fun _ _ h => h) k.ls.no
  tb := k.tb.to (fun _ _ _ e => e) (fun _ _ _ h => h) (SameX.of s) (fun _ _ h => h)
/-- a slot is stored -/
theorem Ok.set (k : Ok K C B O0 O H σ ρ) (i : Nat) {d : D} {x : V} (r : Rep K C (wo H O) d x) : Ok K C B O0 O H (σ.set i (some x)) (ρ.set i (some (.v d))) where
  base := k.base
  al0 := k.al0
  al := k.al
  sub0 := k.sub0
  new := k.new
  len := by rw [List.length_set, List.length_set]; exact k.len
  val := fun j d' e => by
    by_cases h : i = j
    · subst h
      by_cases hl : i < ρ.length
      · rw [List.getElem?_set_self hl] at e
        have e' : d = d' := by simpa using e
        subst e'
        exact ⟨x, List.getElem?_set_self (by rw [k.len]; exact hl), r⟩
      · rw [List.getElem?_eq_none (by rw [List.length_set]; omega)] at e
        cases e
    · rw [List.getElem?_set_ne h] at e ⊢
      exact k.val j d' e
  own := fun j ds e => by
    obtain ⟨e, h⟩ := set_own e
    rw [List.getElem?_set_ne h]
    exact k.own j ds e
  uniq := fun a b ds es e1 e2 e3 => by
    obtain ⟨e1, na⟩ := set_own e1
    obtain ⟨e2, nb⟩ := set_own e2
    rw [List.getElem?_set_ne na, List.getElem?_set_ne nb] at e3
    exact k.uniq a b ds es e1 e2 e3
  st := k.st.to (set_kst fun _ _ _ h => by cases h) (fun _ _ _ h _ => h) (fun _ _ _ _ _ e _ => e) (Same.refl _) (fun _ _ h => h)
  ls := k.ls.to (set_ls fun _ _ h => by cases h) (fun _ _ _ _ _ _ h => h) (fun _ _ _ _ _ _ _ e => e) (Same.refl _) (fun _ _ h => h) fun a b p ds es e e' => by
    obtain ⟨e', nb⟩ := set_own e'
    rw [List.getElem?_set_ne nb]
    exact k.ls.no a b p ds es e e'
  tb := k.tb.to (set_tb fun _ _ h => by cases h) (fun _ _ _ h => h) (SameX.refl _) (fun _ _ h => h)
/-- a slot is forgotten -/
theorem Ok.unset (k : Ok K C B O0 O H σ ρ) (i : Nat) : Ok K C B O0 O H (σ.set i none) (ρ.set i none) := by
  have old : ∀ {j : Nat} {x : DV}, (ρ.set i none)[j]? = some (some x) → ρ[j]? = some (some x) ∧ i ≠ j := fun {j x} e => by
    by_cases h : i = j
    · subst h
      by_cases hl : i < ρ.length
      · rw [List.getElem?_set_self hl] at e
        simp at e
      · rw [List.getElem?_eq_none (by rw [List.length_set]; omega)] at e
        cases e
    · rw [List.getElem?_set_ne h] at e
      exact ⟨e, h⟩
  refine ⟨k.base, k.al0, k.al, k.sub0, k.new, by rw [List.length_set, List.length_set]; exact k.len, fun j d e => ?_, fun j ds e => ?_, fun a b ds es e1 e2 e3 => ?_, k.st.to (set_kst fun _ _ _ h => by cases h) (fun _ _ _ h _ => h) (fun _ _ _ _ _ e _ => e) (Same.refl _) (fun _ _ h => h), k.ls.to (set_ls fun _ _ h => by cases h) (fun _ _ _ _ _ _ h => h) (fun _ _ _ _ _ _ _ e => e) (Same.refl _) (fun _ _ h => h) fun a b p ds es e e' => by
    obtain ⟨e', nb⟩ := old e'
    rw [List.getElem?_set_ne nb]
    exact k.ls.no a b p ds es e e', k.tb.to (set_tb fun _ _ h => by cases h) (fun _ _ _ h => h) (SameX.refl _) (fun _ _ h => h)⟩
  · obtain ⟨e, h⟩ := old e
    rw [List.getElem?_set_ne h]
    exact k.val j d e
  · obtain ⟨e, h⟩ := old e
    rw [List.getElem?_set_ne h]
    exact k.own j ds e
  · obtain ⟨e1, na⟩ := old e1
    obtain ⟨e2, nb⟩ := old e2
    rw [List.getElem?_set_ne na, List.getElem?_set_ne nb] at e3
    exact k.uniq a b ds es e1 e2 e3
/-- a new place is kept apart (nothing stands for it) -/
theorem Ok.apart (k : Ok K C B O0 O H σ ρ) {p : Addr} {o : HO} (hp : H p = none) : Ok K C B O0 (p :: O) (upd H p o) σ ρ := by
  have s : Same H (upd H p o) := Same.new hp
  have sw : Same (wo H O) (wo (upd H p o) (p :: O)) := fun b u e => by
    have h1 : H b = some u := wo_some e
    have nb : b ≠ p := ne_of_none h1 hp
    have nO : b ∉ O := fun z => by
      unfold wo at e
      rw [if_pos z] at e
      cases e
    exact wo_of (by rw [upd_ne nb]; exact h1) (by simp [nb, nO])
  refine ⟨k.base.trans s, k.al0, fun a ha => ?_, fun a ha => List.mem_cons_of_mem _ (k.sub0 a ha), fun a ha n => ?_, k.len, fun j d e => ?_, fun j es e => ?_, k.uniq, k.st.to (fun _ _ _ _ e => e) (fun _ _ _ h _ => List.mem_cons_of_mem _ h) (fun _ _ _ _ _ e _ => s _ _ e) sw (fun _ _ h => h), k.ls.to (fun _ _ _ e => e) (fun _ _ _ _ _ _ h => List.mem_cons_of_mem _ h) (fun _ _ _ _ _ _ _ e => s _ _ e) sw (fun _ _ h => h) k.ls.no, k.tb.to (fun _ _ _ e => e) (fun _ _ _ h => List.mem_cons_of_mem _ h) (SameX.of s) (fun _ _ h => h)⟩
  · rcases List.mem_cons.mp ha with rfl | ha
    · rw [upd_same]; intro z; cases z
    · exact (k.al.mono s) a ha
  · rcases List.mem_cons.mp ha with rfl | ha
    · exact k.base.free hp
    · exact k.new a ha n
  · obtain ⟨x, e1, e2⟩ := k.val j d e
    exact ⟨x, e1, Rep.mono sw d e2⟩
  · obtain ⟨q, ws, e1, e2, e3, e4, e5⟩ := k.own j es e
    exact ⟨q, ws, e1, List.mem_cons_of_mem _ e2, e3, s _ _ e4, RepL.mono sw es e5⟩
/-- a kept-apart place (not of an own list) changes -/
theorem Ok.chg (k : Ok K C B O0 O H σ ρ) {p : Addr} {o u : HO} (hp : p ∈ O) (hb : B p = none) (h0 : H p = some u) (hn : ∀ (i : Nat) (ds : List D), ρ[i]? = some (some (.own ds)) → σ[i]? ≠ some (some (.ref p))) (hk : ∀ (i : Nat) (b : Bool) (ts : List Int), ρ[i]? ≠ some (some (.kst p b ts))) (hkl : ∀ (i : Nat) (ds : List D), ρ[i]? ≠ some (some (.ls p ds))) (hx : SameX H (upd H p o)) : Ok K C B O0 O (upd H p o) σ ρ := by
  have sw : Same (wo H O) (wo (upd H p o) O) := fun b u e => by
    have h1 : H b = some u := wo_some e
    have nO : b ∉ O := fun z => by
      unfold wo at e
      rw [if_pos z] at e
      cases e
    have nb : b ≠ p := fun z => nO (z ▸ hp)
    exact wo_of (by rw [upd_ne nb]; exact h1) nO
  refine ⟨fun b o e => ?_, k.al0, fun a ha => ?_, k.sub0, k.new, k.len, fun j d' e => ?_, fun j es e => ?_, k.uniq, k.st.to (fun _ _ _ _ e => e) (fun _ _ _ h _ => h) (fun a dx fs _ _ e z => by
    obtain ⟨i, b, ts, z⟩ := z
    rw [upd_ne (show a ≠ p from fun q => hk i b ts (by rw [← q]; exact z))]
    exact e) sw (fun _ _ h => h), k.ls.to (fun _ _ _ e => e) (fun _ _ _ _ _ _ h => h) (fun i a ds vs z _ _ e => by
    rw [upd_ne (show a ≠ p from fun q => hkl i ds (by rw [← q]; exact z))]
    exact e) sw (fun _ _ h => h) k.ls.no, k.tb.to (fun _ _ _ e => e) (fun _ _ _ h => h) hx (fun _ _ h => h)⟩
  · rw [upd_ne (ne_of_none e hb)]
    exact k.base b o e
  · by_cases h : a = p
    · rw [h, upd_same]; intro z; cases z
    · rw [upd_ne h]; exact k.al a ha
  · obtain ⟨y, a1, a2⟩ := k.val j d' e
    exact ⟨y, a1, Rep.mono sw d' a2⟩
  · obtain ⟨q, ws, a1, a2, a3, a4, a5⟩ := k.own j es e
    have nq : q ≠ p := fun z => hn j es e (by rw [a1, z])
    exact ⟨q, ws, a1, a2, a3, by rw [upd_ne nq]; exact a4, RepL.mono sw es a5⟩
/-- a new list of the def's own comes into a slot -/
theorem Ok.setOwn (k : Ok K C B O0 O H σ ρ) {i : Nat} {p : Addr} {ds : List D} {vs : List V} (hp : H p = none) (r : RepL K C (wo H O) ds vs) :
    Ok K C B O0 (p :: O) (upd H p (.lst vs)) (σ.set i (some (.ref p))) (ρ.set i (some (.own ds))) := by
  have k1 := k.apart (o := .lst vs) hp
  have sw : Same (wo H O) (wo (upd H p (.lst vs)) (p :: O)) := fun b o e => by
    have h1 : H b = some o := wo_some e
    have nb : b ≠ p := ne_of_none h1 hp
    have nO : b ∉ O := fun z => by
      unfold wo at e
      rw [if_pos z] at e
      cases e
    exact wo_of (by rw [upd_ne nb]; exact h1) (by simp [nb, nO])
  have lt : ∀ {j : Nat} {x : Option DV}, (ρ.set i (some (DV.own ds)))[j]? = some x → j < ρ.length := fun {j x} e => by
    rcases Nat.lt_or_ge j ρ.length with h | h
    · exact h
    · rw [List.getElem?_eq_none (by rw [List.length_set]; exact h)] at e; cases e
  refine ⟨k1.base, k1.al0, k1.al, k1.sub0, k1.new, by rw [List.length_set, List.length_set]; exact k.len, fun j d e => ?_, fun j es e => ?_, fun a b es fs e1 e2 e3 => ?_, k1.st.to (set_kst fun _ _ _ h => by cases h) (fun _ _ _ h _ => h) (fun _ _ _ _ _ e _ => e) (Same.refl _) (fun _ _ h => h), k1.ls.to (set_ls fun _ _ h => by cases h) (fun _ _ _ _ _ _ h => h) (fun _ _ _ _ _ _ _ e => e) (Same.refl _) (fun _ _ h => h) fun a b q ds' es e e' => by
    have hb := lt e'
    by_cases h : i = b
    · subst h
      rw [List.getElem?_set_self (by rw [k.len]; exact hb)]
      intro z
      have ez : p = q := by simpa using z
      obtain ⟨_, _, vs', h3, _⟩ := k.ls.at_ a q ds' e
      rw [← ez, hp] at h3
      cases h3
    · rw [List.getElem?_set_ne h] at e' ⊢
      exact k.ls.no a b q ds' es e e', k1.tb.to (set_tb fun _ _ h => by cases h) (fun _ _ _ h => h) (SameX.refl _) (fun _ _ h => h)⟩
  · have hj := lt e
    by_cases h : i = j
    · subst h
      rw [List.getElem?_set_self hj] at e
      simp at e
    · rw [List.getElem?_set_ne h] at e ⊢
      exact k1.val j d e
  · have hj := lt e
    by_cases h : i = j
    · subst h
      rw [List.getElem?_set_self hj] at e
      have e' : ds = es := by simpa using e
      subst e'
      exact ⟨p, vs, List.getElem?_set_self (by rw [k.len]; exact hj), by simp, k.base.free hp, upd_same, RepL.mono sw _ r⟩
    · rw [List.getElem?_set_ne h] at e ⊢
      exact k1.own j es e
  · have one : ∀ (j : Nat) (es : List D), (ρ.set i (some (DV.own ds)))[j]? = some (some (.own es)) → i ≠ j → ∃ q, σ[j]? = some (some (.ref q)) ∧ q ≠ p := fun j es e hj => by
      rw [List.getElem?_set_ne hj] at e
      obtain ⟨q, ws, e1, e2, e3, e4, e5⟩ := k.own j es e
      exact ⟨q, e1, ne_of_none e4 hp⟩
    by_cases ha : i = a
    · by_cases hb : i = b
      · omega
      · obtain ⟨q, e4, nq⟩ := one b fs e2 hb
        subst ha
        rw [List.getElem?_set_ne hb, e4, List.getElem?_set_self (by rw [k.len]; exact lt e1)] at e3
        exact absurd (by simpa using e3.symm) nq
    · by_cases hb : i = b
      · obtain ⟨q, e4, nq⟩ := one a es e1 ha
        subst hb
        rw [List.getElem?_set_ne ha, e4, List.getElem?_set_self (by rw [k.len]; exact lt e2)] at e3
        exact absurd (by simpa using e3) nq
      · rw [List.getElem?_set_ne ha] at e1 e3
        rw [List.getElem?_set_ne hb] at e2 e3
        exact k.uniq a b es fs e1 e2 e3
/-- the own list in slot i grows -/
theorem Ok.grow (k : Ok K C B O0 O H σ ρ) {i : Nat} {ds : List D} {d : D} {p : Addr} {vs : List V} {x : V} (hi : ρ[i]? = some (some (.own ds))) (hp : σ[i]? = some (some (.ref p))) (hl : H p = some (.lst vs)) (r : Rep K C (wo H O) d x) :
    Ok K C B O0 O (upd H p (.lst (vs ++ [x]))) σ (ρ.set i (some (.own (ds ++ [d])))) := by
  obtain ⟨p', vs', e1, e2, e3, e4, e5⟩ := k.own i ds hi
  rw [hp] at e1
  have ep : p = p' := by simpa using e1
  subst ep
  rw [hl] at e4
  have ev : vs = vs' := by simpa using e4
  subst ev
  have hil : i < ρ.length := by
    rcases Nat.lt_or_ge i ρ.length with h | h
    · exact h
    · rw [List.getElem?_eq_none h] at hi; cases hi
  have sw : Same (wo H O) (wo (upd H p (.lst (vs ++ [x]))) O) := fun b o e => by
    have h1 : H b = some o := wo_some e
    have nO : b ∉ O := fun z => by
      unfold wo at e
      rw [if_pos z] at e
      cases e
    have nb : b ≠ p := fun z => nO (z ▸ e2)
    exact wo_of (by rw [upd_ne nb]; exact h1) nO
  refine ⟨fun b o e => ?_, k.al0, fun a ha => ?_, k.sub0, k.new, by rw [List.length_set]; exact k.len, fun j d' e => ?_, fun j es e => ?_, fun a b es fs h1 h2 h3 => ?_, k.st.to (set_kst fun _ _ _ h => by cases h) (fun _ _ _ h _ => h) (fun a dx fs _ _ e _ => by
    rw [upd_ne fun q => by rw [q, hl] at e; cases e]
    exact e) sw (fun _ _ h => h), k.ls.to (set_ls fun _ _ h => by cases h) (fun _ _ _ _ _ _ h => h) (fun j a ds' vs' z _ _ e => by
    rw [upd_ne (show a ≠ p from fun q => k.ls.no j i a ds' ds z hi (by rw [hp, q]))]
    exact e) sw (fun _ _ h => h) fun a b q ds' es e e' => by
    by_cases h : i = b
    · subst h
      exact k.ls.no a i q ds' ds e hi
    · rw [List.getElem?_set_ne h] at e'
      exact k.ls.no a b q ds' es e e', k.tb.to (set_tb fun _ _ h => by cases h) (fun _ _ _ h => h) (SameX.upd hl) (fun _ _ h => h)⟩
  · rw [upd_ne (ne_of_none e e3)]
    exact k.base b o e
  · by_cases h : a = p
    · rw [h, upd_same]; intro z; cases z
    · rw [upd_ne h]; exact k.al a ha
  · have h : i ≠ j := fun z => by
      subst z
      rw [List.getElem?_set_self hil] at e
      simp at e
    rw [List.getElem?_set_ne h] at e
    obtain ⟨y, a1, a2⟩ := k.val j d' e
    exact ⟨y, a1, Rep.mono sw d' a2⟩
  · by_cases h : i = j
    · subst h
      rw [List.getElem?_set_self hil] at e
      have e' : ds ++ [d] = es := by simpa using e
      subst e'
      exact ⟨p, vs ++ [x], hp, e2, e3, upd_same, (RepL.mono sw _ e5).append (RepL.one (Rep.mono sw _ r))⟩
    · rw [List.getElem?_set_ne h] at e
      obtain ⟨q, ws, a1, a2, a3, a4, a5⟩ := k.own j es e
      have nq : q ≠ p := fun z => h (k.uniq i j ds es hi e (by rw [hp, a1, z]))
      exact ⟨q, ws, a1, a2, a3, by rw [upd_ne nq]; exact a4, RepL.mono sw es a5⟩
  · have old : ∀ (j : Nat) (es : List D), (ρ.set i (some (DV.own (ds ++ [d]))))[j]? = some (some (.own es)) → ∃ fs, ρ[j]? = some (some (.own fs)) := fun j es e => by
      by_cases h : i = j
      · exact ⟨ds, by rw [← h]; exact hi⟩
      · rw [List.getElem?_set_ne h] at e
        exact ⟨es, e⟩
    obtain ⟨es', h1⟩ := old a es h1
    obtain ⟨fs', h2⟩ := old b fs h2
    exact k.uniq a b es' fs' h1 h2 h3
/-- from here on the own list in slot i is a value like any other -/
theorem Ok.freeze (k : Ok K C B O0 O H σ ρ) {i : Nat} {ds : List D} (hi : ρ[i]? = some (some (.own ds))) : ∃ O', Ok K C B O0 O' H σ (ρ.set i (some (.v (.lst ds)))) := by
  obtain ⟨p, vs, e1, e2, e3, e4, e5⟩ := k.own i ds hi
  have hil : i < ρ.length := by
    rcases Nat.lt_or_ge i ρ.length with h | h
    · exact h
    · rw [List.getElem?_eq_none h] at hi; cases hi
  have sub : ∀ a, a ∈ O.filter (fun a => decide (a ≠ p)) → a ∈ O := fun a ha => (List.mem_filter.mp ha).1
  have sw : Same (wo H O) (wo H (O.filter fun a => decide (a ≠ p))) := wo_sub H sub
  refine ⟨O.filter fun a => decide (a ≠ p), ⟨k.base, k.al0, fun a ha => k.al a (sub a ha), fun a ha => List.mem_filter.mpr ⟨k.sub0 a ha, decide_eq_true fun z => k.al0 a ha (z ▸ e3)⟩, fun a ha n => k.new a (sub a ha) n, by rw [List.length_set]; exact k.len, fun j d' e => ?_, fun j es e => ?_, fun a b es fs h1 h2 h3 => ?_, k.st.to (set_kst fun _ _ _ h => by cases h) (fun a dx fs h e => List.mem_filter.mpr ⟨h, decide_eq_true fun z => by rw [z, e4] at e; cases e⟩) (fun _ _ _ _ _ e _ => e) sw (fun _ _ h => h), k.ls.to (set_ls fun _ _ h => by cases h) (fun j a ds' vs' z _ h => List.mem_filter.mpr ⟨h, decide_eq_true fun q => k.ls.no j i a ds' ds z hi (by rw [e1, q])⟩) (fun _ _ _ _ _ _ _ e => e) sw (fun _ _ h => h) fun a b q ds' es e e' => k.ls.no a b q ds' es e (set_own e').1, k.tb.to (set_tb fun _ _ h => by cases h) (fun P ps e h => List.mem_filter.mpr ⟨h, decide_eq_true fun z => by rw [z, e4] at e; cases e⟩) (SameX.refl _) (fun _ _ h => h)⟩⟩
  · by_cases h : i = j
    · subst h
      rw [List.getElem?_set_self hil] at e
      have e' : D.lst ds = d' := by simpa using e
      subst e'
      exact ⟨.ref p, e1, p, vs, rfl, wo_of e4 (by simp), RepL.mono sw _ e5⟩
    · rw [List.getElem?_set_ne h] at e
      obtain ⟨y, a1, a2⟩ := k.val j d' e
      exact ⟨y, a1, Rep.mono sw d' a2⟩
  · obtain ⟨e, h⟩ := set_own e
    obtain ⟨q, ws, a1, a2, a3, a4, a5⟩ := k.own j es e
    have nq : q ≠ p := fun z => h (k.uniq i j ds es hi e (by rw [e1, a1, z]))
    exact ⟨q, ws, a1, List.mem_filter.mpr ⟨a2, decide_eq_true nq⟩, a3, a4, RepL.mono sw es a5⟩
  · exact k.uniq a b es fs (set_own h1).1 (set_own h2).1 h3
/-- the heap at a loop's start, without the own lists: what stands through the loop -/
def mid (B H : Hp) (O : List Addr) : Hp := fun b => if b ∈ O ∧ B b = none then none else H b
theorem mid_own {B H : Hp} {O : List Addr} {b : Addr} (h : b ∈ O) (e : B b = none) : mid B H O b = none := if_pos ⟨h, e⟩
theorem Ok.base_mid (k : Ok K C B O0 O H σ ρ) : Same B (mid B H O) := fun b o e => by
  unfold mid
  rw [if_neg (by rintro ⟨_, z⟩; rw [z] at e; cases e)]
  exact k.base b o e
theorem mid_le (B H : Hp) (O : List Addr) : Same (mid B H O) H := fun b o e => by
  unfold mid at e
  split at e
  · cases e
  · exact e
theorem wo_mid (B H : Hp) (O : List Addr) : Same (wo H O) (mid B H O) := fun b o e => by
  have n : b ∉ O := fun z => by
    unfold wo at e
    rw [if_pos z] at e
    cases e
  unfold mid
  rw [if_neg (by rintro ⟨z, _⟩; exact n z)]
  exact wo_some e
theorem Ok.mid (k : Ok K C B O0 O H σ ρ) : Ok K C (mid B H O) O0 O H σ ρ where
  base := mid_le B H O
  al0 := k.al0.mono k.base_mid
  al := k.al
  sub0 := k.sub0
  new := fun a ha n => mid_own ha (k.new a ha n)
  len := k.len
  val := k.val
  own := fun i ds e => by
    obtain ⟨p, vs, e1, e2, e3, e4, e5⟩ := k.own i ds e
    exact ⟨p, vs, e1, e2, mid_own e2 e3, e4, e5⟩
  uniq := k.uniq
  st := k.st.to (fun _ _ _ _ e => e) (fun _ _ _ h _ => h) (fun _ _ _ _ _ e _ => e) (Same.refl _) (fun _ h e => mid_own h e)
  ls := k.ls.to (fun _ _ _ e => e) (fun _ _ _ _ _ _ h => h) (fun _ _ _ _ _ _ _ e => e) (Same.refl _) (fun _ h e => mid_own h e) k.ls.no
  tb := k.tb.to (fun _ _ _ e => e) (fun _ _ _ h => h) (SameX.refl _) (fun _ h e => mid_own h e)
/-- a lesser base -/
theorem Ok.less {B' : Hp} (k : Ok K C B O0 O H σ ρ) (s : Same B' B) (a0 : Al O0 B') : Ok K C B' O0 O H σ ρ where
  base := s.trans k.base
  al0 := a0
  al := k.al
  sub0 := k.sub0
  new := fun a ha n => s.free (k.new a ha n)
  len := k.len
  val := k.val
  own := fun i ds e => by
    obtain ⟨p, vs, e1, e2, e3, e4, e5⟩ := k.own i ds e
    exact ⟨p, vs, e1, e2, s.free e3, e4, e5⟩
  uniq := k.uniq
  st := k.st.to (fun _ _ _ _ e => e) (fun _ _ _ h _ => h) (fun _ _ _ _ _ e _ => e) (Same.refl _) (fun _ _ e => s.free e)
  ls := k.ls.to (fun _ _ _ e => e) (fun _ _ _ _ _ _ h => h) (fun _ _ _ _ _ _ _ e => e) (Same.refl _) (fun _ _ e => s.free e) k.ls.no
  tb := k.tb.to (fun _ _ _ e => e) (fun _ _ _ h => h) (SameX.refl _) (fun _ _ e => s.free e)
/-- what stood apart from O at a loop's start stands apart from what is kept apart in a turn -/
theorem Ok.stays {B2 H2 : Hp} {O2 : List Addr} {σ2 : St} {ρ2 : Env} (k2 : Ok K C B2 O0 O2 H2 σ2 ρ2) (hb : Same (wo H O) B2) (h0 : ∀ a ∈ O0, a ∈ O) : Same (wo H O) (wo H2 O2) := fun b o e => by
  have e2 : B2 b = some o := hb b o e
  refine wo_of (k2.base b o e2) fun z => ?_
  have n0 : b ∉ O0 := fun y => by
    have : b ∈ O := h0 b y
    unfold wo at e
    rw [if_pos this] at e
    cases e
  rw [k2.new b z n0] at e2
  cases e2
end
end L2.DL
/-! # Data-level readings: lifts, and one rule a construct -/
namespace L2.DL
open PySem PySem.Spec PyProof.Rows

def lift (K : PySem.W.Frag) (C : Addr) (E : XK) (p : DE) : TE := fun σ H Q => ∃ B O0 O ρ P R, Ok K C B O0 O H σ ρ ∧ p ρ P R ∧
  (∀ v d H', Same H H' → Rep K C (wo H' O) d v → P d → Q v H') ∧ ∀ c H', Same H H' → R c → E (.ref c) none H'
def liftT (K : PySem.W.Frag) (C : Addr) (E : XK) (p : DT) : TT := fun σ H Q => ∃ B O0 O ρ P R, Ok K C B O0 O H σ ρ ∧ p ρ P R ∧
  (∀ b H', Same H H' → P b → Q b H') ∧ ∀ c H', Same H H' → R c → E (.ref c) none H'
def liftA (K : PySem.W.Frag) (C : Addr) (E : XK) (p : DA) : TA := fun σ H Q => ∃ B O0 O ρ P R, Ok K C B O0 O H σ ρ ∧ p ρ P R ∧
  (∀ vs ds H', Same H H' → RepL K C (wo H' O) ds vs → P ds → Q vs H') ∧ ∀ c H', Same H H' → R c → E (.ref c) none H'
/-- all slots but those in js are as they were -/
def Kept (js : List Nat) (σ σ' : St) : Prop := σ'.length = σ.length ∧ ∀ j, j ∉ js → σ'[j]? = σ[j]?
/-- js: the slots that the target stores -/
def liftG (K : PySem.W.Frag) (C : Addr) (js : List Nat) (p : DG) : TG := fun v σ H Q => ∃ B O0 O ρ d P, Ok K C B O0 O H σ ρ ∧ Rep K C (wo H O) d v ∧ p d ρ P ∧
  ∀ σ' ρ', Ok K C B O0 O H σ' ρ' → Kept js σ σ' → P ρ' → Q σ' H
def liftS (K : PySem.W.Frag) (C : Addr) (E : XK) (p : DS) : TS := fun D σ H => ∃ B O0 O ρ N R Z, Ok K C B O0 O H σ ρ ∧ p ρ N R Z ∧
  (∀ σ' H' ρ' O', Ok K C B O0 O' H' σ' ρ' → N ρ' → D.nx σ' H') ∧ (∀ v d H', Same B H' → Rep K C (wo H' O0) d v → R d → D.rt v H') ∧ ∀ c H', Same B H' → Z c → E (.ref c) none H'

section
variable {X : Cx} {e : Expr}
theorem _root_.L2.PE.wk {t t' : TE} (h : PE X e t) (w : ∀ σ H Q, t' σ H Q → t σ H Q) : PE X e t' := ⟨fun pins s σ H Q I q => h.run pins s σ H Q I (w σ H Q q)⟩
theorem _root_.L2.PT.wk {t t' : TT} (h : PT X e t) (w : ∀ σ H Q, t' σ H Q → t σ H Q) : PT X e t' := ⟨fun pins s σ H Q I q => h.run pins s σ H Q I (w σ H Q q)⟩
theorem _root_.L2.PW.wk {t t' : TT} (h : PW X e t) (w : ∀ σ H Q, t' σ H Q → t σ H Q) : PW X e t' := ⟨fun wh pins s σ H Q I q => h.run wh pins s σ H Q I (w σ H Q q)⟩
theorem _root_.L2.PA.wk {es : List Expr} {t t' : TA} (h : PA X es t) (w : ∀ σ H Q, t' σ H Q → t σ H Q) : PA X es t' := ⟨fun pos pins s σ H Q I q => h.run pos pins s σ H Q I (w σ H Q q)⟩
theorem _root_.L2.PS.wk {st : Stmt} {t t' : TS} (h : PS X st t) (w : ∀ D σ H, t' D σ H → t D σ H) : PS X st t' := ⟨fun pins s σ H D I q => h.run pins s σ H D I (w D σ H q)⟩
theorem _root_.L2.PSs.wk {st : List Stmt} {t t' : TS} (h : PSs X st t) (w : ∀ D σ H, t' D σ H → t D σ H) : PSs X st t' := ⟨fun pins s σ H D I q => h.run pins s σ H D I (w D σ H q)⟩
theorem _root_.L2.PG.wk {t t' : TG} (h : PG X e t) (w : ∀ v σ H Q, t' v σ H Q → t v σ H Q) : PG X e t' := ⟨fun pins s σ H v u Q I r q => h.run pins s σ H v u Q I r (w v σ H Q q)⟩
theorem _root_.L2.PTs.wk {es : List Expr} {t t' : TT} (h : PTs X es t) (w : ∀ σ H Q, t' σ H Q → t σ H Q) : PTs X es t' := ⟨fun pins s σ H Q I q => h.run pins s σ H Q I (w σ H Q q)⟩
end

/-! ### expressions -/
section
variable {X : Cx} {C : Addr} {E : XK} {pos : Pos}
def dVar (i : Nat) : DE := fun ρ P _ => match ρ[i]? with
  | some (some (.v d)) => P d
  | _ => False
theorem lift_var {K : PySem.W.Frag} (i : Nat) : ∀ σ H Q, lift K C E (dVar i) σ H Q → tVar i σ H Q := fun σ H Q h => by
  obtain ⟨B, O0, O, ρ, P, R, k, h, hP, hR⟩ := h
  unfold dVar at h
  split at h
  · rename_i d e
    obtain ⟨x, e1, e2⟩ := k.val i d e
    exact ⟨x, e1, hP x d H (Same.refl H) e2 h⟩
  · exact h.elim
theorem pd (i : Nat) {x : Str} {pos : Pos} (hN : X.N[i]? = some x := by rfl) (hv : Vis X.env.scope x := by first | exact Or.inl rfl | exact Or.inr (Or.inl rfl) | exact Or.inr (Or.inr rfl)) (hd : (x == ("__debug__" : Str)) = false := by decide)
    (hcd : (x == ("__classdict__" : Str)) = false := by decide) : PE X (.Name x pos) (lift X.K C E (dVar i)) := (pe_var hN hv hd hcd).wk (lift_var i)
def dC (d : D) : DE := fun _ P _ => P d
theorem lift_c {K : PySem.W.Frag} {d : D} {v : V} (h : ∀ H, Rep K C H d v) : ∀ σ H Q, lift K C E (dC d) σ H Q → tC v σ H Q := fun σ H Q q => by
  obtain ⟨B, O0, O, ρ, P, R, k, q, hP, hR⟩ := q
  exact hP v d H (Same.refl H) (h _) q
theorem pd_int {i j pos} : PE X (.Constant (.int i) j pos) (lift X.K C E (dC (.int i))) := pe_int.wk (lift_c fun _ => rfl)
theorem pd_bl {b j pos} : PE X (.Constant (.bool b) j pos) (lift X.K C E (dC (.bl b))) := pe_bl.wk (lift_c fun _ => rfl)
theorem pd_non {j pos} : PE X (.Constant .none j pos) (lift X.K C E (dC .non)) := pe_non.wk (lift_c fun _ => rfl)
theorem pd_str {x j pos} : PE X (.Constant (.str x) j pos) (lift X.K C E (dC (.str x))) := pe_str.wk (lift_c fun _ => rfl)
/-- a def or class of the module as a value -/
theorem pd_glob {x : Str} {a : Addr} {pos : Pos} (hg : Gl X x) (hm : X.mg x = some (.ref a)) (hd : (x == ("__debug__" : Str)) = false := by decide) : PE X (.Name x pos) (lift X.K C E (dC (.adr a))) := (pe_glob (v := .ref a) hg hm (show Value.ref a = Value.ref a from rfl) hd).wk (lift_c (d := .adr a) (v := .ref a) fun _ => rfl)

/-- two places, by values -/
abbrev D2 := D → D → (D → Prop) → Prop
def AbR (K : PySem.W.Frag) (C : Addr) (r : R2) (f : D2) : Prop := ∀ (O : List Addr) (H : Hp) (x y : V) (dx dy : D) (P : D → Prop) (Q : VK), Al O H → Rep K C (wo H O) dx x → Rep K C (wo H O) dy y → f dx dy P →
  (∀ v d H', Same H H' → Rep K C (wo H' O) d v → P d → Q v H') → r x y H Q
def dBin (f : D2) (pa pb : DE) : DE := fun ρ P R => pa ρ (fun x => pb ρ (fun y => f x y P) R) R
theorem lift_bin {K : PySem.W.Frag} {r : R2} {f : D2} (ab : AbR K C r f) {pa pb : DE} : ∀ σ H Q, lift K C E (dBin f pa pb) σ H Q → tOp r (lift K C E pa) (lift K C E pb) σ H Q := fun σ H Q q => by
  obtain ⟨B, O0, O, ρ, P, R, k, q, hP, hR⟩ := q
  refine ⟨B, O0, O, ρ, _, R, k, q, fun x dx H1 s1 r1 q1 => ⟨B, O0, O, ρ, _, R, k.ext s1, q1, fun y dy H2 s2 r2 q2 => ?_, fun c H' s' z => hR c H' (s1.trans s') z⟩, hR⟩
  exact ab O H2 x y dx dy P Q (k.al.mono (s1.trans s2)) (Rep.mono (wo_same O s2) dx r1) r2 q2 fun v d H' s' r p => hP v d H' ((s1.trans s2).trans s') r p
theorem pd_op {op : Operator} {a b : Expr} {r : R2} {f : D2} (ho : OpR X (binaryOp op) r) (ab : AbR X.K C r f) {pa pb : DE} (ha : PE X a (lift X.K C E pa)) (hb : PE X b (lift X.K C E pb)) : PE X (.BinOp a op b pos) (lift X.K C E (dBin f pa pb)) :=
  (pe_op ho ha hb).wk (lift_bin ab)
theorem pd_cmp {op : CmpOp} {a b : Expr} {r : R2} {f : D2} (ho : OpR X (compareOp op) r) (ab : AbR X.K C r f) {pa pb : DE} (ha : PE X a (lift X.K C E pa)) (hb : PE X b (lift X.K C E pb)) (hm : behindInMarks op b = false) : PE X (.Compare a [op] [b] pos) (lift X.K C E (dBin f pa pb)) :=
  (pe_cmpR ho ha hb hm).wk (lift_bin ab)
theorem AbR.or {K : PySem.W.Frag} {r r' : R2} {f f' : D2} (h : AbR K C r f) (h' : AbR K C r' f') : AbR K C (fun x y H Q => r x y H Q ∨ r' x y H Q) (fun x y P => f x y P ∨ f' x y P) := fun O H x y dx dy P Q a r1 r2 q k => by
  rcases q with q | q
  · exact .inl (h O H x y dx dy P Q a r1 r2 q k)
  · exact .inr (h' O H x y dx dy P Q a r1 r2 q k)
theorem AbR.imp {K : PySem.W.Frag} {r : R2} {f f' : D2} (h : AbR K C r f) (w : ∀ x y P, f' x y P → f x y P) : AbR K C r f' := fun O H x y dx dy P Q a r1 r2 q k => h O H x y dx dy P Q a r1 r2 (w _ _ _ q) k

/-! tests -/
/-- an expression whose value is a truth -/
def dTru (p : DE) : DT := fun ρ P R => p ρ (fun d => match d with | .bl b => P b | _ => False) R
theorem lift_tru {K : PySem.W.Frag} {p : DE} : ∀ σ H (Q : Bool → Hp → Prop), liftT K C E (dTru p) σ H Q → tTest (lift K C E p) σ H Q := fun σ H Q q => by
  obtain ⟨B, O0, O, ρ, P, R, k, q, hP, hR⟩ := q
  refine ⟨B, O0, O, ρ, _, R, k, q, fun v d H' s' r p => ?_, hR⟩
  cases d with
  | bl b =>
    have e : v = V.bl b := r
    exact ⟨b, e, hP b H' s' p⟩
  | _ => exact p.elim
theorem qd_val {e : Expr} {p : DE} (h : PE X e (lift X.K C E p)) (he : ∀ whole, isTrue e X.env whole = (do let v ← whole; standAt e.pos; holding [v] (truthy v)) := by intro _; rfl) : PT X e (liftT X.K C E (dTru p)) := (pt_val h he).wk lift_tru
theorem qd_cmp {op : CmpOp} {a b : Expr} {r : R2} {f : D2} (ho : OpR X (compareOp op) r) (ab : AbR X.K C r f) {pa pb : DE} (ha : PE X a (lift X.K C E pa)) (hb : PE X b (lift X.K C E pb)) (hm : behindInMarks op b = false) : PT X (.Compare a [op] [b] pos) (liftT X.K C E (dTru (dBin f pa pb))) :=
  (pt_cmpR ho ha hb hm).wk fun σ H Q q => by
    have h := lift_tru (p := dBin f pa pb) σ H Q q
    exact lift_bin ab σ H _ h
def dAnd (t u : DT) : DT := fun ρ P R => t ρ (fun b => if b = true then u ρ P R else P false) R
def dOr (t u : DT) : DT := fun ρ P R => t ρ (fun b => if b = true then P true else u ρ P R) R
def dNot (t : DT) : DT := fun ρ P R => t ρ (fun b => P (!b)) R
theorem liftT_and {K : PySem.W.Frag} {t u : DT} : ∀ σ H Q, liftT K C E (dAnd t u) σ H Q → tAnd (liftT K C E t) (liftT K C E u) σ H Q := fun σ H Q q => by
  obtain ⟨B, O0, O, ρ, P, R, k, q, hP, hR⟩ := q
  refine ⟨B, O0, O, ρ, _, R, k, q, fun b H' s' p => ?_, hR⟩
  cases b with
  | true =>
    rw [if_pos rfl] at p ⊢
    exact ⟨B, O0, O, ρ, P, R, k.ext s', p, fun b H2 s2 p => hP b H2 (s'.trans s2) p, fun c H2 s2 z => hR c H2 (s'.trans s2) z⟩
  | false =>
    rw [if_neg Bool.false_ne_true] at p ⊢
    exact hP false H' s' p
theorem liftT_or {K : PySem.W.Frag} {t u : DT} : ∀ σ H Q, liftT K C E (dOr t u) σ H Q → tOr (liftT K C E t) (liftT K C E u) σ H Q := fun σ H Q q => by
  obtain ⟨B, O0, O, ρ, P, R, k, q, hP, hR⟩ := q
  refine ⟨B, O0, O, ρ, _, R, k, q, fun b H' s' p => ?_, hR⟩
  cases b with
  | true =>
    rw [if_pos rfl] at p ⊢
    exact hP true H' s' p
  | false =>
    rw [if_neg Bool.false_ne_true] at p ⊢
    exact ⟨B, O0, O, ρ, P, R, k.ext s', p, fun b H2 s2 p => hP b H2 (s'.trans s2) p, fun c H2 s2 z => hR c H2 (s'.trans s2) z⟩
theorem liftT_not {K : PySem.W.Frag} {t : DT} : ∀ σ H Q, liftT K C E (dNot t) σ H Q → tNot (liftT K C E t) σ H Q := fun σ H Q q => by
  obtain ⟨B, O0, O, ρ, P, R, k, q, hP, hR⟩ := q
  exact ⟨B, O0, O, ρ, _, R, k, q, fun b H' s' p => hP (!b) H' s' p, hR⟩
variable {a b : Expr} {rest : List Expr}
theorem wd_and1 {t : DT} (ha : PT X a (liftT X.K C E t)) : PW X (.BoolOp .And [a] pos) (liftT X.K C E t) := pw_and1 ha
theorem wd_or1 {t : DT} (ha : PT X a (liftT X.K C E t)) : PW X (.BoolOp .Or [a] pos) (liftT X.K C E t) := pw_or1 ha
theorem wd_and {t u : DT} (ha : PT X a (liftT X.K C E t)) (hb : PW X (.BoolOp .And (b :: rest) pos) (liftT X.K C E u)) : PW X (.BoolOp .And (a :: b :: rest) pos) (liftT X.K C E (dAnd t u)) := (pw_and ha hb).wk liftT_and
theorem wd_or {t u : DT} (ha : PT X a (liftT X.K C E t)) (hb : PW X (.BoolOp .Or (b :: rest) pos) (liftT X.K C E u)) : PW X (.BoolOp .Or (a :: b :: rest) pos) (liftT X.K C E (dOr t u)) := (pw_or ha hb).wk liftT_or
theorem qd_not {t : DT} (ha : PT X a (liftT X.K C E t)) : PT X (.UnaryOp .Not a pos) (liftT X.K C E (dNot t)) := (pt_not ha).wk liftT_not
/-! and, or, not of truths, as values -/
def dAndV (pa pb : DE) : DE := fun ρ P R => pa ρ (fun d => match d with | .bl b => if b = true then pb ρ P R else P (.bl false) | _ => False) R
def dOrV (pa pb : DE) : DE := fun ρ P R => pa ρ (fun d => match d with | .bl b => if b = true then P (.bl true) else pb ρ P R | _ => False) R
def dNotV (pa : DE) : DE := fun ρ P R => pa ρ (fun d => match d with | .bl b => P (.bl (!b)) | _ => False) R
theorem pd_one {op} {p : DE} (h : PE X a (lift X.K C E p)) : PE X (.BoolOp op [a] pos) (lift X.K C E p) := pe_one h
theorem pd_and {pa pb : DE} (ha : PE X a (lift X.K C E pa)) (hb : PE X (.BoolOp .And (b :: rest) pos) (lift X.K C E pb)) : PE X (.BoolOp .And (a :: b :: rest) pos) (lift X.K C E (dAndV pa pb)) :=
  (pe_and ha hb).wk fun σ H Q q => by
    obtain ⟨B, O0, O, ρ, P, R, k, q, hP, hR⟩ := q
    refine ⟨B, O0, O, ρ, _, R, k, q, fun v d H' s' r p => ?_, hR⟩
    cases d with
    | bl c =>
      refine ⟨c, r, ?_⟩
      cases c with
      | true =>
        simp only [if_true] at p ⊢
        exact ⟨B, O0, O, ρ, P, R, k.ext s', p, fun v d H2 s2 r p => hP v d H2 (s'.trans s2) r p, fun c H2 s2 z => hR c H2 (s'.trans s2) z⟩
      | false =>
        simp only [Bool.false_eq_true, if_false] at p ⊢
        exact hP (.bl false) (.bl false) H' s' rfl p
    | _ => exact p.elim
theorem pd_or {pa pb : DE} (ha : PE X a (lift X.K C E pa)) (hb : PE X (.BoolOp .Or (b :: rest) pos) (lift X.K C E pb)) : PE X (.BoolOp .Or (a :: b :: rest) pos) (lift X.K C E (dOrV pa pb)) :=
  (pe_or ha hb).wk fun σ H Q q => by
    obtain ⟨B, O0, O, ρ, P, R, k, q, hP, hR⟩ := q
    refine ⟨B, O0, O, ρ, _, R, k, q, fun v d H' s' r p => ?_, hR⟩
    cases d with
    | bl c =>
      refine ⟨c, r, ?_⟩
      cases c with
      | true =>
        simp only [if_true] at p ⊢
        exact hP (.bl true) (.bl true) H' s' rfl p
      | false =>
        simp only [Bool.false_eq_true, if_false] at p ⊢
        exact ⟨B, O0, O, ρ, P, R, k.ext s', p, fun v d H2 s2 r p => hP v d H2 (s'.trans s2) r p, fun c H2 s2 z => hR c H2 (s'.trans s2) z⟩
    | _ => exact p.elim
theorem pd_not {pa : DE} (ha : PE X a (lift X.K C E pa)) : PE X (.UnaryOp .Not a pos) (lift X.K C E (dNotV pa)) :=
  (pe_not ha).wk fun σ H Q q => by
    obtain ⟨B, O0, O, ρ, P, R, k, q, hP, hR⟩ := q
    refine ⟨B, O0, O, ρ, _, R, k, q, fun v d H' s' r p => ?_, hR⟩
    cases d with
    | bl c => exact ⟨c, r, hP (.bl (!c)) (.bl (!c)) H' s' rfl p⟩
    | _ => exact p.elim
def dIf (t : DT) (pa pb : DE) : DE := fun ρ P R => t ρ (fun b => if b = true then pa ρ P R else pb ρ P R) R
theorem pd_if {c : Expr} {t : DT} {pa pb : DE} (hc : PT X c (liftT X.K C E t)) (ha : PE X a (lift X.K C E pa)) (hb : PE X b (lift X.K C E pb)) : PE X (.IfExp c a b pos) (lift X.K C E (dIf t pa pb)) :=
  (pe_ifExp hc ha hb).wk fun σ H Q q => by
    obtain ⟨B, O0, O, ρ, P, R, k, q, hP, hR⟩ := q
    refine ⟨B, O0, O, ρ, _, R, k, q, fun c H' s' p => ?_, hR⟩
    have go : ∀ {p : DE}, p ρ P R → lift X.K C E p σ H' Q := fun p => ⟨B, O0, O, ρ, P, R, k.ext s', p, fun v d H2 s2 r p => hP v d H2 (s'.trans s2) r p, fun c H2 s2 z => hR c H2 (s'.trans s2) z⟩
    cases c with
    | true =>
      simp only [if_true] at p ⊢
      exact go p
    | false =>
      simp only [Bool.false_eq_true, if_false] at p ⊢
      exact go p

/-! ### arguments, displays -/
def dNil : DA := fun _ P _ => P []
def dCons (p : DE) (q : DA) : DA := fun ρ P R => p ρ (fun d => q ρ (fun ds => P (d :: ds)) R) R
theorem ad_nil : PA X [] (liftA X.K C E dNil) := pa_nil.wk fun σ H Q q => by
  obtain ⟨B, O0, O, ρ, P, R, k, q, hP, hR⟩ := q
  exact hP [] [] H (Same.refl H) rfl q
theorem ad_cons {es : List Expr} {p : DE} {q : DA} (ha : PE X a (lift X.K C E p)) (hr : PA X es (liftA X.K C E q)) (hs : starEach (a :: es) X.env = (false, eval a X.env) :: starEach es X.env := by rfl) : PA X (a :: es) (liftA X.K C E (dCons p q)) :=
  (pa_cons ha hr hs).wk fun σ H Q q => by
    obtain ⟨B, O0, O, ρ, P, R, k, q, hP, hR⟩ := q
    exact ⟨B, O0, O, ρ, _, R, k, q, fun x dx H1 s1 r1 q1 => ⟨B, O0, O, ρ, _, R, k.ext s1, q1, fun vs ds H2 s2 r2 q2 => hP (x :: vs) (dx :: ds) H2 (s1.trans s2) ⟨x, vs, rfl, Rep.mono (wo_same O s2) dx r1, r2⟩ q2, fun c H' s' z => hR c H' (s1.trans s') z⟩, hR⟩
def dTup (q : DA) : DE := fun ρ P R => q ρ (fun ds => ds.length ≤ sizeLine ∧ P (.tup ds)) R
def dLst (q : DA) : DE := fun ρ P R => q ρ (fun ds => ds.length ≤ sizeLine ∧ P (.lst ds)) R
theorem rep_new_lst {K : PySem.W.Frag} {H : Hp} {O : List Addr} {p : Addr} {ds : List D} {vs : List V} (hp : H p = none) (al : Al O H) (r : RepL K C (wo H O) ds vs) : Rep K C (wo (upd H p (.lst vs)) O) (.lst ds) (.ref p) :=
  ⟨p, vs, rfl, wo_of upd_same (al.new hp), RepL.mono (wo_same O (Same.new hp)) ds r⟩
theorem rep_new_tup {K : PySem.W.Frag} {H : Hp} {O : List Addr} {p : Addr} {ds : List D} {vs : List V} (hp : H p = none) (al : Al O H) (r : RepL K C (wo H O) ds vs) : Rep K C (wo (upd H p (.tup vs)) O) (.tup ds) (.ref p) :=
  ⟨p, vs, rfl, wo_of upd_same (al.new hp), RepL.mono (wo_same O (Same.new hp)) ds r⟩
theorem pd_tup {es : List Expr} {x1} {q : DA} (h : PA X es (liftA X.K C E q)) : PE X (.Tuple es x1 pos) (lift X.K C E (dTup q)) := (pe_tup h).wk fun σ H Q q => by
  obtain ⟨B, O0, O, ρ, P, R, k, q, hP, hR⟩ := q
  refine ⟨B, O0, O, ρ, _, R, k, q, fun vs ds H1 s1 r1 q1 => ⟨by rw [RepL.length r1]; exact q1.1, fun p hp => ?_⟩, hR⟩
  exact hP (.ref p) (.tup ds) _ (s1.trans (Same.new hp)) (rep_new_tup hp (k.al.mono s1) r1) q1.2
theorem pd_lst {es : List Expr} {q : DA} (h : PA X es (liftA X.K C E q)) : PE X (.List es pos) (lift X.K C E (dLst q)) := (pe_lst h).wk fun σ H Q q => by
  obtain ⟨B, O0, O, ρ, P, R, k, q, hP, hR⟩ := q
  refine ⟨B, O0, O, ρ, _, R, k, q, fun vs ds H1 s1 r1 q1 => ⟨by rw [RepL.length r1]; exact q1.1, fun p hp => ?_⟩, hR⟩
  exact hP (.ref p) (.lst ds) _ (s1.trans (Same.new hp)) (rep_new_lst hp (k.al.mono s1) r1) q1.2

/-! ### calls -/
/-- a def's promise at the data level -/
abbrev DP := List D → (D → Prop) → (Addr → Prop) → Prop
def spD (K : PySem.W.Frag) (C : Addr) (t : DP) : Sp := fun vs H Q E => ∃ O ds P R, Al O H ∧ RepL K C (wo H O) ds vs ∧ t ds P R ∧
  (∀ v d H', Same H H' → Rep K C (wo H' O) d v → P d → Q v H') ∧ ∀ c H', Same H H' → R c → E (.ref c) none H'
def dCall (t : DP) (q : DA) : DE := fun ρ P R => q ρ (fun ds => t ds P R) R
theorem lift_call {K : PySem.W.Frag} {t : DP} {q : DA} : ∀ σ H Q, lift K C E (dCall t q) σ H Q → tCall (spD K C t) [] E (liftA K C E q) σ H Q := fun σ H Q q => by
  obtain ⟨B, O0, O, ρ, P, R, k, q, hP, hR⟩ := q
  refine ⟨B, O0, O, ρ, _, R, k, q, fun vs ds H1 s1 r1 q1 => ?_, hR⟩
  show spD K C t (vs ++ []) H1 Q E
  rw [List.append_nil]
  exact ⟨O, ds, P, R, k.al.mono s1, r1, q1, fun v d H2 s2 r p => hP v d H2 (s1.trans s2) r p, fun c H2 s2 z => hR c H2 (s1.trans s2) z⟩
theorem pd_call {CX : CXT} {x : Str} {p : Pos} {f : Addr} {fd : FuncData} {ps : List Str} {k : Nat} {es : List Expr} {t : DP} {q : DA} (F : FnOk X.prog X.w X.K X.mg X.base CX k f fd ps (spD X.K C t)) (hr : Room k X.A) (hg : Gl X x) (hm : X.mg x = some (.ref f))
    (hk : PySem.W.keepIn X.K (.ref f) = true) (hb : Binds X.K fd ps []) (hx : Passes CX X E) (ha : PA X (a :: es) (liftA X.K C E q))
    (hdb : (x == ("__debug__" : Str)) = false := by decide) (he : starEach (a :: es) X.env = (false, eval a X.env) :: starEach es X.env := by rfl) (hpl : (backTo pos (starEach es X.env)).any (·.1) = false := by rfl) :
    PE X (.Call (.Name x p) (a :: es) [] pos) (lift X.K C E (dCall t q)) := (pe_call F hr hg hm hk hb .nil hx ha hdb he hpl).wk lift_call
end
end L2.DL
/-! # Data-level readings: statements, loops, comprehensions -/
namespace L2.DL
open PySem PySem.Spec PyProof.Rows

/-! ### statements -/
section
variable {X : Cx} {C : Addr} {E : XK} {pos : Pos}
def dNext : DS := fun ρ N _ _ => N ρ
def dSeq (p q : DS) : DS := fun ρ N R Z => p ρ (fun ρ' => q ρ' N R Z) R Z
def dSet (i : Nat) (p : DE) : DS := fun ρ N _ Z => p ρ (fun d => N (ρ.set i (some (.v d)))) Z
def dDrop (p : DE) : DS := fun ρ N _ Z => p ρ (fun _ => N ρ) Z
def dRet (p : DE) : DS := fun ρ _ R Z => p ρ R Z
def dRetN : DS := fun _ _ R _ => R .non
def dIfS (t : DT) (p q : DS) : DS := fun ρ N R Z => t ρ (fun b => if b = true then p ρ N R Z else q ρ N R Z) Z
def dFrz (i : Nat) (p : DS) : DS := fun ρ N R Z => match ρ[i]? with
  | some (some (.own ds)) => p (ρ.set i (some (.v (.lst ds)))) N R Z
  | _ => False
def dOwn (i : Nat) (q : DA) : DS := fun ρ N _ Z => q ρ (fun ds => ds.length ≤ sizeLine ∧ N (ρ.set i (some (.own ds)))) Z
def dApp (i : Nat) (p : DE) : DS := fun ρ N _ Z => match ρ[i]? with
  | some (some (.own ds)) => p ρ (fun d => ds.length < sizeLine ∧ N (ρ.set i (some (.own (ds ++ [d]))))) Z
  | _ => False
def dRaise (c : Addr) : DS := fun _ _ _ Z => Z c
theorem sd_nil : PSs X [] (liftS X.K C E dNext) := pss_nil.wk fun D σ H q => by
  obtain ⟨B, O0, O, ρ, N, R, Z, k, q, hN, hR, hZ⟩ := q
  exact hN σ H ρ O k q
theorem sd_pass : PS X (.Pass pos) (liftS X.K C E dNext) := ps_pass.wk fun D σ H q => by
  obtain ⟨B, O0, O, ρ, N, R, Z, k, q, hN, hR, hZ⟩ := q
  exact hN σ H ρ O k q
theorem sd_cons {st : Stmt} {rest : List Stmt} {p q : DS} (h1 : PS X st (liftS X.K C E p)) (h2 : PSs X rest (liftS X.K C E q)) : PSs X (st :: rest) (liftS X.K C E (dSeq p q)) := (pss_cons h1 h2).wk fun D σ H q => by
  obtain ⟨B, O0, O, ρ, N, R, Z, k, q, hN, hR, hZ⟩ := q
  exact ⟨B, O0, O, ρ, _, R, Z, k, q, fun σ' H' ρ' O' k' n' => ⟨B, O0, O', ρ', N, R, Z, k', n', hN, hR, hZ⟩, hR, hZ⟩
theorem sd_one {st : Stmt} {p : DS} (h1 : PS X st (liftS X.K C E p)) : PSs X [st] (liftS X.K C E p) := pss_one h1
theorem sd_frz {st : List Stmt} {p : DS} (i : Nat) (h : PSs X st (liftS X.K C E p)) : PSs X st (liftS X.K C E (dFrz i p)) := h.wk fun D σ H q => by
  obtain ⟨B, O0, O, ρ, N, R, Z, k, q, hN, hR, hZ⟩ := q
  unfold dFrz at q
  split at q
  · rename_i ds e
    obtain ⟨O', k'⟩ := k.freeze e
    exact ⟨B, O0, O', _, N, R, Z, k', q, hN, hR, hZ⟩
  · exact q.elim
theorem sd_if {c : Expr} {a b : List Stmt} {t : DT} {p q : DS} (hc : PT X c (liftT X.K C E t)) (ha : PSs X a (liftS X.K C E p)) (hb : PSs X b (liftS X.K C E q)) : PS X (.If c a b pos) (liftS X.K C E (dIfS t p q)) := (ps_if hc ha hb).wk fun D σ H q => by
  obtain ⟨B, O0, O, ρ, N, R, Z, k, q, hN, hR, hZ⟩ := q
  refine ⟨B, O0, O, ρ, _, Z, k, q, fun b H' s' p => ?_, fun c H' s' z => hZ c H' (k.base.trans s') z⟩
  have go : ∀ {p : DS}, p ρ N R Z → liftS X.K C E p D σ H' := fun p => ⟨B, O0, O, ρ, N, R, Z, k.ext s', p, hN, hR, hZ⟩
  cases b with
  | true =>
    simp only [if_true] at p ⊢
    exact go p
  | false =>
    simp only [Bool.false_eq_true, if_false] at p ⊢
    exact go p
theorem sd_ret {e : Expr} {p : DE} (he : PE X e (lift X.K C E p)) : PS X (.Return (some e) pos) (liftS X.K C E (dRet p)) := (ps_ret he).wk fun D σ H q => by
  obtain ⟨B, O0, O, ρ, N, R, Z, k, q, hN, hR, hZ⟩ := q
  exact ⟨B, O0, O, ρ, R, Z, k, q, fun v d H' s' r p => hR v d H' (k.base.trans s') (Rep.mono (wo_sub H' k.sub0) d r) p, fun c H' s' z => hZ c H' (k.base.trans s') z⟩
theorem sd_retN : PS X (.Return none pos) (liftS X.K C E dRetN) := ps_retN.wk fun D σ H q => by
  obtain ⟨B, O0, O, ρ, N, R, Z, k, q, hN, hR, hZ⟩ := q
  exact hR .non .non H k.base rfl q
theorem sd_expr {e : Expr} {p : DE} (he : PE X e (lift X.K C E p)) (hs : swapsWith e none pos.line X.env = pure false := by rfl) : PS X (.Expr e pos) (liftS X.K C E (dDrop p)) := (ps_expr he hs).wk fun D σ H q => by
  obtain ⟨B, O0, O, ρ, N, R, Z, k, q, hN, hR, hZ⟩ := q
  exact ⟨B, O0, O, ρ, _, Z, k, q, fun v d H' s' r p => hN σ H' ρ O (k.ext s') p, fun c H' s' z => hZ c H' (k.base.trans s') z⟩
theorem sd_set {i : Nat} {x : Str} {e : Expr} {p : DE} {pos' : Pos} (hN : X.N.Nodup) (hi : X.N[i]? = some x) (hx : Loc X.env.scope x) (he : PE X e (lift X.K C E p)) (hs : swapsWith e (some (.Name x pos')) pos.line X.env = pure false := by rfl) (hf : X.fn x = true ∨ X.env.scope.names.lookup x = some .local := by first | exact .inl rfl | exact .inr rfl | assumption) :
    PS X (.Assign [.Name x pos'] e pos) (liftS X.K C E (dSet i p)) := (ps_set hN hi hx he hs hf).wk fun D σ H q => by
  obtain ⟨B, O0, O, ρ, N, R, Z, k, q, hN, hR, hZ⟩ := q
  exact ⟨B, O0, O, ρ, _, Z, k, q, fun v d H' s' r p => hN (σ.set i (some v)) H' _ O ((k.ext s').set i r) p, fun c H' s' z => hZ c H' (k.base.trans s') z⟩
/-- name = [e, ..], a list that the def fills on -/
theorem sd_own {i : Nat} {x : Str} {es : List Expr} {q : DA} {pos' lpos : Pos} (hN : X.N.Nodup) (hi : X.N[i]? = some x) (hx : Loc X.env.scope x) (he : PA X es (liftA X.K C E q)) (hs : swapsWith (.List es lpos) (some (.Name x pos')) pos.line X.env = pure false := by rfl) (hf : X.fn x = true ∨ X.env.scope.names.lookup x = some .local := by first | exact .inl rfl | exact .inr rfl | assumption) :
    PS X (.Assign [.Name x pos'] (.List es lpos) pos) (liftS X.K C E (dOwn i q)) := (ps_set hN hi hx (pe_lst he) hs hf).wk fun D σ H q => by
  obtain ⟨B, O0, O, ρ, N, R, Z, k, q, hN, hR, hZ⟩ := q
  refine ⟨B, O0, O, ρ, _, Z, k, q, fun vs ds H' s' r p => ⟨by rw [RepL.length r]; exact p.1, fun a ha => ?_⟩, fun c H' s' z => hZ c H' (k.base.trans s') z⟩
  exact hN (σ.set i (some (.ref a))) _ _ (a :: O) ((k.ext s').setOwn ha r) p.2
/-- name.append(e), name a list that the def fills -/
theorem sd_app {i : Nat} {x : Str} {e : Expr} {p : DE} {np apos cpos : Pos} (hv : PE X (.Name x np) (tVar i)) (he : PE X e (lift X.K C E p))
    (hw : ∀ (t : TE), PE X e t → PE X (.Call (.Attribute (.Name x np) "append" apos) [e] [] cpos) (tBM X.K "list" rAppend (tVar i) (tCons t tNil)))
    (hs : swapsWith (.Call (.Attribute (.Name x np) "append" apos) [e] [] cpos) none pos.line X.env = pure false := by rfl) : PS X (.Expr (.Call (.Attribute (.Name x np) "append" apos) [e] [] cpos) pos) (liftS X.K C E (dApp i p)) := (ps_expr (hw _ he) hs).wk fun D σ H q => by
  obtain ⟨B, O0, O, ρ, N, R, Z, k, q, hN, hR, hZ⟩ := q
  show ∃ v, σ[i]? = some (some v) ∧ (tyV X.K "list" v H ∧ lift X.K C E p σ H fun y H1 => tNil σ H1 fun ys H2 => rAppend v (y :: ys) H2 fun _ H3 => D.nx σ H3)
  unfold dApp at q
  split at q
  · rename_i ds ho
    obtain ⟨a, vs, e1, e2, e3, e4, e5⟩ := k.own i ds ho
    refine ⟨.ref a, e1, .inl ⟨rfl, vs, SqL.of e4⟩, B, O0, O, ρ, _, Z, k, q, fun v d H' s' r p => ?_, fun c H' s' z => hZ c H' (k.base.trans s') z⟩
    refine ⟨a, vs, v, rfl, rfl, s' _ _ e4, by rw [RepL.length e5]; exact p.1, ?_⟩
    exact hN σ _ _ O ((k.ext s').grow ho e1 (s' _ _ e4) r) p.2
  · exact q.elim

/-! ### targets -/
def gdName (i : Nat) : DG := fun d ρ P => P (ρ.set i (some (.v d)))
theorem gd_name {i : Nat} {x : Str} (hN : X.N.Nodup) (hi : X.N[i]? = some x) (hx : Loc X.env.scope x) (hf : X.fn x = true ∨ X.env.scope.names.lookup x = some .local := by first | exact .inl rfl | exact .inr rfl | assumption) : PG X (.Name x pos) (liftG X.K C [i] (gdName i)) :=
  (pg_name hN hi hx hf).wk fun v σ H Q q => by
    obtain ⟨B, O0, O, ρ, d, P, k, r, q, h⟩ := q
    exact h _ _ (k.set i r) ⟨List.length_set, fun j hj => List.getElem?_set_ne (by simpa using Ne.symm (by simpa using hj))⟩ q
/-- a, b, ..: names -/
def gdSet : List Nat → List D → Env → Env
  | i :: is, d :: ds, ρ => gdSet is ds (ρ.set i (some (.v d)))
  | _, _, ρ => ρ
def gdTup (is : List Nat) : DG := fun d ρ P => match d with
  | .tup ds => ds.length = is.length ∧ P (gdSet is ds ρ)
  | _ => False
def gdLst (is : List Nat) : DG := fun d ρ P => match d with
  | .lst ds => ds.length = is.length ∧ P (gdSet is ds ρ)
  | _ => False
/-- names one after another -/
inductive Names (X : Cx) : List Expr → List Nat → Prop
  | nil : Names X [] []
  | cons {i : Nat} {x : Str} {pos : Pos} {es : List Expr} {is : List Nat} (hi : X.N[i]? = some x) (hx : Loc X.env.scope x) (hf : X.fn x = true ∨ X.env.scope.names.lookup x = some .local) (h : Names X es is) : Names X (.Name x pos :: es) (i :: is)
def liftGs (K : PySem.W.Frag) (C : Addr) (is : List Nat) : TGs := fun vs σ H Q => ∃ B O0 O ρ ds, ∃ P : Env → Prop, Ok K C B O0 O H σ ρ ∧ RepL K C (wo H O) ds vs ∧ ds.length = is.length ∧ P (gdSet is ds ρ) ∧
  ∀ σ' ρ', Ok K C B O0 O H σ' ρ' → Kept is σ σ' → P ρ' → Q σ' H
theorem gd_names (hN : X.N.Nodup) {es : List Expr} {is : List Nat} (h : Names X es is) (hs : ∀ {x pos} {r : List Expr}, (assignEach (.Name x pos :: r) X.env).map (·.2) = assign (.Name x pos) X.env :: (assignEach r X.env).map (·.2) := by intros; rfl) : PGs X es (liftGs X.K C is) := by
  induction h with
  | nil =>
    refine ⟨fun pins s σ H vs us Q I r q => ?_⟩
    refine pgs_nil.run pins s σ H vs us Q I r ?_
    obtain ⟨B, O0, O, ρ, ds, P, k, rr, hl, p, h⟩ := q
    have hd : ds = [] := List.eq_nil_of_length_eq_zero hl
    subst hd
    exact ⟨rr, h σ ρ k ⟨rfl, fun _ _ => rfl⟩ p⟩
  | cons hi hx hf _ ih =>
    refine ⟨fun pins s σ H vs us Q I r q => ?_⟩
    refine (pgs_cons (pg_name hN hi hx hf) ih hs).run pins s σ H vs us Q I r ?_
    obtain ⟨B, O0, O, ρ, ds, P, k, rr, hl, p, h⟩ := q
    cases ds with
    | nil => cases hl
    | cons d ds =>
      obtain ⟨v, w', rfl, r1, r2⟩ := rr
      refine ⟨v, w', rfl, B, O0, O, _, ds, P, k.set _ r1, r2, by simpa using hl, p, fun σ' ρ' k' hst p' => h σ' ρ' k' ⟨by rw [hst.1, List.length_set], fun j hj => ?_⟩ p'⟩
      have hj' := hj
      simp only [List.mem_cons, not_or] at hj'
      rw [hst.2 j hj'.2, List.getElem?_set_ne (Ne.symm hj'.1)]
theorem gd_tup {es : List Expr} {k : Nat} {is : List Nat} (hc : X.calm = true) (hN : X.N.Nodup) (h : Names X es is) (hn : (assignEach es X.env).length = is.length := by rfl) (hst : (assignEach es X.env).findIdx? (·.1) = none := by rfl) : PG X (.Tuple es k pos) (liftG X.K C is (gdTup is)) :=
  (pg_tup hc (gd_names (C := C) hN h) hn hst).wk fun v σ H Q q => by
    obtain ⟨B, O0, O, ρ, d, P, k, r, q, h⟩ := q
    unfold gdTup at q
    split at q
    · rename_i ds
      obtain ⟨a, vs, e, e1, e2⟩ := r
      exact ⟨a, vs, e, SqT.of (wo_some e1), by rw [RepL.length e2]; exact q.1, B, O0, O, ρ, ds, P, k, e2, q.1, q.2, h⟩
    · exact q.elim
theorem gd_lst {es : List Expr} {k : Nat} {is : List Nat} (hc : X.calm = true) (hN : X.N.Nodup) (h : Names X es is) (hn : (assignEach es X.env).length = is.length := by rfl) (hst : (assignEach es X.env).findIdx? (·.1) = none := by rfl) : PG X (.Tuple es k pos) (liftG X.K C is (gdLst is)) :=
  (pg_unl hc (gd_names (C := C) hN h) hn hst).wk fun v σ H Q q => by
    obtain ⟨B, O0, O, ρ, d, P, k, r, q, h⟩ := q
    unfold gdLst at q
    split at q
    · rename_i ds
      obtain ⟨a, vs, e, e1, e2⟩ := r
      exact ⟨a, vs, e, SqL.of (wo_some e1), by rw [RepL.length e2]; exact q.1, B, O0, O, ρ, ds, P, k, e2, q.1, q.2, h⟩
    · exact q.elim
def dAsg (p : DE) (g : DG) : DS := fun ρ N _ Z => p ρ (fun d => g d ρ N) Z
theorem sd_asg {tg e : Expr} {p : DE} {js : List Nat} {g : DG} (he : PE X e (lift X.K C E p)) (hg : PG X tg (liftG X.K C js g)) (hs : swapsWithSole [tg] e pos.line X.env = pure false := by rfl) (hw : swappedStores [tg] e X.env = pure none := by rfl)
    (h1 : (assignEach [tg] X.env).map (·.2) = [assign tg X.env] := by rfl) : PS X (.Assign [tg] e pos) (liftS X.K C E (dAsg p g)) := (ps_asg he hg hs hw h1).wk fun D σ H q => by
  obtain ⟨B, O0, O, ρ, N, R, Z, k, q, hN, hR, hZ⟩ := q
  exact ⟨B, O0, O, ρ, _, Z, k, q, fun v d H' s' r p => ⟨B, O0, O, ρ, d, N, k.ext s', r, p, fun σ' ρ' k' _ n => hN σ' H' ρ' O k' n⟩, fun c H' s' z => hZ c H' (k.base.trans s') z⟩
/-- a, b = e1, e2 (both written) -/
def dPar (i j : Nat) (q : DA) : DS := fun ρ N _ Z => q ρ (fun ds => match ds with
  | [d, e] => N ((ρ.set i (some (.v d))).set j (some (.v e)))
  | _ => False) Z
theorem sd_par {i j : Nat} {x y : Str} {a b : Expr} {q : DA} {px py pt : Pos} {kt k2 pt2} (hc : X.calm = true) (hN : X.N.Nodup) (hi : X.N[i]? = some x) (hj : X.N[j]? = some y) (hij : i ≠ j)
    (hx : X.env.scope.names.lookup x = some .local) (hy : X.env.scope.names.lookup y = some .local) (ha : PA X [a, b] (liftA X.K C E q))
    (hw : swappedStores [.Tuple [.Name x px, .Name y py] kt pt] (.Tuple [a, b] k2 pt2) X.env = pure (some [x, y]))
    (hs : swapsWithSole [.Tuple [.Name x px, .Name y py] kt pt] (.Tuple [a, b] k2 pt2) pos.line X.env = pure false := by rfl) :
    PS X (.Assign [.Tuple [.Name x px, .Name y py] kt pt] (.Tuple [a, b] k2 pt2) pos) (liftS X.K C E (dPar i j q)) := (ps_par hc hN hi hj hij hx hy ha hw hs).wk fun D σ H q => by
  obtain ⟨B, O0, O, ρ, N, R, Z, k, q, hN, hR, hZ⟩ := q
  refine ⟨B, O0, O, ρ, _, Z, k, q, fun vs ds H' s' r p => ?_, fun c H' s' z => hZ c H' (k.base.trans s') z⟩
  match ds, r, p with
  | [d, e], r, p =>
    obtain ⟨v, _, rfl, r1, w', _, rfl, r2, rfl⟩ := r
    exact ⟨v, w', rfl, hN _ H' _ O (((k.ext s').set i r1).set j r2) p⟩

/-! ### what a loop or a comprehension walks -/
/-- from H on J walks the items ds, none of which leans on O -/
def Wk (K : PySem.W.Frag) (C : Addr) (O : List Addr) (H : Hp) (J : It) (ds : List D) : Prop := ∀ H', Same (wo H O) H' →
  (∀ i d, ds[i]? = some d → J.go i H' ∧ ∀ x H'', J.yld i H' x H'' → Same H' H'' ∧ ∀ O', Same (wo H O) (wo H' O') → Al O' H' → Rep K C (wo H'' O') d x) ∧ J.stop ds.length H'
def liftI (K : PySem.W.Frag) (C : Addr) (E : XK) (p : DA) : TI := fun σ H Q => ∃ B O0 O ρ P R, Ok K C B O0 O H σ ρ ∧ p ρ P R ∧
  (∀ J ds H', Same H H' → Wk K C O H' J ds → P ds → Q J H') ∧ ∀ c H', Same H H' → R c → E (.ref c) none H'
theorem _root_.L2.PI.wk {tg iter : Expr} {t t' : TI} (h : PI X tg iter t) (w : ∀ σ H Q, t' σ H Q → t σ H Q) : PI X tg iter t' := ⟨fun pins s σ H Q I q => h.run pins s σ H Q I (w σ H Q q)⟩
theorem _root_.L2.PI.or {tg iter : Expr} {t t' : TI} (h : PI X tg iter t) (h' : PI X tg iter t') : PI X tg iter (fun σ H Q => t σ H Q ∨ t' σ H Q) := ⟨fun pins s σ H Q I q => q.elim (h.run pins s σ H Q I) (h'.run pins s σ H Q I)⟩
theorem wk_list {K : PySem.W.Frag} {O : List Addr} {H : Hp} {a : Addr} {ds : List D} {vs : List V} (e : wo H O a = some (.lst vs)) (r : RepL K C (wo H O) ds vs) : Wk K C O H (Itl K a) ds := fun H' s => by
  have h' : SqL K H' a vs := SqL.of (s _ _ e)
  refine ⟨fun i d hd => ?_, vs, h', by rw [RepL.length r]; exact Nat.le_refl _⟩
  obtain ⟨v, hv, rv⟩ := RepL.get r hd
  refine ⟨⟨vs, v, h', hv⟩, fun x H'' y => ?_⟩
  obtain ⟨rfl, y⟩ := y
  refine ⟨Same.refl _, fun O' so al => ?_⟩
  have ex : x = v := Option.some.inj ((y vs h').symm.trans hv)
  subst ex
  exact Rep.mono so d rv
theorem wk_scr {K : PySem.W.Frag} {O : List Addr} {H : Hp} {a : Addr} {ns : List Int} (e : SqL K (wo H O) a (ns.map V.int)) : Wk K C O H (Itl K a) (ns.map D.int) := fun H' s => by
  have h' : SqL K H' a (ns.map V.int) := s.seq e
  refine ⟨fun i d hd => ?_, ns.map V.int, h', by simp⟩
  rw [List.getElem?_map] at hd
  cases hn : ns[i]? with
  | none => rw [hn] at hd; cases hd
  | some n =>
    rw [hn] at hd
    have ed : D.int n = d := Option.some.inj hd
    subst ed
    have hv : (ns.map V.int)[i]? = some (.int n) := by rw [List.getElem?_map, hn]; rfl
    refine ⟨⟨_, _, h', hv⟩, fun x H'' y => ?_⟩
    obtain ⟨rfl, y⟩ := y
    exact ⟨Same.refl _, fun O' so al => Option.some.inj ((y _ h').symm.trans hv)⟩
theorem wk_tup {K : PySem.W.Frag} {O : List Addr} {H : Hp} {a : Addr} {ds : List D} {vs : List V} (e : wo H O a = some (.tup vs)) (r : RepL K C (wo H O) ds vs) : Wk K C O H (Itt K a) ds := fun H' s => by
  have h' : SqT K H' a vs := SqT.of (s _ _ e)
  refine ⟨fun i d hd => ?_, vs, h', by rw [RepL.length r]; exact Nat.le_refl _⟩
  obtain ⟨v, hv, rv⟩ := RepL.get r hd
  refine ⟨⟨vs, v, h', hv⟩, fun x H'' y => ?_⟩
  obtain ⟨rfl, y⟩ := y
  refine ⟨Same.refl _, fun O' so al => ?_⟩
  have ex : x = v := Option.some.inj ((y vs h').symm.trans hv)
  subst ex
  exact Rep.mono so d rv
theorem wk_str {K : PySem.W.Frag} {O : List Addr} {H : Hp} {z : Str} : Wk K C O H (Its z) (z.cps.toList.map fun c => D.str ⟨#[c]⟩) := fun H' s => by
  refine ⟨fun i d hd => ?_, ?_⟩
  · rw [List.getElem?_map] at hd
    cases hn : z.cps.toList[i]? with
    | none => rw [hn] at hd; cases hd
    | some n =>
      rw [hn] at hd
      have ed : D.str ⟨#[n]⟩ = d := Option.some.inj hd
      subst ed
      rw [Array.getElem?_toList] at hn
      refine ⟨(Array.getElem?_eq_some_iff.mp hn).1, fun x H'' y => ?_⟩
      obtain ⟨rfl, c, hc, rfl⟩ := y
      rw [hn] at hc
      have ec : n = c := Option.some.inj hc
      subst ec
      exact ⟨Same.refl _, fun O' so al => rfl⟩
  · show z.cps.size ≤ (z.cps.toList.map fun c => D.str ⟨#[c]⟩).length
    simp
def dIter (p : DE) : DA := fun ρ P R => p ρ (fun d => match d with
  | .lst ds => P ds
  | .tup ds => P ds
  | .scr ns => P (ns.map .int)
  | .str z => P (z.cps.toList.map fun c => .str ⟨#[c]⟩)
  | _ => False) R
theorem id_of {tg l : Expr} {p : DE} (hl : PE X l (lift X.K C E p)) : PI X tg l (liftI X.K C E (dIter p)) := by
  refine ⟨fun pins s σ H Q I q => ?_⟩
  obtain ⟨B, O0, O, ρ, P, R, k, q, hP, hR⟩ := q
  refine thn (hl.run pins s σ H (fun v H1 => ∃ d, Same H H1 ∧ Rep X.K C (wo H1 O) d v ∧ (match d with
    | .lst ds => P ds
    | .tup ds => P ds
    | .scr ns => P (ns.map .int)
    | .str z => P (z.cps.toList.map fun c => .str ⟨#[c]⟩)
    | _ => False)) I ⟨B, O0, O, ρ, _, R, k, q, fun v d H' s' r p => ⟨d, s', r, p⟩, hR⟩) fun v s1 h1 => ?_
  obtain ⟨x, H1, I1, r1, d, s', r, pp⟩ := h1
  cases d with
  | lst ds =>
    obtain ⟨a, vs, rfl, e1, e2⟩ := r
    cases r1
    obtain ⟨its, rv, pl, hz⟩ := I1.list (SqL.of (wo_some e1))
    exact wpAny_pyIter_list pl.isList (pi_one (tk := s1.toks) I1 _ (turn_list a _) ⟨_, Heap.get?_push_size _ rfl, rfl, rfl⟩ (hP _ ds H1 s' (wk_list e1 e2) pp))
  | tup ds =>
    obtain ⟨a, vs, rfl, e1, e2⟩ := r
    cases r1
    obtain ⟨its, rv, pl, hz⟩ := I1.tuple (SqT.of (wo_some e1))
    exact wpAny_pyIter_tuple (show s1.heap.IsTuple a its.toArray from pl) (pi_one (tk := s1.toks) I1 _ (turn_tuple a _) ⟨_, Heap.get?_push_size _ rfl, rfl, rfl⟩ (hP _ ds H1 s' (wk_tup e1 e2) pp))
  | scr ns =>
    obtain ⟨a, rfl, e1⟩ := r
    cases r1
    obtain ⟨its, rv, pl, hz⟩ := I1.list ((wo_le H1 O).seq e1)
    exact wpAny_pyIter_list pl.isList (pi_one (tk := s1.toks) I1 _ (turn_list a _) ⟨_, Heap.get?_push_size _ rfl, rfl, rfl⟩ (hP _ _ H1 s' (wk_scr e1) pp))
  | str z =>
    have ex : x = V.str z := r
    subst ex
    obtain ⟨t, rfl⟩ := r1
    cases ha : z.cps.all (· < 128)
    · exact wpAny_pyIter_wide ha (pi_one (tk := s1.toks) I1 _ (turn_str _ z t "str_iterator" (.inr rfl)) ⟨_, Heap.get?_push_size _ rfl, rfl, rfl⟩ (hP _ _ H1 s' wk_str pp))
    · exact wpAny_pyIter_ascii ha (pi_one (tk := s1.toks) I1 _ (turn_str _ z t "str_ascii_iterator" (.inl rfl)) ⟨_, Heap.get?_push_size _ rfl, rfl, rfl⟩ (hP _ _ H1 s' wk_str pp))
  | _ => exact pp.elim
/-! enumerate, zip, reversed -/
theorem wk_enum {K : PySem.W.Frag} {O : List Addr} {H : Hp} {a : Addr} {ds : List D} {vs : List V} (e : wo H O a = some (.lst vs)) (r : RepL K C (wo H O) ds vs) : Wk K C O H (Ite K a) (ds.mapIdx fun i d => .tup [.int (i : Nat), d]) := fun H' s => by
  have h' : SqL K H' a vs := SqL.of (s _ _ e)
  refine ⟨fun i d hd => ?_, vs, h', by rw [RepL.length r, List.length_mapIdx]; exact Nat.le_refl _⟩
  rw [List.getElem?_mapIdx] at hd
  cases hn : ds[i]? with
  | none => rw [hn] at hd; cases hd
  | some d' =>
    rw [hn] at hd
    have ed : D.tup [.int (i : Nat), d'] = d := Option.some.inj hd
    subst ed
    obtain ⟨v, hv, rv⟩ := RepL.get r hn
    refine ⟨⟨vs, v, h', hv⟩, fun x H'' y => ?_⟩
    obtain ⟨T, x', rfl, hT, rfl, y⟩ := y
    refine ⟨Same.new hT, fun O' so al => ?_⟩
    have ex : x' = v := Option.some.inj ((y vs h').symm.trans hv)
    subst ex
    exact rep_new_tup hT al ⟨.int (i : Nat), [x'], rfl, rfl, RepL.one (Rep.mono so d' rv)⟩
theorem wk_enum_scr {K : PySem.W.Frag} {O : List Addr} {H : Hp} {a : Addr} {ns : List Int} (e : SqL K (wo H O) a (ns.map V.int)) : Wk K C O H (Ite K a) ((ns.map D.int).mapIdx fun i d => .tup [.int (i : Nat), d]) := fun H' s => by
  have h' : SqL K H' a (ns.map V.int) := s.seq e
  refine ⟨fun i d hd => ?_, ns.map V.int, h', by simp⟩
  rw [List.getElem?_mapIdx, List.getElem?_map] at hd
  cases hn : ns[i]? with
  | none => rw [hn] at hd; cases hd
  | some n =>
    rw [hn] at hd
    have ed : D.tup [.int (i : Nat), .int n] = d := Option.some.inj hd
    subst ed
    have hv : (ns.map V.int)[i]? = some (.int n) := by rw [List.getElem?_map, hn]; rfl
    refine ⟨⟨_, _, h', hv⟩, fun x H'' y => ?_⟩
    obtain ⟨T, x', rfl, hT, rfl, y⟩ := y
    refine ⟨Same.new hT, fun O' so al => ?_⟩
    have ex : x' = V.int n := Option.some.inj ((y _ h').symm.trans hv)
    subst ex
    exact rep_new_tup hT al ⟨.int (i : Nat), [.int n], rfl, rfl, .int n, [], rfl, rfl, rfl⟩
def dEnum (q : DA) : DA := fun ρ P R => q ρ (fun ds => match ds with
  | [.lst ds] => P (ds.mapIdx fun i d => .tup [.int (i : Nat), d])
  | [.scr ns] => P ((ns.map .int).mapIdx fun i d => .tup [.int (i : Nat), d])
  | _ => False) R
theorem id_enum {e : Expr} {q : DA} {p pos tpos : Pos} {elts : List Expr} {kk : Nat} (hg : Gl X "enumerate") (hm : X.mg "enumerate" = none) (ha : PA X [e] (liftA X.K C E q)) (hs : starEach [e] X.env = [(false, eval e X.env)] := by rfl) :
    PI X (.Tuple elts kk tpos) (.Call (.Name "enumerate" p) [e] [] pos) (liftI X.K C E (dEnum q)) := (pi_enum hg hm ha hs).wk fun σ H Q q => by
  obtain ⟨B, O0, O, ρ, P, R, k, q, hP, hR⟩ := q
  refine ⟨B, O0, O, ρ, _, R, k, q, fun vs ds H' s' r p => ?_, hR⟩
  split at p
  · obtain ⟨v, _, rfl, ⟨a, ws, rfl, e1, e2⟩, rfl⟩ := r
    exact ⟨a, ws, rfl, SqL.of (wo_some e1), hP _ _ H' s' (wk_enum e1 e2) p⟩
  · obtain ⟨v, _, rfl, ⟨a, rfl, e1⟩, rfl⟩ := r
    exact ⟨a, _, rfl, (wo_le H' O).seq e1, hP _ _ H' s' (wk_enum_scr e1) p⟩
  · exact p.elim
theorem wk_zip {K : PySem.W.Frag} {O : List Addr} {H : Hp} {a b : Addr} {ds es : List D} {vs ws : List V} (e : wo H O a = some (.lst vs)) (r : RepL K C (wo H O) ds vs) (e' : wo H O b = some (.lst ws)) (r' : RepL K C (wo H O) es ws) :
    Wk K C O H (Itz K a b) ((ds.zip es).map fun p => .tup [p.1, p.2]) := fun H' s => by
  have h1 : SqL K H' a vs := SqL.of (s _ _ e)
  have h2 : SqL K H' b ws := SqL.of (s _ _ e')
  refine ⟨fun i d hd => ?_, vs, ws, h1, h2, ?_⟩
  · rw [List.getElem?_map] at hd
    cases hn : (ds.zip es)[i]? with
    | none => rw [hn] at hd; cases hd
    | some z =>
      rw [hn] at hd
      have ed : D.tup [z.1, z.2] = d := Option.some.inj hd
      subst ed
      obtain ⟨n1, n2⟩ := List.getElem?_zip_eq_some.mp hn
      obtain ⟨v, hv, rv⟩ := RepL.get r n1
      obtain ⟨u, hu, ru⟩ := RepL.get r' n2
      refine ⟨⟨vs, ws, v, u, h1, h2, hv, hu⟩, fun x H'' y => ?_⟩
      obtain ⟨T, x', y', rfl, hT, rfl, y1, y2⟩ := y
      refine ⟨Same.new hT, fun O' so al => ?_⟩
      have e1 : x' = v := Option.some.inj ((y1 vs h1).symm.trans hv)
      have e2 : y' = u := Option.some.inj ((y2 ws h2).symm.trans hu)
      subst e1 e2
      exact rep_new_tup hT al ⟨x', [y'], rfl, Rep.mono so _ rv, RepL.one (Rep.mono so _ ru)⟩
  · rw [RepL.length r, RepL.length r', List.length_map, List.length_zip]
    omega
def dZip (q : DA) : DA := fun ρ P R => q ρ (fun ds => match ds with
  | [.lst ds, .lst es] => P ((ds.zip es).map fun p => .tup [p.1, p.2])
  | _ => False) R
theorem id_zip {e e2 : Expr} {q : DA} {p pos tpos : Pos} {elts : List Expr} {kk : Nat} (hg : Gl X "zip") (hm : X.mg "zip" = none) (ha : PA X [e, e2] (liftA X.K C E q))
    (hs : starEach [e, e2] X.env = (false, eval e X.env) :: starEach [e2] X.env := by rfl) (hpl : (backTo pos (starEach [e2] X.env)).any (·.1) = false := by rfl) :
    PI X (.Tuple elts kk tpos) (.Call (.Name "zip" p) [e, e2] [] pos) (liftI X.K C E (dZip q)) := (pi_zip hg hm ha hs hpl).wk fun σ H Q q => by
  obtain ⟨B, O0, O, ρ, P, R, k, q, hP, hR⟩ := q
  refine ⟨B, O0, O, ρ, _, R, k, q, fun vs ds H' s' r p => ?_, hR⟩
  split at p
  · obtain ⟨v, _, rfl, ⟨a, ws, rfl, e1, e2⟩, v', _, rfl, ⟨b, us, rfl, e3, e4⟩, rfl⟩ := r
    exact ⟨a, b, ws, us, rfl, SqL.of (wo_some e1), SqL.of (wo_some e3), hP _ _ H' s' (wk_zip e1 e2 e3 e4) p⟩
  · exact p.elim
theorem wk_rev {K : PySem.W.Frag} {O : List Addr} {H : Hp} {a : Addr} {ds : List D} {vs : List V} (e : wo H O a = some (.lst vs)) (r : RepL K C (wo H O) ds vs) : Wk K C O H (Itv K a vs.length) ds.reverse := fun H' s => by
  have h' : SqL K H' a vs := SqL.of (s _ _ e)
  refine ⟨fun i d hd => ?_, by show vs.length ≤ ds.reverse.length; rw [List.length_reverse, RepL.length r]; exact Nat.le_refl _⟩
  have hi : i < ds.length := by
    have := (List.getElem?_eq_some_iff.mp hd).1
    rwa [List.length_reverse] at this
  rw [List.getElem?_reverse hi] at hd
  obtain ⟨v, hv, rv⟩ := RepL.get r hd
  rw [← RepL.length r] at hv
  refine ⟨⟨by rw [RepL.length r]; exact hi, vs, v, h', hv⟩, fun x H'' y => ?_⟩
  obtain ⟨rfl, y⟩ := y
  refine ⟨Same.refl _, fun O' so al => ?_⟩
  have ex : x = v := Option.some.inj ((y vs h').symm.trans hv)
  subst ex
  exact Rep.mono so d rv
def dRev (q : DA) : DA := fun ρ P R => q ρ (fun ds => match ds with
  | [.lst ds] => P ds.reverse
  | _ => False) R
theorem id_rev {tg e : Expr} {q : DA} {p pos : Pos} (hg : Gl X "reversed") (hm : X.mg "reversed" = none) (ha : PA X [e] (liftA X.K C E q)) (hs : starEach [e] X.env = [(false, eval e X.env)] := by rfl) :
    PI X tg (.Call (.Name "reversed" p) [e] [] pos) (liftI X.K C E (dRev q)) := (pi_reversed hg hm ha hs).wk fun σ H Q q => by
  obtain ⟨B, O0, O, ρ, P, R, k, q, hP, hR⟩ := q
  refine ⟨B, O0, O, ρ, _, R, k, q, fun vs ds H' s' r p => ?_, hR⟩
  split at p
  · obtain ⟨v, _, rfl, ⟨a, ws, rfl, e1, e2⟩, rfl⟩ := r
    exact ⟨a, ws, rfl, SqL.of (wo_some e1), hP _ _ H' s' (wk_rev e1 e2) p⟩
  · exact p.elim

/-! ### for -/
def forD (g : DG) (b : DS) (N : Env → Prop) (R : D → Prop) (Z : Addr → Prop) : List D → Env → Prop
  | [], ρ => N ρ
  | d :: ds, ρ => g d ρ (fun ρ' => b ρ' (fun ρ'' => forD g b N R Z ds ρ'') R Z)
def dFor (q : DA) (g : DG) (b : DS) : DS := fun ρ N R Z => q ρ (fun ds => forD g b N R Z ds ρ) Z
theorem sd_for {tg iter : Expr} {body : List Stmt} {q : DA} {js : List Nat} {g : DG} {b : DS} (hp : PassesOwn (model X.prog X.w) X.A X.env X.xe) (hc : X.calm = true) (hi : PI X tg iter (liftI X.K C E q)) (hg : PG X tg (liftG X.K C js g)) (hb : PSs X body (liftS X.K C E b))
    (hs : ∀ x, foldedSetIterable iter X.env x = pure x := by intro _; rfl) : PS X (.For tg iter body [] pos) (liftS X.K C E (dFor q g b)) := (ps_for hp hc hi hg hb hs).wk fun D σ H q => by
  obtain ⟨B, O0, O, ρ, N, R, Z, k, q, hN, hR, hZ⟩ := q
  refine ⟨B, O0, O, ρ, _, Z, k, q, fun J ds H1 s1 wk hf => ?_, fun c H' s' z => hZ c H' (k.base.trans s') z⟩
  have k1 := k.ext s1
  have kB : Same B (mid B H1 O) := k1.base_mid
  refine ⟨fun i m σ' H' => m = ds.length - i ∧ i ≤ ds.length ∧ ∃ O' ρ', Ok X.K C (mid B H1 O) O0 O' H' σ' ρ' ∧ forD g b N R Z (ds.drop i) ρ', ⟨_, rfl, Nat.zero_le _, O, ρ, k1.mid, hf⟩, ?_⟩
  rintro i m σ' H' ⟨rfl, hi, O', ρ', k', hf'⟩
  obtain ⟨wgo, wst⟩ := wk H' ((wo_mid B H1 O).trans k'.base)
  by_cases hlt : i < ds.length
  · obtain ⟨d, hd⟩ : ∃ d, ds[i]? = some d := ⟨ds[i], List.getElem?_eq_getElem hlt⟩
    have hdrop : ds.drop i = d :: ds.drop (i + 1) := by
      rw [List.drop_eq_getElem_cons hlt]
      have := List.getElem?_eq_getElem hlt
      rw [hd] at this
      cases this
      rfl
    rw [hdrop] at hf'
    obtain ⟨go, yl⟩ := wgo i d hd
    refine .inr ⟨go, fun σ2 H2 => ∃ O2 ρ2, Ok X.K C (mid B H1 O) O0 O2 H2 σ2 ρ2 ∧ forD g b N R Z (ds.drop (i + 1)) ρ2, fun σ2 H2 ⟨O2, ρ2, k2, h2⟩ => ⟨ds.length - (i + 1), by omega, rfl, hlt, O2, ρ2, k2, h2⟩, fun x H'' y => ?_⟩
    obtain ⟨sy, ry⟩ := yl x H'' y
    have rx := ry O' (k'.stays (wo_mid B H1 O) k1.sub0) k'.al
    refine ⟨_, O0, O', ρ', d, _, k'.ext sy, rx, hf', fun σ3 ρ3 k3 _ h3 => ?_⟩
    refine ⟨_, O0, O', ρ3, _, R, Z, k3, h3, fun σ4 H4 ρ4 O4 k4 h4 => ⟨O4, ρ4, k4, h4⟩, fun v d H4 s4 r p => hR v d H4 (kB.trans s4) r p, fun c H4 s4 z => hZ c H4 (kB.trans s4) z⟩
  · have e : i = ds.length := by omega
    subst e
    rw [List.drop_length] at hf'
    exact .inl ⟨wst, hN σ' H' ρ' O' (k'.less kB k1.al0) hf'⟩

/-! ### comprehensions -/
def wipeD (ρ : Env) : List Nat → Env
  | [] => ρ
  | v :: vs => (wipeD ρ vs).set v none
theorem Ok.wipe {K : PySem.W.Frag} {B H : Hp} {O0 O : List Addr} {σ : St} {ρ : Env} (k : Ok K C B O0 O H σ ρ) : ∀ vs : List Nat, Ok K C B O0 O H (wipe σ vs) (wipeD ρ vs)
  | [] => k
  | v :: vs => (Ok.wipe k vs).unset v
theorem wipe_get (σ : St) (j : Nat) : ∀ vs : List Nat, (wipe σ vs)[j]? = if j ∈ vs ∧ j < σ.length then some none else σ[j]?
  | [] => by simp [L2.wipe]
  | v :: vs => by
    show ((wipe σ vs).set v none)[j]? = _
    by_cases h : v = j
    · subst h
      by_cases hl : v < σ.length
      · rw [List.getElem?_set_self (by rw [wipe_length]; exact hl), if_pos ⟨by simp, hl⟩]
      · rw [List.getElem?_eq_none (by rw [List.length_set, wipe_length]; omega), if_neg (by omega), List.getElem?_eq_none (by omega)]
    · rw [List.getElem?_set_ne h, wipe_get σ j vs]
      have : (j ∈ v :: vs) ↔ (j ∈ vs) := by simp [Ne.symm h]
      simp only [this]
theorem wipe_eq {σ σ2 : St} {vs js : List Nat} (hl : σ2.length = σ.length) (hj : ∀ j, j ∈ js → j ∈ vs) (h : ∀ j, j ∉ js → σ2[j]? = (wipe σ vs)[j]?) : wipe σ2 vs = wipe σ vs := by
  refine List.ext_getElem? fun j => ?_
  rw [wipe_get]
  by_cases hm : j ∈ vs ∧ j < σ2.length
  · rw [if_pos hm, wipe_get, if_pos ⟨hm.1, by rw [← hl]; exact hm.2⟩]
  · rw [if_neg hm]
    by_cases hv : j ∈ vs
    · have : σ2.length ≤ j := by
        rcases Nat.lt_or_ge j σ2.length with q | q
        · exact absurd ⟨hv, q⟩ hm
        · exact q
      rw [List.getElem?_eq_none this, List.getElem?_eq_none (by rw [wipe_length, ← hl]; exact this)]
    · exact h j fun z => hv (hj j z)
def lcD (g : DG) (t : DT) (p : DE) (ρ : Env) (P : List D → Prop) : List D → List D → Prop
  | [], acc => P acc
  | d :: ds, acc => g d ρ (fun ρ2 => t ρ2 (fun b => if b = true then p ρ2 (fun y => lcD g t p ρ P ds (acc ++ [y])) (fun _ => False) else lcD g t p ρ P ds acc) (fun _ => False))
def dLc (q : DA) (g : DG) (t : DT) (p : DE) (vs : List Nat) : DE := fun ρ P R => q ρ (fun ds => ds.length ≤ sizeLine ∧ lcD g t p (wipeD ρ vs) (fun acc => P (.lst acc)) ds []) R
abbrev EF : XK := fun _ _ _ => False
theorem lift_lc {K : PySem.W.Frag} {q : DA} {js : List Nat} {g : DG} {t : DT} {p : DE} {vs : List Nat} (hj : ∀ j, j ∈ js → j ∈ vs) : ∀ σ H Q, lift K C E (dLc q g t p vs) σ H Q → tLc (liftI K C E q) (liftG K C js g) (liftT K C EF t) (lift K C EF p) vs σ H Q := fun σ H Q q => by
  obtain ⟨B, O0, O, ρ, P, R, k, q, hP, hR⟩ := q
  refine ⟨B, O0, O, ρ, _, R, k, q, fun J ds H1 s1 wk hf L hL => ?_, hR⟩
  obtain ⟨hz, hf⟩ := hf
  have k1 := k.ext s1
  refine ⟨fun i m H' => m = ds.length - i ∧ i ≤ ds.length ∧ ∃ acc va, Same H1 H' ∧ H' L = some (.lst va) ∧ RepL K C (wo H' (L :: O)) acc va ∧ acc.length ≤ i ∧ Ok K C B O0 (L :: O) H' (wipe σ vs) (wipeD ρ vs) ∧ lcD g t p (wipeD ρ vs) (fun acc => P (.lst acc)) (ds.drop i) acc,
    ⟨_, rfl, Nat.zero_le _, [], [], Same.new hL, upd_same, rfl, Nat.zero_le _, (k1.apart hL).wipe vs, hf⟩, ?_⟩
  rintro i m H' ⟨rfl, hi, acc, va, s2, hl2, ra, hal, k2, hf'⟩
  have sw : Same (wo H1 O) (wo H' (L :: O)) := fun b o e => by
    have h1 : H1 b = some o := wo_some e
    refine wo_of (s2 _ _ h1) fun z => ?_
    rcases List.mem_cons.mp z with z | z
    · rw [z, hL] at h1; cases h1
    · unfold wo at e
      rw [if_pos z] at e
      cases e
  obtain ⟨wgo, wst⟩ := wk H' ((wo_le H1 O).trans s2)
  by_cases hlt : i < ds.length
  · obtain ⟨d, hd⟩ : ∃ d, ds[i]? = some d := ⟨ds[i], List.getElem?_eq_getElem hlt⟩
    have hdrop : ds.drop i = d :: ds.drop (i + 1) := by
      rw [List.drop_eq_getElem_cons hlt]
      have := List.getElem?_eq_getElem hlt
      rw [hd] at this
      cases this
      rfl
    rw [hdrop] at hf'
    obtain ⟨go, yl⟩ := wgo i d hd
    refine .inr ⟨go, fun H2 => ∃ acc va, Same H1 H2 ∧ H2 L = some (.lst va) ∧ RepL K C (wo H2 (L :: O)) acc va ∧ acc.length ≤ i + 1 ∧ Ok K C B O0 (L :: O) H2 (wipe σ vs) (wipeD ρ vs) ∧ lcD g t p (wipeD ρ vs) (fun acc => P (.lst acc)) (ds.drop (i + 1)) acc,
      fun H2 ⟨acc, va, a1, a2, a3, a4, a5, a6⟩ => ⟨ds.length - (i + 1), by omega, rfl, hlt, acc, va, a1, a2, a3, a4, a5, a6⟩, fun x H'' y => ?_⟩
    obtain ⟨sy, ry⟩ := yl x H'' y
    have rx := ry (L :: O) sw k2.al
    refine ⟨B, O0, L :: O, wipeD ρ vs, d, _, k2.ext sy, rx, hf', fun σ3 ρ3 k3 hst h3 => ?_⟩
    refine ⟨wipe_eq (by rw [hst.1, wipe_length]) hj hst.2, ?_⟩
    refine ⟨B, O0, L :: O, ρ3, _, fun _ => False, k3, h3, fun b H3 s3 h4 => ?_, fun _ _ _ z => z⟩
    have s13 : Same H1 H3 := (s2.trans sy).trans s3
    have l3 : H3 L = some (.lst va) := s3 _ _ (sy _ _ hl2)
    have r3 : RepL K C (wo H3 (L :: O)) acc va := RepL.mono (wo_same _ (sy.trans s3)) _ ra
    cases b with
    | true =>
      simp only [if_true] at h4 ⊢
      refine ⟨B, O0, L :: O, ρ3, _, fun _ => False, k3.ext s3, h4, fun v e H4 s4 r4 h5 => ?_, fun _ _ _ z => z⟩
      have l4 : H4 L = some (.lst va) := s4 _ _ l3
      have hb : B L = none := k1.base.free hL
      have k4 : Ok K C B O0 (L :: O) H4 (wipe σ vs) (wipeD ρ vs) := k2.ext ((sy.trans s3).trans s4)
      have hno : ∀ (j : Nat) (es : List D), (wipeD ρ vs)[j]? = some (some (.own es)) → (wipe σ vs)[j]? ≠ some (some (.ref L)) := fun j es e z => by
        obtain ⟨q, ws, e1, _, _, e4, _⟩ := (k1.wipe vs).own j es e
        rw [e1] at z
        have eq : q = L := by simpa using z
        rw [eq, hL] at e4
        cases e4
      have hnk : ∀ (j : Nat) (b : Bool) (ts : List Int), (wipeD ρ vs)[j]? ≠ some (some (.kst L b ts)) := fun j b ts z => by
        obtain ⟨_, _, _, _, e4, _⟩ := (k1.wipe vs).st.at_ j L b ts z
        rw [hL] at e4
        cases e4
      have hnl : ∀ (j : Nat) (ds : List D), (wipeD ρ vs)[j]? ≠ some (some (.ls L ds)) := fun j ds z => by
        obtain ⟨_, _, _, e4, _⟩ := (k1.wipe vs).ls.at_ j L ds z
        rw [hL] at e4
        cases e4
      refine ⟨va, l4, by rw [RepL.length r3]; omega, acc ++ [e], va ++ [v], fun b o eb => ?_, upd_same, ?_, by rw [List.length_append]; exact Nat.add_le_add_right hal 1, k4.chg (by simp) hb l4 hno hnk hnl (SameX.upd l4), h5⟩
      · rw [upd_ne (ne_of_none eb hL)]
        exact s4 _ _ (s13 _ _ eb)
      · have sw4 : Same (wo H4 (L :: O)) (wo (upd H4 L (.lst (va ++ [v]))) (L :: O)) := fun b o eb => by
          have h1 := wo_some eb
          have nO : b ∉ L :: O := fun z => by
            unfold wo at eb
            rw [if_pos z] at eb
            cases eb
          exact wo_of (by rw [upd_ne fun z => nO (by simp [z])]; exact h1) nO
        exact (RepL.mono ((wo_same _ s4).trans sw4) _ r3).append (RepL.one (Rep.mono sw4 _ r4))
    | false =>
      simp only [Bool.false_eq_true, if_false] at h4 ⊢
      exact ⟨acc, va, s13, l3, r3, by omega, k2.ext (sy.trans s3), h4⟩
  · have e : i = ds.length := by omega
    subst e
    rw [List.drop_length] at hf'
    refine .inl ⟨wst, ?_⟩
    exact hP (.ref L) (.lst acc) H' (s1.trans s2) ⟨L, va, rfl, wo_of hl2 (k1.al.new hL), RepL.mono (wo_sub H' fun a ha => List.mem_cons_of_mem _ ha) _ ra⟩ hf'
theorem pd_lc {elt tg iter : Expr} {ifs : List Expr} {scope : Scope} {own : List (Str × Nat)} {q : DA} {js : List Nat} {g : DG} {t : DT} {p : DE} (hc : X.calm = true) (hN : X.N.Nodup) (hi : PI X tg iter (liftI X.K C E q)) (ok : BlkOk X.N X.env.scope scope own)
    (hg : ∀ (s : Shared) (H : Hp) (c : Addr) (cl : List (Str × Addr)) (fp : List Addr), PG (X.blk s H scope (compEnvC scope cl c X.env) fp) tg (liftG X.K C js g)) (ht : ∀ (s : Shared) (H : Hp) (c : Addr) (cl : List (Str × Addr)) (fp : List Addr), PTs (X.blk s H scope (compEnvC scope cl c X.env) fp) ifs (liftT X.K C EF t))
    (he : ∀ (s : Shared) (H : Hp) (c : Addr) (cl : List (Str × Addr)) (fp : List Addr), PE (X.blk s H scope (compEnvC scope cl c X.env) fp) elt (lift X.K C EF p)) (hj : ∀ j, j ∈ js → j ∈ own.map (·.2) := by decide) (hs : ∀ x, foldedSetIterable iter X.env x = pure x := by intro _; rfl) :
    PE X (.ListComp elt [⟨tg, iter, ifs, 0⟩] scope pos) (lift X.K C E (dLc q g t p (own.map (·.2)))) := (pe_lc hc hN hi ok hg ht he hs).wk (lift_lc hj)
theorem sd_setLc {i : Nat} {y : Str} {py spos : Pos} {elt tg iter : Expr} {ifs : List Expr} {scope : Scope} {own : List (Str × Nat)} {q : DA} {js : List Nat} {g : DG} {t : DT} {p : DE} (hc : X.calm = true) (hN : X.N.Nodup) (hy : X.N[i]? = some y) (hyl : X.env.scope.names.lookup y = some .local)
    (hsw : swapsWith (.ListComp elt [⟨tg, iter, ifs, 0⟩] scope pos) (some (.Name y py)) spos.line X.env = pure true) (hi : PI X tg iter (liftI X.K C E q)) (ok : BlkOk X.N X.env.scope scope own)
    (hg : ∀ (s : Shared) (H : Hp) (c : Addr) (cl : List (Str × Addr)) (fp : List Addr), PG (X.blk s H scope (compEnvC scope cl c X.env) fp) tg (liftG X.K C js g)) (ht : ∀ (s : Shared) (H : Hp) (c : Addr) (cl : List (Str × Addr)) (fp : List Addr), PTs (X.blk s H scope (compEnvC scope cl c X.env) fp) ifs (liftT X.K C EF t))
    (he : ∀ (s : Shared) (H : Hp) (c : Addr) (cl : List (Str × Addr)) (fp : List Addr), PE (X.blk s H scope (compEnvC scope cl c X.env) fp) elt (lift X.K C EF p)) (hj : ∀ j, j ∈ js → j ∈ own.map (·.2) := by decide) (hs : ∀ x, foldedSetIterable iter X.env x = pure x := by intro _; rfl) :
    PS X (.Assign [.Name y py] (.ListComp elt [⟨tg, iter, ifs, 0⟩] scope pos) spos) (liftS X.K C E (dSet i (dLc q g t p (own.map (·.2))))) := (ps_setLc hc hN hy hyl hsw hi ok hg ht he hs).wk fun D σ H q => by
  obtain ⟨B, O0, O, ρ, N, R, Z, k, q, hN, hR, hZ⟩ := q
  have h := lift_lc (K := X.K) (C := C) (E := E) (q := ‹DA›) (js := js) (g := g) (t := t) (p := p) (vs := own.map (·.2)) hj σ H (fun v H' => D.nx (σ.set i (some v)) H')
  exact h ⟨B, O0, O, ρ, _, Z, k, q, fun v d H' s' r p => hN (σ.set i (some v)) H' _ O ((k.ext s').set i r) p, fun c H' s' z => hZ c H' (k.base.trans s') z⟩
def dYes : DT := fun _ P _ => P true
theorem ts_nil : PTs X [] (liftT X.K C E dYes) := pts_nil.wk fun σ H Q q => by
  obtain ⟨B, O0, O, ρ, P, R, k, q, hP, hR⟩ := q
  exact hP true H (Same.refl H) q
theorem ts_one {c : Expr} {t : DT} (h : PT X c (liftT X.K C E t)) : PTs X [c] (liftT X.K C E t) := pts_one h
end
end L2.DL
/-! # Data-level readings: operators -/
namespace L2.DL
open PySem PySem.Spec PyProof.Rows

mutual
def D.toPy : D → PyData
  | .non => .none
  | .bl b => .bool b
  | .int i => .int i
  | .str s => .str s
  | .lst ds => .list (toPys ds)
  | .tup ds => .tuple (toPys ds)
  | .dic _ _ => .dict []
  | .kp _ _ => .dict []
  | .scr _ => .dict []
  | .adr _ => .dict []
  | .ty _ => .dict []
  | .exc _ => .dict []
def toPys : List D → List PyData
  | [] => []
  | d :: ds => D.toPy d :: toPys ds
end
theorem toPys_map : ∀ ds : List D, toPys ds = ds.map D.toPy
  | [] => rfl
  | d :: ds => by rw [toPys, toPys_map ds]; rfl
section
variable {K : PySem.W.Frag} {C : Addr} {H : Hp}
mutual
theorem Rep.dp : ∀ (d : D) {v : V}, d.toPy.canLay0 = true → Rep K C H d v → Dp K H v d.toPy
  | .non, _, _, r => by cases (show _ = _ from r); exact .non
  | .bl b, _, _, r => by cases (show _ = _ from r); exact .bl b
  | .int i, _, _, r => by cases (show _ = _ from r); exact .int i
  | .str s, _, _, r => by cases (show _ = _ from r); exact .str s
  | .lst ds, _, h, r => by
    obtain ⟨a, vs, rfl, e1, e2⟩ := r
    exact .lst (SqL.of e1) (RepL.dp ds (by simpa [D.toPy, PyData.canLay0] using h) e2)
  | .tup ds, _, h, r => by
    obtain ⟨a, vs, rfl, e1, e2⟩ := r
    exact .tup (SqT.of e1) (RepL.dp ds (by simpa [D.toPy, PyData.canLay0] using h) e2)
  | .dic _ _, _, h, _ => by simp [D.toPy, PyData.canLay0] at h
  | .kp _ _, _, h, _ => by simp [D.toPy, PyData.canLay0] at h
  | .scr _, _, h, _ => by simp [D.toPy, PyData.canLay0] at h
  | .adr _, _, h, _ => by simp [D.toPy, PyData.canLay0] at h
  | .ty _, _, h, _ => by simp [D.toPy, PyData.canLay0] at h
  | .exc _, _, h, _ => by simp [D.toPy, PyData.canLay0] at h
theorem RepL.dp : ∀ (ds : List D) {vs : List V}, PyData.canLayAll0 (toPys ds) = true → RepL K C H ds vs → DpAll K H vs (toPys ds)
  | [], _, _, r => by cases (show _ = _ from r); exact .nil
  | d :: ds, _, h, r => by
    obtain ⟨v, w, rfl, r1, r2⟩ := r
    rw [toPys, PyData.canLayAll0, Bool.and_eq_true] at h
    exact .cons (Rep.dp d h.1 r1) (RepL.dp ds h.2 r2)
end
end
/-- fit for == -/
def okE (d : D) : Prop := SeqAt.shaped d.toPy = true
def eqD (x y : D) : Bool := PyData.eqv x.toPy y.toPy

section
variable {X : Cx} {C : Addr} {E : XK} {pos : Pos} {K : PySem.W.Frag}
theorem kI {O : List Addr} {H : Hp} {P : D → Prop} {Q : VK} (k : ∀ v d H', Same H H' → Rep K C (wo H' O) d v → P d → Q v H') {i : Int} (p : P (.int i)) : Q (.int i) H := k (.int i) (.int i) H (Same.refl H) rfl p
theorem kB {O : List Addr} {H : Hp} {P : D → Prop} {Q : VK} (k : ∀ v d H', Same H H' → Rep K C (wo H' O) d v → P d → Q v H') {i : Bool} (p : P (.bl i)) : Q (.bl i) H := k (.bl i) (.bl i) H (Same.refl H) rfl p
theorem kS {O : List Addr} {H : Hp} {P : D → Prop} {Q : VK} (k : ∀ v d H', Same H H' → Rep K C (wo H' O) d v → P d → Q v H') {i : Str} (p : P (.str i)) : Q (.str i) H := k (.str i) (.str i) H (Same.refl H) rfl p
/-! arithmetic -/
def dAdd : D2
  | .int i, .int j, P => P (.int (i + j))
  | .str a, .str b, P => a.length + b.length ≤ sizeLine ∧ P (.str (a ++ b))
  | .lst a, .lst b, P => a.length + b.length ≤ sizeLine ∧ P (.lst (a ++ b))
  | .tup a, .tup b, P => a ≠ [] ∧ b ≠ [] ∧ a.length + b.length ≤ sizeLine ∧ P (.tup (a ++ b))
  | _, _, _ => False
theorem or_add : OpR X (binaryOp .Add) (fun x y H Q => rI0 (fun i j => .int (i + j)) x y H Q ∨ (∃ i j, x = .str i ∧ y = .str j ∧ i.length + j.length ≤ sizeLine ∧ Q (.str (i ++ j)) H) ∨ rCat x y H Q ∨ rCatT X.K x y H Q) :=
  op_add.or (op_add_str.or (op_cat.or op_catT))
theorem ab_add : AbR K C (fun x y H Q => rI0 (fun i j => .int (i + j)) x y H Q ∨ (∃ i j, x = .str i ∧ y = .str j ∧ i.length + j.length ≤ sizeLine ∧ Q (.str (i ++ j)) H) ∨ rCat x y H Q ∨ rCatT K x y H Q) dAdd := by
  intro O H x y dx dy P Q al rx ry q k
  unfold dAdd at q
  split at q
  · exact .inl ⟨_, _, rx, ry, kI k q⟩
  · exact .inr (.inl ⟨_, _, rx, ry, q.1, kS k q.2⟩)
  · obtain ⟨a, vs, rfl, e1, e2⟩ := rx
    obtain ⟨b, ws, rfl, e3, e4⟩ := ry
    refine .inr (.inr (.inl ⟨a, b, vs, ws, rfl, rfl, wo_some e1, wo_some e3, by rw [RepL.length e2, RepL.length e4]; exact q.1, fun p hp => ?_⟩))
    exact k _ _ _ (Same.new hp) (rep_new_lst hp al (e2.append e4)) q.2
  · obtain ⟨a, vs, rfl, e1, e2⟩ := rx
    obtain ⟨b, ws, rfl, e3, e4⟩ := ry
    obtain ⟨n1, n2, q1, q2⟩ := q
    have m1 : vs ≠ [] := fun z => n1 (by have := RepL.length e2; rw [z] at this; exact List.eq_nil_of_length_eq_zero this.symm)
    have m2 : ws ≠ [] := fun z => n2 (by have := RepL.length e4; rw [z] at this; exact List.eq_nil_of_length_eq_zero this.symm)
    refine .inr (.inr (.inr ⟨a, b, vs, ws, rfl, rfl, SqT.of (wo_some e1), SqT.of (wo_some e3), m1, by rw [RepL.length e2, RepL.length e4]; exact q1, fun z => absurd z m2, fun _ p hp => ?_⟩))
    exact k _ _ _ (Same.new hp) (rep_new_tup hp al (e2.append e4)) q2
  · exact q.elim
def dSub : D2
  | .int i, .int j, P => P (.int (i - j))
  | _, _, _ => False
theorem ab_sub : AbR K C (rI0 fun i j => .int (i - j)) dSub := by
  intro O H x y dx dy P Q al rx ry q k
  unfold dSub at q
  split at q
  · exact ⟨_, _, rx, ry, kI k q⟩
  · exact q.elim
def dMul : D2
  | .int i, .int j, P => IntMulOk i j ∧ P (.int (i * j))
  | .lst ds, .int j, P => -(2 ^ 63) ≤ j ∧ j < 2 ^ 63 ∧ ds.length * j.toNat ≤ sizeLine ∧ P (.lst (List.replicate j.toNat ds).flatten)
  | _, _, _ => False
theorem op_mulI : OpR X (binaryOp .Mult) (rI IntMulOk fun i j => .int (i * j)) := opI fun _ _ _ _ _ _ _ hc q => mul_int q hc
theorem or_mul : OpR X (binaryOp .Mult) (fun x y H Q => rI IntMulOk (fun i j => .int (i * j)) x y H Q ∨ rRep x y H Q) := op_mulI.or op_rep
theorem RepL.times {H : Hp} {ds : List D} {vs : List V} (r : RepL K C H ds vs) : ∀ n : Nat, RepL K C H (List.replicate n ds).flatten (List.replicate n vs).flatten
  | 0 => rfl
  | n + 1 => by
    rw [List.replicate_succ, List.replicate_succ, List.flatten_cons, List.flatten_cons]
    exact r.append (RepL.times r n)
theorem ab_mul : AbR K C (fun x y H Q => rI IntMulOk (fun i j => .int (i * j)) x y H Q ∨ rRep x y H Q) dMul := by
  intro O H x y dx dy P Q al rx ry q k
  unfold dMul at q
  split at q
  · exact .inl ⟨_, _, rx, ry, q.1, kI k q.2⟩
  · obtain ⟨a, vs, rfl, e1, e2⟩ := rx
    obtain ⟨q1, q2, q3, q4⟩ := q
    refine .inr ⟨a, _, vs, rfl, ry, wo_some e1, q1, q2, by rw [RepL.length e2]; exact q3, fun p hp => ?_⟩
    exact k _ _ _ (Same.new hp) (rep_new_lst hp al (e2.times _)) q4
  · exact q.elim
def dMod : D2
  | .int i, .int j, P => 0 < j ∧ P (.int (i % j))
  | _, _, _ => False
theorem ab_mod : AbR K C (rI (fun _ j => 0 < j) fun i j => .int (i % j)) dMod := by
  intro O H x y dx dy P Q al rx ry q k
  unfold dMod at q
  split at q
  · exact ⟨_, _, rx, ry, q.1, kI k q.2⟩
  · exact q.elim
def dFdiv : D2
  | .int i, .int j, P => 0 < j ∧ j < 1073741824 ∧ P (.int (i / j))
  | _, _, _ => False
theorem ab_fdiv : AbR K C (rI CDiv fun i j => .int (i / j)) dFdiv := by
  intro O H x y dx dy P Q al rx ry q k
  unfold dFdiv at q
  split at q
  · exact ⟨_, _, rx, ry, ⟨q.1, q.2.1⟩, kI k q.2.2⟩
  · exact q.elim
def CPw (i j : Int) : Prop := 0 ≤ j ∧ (Builtin.Int.intBits i : Int) * j ≤ 2 ^ 27
theorem op_powI : OpR X (binaryOp .Pow) (rI CPw fun i j => .int (i ^ j.toNat)) := opI fun _ _ _ _ _ _ _ hc q => pow_int hc.1 hc.2 q
def dPow : D2
  | .int i, .int j, P => CPw i j ∧ P (.int (i ^ j.toNat))
  | _, _, _ => False
theorem ab_pow : AbR K C (rI CPw fun i j => .int (i ^ j.toNat)) dPow := by
  intro O H x y dx dy P Q al rx ry q k
  unfold dPow at q
  split at q
  · exact ⟨_, _, rx, ry, q.1, kI k q.2⟩
  · exact q.elim
/-! comparisons -/
def dCmpI (f : Int → Int → Bool) : D2
  | .int i, .int j, P => P (.bl (f i j))
  | _, _, _ => False
theorem ab_cmpI (f : Int → Int → Bool) : AbR K C (rI0 fun i j => .bl (f i j)) (dCmpI f) := by
  intro O H x y dx dy P Q al rx ry q k
  unfold dCmpI at q
  split at q
  · exact ⟨_, _, rx, ry, kB k q⟩
  · exact q.elim
abbrev dLt : D2 := dCmpI fun i j => decide (i < j)
abbrev dLe : D2 := dCmpI fun i j => decide (i ≤ j)
abbrev dGt : D2 := dCmpI fun i j => decide (j < i)
abbrev dGe : D2 := dCmpI fun i j => decide (j ≤ i)
/-- == : texts by themselves, all else as data -/
def dEq : D2
  | .str a, .str b, P => P (.bl (decide (a = b)))
  | x, y, P => okE x ∧ okE y ∧ P (.bl (eqD x y))
def dNe : D2
  | .str a, .str b, P => P (.bl (!decide (a = b)))
  | x, y, P => okE x ∧ okE y ∧ P (.bl (!eqD x y))
theorem or_eq (hu : X.A.units + 64 < cLine) : OpR X (compareOp .Eq) (fun x y H Q => rEq x y H Q ∨ rEqD X.K x y H Q) := op_eq.or (op_eqD hu)
theorem or_ne (hu : X.A.units + 64 < cLine) : OpR X (compareOp .NotEq) (fun x y H Q => rNe x y H Q ∨ rNeD X.K x y H Q) := op_ne.or (op_neD hu)
theorem V_str_eq (a b : Str) : decide (V.str a = V.str b) = decide (a = b) := by
  by_cases h : a = b
  · rw [h]; simp
  · have : ¬ V.str a = V.str b := fun z => h (V.str.inj z)
    rw [decide_eq_false h, decide_eq_false this]
theorem dp_of {H : Hp} {O : List Addr} {d : D} {v : V} (h : okE d) (r : Rep K C (wo H O) d v) : Dp K H v d.toPy := Rep.dp d (SeqAt.canLay_of_shaped h) (Rep.mono (wo_le H O) d r)
theorem ab_eq : AbR K C (fun x y H Q => rEq x y H Q ∨ rEqD K x y H Q) dEq := by
  intro O H x y dx dy P Q al rx ry q k
  unfold dEq at q
  split at q
  · rename_i a b
    have ex : x = V.str a := rx
    have ey : y = V.str b := ry
    subst ex ey
    exact .inl ⟨rfl, by rw [V_str_eq]; exact kB k q⟩
  · exact .inr ⟨_, _, dp_of q.1 rx, dp_of q.2.1 ry, q.1, q.2.1, kB k q.2.2⟩
theorem ab_ne : AbR K C (fun x y H Q => rNe x y H Q ∨ rNeD K x y H Q) dNe := by
  intro O H x y dx dy P Q al rx ry q k
  unfold dNe at q
  split at q
  · rename_i a b
    have ex : x = V.str a := rx
    have ey : y = V.str b := ry
    subst ex ey
    exact .inl ⟨rfl, by rw [V_str_eq]; exact kB k q⟩
  · exact .inr ⟨_, _, dp_of q.1 rx, dp_of q.2.1 ry, q.1, q.2.1, kB k q.2.2⟩
/-- is None -/
def D.isN : D → Bool
  | .non => true
  | _ => false
theorem isN_rep {H : Hp} {d : D} {v : V} (r : Rep K C H d v) : decide (v = .non) = d.isN := by
  cases d with
  | non => rw [show v = V.non from r]; rfl
  | bl _ => rw [show v = V.bl _ from r]; rfl
  | int _ => rw [show v = V.int _ from r]; rfl
  | str _ => rw [show v = V.str _ from r]; rfl
  | adr _ => rw [show v = V.ref _ from r]; rfl
  | ty _ => rw [show v = V.ty _ from r]; rfl
  | lst _ => obtain ⟨_, _, rfl, _⟩ := r; rfl
  | tup _ => obtain ⟨_, _, rfl, _⟩ := r; rfl
  | dic _ _ => obtain ⟨_, _, rfl, _⟩ := r; rfl
  | kp _ _ => obtain ⟨_, _, _, rfl, _⟩ := r; rfl
  | scr _ => obtain ⟨_, rfl, _⟩ := r; rfl
  | exc _ => obtain ⟨_, rfl, _⟩ := r; rfl
/-- is: None, or two truths -/
def dIs : D2
  | .bl a, .bl b, P => P (.bl (decide (a = b)))
  | x, .non, P => P (.bl x.isN)
  | _, _, _ => False
def dIsNot : D2
  | .bl a, .bl b, P => P (.bl (!decide (a = b)))
  | x, .non, P => P (.bl (!x.isN))
  | _, _, _ => False
theorem or_is : OpR X (compareOp .Is) (fun x y H Q => (y = .non ∧ Q (.bl (decide (x = .non))) H) ∨ rIsB x y H Q) := op_isN.or op_isBl
theorem or_isnot : OpR X (compareOp .IsNot) (fun x y H Q => (y = .non ∧ Q (.bl (!decide (x = .non))) H) ∨ rNotB x y H Q) := op_notN.or op_notBl
theorem ab_is : AbR K C (fun x y H Q => (y = .non ∧ Q (.bl (decide (x = .non))) H) ∨ rIsB x y H Q) dIs := by
  intro O H x y dx dy P Q al rx ry q k
  unfold dIs at q
  split at q
  · exact .inr ⟨_, _, rx, ry, kB k q⟩
  · exact .inl ⟨ry, by rw [isN_rep rx]; exact kB k q⟩
  · exact q.elim
theorem ab_isnot : AbR K C (fun x y H Q => (y = .non ∧ Q (.bl (!decide (x = .non))) H) ∨ rNotB x y H Q) dIsNot := by
  intro O H x y dx dy P Q al rx ry q k
  unfold dIsNot at q
  split at q
  · exact .inr ⟨_, _, rx, ry, kB k q⟩
  · exact .inl ⟨ry, by rw [isN_rep rx]; exact kB k q⟩
  · exact q.elim
/-- flat data -/
def flatD : D → Bool
  | .non | .bl _ | .int _ | .str _ => true
  | _ => false
theorem flat_rep {H : Hp} {d : D} {v : V} (h : flatD d = true) (r : Rep K C H d v) : flatV v = true := by
  cases d with
  | non => rw [show v = V.non from r]; rfl
  | bl _ => rw [show v = V.bl _ from r]; rfl
  | int _ => rw [show v = V.int _ from r]; rfl
  | str _ => rw [show v = V.str _ from r]; rfl
  | _ => cases h
theorem eqV_rep {H : Hp} {d e : D} {v w : V} (hd : flatD d = true) (he : flatD e = true) (r : Rep K C H d v) (r' : Rep K C H e w) : eqV v w = eqD d e := by
  cases d <;> first | (cases hd; done) | skip
  all_goals (cases e <;> first | (cases he; done) | skip)
  all_goals (rw [show v = _ from r, show w = _ from r']; rfl)
theorem flats_rep {H : Hp} : ∀ {ds : List D} {vs : List V}, ds.all flatD = true → RepL K C H ds vs → vs.all flatV = true
  | [], _, _, r => by rw [show _ = _ from r]; rfl
  | d :: ds, _, h, r => by
    obtain ⟨v, w, rfl, r1, r2⟩ := r
    rw [List.all_cons, Bool.and_eq_true] at h ⊢
    exact ⟨flat_rep h.1 r1, flats_rep h.2 r2⟩
theorem inV_rep {H : Hp} {d : D} {v : V} (hd : flatD d = true) (r : Rep K C H d v) : ∀ {ds : List D} {vs : List V}, ds.all flatD = true → RepL K C H ds vs → inV v vs = ds.any fun z => eqD z d
  | [], _, _, r' => by rw [show _ = _ from r']; rfl
  | e :: ds, _, h, r' => by
    obtain ⟨w, u, rfl, r1, r2⟩ := r'
    rw [List.all_cons, Bool.and_eq_true] at h
    have ih := inV_rep hd r h.2 r2
    unfold inV at ih ⊢
    rw [List.any_cons, List.any_cons, ih, eqV_rep h.1 hd r1 r]
/-- in: a text in a text; an item among the items of a list (any data) or of a tuple (flat data) -/
def dIn : D2
  | .str a, .str b, P => P (.bl (!(Builtin.Str.occurrences b a 0 b.length 1).isEmpty))
  | x, .lst ds, P => okE x ∧ okE (.lst ds) ∧ P (.bl (ds.any fun z => eqD z x))
  | x, .tup ds, P => flatD x = true ∧ ds.all flatD = true ∧ P (.bl (ds.any fun z => eqD z x))
  | _, _, _ => False
def dNotIn : D2
  | .str a, .str b, P => P (.bl (!(!(Builtin.Str.occurrences b a 0 b.length 1).isEmpty)))
  | x, .lst ds, P => okE x ∧ okE (.lst ds) ∧ P (.bl (!ds.any fun z => eqD z x))
  | x, .tup ds, P => flatD x = true ∧ ds.all flatD = true ∧ P (.bl (!ds.any fun z => eqD z x))
  | _, _, _ => False
theorem or_in (hu : X.A.units + 65 < cLine) : OpR X (compareOp .In) (fun x y H Q => (∃ i j, x = .str i ∧ y = .str j ∧ Q (.bl (!(Builtin.Str.occurrences j i 0 j.length 1).isEmpty)) H) ∨ rInD X.K x y H Q ∨ rIn X.K false x y H Q) := op_in_str.or ((op_inD hu).or op_in_seq)
theorem or_notin (hu : X.A.units + 65 < cLine) : OpR X (compareOp .NotIn) (fun x y H Q => (∃ i j, x = .str i ∧ y = .str j ∧ Q (.bl (!(!(Builtin.Str.occurrences j i 0 j.length 1).isEmpty))) H) ∨ rNotInD X.K x y H Q ∨ rIn X.K true x y H Q) := op_notin_str.or ((op_notInD hu).or op_notIn_seq)
theorem any_py (ds : List D) (x : D) : (toPys ds).any (fun z => PyData.eqv z x.toPy) = ds.any fun z => eqD z x := by
  rw [toPys_map, List.any_map]; rfl
theorem ab_in : AbR K C (fun x y H Q => (∃ i j, x = .str i ∧ y = .str j ∧ Q (.bl (!(Builtin.Str.occurrences j i 0 j.length 1).isEmpty)) H) ∨ rInD K x y H Q ∨ rIn K false x y H Q) dIn := by
  intro O H x y dx dy P Q al rx ry q k
  unfold dIn at q
  split at q
  · exact .inl ⟨_, _, rx, ry, kB k q⟩
  · rename_i ds
    refine .inr (.inl ⟨_, toPys ds, dp_of q.1 rx, dp_of q.2.1 ry, q.1, q.2.1, ?_⟩)
    rw [any_py]
    exact kB k q.2.2
  · obtain ⟨a, vs, rfl, e1, e2⟩ := ry
    refine .inr (.inr ⟨a, vs, rfl, .inr (SqT.of (wo_some e1)), flat_rep q.1 rx, flats_rep q.2.1 e2, ?_⟩)
    rw [inV_rep q.1 rx q.2.1 e2]
    exact kB k q.2.2
  · exact q.elim
theorem ab_notin : AbR K C (fun x y H Q => (∃ i j, x = .str i ∧ y = .str j ∧ Q (.bl (!(!(Builtin.Str.occurrences j i 0 j.length 1).isEmpty))) H) ∨ rNotInD K x y H Q ∨ rIn K true x y H Q) dNotIn := by
  intro O H x y dx dy P Q al rx ry q k
  unfold dNotIn at q
  split at q
  · exact .inl ⟨_, _, rx, ry, kB k q⟩
  · rename_i ds
    refine .inr (.inl ⟨_, toPys ds, dp_of q.1 rx, dp_of q.2.1 ry, q.1, q.2.1, ?_⟩)
    rw [any_py]
    exact kB k q.2.2
  · obtain ⟨a, vs, rfl, e1, e2⟩ := ry
    refine .inr (.inr ⟨a, vs, rfl, .inr (SqT.of (wo_some e1)), flat_rep q.1 rx, flats_rep q.2.1 e2, ?_⟩)
    rw [inV_rep q.1 rx q.2.1 e2]
    exact kB k q.2.2
  · exact q.elim

/-! ### items, slices -/
def dIx : D2
  | .lst ds, .int i, P => ∃ d, atI ds i = some d ∧ P d
  | .tup ds, .int i, P => ∃ d, atI ds i = some d ∧ P d
  | .str z, .int i, P => z.length ≤ sizeLine ∧ ∃ c, atI z.cps.toList i = some c ∧ P (.str ⟨#[c]⟩)
  | _, _, _ => False
theorem atI_rep {H : Hp} {ds : List D} {vs : List V} {i : Int} {d : D} (r : RepL K C H ds vs) (h : atI ds i = some d) : ∃ v, atI vs i = some v ∧ Rep K C H d v := by
  unfold atI at h ⊢
  rw [RepL.length r]
  cases e : ixN ds.length i with
  | none => rw [e] at h; cases h
  | some j =>
    rw [e] at h
    obtain ⟨v, h1, h2⟩ := RepL.get r (show ds[j]? = some d from h)
    exact ⟨v, h1, h2⟩
theorem lift_ix : AbR K C (rIx K) dIx := by
  intro O H x y dx dy P Q al rx ry q k
  unfold dIx at q
  split at q
  · obtain ⟨a, vs, rfl, e1, e2⟩ := rx
    obtain ⟨d, h1, h2⟩ := q
    obtain ⟨v, h3, h4⟩ := atI_rep e2 h1
    exact .inl ⟨a, vs, _, v, rfl, ry, SqL.of (wo_some e1), h3, k _ _ H (Same.refl H) h4 h2⟩
  · obtain ⟨a, vs, rfl, e1, e2⟩ := rx
    obtain ⟨d, h1, h2⟩ := q
    obtain ⟨v, h3, h4⟩ := atI_rep e2 h1
    exact .inr (.inl ⟨a, vs, _, v, rfl, ry, SqT.of (wo_some e1), h3, k _ _ H (Same.refl H) h4 h2⟩)
  · obtain ⟨h1, c, h2, h3⟩ := q
    exact .inr (.inr ⟨_, _, c, rx, ry, h1, h2, kS k h3⟩)
  · exact q.elim
theorem pd_ix {a b : Expr} {pa pb : DE} (ha : PE X a (lift X.K C E pa)) (hb : PE X b (lift X.K C E pb)) (hs : PlainIx b) : PE X (.Subscript a b pos) (lift X.K C E (dBin dIx pa pb)) := (pe_ix ix_seq ha hb hs).wk (lift_bin lift_ix)
/-- a slice's part -/
abbrev DO := Env → (Option Int → Prop) → (Addr → Prop) → Prop
def liftO (K : PySem.W.Frag) (C : Addr) (E : XK) (p : DO) : TO := fun σ H Q => ∃ B O0 O ρ P R, Ok K C B O0 O H σ ρ ∧ p ρ P R ∧
  (∀ b H', Same H H' → P b → Q b H') ∧ ∀ c H', Same H H' → R c → E (.ref c) none H'
def dNoPart : DO := fun _ P _ => P none
def dPart (p : DE) : DO := fun ρ P R => p ρ (fun d => match d with | .int i => P (some i) | _ => False) R
theorem od_none : PO X none (liftO X.K C E dNoPart) := ⟨fun pins s σ H Q I q => po_none.run pins s σ H Q I (by
  obtain ⟨B, O0, O, ρ, P, R, k, q, hP, hR⟩ := q
  exact hP none H (Same.refl H) q)⟩
theorem od_some {e : Expr} {p : DE} (h : PE X e (lift X.K C E p)) : PO X (some e) (liftO X.K C E (dPart p)) := ⟨fun pins s σ H Q I q => (po_some h).run pins s σ H Q I (by
  obtain ⟨B, O0, O, ρ, P, R, k, q, hP, hR⟩ := q
  refine ⟨B, O0, O, ρ, _, R, k, q, fun v d H' s' r p => ?_, hR⟩
  cases d with
  | int i => exact ⟨i, r, hP (some i) H' s' p⟩
  | _ => exact p.elim)⟩
def cutD (ds : List D) (lo hi : Option Int) : List D := (ds.drop (HT.sIx ds.length 0 lo)).take (HT.sIx ds.length ds.length hi - HT.sIx ds.length 0 lo)
/-- a[lo:hi]: a list, the script, a text, a tuple (not the whole of it) -/
def dCut (d : D) (lo hi : Option Int) (P : D → Prop) : Prop := match d with
  | .lst ds => P (.lst (cutD ds lo hi))
  | .scr ns => P (.lst (cutD (ns.map .int) lo hi))
  | .str z => z.length ≤ sizeLine ∧ P (.str (cutS z lo hi))
  | .tup ds => ¬ (HT.sIx ds.length 0 lo = 0 ∧ HT.sIx ds.length ds.length hi = ds.length) ∧ P (.tup (cutD ds lo hi))
  | _ => False
theorem RepL.cut {H : Hp} {ds : List D} {vs : List V} (r : RepL K C H ds vs) (lo hi : Option Int) : RepL K C H (cutD ds lo hi) (cutV vs lo hi) := by
  unfold cutD cutV
  rw [RepL.length r]
  exact (r.drop _).take _
def dSl (p : DE) (l h : DO) : DE := fun ρ P R => p ρ (fun d => l ρ (fun lo => h ρ (fun hi => dCut d lo hi P) R) R) R
theorem pd_sl {e : Expr} {lo hi : Option Expr} {p2 : Pos} {p : DE} {l h : DO} (he : PE X e (lift X.K C E p)) (hl : PO X lo (liftO X.K C E l)) (hh : PO X hi (liftO X.K C E h)) : PE X (.Subscript e (.Slice lo hi none p2) pos) (lift X.K C E (dSl p l h)) :=
  (pe_slice (sl_list.or (sl_str.or sl_tup)) he hl hh).wk fun σ H Q q => by
    obtain ⟨B, O0, O, ρ, P, R, k, q, hP, hR⟩ := q
    refine ⟨B, O0, O, ρ, _, R, k, q, fun x d H1 s1 r1 q1 => ⟨B, O0, O, ρ, _, R, k.ext s1, q1, fun a H2 s2 q2 => ⟨B, O0, O, ρ, _, R, (k.ext s1).ext s2, q2, fun b H3 s3 q3 => ?_, fun c H' s' z => hR c H' ((s1.trans s2).trans s') z⟩, fun c H' s' z => hR c H' (s1.trans s') z⟩, hR⟩
    have s13 : Same H H3 := (s1.trans s2).trans s3
    have al := k.al.mono s13
    have r3 : Rep X.K C (wo H3 O) d x := Rep.mono (wo_same O (s2.trans s3)) d r1
    unfold dCut at q3
    split at q3
    · obtain ⟨y, vs, rfl, e1, e2⟩ := r3
      exact .inl ⟨y, vs, rfl, SqL.of (wo_some e1), fun p hp => hP _ _ _ (s13.trans (Same.new hp)) (rep_new_lst hp al (e2.cut a b)) q3⟩
    · rename_i ns
      obtain ⟨y, rfl, e1⟩ := r3
      exact .inl ⟨y, _, rfl, (wo_le H3 O).seq e1, fun p hp => hP _ _ _ (s13.trans (Same.new hp)) (rep_new_lst hp al ((RepL.ints _ ns).cut a b)) q3⟩
    · exact .inr (.inl ⟨_, r3, q3.1, hP (.str _) (.str _) _ s13 rfl q3.2⟩)
    · obtain ⟨y, vs, rfl, e1, e2⟩ := r3
      exact .inr (.inr ⟨y, vs, rfl, SqT.of (wo_some e1), by rw [RepL.length e2]; exact q3.1, fun p hp => hP _ _ _ (s13.trans (Same.new hp)) (rep_new_tup hp al (e2.cut a b)) q3.2⟩)
    · exact q3.elim
/-- xs[::-1] -/
def dBack (p : DE) : DE := fun ρ P R => p ρ (fun d => match d with | .lst ds => P (.lst ds.reverse) | _ => False) R
theorem pd_back {e : Expr} {p : DE} {k : Nat} {p1 p2 p3 : Pos} (he : PE X e (lift X.K C E p)) : PE X (.Subscript e (.Slice none none (some (.UnaryOp .USub (.Constant (.int 1) k p1) p2)) p3) pos) (lift X.K C E (dBack p)) := (pe_revL he).wk fun σ H Q q => by
  obtain ⟨B, O0, O, ρ, P, R, k, q, hP, hR⟩ := q
  refine ⟨B, O0, O, ρ, _, R, k, q, fun x d H1 s1 r1 q1 => ?_, hR⟩
  cases d with
  | lst ds =>
    obtain ⟨y, vs, rfl, e1, e2⟩ := r1
    exact ⟨y, vs, rfl, SqL.of (wo_some e1), fun p hp => hP _ _ _ (s1.trans (Same.new hp)) (rep_new_lst hp (k.al.mono s1) e2.reverse) q1⟩
  | _ => exact q1.elim
/-- -e -/
def dNeg (p : DE) : DE := fun ρ P R => p ρ (fun d => match d with | .int i => P (.int (-i)) | _ => False) R
theorem pd_neg {e : Expr} {p : DE} (he : PE X e (lift X.K C E p)) : PE X (.UnaryOp .USub e pos) (lift X.K C E (dNeg p)) := (pe_un un_neg he).wk fun σ H Q q => by
  obtain ⟨B, O0, O, ρ, P, R, k, q, hP, hR⟩ := q
  refine ⟨B, O0, O, ρ, _, R, k, q, fun x d H1 s1 r1 q1 => ?_, hR⟩
  cases d with
  | int i => exact ⟨i, r1, hP (.int (-i)) (.int (-i)) H1 s1 rfl q1⟩
  | _ => exact q1.elim
end
end L2.DL
/-! # Data-level readings: built-in calls, raise, a def's promise -/
namespace L2.DL
open PySem PySem.Spec PyProof.Rows

section
variable {X : Cx} {C : Addr} {E : XK} {pos : Pos} {K : PySem.W.Frag}
abbrev DB := List D → (D → Prop) → Prop
def AbC (K : PySem.W.Frag) (C : Addr) (r : List V → Hp → VK → Prop) (f : DB) : Prop := ∀ (O : List Addr) (H : Hp) (vs : List V) (ds : List D) (P : D → Prop) (Q : VK), Al O H → RepL K C (wo H O) ds vs → f ds P →
  (∀ v d H', Same H H' → Rep K C (wo H' O) d v → P d → Q v H') → r vs H Q
def dBi (f : DB) (q : DA) : DE := fun ρ P R => q ρ (fun ds => f ds P) R
theorem lift_cb {r : List V → Hp → VK → Prop} {f : DB} (ab : AbC K C r f) {q : DA} : ∀ σ H Q, lift K C E (dBi f q) σ H Q → tCB r (liftA K C E q) σ H Q := fun σ H Q q => by
  obtain ⟨B, O0, O, ρ, P, R, k, q, hP, hR⟩ := q
  exact ⟨B, O0, O, ρ, _, R, k, q, fun vs ds H1 s1 r1 q1 => ab O H1 vs ds P Q (k.al.mono s1) r1 q1 fun v d H2 s2 r2 p => hP v d H2 (s1.trans s2) r2 p, hR⟩
theorem pd_bi {x : Str} {id : String} {p : Pos} {a : Expr} {es : List Expr} {r : List V → Hp → VK → Prop} {f : DB} {q : DA} (hc : CallR X (.builtin id) r) (ab : AbC X.K C r f) (hg : Gl X x) (hm : X.mg x = none) (hv : bootBuiltins x = some (.builtin id)) (ha : PA X (a :: es) (liftA X.K C E q))
    (hn : x ≠ "__name__" := by decide) (hdb : (x == ("__debug__" : Str)) = false := by decide) (he : starEach (a :: es) X.env = (false, eval a X.env) :: starEach es X.env := by rfl) (hpl : (backTo pos (starEach es X.env)).any (·.1) = false := by rfl) :
    PE X (.Call (.Name x p) (a :: es) [] pos) (lift X.K C E (dBi f q)) := (pe_callB hc hg hm hv ha hn hdb he hpl).wk (lift_cb ab)
theorem pd_bt {x : Str} {T : String} {p : Pos} {a : Expr} {es : List Expr} {r : List V → Hp → VK → Prop} {f : DB} {q : DA} (hc : CallR X (.type T) r) (ab : AbC X.K C r f) (hg : Gl X x) (hm : X.mg x = none) (hv : bootBuiltins x = some (.type T)) (ha : PA X (a :: es) (liftA X.K C E q))
    (hn : x ≠ "__name__" := by decide) (hdb : (x == ("__debug__" : Str)) = false := by decide) (he : starEach (a :: es) X.env = (false, eval a X.env) :: starEach es X.env := by rfl) (hpl : (backTo pos (starEach es X.env)).any (·.1) = false := by rfl) :
    PE X (.Call (.Name x p) (a :: es) [] pos) (lift X.K C E (dBi f q)) := (pe_callTy hc hg hm hv ha hn hdb he hpl).wk (lift_cb ab)
/-- a built-in class as a value -/
theorem pd_cls {x : Str} {n : String} {pos : Pos} (hg : Gl X x) (hm : X.mg x = none) (hv : bootBuiltins x = some (.type n)) (hn : x ≠ "__name__" := by decide) (hd : (x == ("__debug__" : Str)) = false := by decide) : PE X (.Name x pos) (lift X.K C E (dC (.ty n))) :=
  (pe_bltn (v := .ty n) hg hm hv (show Value.type n = Value.type n from rfl) hn hd).wk (lift_c (d := .ty n) fun _ => rfl)
/-! len -/
def dLen : DB
  | [.lst ds], P => P (.int (ds.length : Nat))
  | [.tup ds], P => P (.int (ds.length : Nat))
  | [.str z], P => z.length ≤ sizeLine ∧ P (.int (z.length : Nat))
  | _, _ => False
theorem ab_len : AbC K C (fun xs H Q => ∃ x n, xs = [x] ∧ LenV K x H n ∧ Q (.int n) H) dLen := by
  intro O H vs ds P Q al r q k
  unfold dLen at q
  split at q
  · obtain ⟨v, _, rfl, ⟨a, ws, rfl, e1, e2⟩, rfl⟩ := r
    exact ⟨_, _, rfl, .inl ⟨ws, SqL.of (wo_some e1), rfl⟩, by rw [RepL.length e2]; exact kI k q⟩
  · obtain ⟨v, _, rfl, ⟨a, ws, rfl, e1, e2⟩, rfl⟩ := r
    exact ⟨_, _, rfl, .inr ⟨ws, SqT.of (wo_some e1), rfl⟩, by rw [RepL.length e2]; exact kI k q⟩
  · obtain ⟨v, _, rfl, rfl, rfl⟩ := r
    exact ⟨_, _, rfl, ⟨q.1, rfl⟩, kI k q.2⟩
  · exact q.elim
/-! isinstance with a built-in class -/
def tyD : D → Option String
  | .non => some "NoneType"
  | .bl _ => some "bool"
  | .int _ => some "int"
  | .str _ => some "str"
  | .lst _ => some "list"
  | .tup _ => some "tuple"
  | .dic _ _ => some "dict"
  | _ => none
def isB (t c : String) : Bool := t == c || (t == "bool" && c == "int")
def dIsi : DB
  | [d, .ty c], P => ∃ t, tyD d = some t ∧ c ∈ ["int", "bool", "tuple", "str", "list"] ∧ P (.bl (isB t c))
  | _, _ => False
theorem kitB_isB : ∀ t ∈ ["NoneType", "bool", "int", "str", "list", "tuple", "dict"], ∀ c ∈ ["int", "bool", "tuple", "str", "list"], kitB t c = some (isB t c) := by decide +kernel
theorem tyD_mem {d : D} {t : String} (h : tyD d = some t) : t ∈ ["NoneType", "bool", "int", "str", "list", "tuple", "dict"] := by
  cases d <;> simp only [tyD, Option.some.injEq] at h <;> first | (subst h; decide) | cases h
theorem ty_rep {H : Hp} {d : D} {t : String} {v : V} (h : tyD d = some t) (r : Rep K C H d v) : TyX K H v (.type t) := by
  cases d with
  | non => cases h; rw [show v = V.non from r]; exact .base .non
  | bl b => cases h; rw [show v = V.bl b from r]; exact .base (.bl b)
  | int b => cases h; rw [show v = V.int b from r]; exact .base (.int b)
  | str b => cases h; rw [show v = V.str b from r]; exact .base (.str b)
  | lst ds => cases h; obtain ⟨a, vs, rfl, e, _⟩ := r; exact .base (.lst e)
  | tup ds => cases h; obtain ⟨a, vs, rfl, e, _⟩ := r; exact .base (.tup e)
  | dic ks ds => cases h; obtain ⟨a, vs, rfl, e, _⟩ := r; exact .base (.dK e)
  | _ => cases h
theorem ab_isi : AbC K C (rIsi K) dIsi := by
  intro O H vs ds P Q al r q k
  unfold dIsi at q
  split at q
  · rename_i d c
    obtain ⟨v, _, rfl, r1, v2, _, rfl, r2, rfl⟩ := r
    obtain ⟨t, h1, h2, h3⟩ := q
    have e2 : v2 = V.ty c := r2
    subst e2
    have hk := kitB_isB t (tyD_mem h1) c h2
    exact ⟨v, .ty c, .type t, .type c, isB t c, rfl, by first | exact .ty _ | exact rfl | constructor, ty_rep h1 (Rep.mono (wo_le H O) d r1), kit_ty hk, kB k h3⟩
  · exact q.elim
/-! int, str, sum, min, max, abs, all, sorted, list -/
def dInt : DB
  | [.int i], P => P (.int i)
  | [.bl b], P => P (.int (if b then 1 else 0))
  | _, _ => False
theorem ab_int : AbC K C (fun xs H Q => (∃ i, xs = [.int i] ∧ Q (.int i) H) ∨ ∃ k, xs = [.bl k] ∧ Q (.int (if k then 1 else 0)) H) dInt := by
  intro O H vs ds P Q al r q k
  unfold dInt at q
  split at q
  · obtain ⟨v, _, rfl, rfl, rfl⟩ := r
    exact .inl ⟨_, rfl, kI k q⟩
  · obtain ⟨v, _, rfl, rfl, rfl⟩ := r
    exact .inr ⟨_, rfl, kI k q⟩
  · exact q.elim
def dStr : DB
  | [.int i], P => i.natAbs.log2 < 1920 ∧ P (.str (toString i))
  | _, _ => False
theorem ab_str : AbC K C (fun xs H Q => ∃ i, xs = [.int i] ∧ i.natAbs.log2 < 1920 ∧ Q (.str (toString i)) H) dStr := by
  intro O H vs ds P Q al r q k
  unfold dStr at q
  split at q
  · obtain ⟨v, _, rfl, rfl, rfl⟩ := r
    exact ⟨_, rfl, q.1, kS k q.2⟩
  · exact q.elim
def dSum : DB
  | [.lst ds], P => ∃ ns : List Int, ds = ns.map .int ∧ P (.int ns.sum)
  | _, _ => False
theorem ab_sum : AbC K C (rSum K) dSum := by
  intro O H vs ds P Q al r q k
  unfold dSum at q
  split at q
  · obtain ⟨v, _, rfl, ⟨a, ws, rfl, e1, e2⟩, rfl⟩ := r
    obtain ⟨ns, rfl, q⟩ := q
    have e := RepL.of_ints e2
    subst e
    exact ⟨a, ns, rfl, SqL.of (wo_some e1), kI k q⟩
  · exact q.elim
def dMin2 : DB
  | [.int i, .int j], P => P (.int (min i j))
  | _, _ => False
def dMax2 : DB
  | [.int i, .int j], P => P (.int (max i j))
  | _, _ => False
theorem ab_min2 : AbC K C (fun xs H Q => ∃ i j, xs = [.int i, .int j] ∧ Q (.int (if j < i then j else i)) H) dMin2 := by
  intro O H vs ds P Q al r q k
  unfold dMin2 at q
  split at q
  · rename_i i j
    obtain ⟨v, _, rfl, rfl, v2, _, rfl, rfl, rfl⟩ := r
    have e : (if j < i then j else i) = min i j := by split <;> omega
    exact ⟨i, j, rfl, by rw [e]; exact kI k q⟩
  · exact q.elim
theorem ab_max2 : AbC K C (fun xs H Q => ∃ i j, xs = [.int i, .int j] ∧ Q (.int (if j > i then j else i)) H) dMax2 := by
  intro O H vs ds P Q al r q k
  unfold dMax2 at q
  split at q
  · rename_i i j
    obtain ⟨v, _, rfl, rfl, v2, _, rfl, rfl, rfl⟩ := r
    have e : (if j > i then j else i) = max i j := by split <;> omega
    exact ⟨i, j, rfl, by rw [e]; exact kI k q⟩
  · exact q.elim
def dAbs : DB
  | [.int i], P => P (.int (if i < 0 then -i else i))
  | _, _ => False
theorem ab_abs : AbC K C (fun xs H Q => ∃ i, xs = [.int i] ∧ Q (.int (if i < 0 then -i else i)) H) dAbs := by
  intro O H vs ds P Q al r q k
  unfold dAbs at q
  split at q
  · obtain ⟨v, _, rfl, rfl, rfl⟩ := r
    exact ⟨_, rfl, kI k q⟩
  · exact q.elim
def dAll : DB
  | [.lst ds], P => ∃ bs : List Bool, ds = bs.map .bl ∧ P (.bl (bs.all id))
  | _, _ => False
theorem ab_all : AbC K C (rAll K) dAll := by
  intro O H vs ds P Q al r q k
  unfold dAll at q
  split at q
  · obtain ⟨v, _, rfl, ⟨a, ws, rfl, e1, e2⟩, rfl⟩ := r
    obtain ⟨bs, rfl, q⟩ := q
    have e := RepL.of_bools e2
    subst e
    exact ⟨a, bs, rfl, SqL.of (wo_some e1), kB k q⟩
  · exact q.elim
def dSorted : DB
  | [.lst ds], P => ∃ ns : List Int, ds = ns.map .int ∧ ∀ ns' : List Int, ns'.Perm ns → ns'.Pairwise (· ≤ ·) → P (.lst (ns'.map .int))
  | _, _ => False
theorem ab_sorted : AbC K C (rSortedI K) dSorted := by
  intro O H vs ds P Q al r q k
  unfold dSorted at q
  split at q
  · obtain ⟨v, _, rfl, ⟨a, ws, rfl, e1, e2⟩, rfl⟩ := r
    obtain ⟨ns, rfl, q⟩ := q
    have e := RepL.of_ints e2
    subst e
    exact ⟨a, ns, rfl, SqL.of (wo_some e1), fun ns' p h1 h2 hp => k _ _ _ (Same.new hp) (rep_new_lst hp al (RepL.ints _ ns')) (q ns' h1 h2)⟩
  · exact q.elim
def dList : DB
  | [.lst ds], P => P (.lst ds)
  | [.tup ds], P => P (.lst ds)
  | _, _ => False
theorem ab_list : AbC K C (fun xs H Q => ∃ p ys, xs = [.ref p] ∧ (SqL K H p ys ∨ SqT K H p ys) ∧ ∀ l, H l = none → Q (.ref l) (upd H l (.lst ys))) dList := by
  intro O H vs ds P Q al r q k
  unfold dList at q
  split at q
  · obtain ⟨v, _, rfl, ⟨a, ws, rfl, e1, e2⟩, rfl⟩ := r
    exact ⟨a, ws, rfl, .inl (SqL.of (wo_some e1)), fun p hp => k _ _ _ (Same.new hp) (rep_new_lst hp al e2) q⟩
  · obtain ⟨v, _, rfl, ⟨a, ws, rfl, e1, e2⟩, rfl⟩ := r
    exact ⟨a, ws, rfl, .inr (SqT.of (wo_some e1)), fun p hp => k _ _ _ (Same.new hp) (rep_new_lst hp al e2) q⟩
  · exact q.elim

/-! ### raise -/
theorem sd_raise {e : Expr} {c : Addr} {pos2 : Pos} (hc : X.calm = true) (tk : Takes X (fun cls d _ H => E cls d H)) (he : PMk X e (fun _ H Q => Q (.ref c) none H)) : PS X (.Raise (some e) none pos2) (liftS X.K C E (dRaise c)) := (ps_raise hc tk he).wk fun D σ H q => by
  obtain ⟨B, O0, O, ρ, N, R, Z, k, q, hN, hR, hZ⟩ := q
  exact hZ c H k.base q
end

/-! ### a def's promise -/
/-- the context of a def's body -/
abbrev cxD (P : Program) (w : World) (K : PySem.W.Frag) (mg : Str → Option Value) (base : Heap) (N : List Str) (qual : Str) (scope : Scope) (f : Addr) (cd : Value) (A : Around) (outer : List PySem.Env) (s : Shared) (H : Hp) (E : XK) : Cx :=
  cxOf (L2.CX P w) P w K mg base N qual scope f cd A outer s H E
theorem px {P : Program} {w : World} {K : PySem.W.Frag} {mg : Str → Option Value} {base : Heap} {N : List Str} {qual : Str} {scope : Scope} {f : Addr} {cd : Value} {A : Around} {outer : List PySem.Env} {s : Shared} {H : Hp} {E : XK} :
    Passes (L2.CX P w) (cxD P w K mg base N qual scope f cd A outer s H E) E := passes_call (takes_of rfl rfl rfl rfl) fun _ _ _ _ h => h
theorem tkD {P : Program} {w : World} {K : PySem.W.Frag} {mg : Str → Option Value} {base : Heap} {N : List Str} {qual : Str} {scope : Scope} {f : Addr} {cd : Value} {A : Around} {outer : List PySem.Env} {s : Shared} {H : Hp} {E : XK} :
    Takes (cxD P w K mg base N qual scope f cd A outer s H E) (fun cls d _ H => E cls d H) := takes_of rfl rfl rfl rfl
theorem ownD {P : Program} {w : World} {K : PySem.W.Frag} {mg : Str → Option Value} {base : Heap} {N : List Str} {qual : Str} {scope : Scope} {f : Addr} {cd : Value} {A : Around} {outer : List PySem.Env} {s : Shared} {H : Hp} {E : XK} :
    PassesOwn (model P w) (cxD P w K mg base N qual scope f cd A outer s H E).A (cxD P w K mg base N qual scope f cd A outer s H E).env (cxD P w K mg base N qual scope f cd A outer s H E).xe := passes_of rfl
def startE (N : List Str) (ds : List D) : Env := ds.map (fun d => some (.v d)) ++ List.replicate (N.length - ds.length) none
theorem start_ok {K : PySem.W.Frag} {C : Addr} {H : Hp} {O : List Addr} {ds : List D} {vs : List V} (al : Al O H) (r : RepL K C (wo H O) ds vs) (N : List Str) : Ok K C H O O H (start N vs) (startE N ds) := by
  have hl := RepL.length r
  have noown : ∀ (i : Nat) (es : List D), (startE N ds)[i]? ≠ some (some (.own es)) := fun i es e => by
    unfold startE at e
    rw [List.getElem?_append] at e
    split at e
    · rw [List.getElem?_map] at e
      cases h : ds[i]? with
      | none => rw [h] at e; cases e
      | some d => rw [h] at e; simp at e
    · rw [List.getElem?_replicate] at e
      split at e
      · simp at e
      · cases e
  have nokst : ∀ (i : Nat) (p : Addr) (b : Bool) (ts : List Int), (startE N ds)[i]? ≠ some (some (.kst p b ts)) := fun i p b ts e => by
    unfold startE at e
    rw [List.getElem?_append] at e
    split at e
    · rw [List.getElem?_map] at e
      cases h : ds[i]? with
      | none => rw [h] at e; cases e
      | some d => rw [h] at e; simp at e
    · rw [List.getElem?_replicate] at e
      split at e
      · simp at e
      · cases e
  have nols : ∀ (i : Nat) (p : Addr) (es : List D), (startE N ds)[i]? ≠ some (some (.ls p es)) := fun i p es e => by
    unfold startE at e
    rw [List.getElem?_append] at e
    split at e
    · rw [List.getElem?_map] at e
      cases h : ds[i]? with
      | none => rw [h] at e; cases e
      | some d => rw [h] at e; simp at e
    · rw [List.getElem?_replicate] at e
      split at e
      · simp at e
      · cases e
  have notb : ∀ (i : Nat) (p : Addr) (q : Str), (startE N ds)[i]? ≠ some (some (.tb p q)) := fun i p q e => by
    unfold startE at e
    rw [List.getElem?_append] at e
    split at e
    · rw [List.getElem?_map] at e
      cases h : ds[i]? with
      | none => rw [h] at e; cases e
      | some d => rw [h] at e; simp at e
    · rw [List.getElem?_replicate] at e
      split at e
      · simp at e
      · cases e
  refine ⟨Same.refl H, al, al, fun _ h => h, fun a h n => absurd h n, ?_, fun i d e => ?_, fun i es e => absurd e (noown i es), fun i j es _ e => absurd e (noown i es), ⟨fun i p b ts e => absurd e (nokst i p b ts), fun i _ p b _ ts _ e => absurd e (nokst i p b ts)⟩, ⟨fun i p es e => absurd e (nols i p es), fun i _ p es _ e => absurd e (nols i p es), fun i _ p es _ e => absurd e (nols i p es)⟩, ⟨fun i p q e => absurd e (notb i p q), fun i _ p q _ e => absurd e (notb i p q)⟩⟩
  · unfold start startE
    rw [List.length_append, List.length_append, List.length_map, List.length_map, List.length_replicate, List.length_replicate, hl]
  · unfold startE at e
    unfold start
    rw [List.getElem?_append] at e
    split at e
    · rename_i hi
      rw [List.length_map] at hi
      rw [List.getElem?_map] at e
      cases h : ds[i]? with
      | none => rw [h] at e; cases e
      | some d' =>
        rw [h] at e
        have e' : d' = d := by simpa using e
        subst e'
        obtain ⟨v, h1, h2⟩ := RepL.get r h
        refine ⟨v, ?_, h2⟩
        rw [List.getElem?_append_left (by rw [List.length_map, hl]; exact hi), List.getElem?_map, h1]
        rfl
    · rw [List.getElem?_replicate] at e
      split at e
      · simp at e
      · cases e
/-- a def that keeps the promise t -/
structure Fc (P : Program) (w : World) (K : PySem.W.Frag) (mg : Str → Option Value) (base : Heap) (C : Addr) (k : Nat) (name : Str) (t : DP) : Prop where
  ex : ∃ (f : Addr) (fd : FuncData) (ps : List Str), FnOk P w K mg base (L2.CX P w) k f fd ps (spD K C t) ∧ mg name = some (.ref f) ∧ PySem.W.keepIn K (.ref f) = true ∧ Binds K fd ps []
section
variable {P : Program} {w : World} {K : PySem.W.Frag} {mg : Str → Option Value} {base : Heap} {C : Addr}
theorem fnD {x qual : Str} {st : Stmt} {f : Addr} {fd : FuncData} {N ps : List Str} {k : Nat} {t : DP} {p : DS} (F : Fun K x qual st f fd) (S : FnScope N ps (defScope st))
    (body : ∀ (cdv : Value) (A : Around) (outer : List PySem.Env) (s : Shared) (H : Hp) (E : XK), Room k (A.deeper (envOfC qual (defScope st) s.heap.objs.size f cdv)) → PSs (cxD P w K mg base N qual (defScope st) f cdv A outer s H E) (defBody st) (liftS K C E p))
    (h : ∀ (ds : List D) (T : D → Prop) (R : Addr → Prop), t ds T R → ds.length = ps.length ∧ p (startE N ds) (fun _ => T .non) T R) : FnOk P w K mg base (L2.CX P w) (k + 1) f fd ps (spD K C t) := by
  refine F.okX S (fun vs H Q E q => ?_) (fun cdv A outer s H vs Q E hr q => ⟨_, body cdv A outer s H E hr, ?_⟩)
  · obtain ⟨O, ds, T, R, al, r, q, _⟩ := q
    rw [RepL.length r]
    exact (h ds T R q).1
  · obtain ⟨O, ds, T, R, al, r, q, hT, hR⟩ := q
    exact ⟨H, O, O, startE N ds, _, T, R, start_ok al r N, (h ds T R q).2, fun σ' H' ρ' O' k' n => hT .non .non H' k'.base rfl n, hT, hR⟩
/-- a call of such a def -/
theorem pd_fn {X : Cx} {E : XK} {pos p : Pos} {a : Expr} {k : Nat} {x : Str} {es : List Expr} {t : DP} {q : DA} (F : Fc X.prog X.w X.K X.mg X.base C k x t) (hr : Room k X.A) (hg : Gl X x) (hx : Passes (L2.CX X.prog X.w) X E) (ha : PA X (a :: es) (liftA X.K C E q))
    (hdb : (x == ("__debug__" : Str)) = false := by decide) (he : starEach (a :: es) X.env = (false, eval a X.env) :: starEach es X.env := by rfl) (hpl : (backTo pos (starEach es X.env)).any (·.1) = false := by rfl) :
    PE X (.Call (.Name x p) (a :: es) [] pos) (lift X.K C E (dCall t q)) := by
  obtain ⟨f, fd, ps, G, hm, hk, hb⟩ := F.ex
  exact pd_call G hr hg hm hk hb hx ha hdb he hpl
end
end L2.DL
/-! # Data-level readings: the names that the generator prints -/
namespace L2.DL
open PySem PySem.Spec PyProof.Rows

/-- the built-in names that stand as they are -/
structure Nb (mg : Str → Option Value) : Prop where
  len : mg "len" = none
  isinstance : mg "isinstance" = none
  int : mg "int" = none
  bool : mg "bool" = none
  tuple : mg "tuple" = none
  str : mg "str" = none
  list : mg "list" = none
  set : mg "set" = none
  dict : mg "dict" = none
  sorted : mg "sorted" = none
  sum : mg "sum" = none
  min : mg "min" = none
  max : mg "max" = none
  abs : mg "abs" = none
  all : mg "all" = none
  enumerate : mg "enumerate" = none
  zip : mg "zip" = none
  reversed : mg "reversed" = none
  range : mg "range" = none
theorem bt_len : bootBuiltins "len" = some (.builtin "len") := by decide +kernel
theorem bt_isinstance : bootBuiltins "isinstance" = some (.builtin "isinstance") := by decide +kernel
theorem bt_sorted : bootBuiltins "sorted" = some (.builtin "sorted") := by decide +kernel
theorem bt_sum : bootBuiltins "sum" = some (.builtin "sum") := by decide +kernel
theorem bt_min : bootBuiltins "min" = some (.builtin "min") := by decide +kernel
theorem bt_max : bootBuiltins "max" = some (.builtin "max") := by decide +kernel
theorem bt_abs : bootBuiltins "abs" = some (.builtin "abs") := by decide +kernel
theorem bt_all : bootBuiltins "all" = some (.builtin "all") := by decide +kernel
theorem bt_int : bootBuiltins "int" = some (.type "int") := by decide +kernel
theorem bt_bool : bootBuiltins "bool" = some (.type "bool") := by decide +kernel
theorem bt_tuple : bootBuiltins "tuple" = some (.type "tuple") := by decide +kernel
theorem bt_str : bootBuiltins "str" = some (.type "str") := by decide +kernel
theorem bt_list : bootBuiltins "list" = some (.type "list") := by decide +kernel

section
variable {X : Cx} {C : Addr} {E : XK} {pos : Pos} {a : Expr} {es : List Expr} {q : DA} {p : Pos}
theorem pd_len (nb : X.mg "len" = none) (ha : PA X (a :: es) (liftA X.K C E q)) (hg : Gl X "len" := by rfl) (he : starEach (a :: es) X.env = (false, eval a X.env) :: starEach es X.env := by rfl) (hpl : (backTo pos (starEach es X.env)).any (·.1) = false := by rfl) : PE X (.Call (.Name "len" p) (a :: es) [] pos) (lift X.K C E (dBi dLen q)) :=
  pd_bi call_len ab_len hg nb bt_len ha (by decide) (by decide) he hpl
theorem pd_isi (nb : X.mg "isinstance" = none) (ha : PA X (a :: es) (liftA X.K C E q)) (hg : Gl X "isinstance" := by rfl) (he : starEach (a :: es) X.env = (false, eval a X.env) :: starEach es X.env := by rfl) (hpl : (backTo pos (starEach es X.env)).any (·.1) = false := by rfl) : PE X (.Call (.Name "isinstance" p) (a :: es) [] pos) (lift X.K C E (dBi dIsi q)) :=
  pd_bi call_isi ab_isi hg nb bt_isinstance ha (by decide) (by decide) he hpl
theorem pd_int1 (nb : X.mg "int" = none) (ha : PA X (a :: es) (liftA X.K C E q)) (hg : Gl X "int" := by rfl) (he : starEach (a :: es) X.env = (false, eval a X.env) :: starEach es X.env := by rfl) (hpl : (backTo pos (starEach es X.env)).any (·.1) = false := by rfl) : PE X (.Call (.Name "int" p) (a :: es) [] pos) (lift X.K C E (dBi dInt q)) :=
  pd_bt call_int1 ab_int hg nb bt_int ha (by decide) (by decide) he hpl
theorem pd_str1 (nb : X.mg "str" = none) (ha : PA X (a :: es) (liftA X.K C E q)) (hg : Gl X "str" := by rfl) (he : starEach (a :: es) X.env = (false, eval a X.env) :: starEach es X.env := by rfl) (hpl : (backTo pos (starEach es X.env)).any (·.1) = false := by rfl) : PE X (.Call (.Name "str" p) (a :: es) [] pos) (lift X.K C E (dBi dStr q)) :=
  pd_bt call_str_int ab_str hg nb bt_str ha (by decide) (by decide) he hpl
theorem pd_sum (nb : X.mg "sum" = none) (ha : PA X (a :: es) (liftA X.K C E q)) (hc : X.calm = true := by rfl) (hg : Gl X "sum" := by rfl) (he : starEach (a :: es) X.env = (false, eval a X.env) :: starEach es X.env := by rfl) (hpl : (backTo pos (starEach es X.env)).any (·.1) = false := by rfl) : PE X (.Call (.Name "sum" p) (a :: es) [] pos) (lift X.K C E (dBi dSum q)) :=
  pd_bi (cr_sum hc) ab_sum hg nb bt_sum ha (by decide) (by decide) he hpl
theorem pd_min2 (nb : X.mg "min" = none) (ha : PA X (a :: es) (liftA X.K C E q)) (hc : X.calm = true := by rfl) (hg : Gl X "min" := by rfl) (he : starEach (a :: es) X.env = (false, eval a X.env) :: starEach es X.env := by rfl) (hpl : (backTo pos (starEach es X.env)).any (·.1) = false := by rfl) : PE X (.Call (.Name "min" p) (a :: es) [] pos) (lift X.K C E (dBi dMin2 q)) :=
  pd_bi (call_min2 hc) ab_min2 hg nb bt_min ha (by decide) (by decide) he hpl
theorem pd_max2 (nb : X.mg "max" = none) (ha : PA X (a :: es) (liftA X.K C E q)) (hc : X.calm = true := by rfl) (hg : Gl X "max" := by rfl) (he : starEach (a :: es) X.env = (false, eval a X.env) :: starEach es X.env := by rfl) (hpl : (backTo pos (starEach es X.env)).any (·.1) = false := by rfl) : PE X (.Call (.Name "max" p) (a :: es) [] pos) (lift X.K C E (dBi dMax2 q)) :=
  pd_bi (call_max2 hc) ab_max2 hg nb bt_max ha (by decide) (by decide) he hpl
theorem pd_abs (nb : X.mg "abs" = none) (ha : PA X (a :: es) (liftA X.K C E q)) (hg : Gl X "abs" := by rfl) (he : starEach (a :: es) X.env = (false, eval a X.env) :: starEach es X.env := by rfl) (hpl : (backTo pos (starEach es X.env)).any (·.1) = false := by rfl) : PE X (.Call (.Name "abs" p) (a :: es) [] pos) (lift X.K C E (dBi dAbs q)) :=
  pd_bi call_abs ab_abs hg nb bt_abs ha (by decide) (by decide) he hpl
theorem pd_all (nb : X.mg "all" = none) (ha : PA X (a :: es) (liftA X.K C E q)) (hc : X.calm = true := by rfl) (hg : Gl X "all" := by rfl) (he : starEach (a :: es) X.env = (false, eval a X.env) :: starEach es X.env := by rfl) (hpl : (backTo pos (starEach es X.env)).any (·.1) = false := by rfl) : PE X (.Call (.Name "all" p) (a :: es) [] pos) (lift X.K C E (dBi dAll q)) :=
  pd_bi (cr_all hc) ab_all hg nb bt_all ha (by decide) (by decide) he hpl
theorem pd_sorted (nb : X.mg "sorted" = none) (ha : PA X (a :: es) (liftA X.K C E q)) (hg : Gl X "sorted" := by rfl) (he : starEach (a :: es) X.env = (false, eval a X.env) :: starEach es X.env := by rfl) (hpl : (backTo pos (starEach es X.env)).any (·.1) = false := by rfl) : PE X (.Call (.Name "sorted" p) (a :: es) [] pos) (lift X.K C E (dBi dSorted q)) :=
  pd_bi cr_sortedI ab_sorted hg nb bt_sorted ha (by decide) (by decide) he hpl
theorem pd_list (nb : X.mg "list" = none) (ha : PA X (a :: es) (liftA X.K C E q)) (hg : Gl X "list" := by rfl) (he : starEach (a :: es) X.env = (false, eval a X.env) :: starEach es X.env := by rfl) (hpl : (backTo pos (starEach es X.env)).any (·.1) = false := by rfl) : PE X (.Call (.Name "list" p) (a :: es) [] pos) (lift X.K C E (dBi dList q)) :=
  pd_bt call_list_of ab_list hg nb bt_list ha (by decide) (by decide) he hpl
end
theorem hu65 {A : Around} {k : Nat} (hr : Room k A) : A.units + 65 < cLine := by have := hr.un; omega

/-! ### own exceptions -/
structure Exn (K : PySem.W.Frag) (mg : Str → Option Value) (x : Str) (c : Addr) : Prop where
  q : PySem.W.excIn K c [.type "ValueError", .type "Exception", .type "BaseException", .type "object"] "ValueError.__new__" = true
  g : mg x = some (.ref c)
  k : PySem.W.keepIn K (.ref c) = true
  b : PySem.W.subIn K (.ref c) (.type "BaseException") = some true
  t : PySem.W.typeIn K (.ref c) = some (.type "type")
theorem pmk_exc {X : Cx} {x m : Str} {j : Nat} {p p2 pos : Pos} {c : Addr} (e : Exn X.K X.mg x c) (hg : Gl X x) (hdb : (x == ("__debug__" : Str)) = false := by decide) : PMk X (.Call (.Name x p) [.Constant (.str m) j p2] [] pos) (fun _ H Q => Q (.ref c) none H) :=
  pmk_own PySem.F.excBase_ValueError e.q e.g e.k (raises_own e.b e.t) hg hdb

/-! ### the class Keeper -/
structure Kp (K : PySem.W.Frag) (mg : Str → Option Value) (C : Addr) : Prop where
  cl : Cls K C
  nB : NoAttr K C "begins"
  nT : NoAttr K C "turns"
  g : mg "Keeper" = some (.ref C)
theorem ne_bt : ¬ (("turns" : Str) = "begins") := by decide +kernel
theorem ne_bt' : ¬ (("begins" : Str) = "turns") := by decide +kernel
theorem kf_begins (b : Bool) (l : Addr) : (kf b l).lookup ("begins" : Str) = some (.bl b) := by
  unfold kf
  rw [List.lookup_cons, show (("begins" : Str) == "begins") = true from beq_self_eq_true _]
theorem kf_turns (b : Bool) (l : Addr) : (kf b l).lookup ("turns" : Str) = some (.ref l) := by
  unfold kf
  rw [List.lookup_cons, show (("turns" : Str) == "begins") = false from beq_eq_false_iff_ne.mpr ne_bt]
  show List.lookup ("turns" : Str) [(("turns" : Str), V.ref l)] = _
  rw [List.lookup_cons, show (("turns" : Str) == "turns") = true from beq_self_eq_true _]
theorem kf_no (b : Bool) (l : Addr) {m : Str} (h1 : ¬ m = "begins") (h2 : ¬ m = "turns") : (kf b l).lookup m = none := by
  unfold kf
  rw [List.lookup_cons, show (m == "begins") = false from beq_eq_false_iff_ne.mpr h1]
  show List.lookup m [(("turns" : Str), V.ref l)] = _
  rw [List.lookup_cons, show (m == "turns") = false from beq_eq_false_iff_ne.mpr h2]
  rfl
section
variable {X : Cx} {C : Addr} {E : XK} {pos : Pos} {a : Expr}
def dBegins (p : DE) : DE := fun ρ P R => p ρ (fun d => match d with | .kp b _ => P (.bl b) | _ => False) R
def dTurns (p : DE) : DE := fun ρ P R => p ρ (fun d => match d with | .kp _ ts => P (.lst (ts.map .int)) | _ => False) R
theorem pd_attr_begins {p : DE} (T : Kp X.K X.mg C) (he : PE X a (lift X.K C E p)) (hb : attributeBase a "begins" X.env (eval a X.env) = eval a X.env := by rfl) : PE X (.Attribute a "begins" pos) (lift X.K C E (dBegins p)) := (pe_fld he hb).wk fun σ H Q q => by
  obtain ⟨B, O0, O, ρ, P, R, k, q, hP, hR⟩ := q
  refine ⟨B, O0, O, ρ, _, R, k, q, fun x d H1 s1 r1 q1 => ?_, hR⟩
  cases d with
  | kp b ts =>
    obtain ⟨y, dx, l, rfl, e1, e2⟩ := r1
    exact ⟨y, C, dx, _, _, rfl, wo_some e1, T.cl, T.nB, kf_begins b l, hP (.bl b) (.bl b) H1 s1 rfl q1⟩
  | _ => exact q1.elim
theorem pd_attr_turns {p : DE} (T : Kp X.K X.mg C) (he : PE X a (lift X.K C E p)) (hb : attributeBase a "turns" X.env (eval a X.env) = eval a X.env := by rfl) : PE X (.Attribute a "turns" pos) (lift X.K C E (dTurns p)) := (pe_fld he hb).wk fun σ H Q q => by
  obtain ⟨B, O0, O, ρ, P, R, k, q, hP, hR⟩ := q
  refine ⟨B, O0, O, ρ, _, R, k, q, fun x d H1 s1 r1 q1 => ?_, hR⟩
  cases d with
  | kp b ts =>
    obtain ⟨y, dx, l, rfl, e1, e2⟩ := r1
    exact ⟨y, C, dx, _, _, rfl, wo_some e1, T.cl, T.nT, kf_turns b l, hP (.ref l) (.lst (ts.map .int)) H1 s1 ⟨l, _, rfl, e2, RepL.ints _ ts⟩ q1⟩
  | _ => exact q1.elim
/-- a method of Keeper that keeps the promise t -/
structure Mc (P : Program) (w : World) (K : PySem.W.Frag) (mg : Str → Option Value) (base : Heap) (C : Addr) (k : Nat) (m : Str) (t : DP) : Prop where
  ex : ∃ (f : Addr) (fd : FuncData) (ps : List Str), FnOk P w K mg base (L2.CX P w) k f fd ps (spD K C t) ∧ Meth K C m f ∧ Binds K fd ps []
def D.isKp : D → Prop
  | .kp _ _ => True
  | _ => False
def dMeth (t : DP) (p : DE) (q : DA) : DE := fun ρ P R => p ρ (fun d => d.isKp ∧ q ρ (fun ds => t (d :: ds) P R) R) R
def dMeth0 (t : DP) (p : DE) : DE := fun ρ P R => p ρ (fun d => d.isKp ∧ t [d] P R) R
theorem pd_mt {apos : Pos} {m : Str} {k : Nat} {o e : Expr} {es : List Expr} {t : DP} {p : DE} {q : DA} (T : Kp X.K X.mg C) (M : Mc X.prog X.w X.K X.mg X.base C k m t) (hr : Room k X.A) (hx : Passes (L2.CX X.prog X.w) X E) (ho : PE X o (lift X.K C E p)) (ha : PA X (e :: es) (liftA X.K C E q))
    (hm1 : ¬ m = "begins" := by decide) (hm2 : ¬ m = "turns" := by decide)
    (hst : starEach (e :: es) X.env = (false, eval e X.env) :: starEach es X.env := by rfl) (hpl : (backTo pos (starEach es X.env)).any (·.1) = false := by rfl) {pl : Sem Bool}
    (ht : eval (.Call (.Attribute o m apos) (e :: es) [] pos) X.env = (do
      let ov ← eval o X.env
      standAt apos.atName
      let (f, first) ← holding [ov] (getMethod ov m pl)
      callWith pos f first (backTo pos (starEach (e :: es) X.env)) (backToKw pos (keywordEach [] X.env))) := by rfl) :
    PE X (.Call (.Attribute o m apos) (e :: es) [] pos) (lift X.K C E (dMeth t p q)) := by
  obtain ⟨f, fd, ps, G, hm, hb⟩ := M.ex
  refine (pe_meth ho T.cl hm G hr hb .nil hx ha hst hpl ht).wk fun σ H Q q => ?_
  obtain ⟨B, O0, O, ρ, P, R, k, q, hP, hR⟩ := q
  refine ⟨B, O0, O, ρ, _, R, k, q, fun x d H1 s1 r1 q1 => ?_, hR⟩
  cases d with
  | kp b ts =>
    obtain ⟨y, dx, l, rfl, e1, e2⟩ := r1
    refine ⟨y, dx, _, rfl, wo_some e1, kf_no b l hm1 hm2, B, O0, O, ρ, _, R, k.ext s1, q1.2, fun vs ds H2 s2 r2 q2 => ?_, fun c H' s' z => hR c H' (s1.trans s') z⟩
    show spD X.K C t (V.ref y :: (vs ++ [])) H2 Q E
    rw [List.append_nil]
    exact ⟨O, .kp b ts :: ds, P, R, (k.al.mono s1).mono s2, ⟨.ref y, vs, rfl, Rep.mono (wo_same O s2) (.kp b ts) ⟨y, dx, l, rfl, e1, e2⟩, r2⟩, q2, fun v d H3 s3 r3 p3 => hP v d H3 ((s1.trans s2).trans s3) r3 p3, fun c H' s' z => hR c H' ((s1.trans s2).trans s') z⟩
  | _ => exact q1.1.elim
theorem pd_mt0 {apos : Pos} {m : Str} {k : Nat} {o : Expr} {t : DP} {p : DE} (T : Kp X.K X.mg C) (M : Mc X.prog X.w X.K X.mg X.base C k m t) (hr : Room k X.A) (hx : Passes (L2.CX X.prog X.w) X E) (ho : PE X o (lift X.K C E p))
    (hm1 : ¬ m = "begins" := by decide) (hm2 : ¬ m = "turns" := by decide) {pl : Sem Bool}
    (ht : eval (.Call (.Attribute o m apos) [] [] pos) X.env = (do
      let ov ← eval o X.env
      standAt apos.atName
      let (f, first) ← holding [ov] (getMethod ov m pl)
      callWith pos f first (backTo pos (starEach [] X.env)) (backToKw pos (keywordEach [] X.env))) := by rfl) :
    PE X (.Call (.Attribute o m apos) [] [] pos) (lift X.K C E (dMeth0 t p)) := by
  obtain ⟨f, fd, ps, G, hm, hb⟩ := M.ex
  refine (pe_meth0 ho T.cl hm G hr hb .nil hx ht).wk fun σ H Q q => ?_
  obtain ⟨B, O0, O, ρ, P, R, k, q, hP, hR⟩ := q
  refine ⟨B, O0, O, ρ, _, R, k, q, fun x d H1 s1 r1 q1 => ?_, hR⟩
  cases d with
  | kp b ts =>
    obtain ⟨y, dx, l, rfl, e1, e2⟩ := r1
    refine ⟨y, dx, _, rfl, wo_some e1, kf_no b l hm1 hm2, ?_⟩
    exact ⟨O, [.kp b ts], P, R, k.al.mono s1, ⟨.ref y, [], rfl, ⟨y, dx, l, rfl, e1, e2⟩, rfl⟩, q1.2, fun v d H3 s3 r3 p3 => hP v d H3 (s1.trans s3) r3 p3, fun c H' s' z => hR c H' (s1.trans s') z⟩
  | _ => exact q1.1.elim

/-! ### dicts written with texts as keys -/
def keyD : D → Option Key
  | .int i => some (.inl i)
  | .str s => some (.inr s)
  | _ => none
abbrev DPs := List (DE × DE)
def dPairs : DPs → Env → (List (D × D) → Prop) → (Addr → Prop) → Prop
  | [], _, P, _ => P []
  | (k, v) :: r, ρ, P, R => k ρ (fun x => v ρ (fun y => dPairs r ρ (fun ps => P ((x, y) :: ps)) R) R) R
theorem ppd_nil : PPs X pos [] [] (([] : DPs).map fun t => (lift X.K C E t.1, lift X.K C E t.2)) := pps_nil
theorem ppd_cons {k v : Expr} {ks : List (Option Expr)} {vs : List Expr} {tk tv : DE} {trs : DPs} (hk : PE X k (lift X.K C E tk)) (hv : PE X v (lift X.K C E tv)) (hr : PPs X pos ks vs (trs.map fun t => (lift X.K C E t.1, lift X.K C E t.2))) :
    PPs X pos (some k :: ks) (v :: vs) (((tk, tv) :: trs).map fun t => (lift X.K C E t.1, lift X.K C E t.2)) := pps_cons hk hv hr
theorem lift_pairs {K : PySem.W.Frag} {B : Hp} {O0 O : List Addr} {σ : St} {ρ : Env} {R : Addr → Prop} : ∀ (trs : DPs) (H : Hp) (P : List (D × D) → Prop) (Q : List (V × V) → Hp → Prop), Ok K C B O0 O H σ ρ → dPairs trs ρ P R →
    (∀ vs ds H', Same H H' → RepL K C (wo H' O) (ds.map (·.1)) (vs.map (·.1)) → RepL K C (wo H' O) (ds.map (·.2)) (vs.map (·.2)) → P ds → Q vs H') → (∀ c H', Same H H' → R c → E (.ref c) none H') →
    tPairs (trs.map fun t => (lift K C E t.1, lift K C E t.2)) σ H Q
  | [], H, P, Q, k, q, h, _ => h [] [] H (Same.refl H) rfl rfl q
  | (tk, tv) :: trs, H, P, Q, k, q, h, hR => by
    refine ⟨B, O0, O, ρ, _, R, k, q, fun x dx H1 s1 r1 q1 => ⟨B, O0, O, ρ, _, R, k.ext s1, q1, fun y dy H2 s2 r2 q2 => ?_, fun c H' s' z => hR c H' (s1.trans s') z⟩, hR⟩
    refine lift_pairs trs H2 _ _ ((k.ext s1).ext s2) q2 (fun vs ds H3 s3 a b p3 => ?_) (fun c H' s' z => hR c H' ((s1.trans s2).trans s') z)
    exact h ((x, y) :: vs) ((dx, dy) :: ds) H3 ((s1.trans s2).trans s3) ⟨x, _, rfl, Rep.mono (wo_same O (s2.trans s3)) dx r1, a⟩ ⟨y, _, rfl, Rep.mono (wo_same O s3) dy r2, b⟩ p3
def dDisp (trs : DPs) : DE := fun ρ P R => dPairs trs ρ (fun ps => ∃ ks : List Key, ps.map (fun t => keyD t.1) = ks.map some ∧ ks.Nodup ∧ ks.length ≤ 15 ∧ P (.dic ks (ps.map (·.2)))) R
theorem putK_new {kvs : List (Key × V)} {k : Key} {v : V} (h : k ∉ kvs.map (·.1)) : putK kvs k v = kvs ++ [(k, v)] := by
  unfold putK
  rw [if_neg]
  intro z
  obtain ⟨p, hp, e⟩ := List.any_eq_true.mp z
  exact h (List.mem_map.mpr ⟨p, hp, of_decide_eq_true e⟩)
theorem merge_nodup : ∀ (more kvs : List (Key × V)), ((kvs ++ more).map (·.1)).Nodup → mergeK kvs more = kvs ++ more
  | [], kvs, _ => by
    show kvs = kvs ++ []
    rw [List.append_nil]
  | p :: r, kvs, h => by
    show mergeK (putK kvs p.1 p.2) r = _
    have hn : p.1 ∉ kvs.map (·.1) := by
      rw [List.map_append, List.map_cons] at h
      have := List.nodup_append.mp h
      exact fun z => this.2.2 _ z _ List.mem_cons_self rfl
    rw [putK_new hn, merge_nodup r (kvs ++ [(p.1, p.2)]) (by rw [List.append_assoc]; exact h), List.append_assoc]
    rfl
theorem keyD_rep {K : PySem.W.Frag} {H : Hp} {d : D} {v : V} {k : Key} (h : keyD d = some k) (r : Rep K C H d v) : v = kV k := by
  cases d with
  | int i => cases h; exact r
  | str s => cases h; exact r
  | _ => cases h
theorem keys_rep {K : PySem.W.Frag} {H : Hp} : ∀ {ps : List (D × D)} {vs : List (V × V)} {ks : List Key}, ps.map (fun t => keyD t.1) = ks.map some → RepL K C H (ps.map (·.1)) (vs.map (·.1)) → vs = (ks.zip (vs.map (·.2))).map (fun kv => (kV kv.1, kv.2))
  | [], vs, ks, h, r => by
    have e : vs.map (·.1) = [] := r
    have e' : vs = [] := List.map_eq_nil_iff.mp e
    subst e'
    cases ks with
    | nil => rfl
    | cons _ _ => cases h
  | p :: ps, [], ks, h, r => by
    obtain ⟨_, _, e, _⟩ := r
    cases e
  | p :: ps, v :: vs, [], h, r => by cases h
  | p :: ps, v :: vs, k :: ks, h, r => by
    obtain ⟨x, w', e, r1, r2⟩ := r
    rw [List.map_cons, List.map_cons] at h
    injection h with h1 h2
    rw [List.map_cons] at e
    injection e with e1 e2
    subst e2
    have ih := keys_rep h2 r2
    have ex : v.1 = kV k := by
      rw [e1]
      exact keyD_rep h1 r1
    show v :: vs = (kV k, v.2) :: (ks.zip (vs.map (·.2))).map (fun kv => (kV kv.1, kv.2))
    rw [← ih, ← ex]
theorem pd_disp {keys : List (Option Expr)} {values : List Expr} {trs : DPs} (h : PPs X pos keys values (trs.map fun t => (lift X.K C E t.1, lift X.K C E t.2))) (hall : keys.all (·.isSome) = true := by rfl) (hl : keys.length = values.length := by rfl) (h0 : keys ≠ [] := by intro z; cases z)
    (h15 : keys.length ≤ 15 := by decide) : PE X (.Dict keys values pos) (lift X.K C E (dDisp trs)) := (pe_disp h hall hl h0 h15).wk fun σ H Q q => by
  obtain ⟨B, O0, O, ρ, P, R, k, q, hP, hR⟩ := q
  intro p hp
  have sp : Same H (upd H p (.dK [])) := Same.new hp
  refine lift_pairs trs (upd H p (.dK [])) _ _ (k.apart hp) q (fun vs ds H2 s2 r1 r2 q2 => ?_) (fun c H' s' z => hR c H' (sp.trans s') z)
  obtain ⟨ks, e1, e2, e3, q3⟩ := q2
  have hp2 : H2 p = some (.dK []) := s2 _ _ upd_same
  have lk : ks.length = ds.length := by
    have := congrArg List.length e1
    simpa using this.symm
  have lv : vs.length = ds.length := by
    have := RepL.length r1
    simpa using this
  refine ⟨hp2, ks.zip (vs.map (·.2)), keys_rep e1 r1, by rw [List.length_zip]; omega, ?_⟩
  have hm : mergeK [] (ks.zip (vs.map (·.2))) = ks.zip (vs.map (·.2)) := by
    rw [merge_nodup _ [] (by rw [List.nil_append, List.map_fst_zip (by rw [List.length_map]; omega)]; exact e2), List.nil_append]
  rw [hm]
  have sall : Same H (upd H2 p (.dK (ks.zip (vs.map (·.2))))) := fun b o e => by
    rw [upd_ne (ne_of_none e hp)]
    exact s2 _ _ (sp _ _ e)
  refine hP (.ref p) (.dic ks (ds.map (·.2))) _ sall ⟨p, vs.map (·.2), rfl, wo_of upd_same (k.al.new hp), ?_, by rw [List.length_map]; exact lk⟩ q3
  refine RepL.mono (fun b o e => ?_) _ r2
  have hb : H2 b = some o := wo_some e
  have nb : b ≠ p := fun z => by
    unfold wo at e
    rw [if_pos (by simp [z])] at e
    cases e
  have nO : b ∉ O := fun z => by
    unfold wo at e
    rw [if_pos (by simp [z])] at e
    cases e
  exact wo_of (by rw [upd_ne nb]; exact hb) nO
def valD : List Key → List D → Key → Option D
  | k :: ks, d :: ds, j => if k = j then some d else valD ks ds j
  | _, _, _ => none
theorem valD_rep {K : PySem.W.Frag} {H : Hp} : ∀ {ks : List Key} {ds : List D} {vs : List V} {j : Key} {d : D}, RepL K C H ds vs → valD ks ds j = some d → ∃ v, valV (ks.zip vs) j = some v ∧ Rep K C H d v
  | [], _, _, _, _, _, h => by simp [valD] at h
  | k :: ks, [], _, _, _, _, h => by simp [valD] at h
  | k :: ks, e :: ds, vs, j, d, r, h => by
    obtain ⟨v, w', rfl, r1, r2⟩ := r
    unfold valD at h
    show ∃ v', valV ((k, v) :: ks.zip w') j = some v' ∧ _
    split at h
    · rename_i hk
      have e' : e = d := Option.some.inj h
      subst e'
      exact ⟨v, valV_pos hk, r1⟩
    · rename_i hk
      rw [valV_neg hk]
      exact valD_rep r2 h
def dGetD (p q : DE) : DE := fun ρ P R => p ρ (fun x => q ρ (fun y => match x with
  | .dic ks ds => ∃ k d, keyD y = some k ∧ valD ks ds k = some d ∧ P d
  | _ => False) R) R
theorem pd_dget {o i : Expr} {p q : DE} (hu : X.A.units + 1 < cLine) (ho : PE X o (lift X.K C E p)) (hi : PE X i (lift X.K C E q)) (hs : NoSl i := by exact fun _ _ => rfl) : PE X (.Subscript o i pos) (lift X.K C E (dGetD p q)) := (pe_dget hu ho hi hs).wk fun σ H Q q => by
  obtain ⟨B, O0, O, ρ, P, R, k, q, hP, hR⟩ := q
  refine ⟨B, O0, O, ρ, _, R, k, q, fun x dx H1 s1 r1 q1 => ⟨B, O0, O, ρ, _, R, k.ext s1, q1, fun y dy H2 s2 r2 q2 => ?_, fun c H' s' z => hR c H' (s1.trans s') z⟩, hR⟩
  cases dx with
  | dic ks ds =>
    obtain ⟨k', d, e1, e2, q3⟩ := q2
    obtain ⟨a, vs, rfl, h1, h2, _⟩ := Rep.mono (wo_same O s2) _ r1
    obtain ⟨v, h3, h4⟩ := valD_rep h2 e2
    refine ⟨a, v, rfl, ?_, hP v d H2 (s1.trans s2) h4 q3⟩
    rw [keyD_rep e1 r2, ← h3]
    exact DGet.k (wo_some h1)
  | _ => exact q2.elim
end
end L2.DL
/-! # sorted(set(xs)) of a list of whole numbers (turned from the layer's own set of a tuple: any list, the bound on its different items alone) -/
namespace L2.DL
open PySem PySem.Spec PyProof.Rows
section
variable {P : Program} {w : World} {A : Around} {E : Value → Shared → Prop} {s : Shared}
theorem nodup_few : ∀ {l U : List Int}, l.Nodup → (∀ k ∈ l, k ∈ U) → l.length ≤ U.length
  | [], _, _, _ => Nat.zero_le _
  | a :: l, U, h, hs => by
    have h' := List.nodup_cons.mp h
    have ha := hs a List.mem_cons_self
    have ih := nodup_few (l := l) (U := U.erase a) h'.2 fun k hk => (List.mem_erase_of_ne fun e => h'.1 (by rw [← e]; exact hk)).mpr (hs k (List.mem_cons_of_mem _ hk))
    have e := List.length_erase_of_mem ha
    have := List.length_pos_of_mem ha
    rw [List.length_cons]
    omega
/-- the set's members are among U, each once: it has no more than U -/
theorem setR_few {h : Heap} {a : Addr} {S : Int → Bool} {n : Nat} (R : SetR w h a S n) {U : List Int} (hU : ∀ k, S k = true → k ∈ U) : n ≤ U.length := by
  obtain ⟨o, es, ep, t, _, _, _, _, nd, hm, _, _, hn, _, _⟩ := R
  have := nodup_few nd (U := U) (fun k hk => hU k ((hm k).mpr hk))
  rw [List.length_map, Array.length_toList] at this
  omega
theorem set_upd_list {I : Addr} {fp wr : List Addr} {G : Array GenState → Array GenState → Prop} {n : Nat} {Pv : Nat → Value → Prop} {St : Nat → Shared → Prop} {R : Result → Shared → Prop}
    (W : WalksS P w A.in1 I fp wr G n Pv St) (S : Addr) (hSf : S ∉ fp) (ns U : List Int) (hn : n = ns.length) (hU : ∀ k ∈ ns, k ∈ U) (hb : U.length + 1 < scanBound) (hval : ∀ i v, Pv i v → ∃ k t, ns[i]? = some k ∧ v = .int k t) :
    ∀ (k i : Nat) (s : Shared), n - i = k → i ≤ n → St i s → (∃ c, SetR w s.heap S (fun j => decide (j ∈ ns.take i)) c) →
      (∀ s' c, Moved (S :: wr) G s s' → SetR w s'.heap S (fun j => decide (j ∈ ns)) c → R (.ok (.ret .none)) s') →
      codeAny (model P w) A (.builtin "set.update.loop" ⟨[.ref S, .ref I], []⟩) R s := by
  have hSw : S ∉ wr := fun h => hSf (W.sub _ h)
  have hsub : ∀ b ∈ wr, b ∈ S :: wr := fun b hb => List.mem_cons_of_mem _ hb
  intro k
  induction k with
  | zero =>
    rintro i s hk' hi hst ⟨c, hS⟩ hR
    have hin : i = n := by omega
    subst hin
    refine codeAny_builtin F.entry_set_update_loop ?_
    rw [Around.under_plainId F.plain_set_update_loop _]
    show wpAny _ A.in1 (pyNext (.ref I) >>= _) _ _ s
    refine wpAny_bind (W.done s _ _ hst fun s' hm => ?_)
    rw [List.take_of_length_le (by omega)] at hS
    exact wpAny_pure (hR s' c (hm.mono hsub) (hS.at fun o e => hm.heap S o hSw e))
  | succ k ih =>
    rintro i s hk' hi hst ⟨c, hS⟩ hR
    have hlt : i < n := by omega
    refine codeAny_builtin F.entry_set_update_loop ?_
    rw [Around.under_plainId F.plain_set_update_loop _]
    show wpAny _ A.in1 (pyNext (.ref I) >>= _) _ _ s
    refine wpAny_bind (W.item i s _ _ hlt hst fun v s' hP hst' hm => ?_)
    obtain ⟨z, t, hz, rfl⟩ := hval i v hP
    have hS' : SetR w s'.heap S (fun j => decide (j ∈ ns.take i)) c := hS.at fun o e => hm.heap S o hSw e
    have hfew := setR_few hS' (U := U) fun k hk => hU k (List.mem_of_mem_take (of_decide_eq_true hk))
    show wpAny _ A.in1 (holding [Value.int z t] (setAdd S (.int z t)) >>= _) _ _ s'
    refine wpAny_bind (wpAny_holding ?_)
    unfold setAdd
    refine wpAny_holding (wpAny_bind ((intKind P w).pyHash (k := z) (intKind_is _ _ _ _) ?_))
    refine setR_add_hashed (s := { s' with toks := s'.toks + 1 }) hS' (by omega) fun h' hsb hS2 => ?_
    have hS3 := hS2.congr (S' := fun j => decide (j ∈ ns.take (i + 1))) fun j => by
      rw [List.take_add_one, hz]
      simp [List.mem_append]
    refine wpAny_pure ⟨plainId_quiet F.plain_set_update_loop _, ih (i + 1) _ (by omega) hlt (W.frame _ s' _ _ hst' (Nat.le_succ _) fun b hb o e => ?_) ⟨_, hS3⟩ fun s'' c2 hm'' hS'' => ?_⟩
    · exact (hsb.2 b fun h : b = S => hSf (h ▸ hb)).trans e
    · refine hR s'' c2 (Moved.trans W.gtrans ((hm.mono hsub).then_heap (Nat.le_succ _) fun b o hb e => ?_) hm'') hS''
      exact (hsb.2 b fun h : b = S => hb (h ▸ List.mem_cons_self)).trans e

set_option maxRecDepth 100000 in
set_option maxHeartbeats 3200000 in
theorem call_set_list {l : Addr} {items : Array Value} (ns U : List Int) {Q : Value → Shared → Prop} (hh : A.handled = none) (hl : s.heap.IsList l items) (hit : IntsAre items.toList ns) (hU : ∀ k ∈ ns, k ∈ U) (hb : U.length + 1 < scanBound)
    (h : ∀ (h' : Heap) (tk c : Nat), SetR w h' s.heap.objs.size (fun j => decide (j ∈ ns)) c → (∀ b o, s.heap.get? b = some o → h'.get? b = some o) → Q (.ref s.heap.objs.size) { s with heap := h', toks := tk }) :
    wpAny (model P w) A (call (.type "set") [.ref l]) Q E s := by
  have hisz : items.size = ns.length := by
    have q := IntsAre.length hit
    rwa [Array.length_toList] at q
  obtain ⟨c, tl, hmro⟩ := F.called_set.mro
  have hmade := F.called_set.made
  have hsub := F.called_set.sub
  refine wpAny_call (codeAny_of_tree ?_)
  show wpAny _ _ (callAny (.type "set") _) _ _ _
  refine wpAny_pure ⟨Code.quiet_builtin _ (by decide +kernel), codeAny_builtin F.entry_type_call ?_⟩
  rw [Around.under_plain (weight_type_call_type "set" [.ref l] []) rfl]
  have h1 := F.called_set.notType
  have h2 := F.called_set.canCreate
  have hct := F.typeCall_set_1 (.ref l)
  repeat (any_goals (first | assumption | wp_step))
  generalize hN : s.heap.push { cls := .type "set", dict := none, data := .set #[] 0 (.fresh 0 0 (!w.params.followText "set-order")) } = N
  refine codeAny_mono (code_set_led1 (.ref l) (E := E) (Q₁ := fun obj s₁ => obj = .ref s.heap.objs.size ∧ s₁ = { s with heap := N }) ⟨rfl, by rw [hN]⟩) fun r s₁ hr => ?_
  cases r with
  | error e => exact hr
  | ok fl =>
    cases fl with
    | ret obj =>
      obtain ⟨rfl, rfl⟩ := hr
      have hS : N.get? s.heap.objs.size = some { cls := .type "set", dict := none, data := .set #[] 0 (.fresh 0 0 (!w.params.followText "set-order")) } := by rw [← hN]; exact Heap.get?_push_size _ rfl
      have hT : Shared.TypeIs { s with heap := N } (.ref s.heap.objs.size) "set" := ⟨_, hS, rfl⟩
      have hli := F.called_set.init.lookup
      have hbi := F.called_set.init.bind (.ref s.heap.objs.size)
      repeat (any_goals (first | assumption | wp_step))
      refine codeAny_mono (codeAny_call_builtin (R := wants (fun r s₂ => r = .none ∧ ∃ h' tk c, s₂ = { s with heap := h', toks := tk } ∧ SetR w h' s.heap.objs.size (fun j => decide (j ∈ ns)) c ∧
          (∀ b o, s.heap.get? b = some o → h'.get? b = some o)) E) F.called_set.init.plain F.entry_set_init (check_set_init_1 hT ?_)) fun r₂ s₂ hr₂ => ?_
      · obtain ⟨ol, hol, hcl, nl, hdl⟩ := hl
        obtain ⟨ocls, odict, odata, oslots⟩ := ol
        simp only at hcl hdl
        subst hcl; subst hdl
        have old : ∀ b o, s.heap.get? b = some o → N.get? b = some o := fun b o e => by rw [← hN]; exact Heap.get?_push_of_some _ e
        have hol' : N.get? l = some { cls := .type "list", dict := odict, data := .seq items nl, slots := oslots } := old _ _ hol
        have hsls := F.sub_list_set
        have hslf := F.sub_list_frozenset
        have hne : (Value.type "list" == Value.type "dict") = false := by decide
        have hl1 : N.IsList l items := ⟨_, hol', rfl, nl, rfl⟩
        unfold Builtin.«set.__init__» noKeywords Builtin.Frozenset.updateFrom
        generalize hPI : pyIter = PI
        wp_walk
        subst hPI
        refine wpAny_pyIter_list hl1 ?_
        refine wpAny_bind (wpAny_runValue ?_)
        have hlS : l < s.heap.objs.size := Heap.lt_size hol
        have hh3 : A.in1.in1.in1.handled = none := by simp [hh]
        have hz1 : N.objs.size = s.heap.objs.size + 1 := by rw [← hN]; exact Heap.size_push ..
        have hneI : l ≠ N.objs.size := by rw [hz1]; exact Nat.ne_of_lt (Nat.lt_succ_of_lt hlS)
        have hSf : s.heap.objs.size ∉ [N.objs.size, l] := by
          simp only [List.mem_cons, List.not_mem_nil, or_false, not_or]
          exact ⟨by rw [hz1]; exact Nat.ne_of_lt (Nat.lt_succ_self _), Nat.ne_of_gt hlS⟩
        have hval : ∀ (i : Nat) (v : Value), items[i]? = some v → ∃ k t, ns[i]? = some k ∧ v = .int k t := fun i v hv => by
          have hi : i < ns.length := by rw [← hisz]; exact (Array.getElem?_eq_some_iff.mp hv).1
          obtain ⟨t, e⟩ := PyProof.Rows.IntsAre.int_at hit i v (by rw [Array.getElem?_toList]; exact hv)
          refine ⟨ns[i], t, List.getElem?_eq_getElem hi, ?_⟩
          rw [e, List.getD_eq_getElem?_getD, List.getElem?_eq_getElem hi] <;> rfl
        refine set_upd_list ((Walks.list hh3 _ l hneI items).toS) s.heap.objs.size hSf ns U hisz hU hb hval (items.size - 0) 0 _ (by omega) (Nat.zero_le _) ⟨⟨_, Heap.get?_push_size _ rfl, rfl, rfl⟩, (hl1.push _)⟩ ?hS0 ?hR
        case hS0 => exact ⟨0, setR_new_at (Heap.get?_push_of_some _ hS)⟩
        case hR =>
          intro s' c' hm hS'
          obtain ⟨h', g2, d', tk', os'⟩ := s'
          have eg : g2 = s.gens := hm.gens
          have ed : d' = s.drawn := hm.drawn
          have eo : os' = s.os := hm.os
          subst eg; subst ed; subst eo
          show wpAny _ _ _ _ _ _
          refine wpAny_pure ?_
          show wpAny _ _ (ret Value.none) _ _ _
          refine wpAny_pure ⟨rfl, h', tk', c', rfl, hS', fun b o e => ?_⟩
          have hb0 : b < s.heap.objs.size := Heap.lt_size e
          exact hm.heap b o (by simp only [List.mem_cons, List.not_mem_nil, or_false, not_or]; exact ⟨Nat.ne_of_lt hb0, by rw [hz1]; exact Nat.ne_of_lt (Nat.lt_succ_of_lt hb0)⟩) (Heap.get?_push_of_some _ (old _ _ e))
      · cases r₂ with
        | error e => exact hr₂
        | ok fl₂ =>
          cases fl₂ with
          | ret r =>
            obtain ⟨rfl, h', tk, c', rfl, hS', hk'⟩ := hr₂
            repeat (any_goals (first | assumption | wp_step))
            exact h _ _ _ hS' hk'
          | _ => exact hr₂.elim
    | _ => exact hr.elim
/-- sorted of a set of ints, any number of them -/
theorem sorted_set_any {a : Addr} {S : Int → Bool} {n : Nat} {Q : Value → Shared → Prop} (R : SetR w s.heap a S n) (hh : A.handled = none)
    (hQ : ∀ s' p (out : Array Value) (c : Nat) (ns : List Int), (∀ b o, s.heap.get? b = some o → s'.heap.get? b = some o) → s'.gens = s.gens → s'.os = s.os → s.heap.objs.size ≤ p →
      s'.heap.get? p = some (seqObj "list" out c) → IntsAre out.toList ns → ns.Pairwise (· < ·) → (∀ k, k ∈ ns ↔ S k = true) → ns.length = n → Q (.ref p) s') :
    wpAny (model P w) A (call (.builtin "sorted") [.ref a]) Q E s := by
  obtain ⟨o, es, ep, t, ho, hex, hd, g, nd, hm, hb, hf, hn, hr, hl⟩ := R
  refine Calls.call_function_entry kind_sorted plain_sorted entry_sorted (args_sorted1 _) ?_
  unfold Builtin.«sorted»
  refine wpAny_bind (m := checkCount "sorted" 1 1 _) (wpAny_pure ?_)
  refine wpAny_bind (collect_set (A := A.in1) hh ⟨o, ho, hex.1, hd⟩ hf hb hr hl fun s1 vs k1 hz g1 o1 pm => ?_)
  have hvl : vs.length = n := by rw [pm.length_eq, List.length_map, Array.length_toList]; exact hn
  have hI : IntsAre vs (vs.map Builtin.Re.reRawOf) := ints_of vs fun v hv => by
    obtain ⟨e, he, q⟩ := List.mem_map.mp (pm.mem_iff.mp hv)
    obtain ⟨k, tk, h1, _⟩ := g e he
    exact ⟨k, tk, by rw [← q]; exact h1⟩
  have pk : (vs.map Builtin.Re.reRawOf).Perm (es.toList.map keyOf) := by
    have q := pm.map Builtin.Re.reRawOf
    rw [List.map_map] at q
    exact q
  have hline : vs.length ≤ sizeLine := by rw [hvl, sizeLine_eq, ← hn]; exact Nat.le_trans (Nat.le_of_lt hb) (by decide)
  refine wpAny_bind (wpAny_newList ?_ hline)
  have hoL : (s1.heap.push (seqObj "list" vs.toArray 0)).get? s1.heap.objs.size = some (seqObj "list" vs.toArray 0) := Heap.get?_push_size _ rfl
  refine wpAny_bind (wpAny_holding (wpAny_call_entry slot_list_sort ⟨_, hoL, rfl⟩ entry_list_sort (SrtO.list_sort_ord SrtO.swo_int hoL hline (fun h2 => SrtO.ints_sortable hI h2) fun out a1 a2 => ⟨_, rfl, ?_⟩) (args_list_sort _)))
  obtain ⟨i1, i2, i3⟩ := SrtO.ints_out hI a1 a2
  obtain ⟨c, hc⟩ := sortedHeap_at (vs := vs) (out := out.toArray) hoL
  have pn : (out.map SrtO.iv).Perm (es.toList.map keyOf) := i2.trans pk
  refine wpAny_pure ⟨_, rfl, hQ _ s1.heap.objs.size out.toArray c (out.map SrtO.iv) (fun b u e => ?_) g1 o1 hz hc i1 (lt_of_le_nodup _ i3 (pn.nodup_iff.mpr nd)) (fun k => by rw [pn.mem_iff, ← hm k]) ?_⟩
  · have q := k1 b u e
    have hlt := Heap.lt_size q
    show (sortedHeap (s1.heap.push (seqObj "list" vs.toArray 0)) s1.heap.objs.size vs out.toArray).get? b = some u
    rw [sortedHeap_old (Nat.ne_of_lt hlt) (by rw [size_push']; exact Nat.lt_succ_of_lt hlt)]
    exact Heap.get?_push_of_some _ q
  · rw [pn.length_eq, List.length_map, Array.length_toList]; exact hn
end
end L2.DL
/-! # Rows of turns and sets of whole numbers (plain Lean) -/
namespace L2.SK

/-- strictly rising -/
abbrev Up (ts : List Int) : Prop := ts.Pairwise (· < ·)
/-- in, by a row of turns -/
def isIn : Bool → List Int → Int → Bool
  | b, [], _ => b
  | b, t :: ts, n => if t ≤ n then isIn (!b) ts n else b
theorem isIn_lt {b : Bool} {ts : List Int} {n : Int} (h : ∀ t ∈ ts, n < t) : isIn b ts n = b := by
  cases ts with
  | nil => rfl
  | cons t ts =>
    have := h t List.mem_cons_self
    rw [isIn, if_neg (by omega)]
/-- how many turns stand up to a number -/
def ahead (ts : List Int) (n : Int) : Nat := (ts.filter fun t => decide (t ≤ n)).length
theorem ahead_none {ts : List Int} {n : Int} (h : ∀ t ∈ ts, n < t) : ahead ts n = 0 := by
  unfold ahead
  rw [List.filter_eq_nil_iff.mpr fun t ht => by have := h t ht; simp; omega]
  rfl
theorem odd_succ (k : Nat) : ((k + 1) % 2 == 1) = !(k % 2 == 1) := by
  rcases Nat.mod_two_eq_zero_or_one k with h | h
  · have : (k + 1) % 2 = 1 := by omega
    rw [h, this]; rfl
  · have : (k + 1) % 2 = 0 := by omega
    rw [h, this]; rfl
theorem isIn_ahead : ∀ {ts : List Int} {b : Bool} {n : Int}, Up ts → isIn b ts n = (b != (ahead ts n % 2 == 1))
  | [], b, n, _ => by cases b <;> rfl
  | t :: ts, b, n, h => by
    have h' := List.pairwise_cons.mp h
    unfold isIn
    by_cases c : t ≤ n
    · rw [if_pos c, isIn_ahead h'.2]
      have e : ahead (t :: ts) n = ahead ts n + 1 := by
        unfold ahead
        rw [List.filter_cons, if_pos (by simpa using c)]
        rfl
      rw [e, odd_succ]
      cases b <;> cases (ahead ts n % 2 == 1) <;> rfl
    · rw [if_neg c]
      have e : ahead (t :: ts) n = 0 := ahead_none fun u hu => by
        rcases List.mem_cons.mp hu with rfl | hu
        · omega
        · have := h'.1 u hu; omega
      rw [e]
      cases b <;> rfl
/-- the turns are just where it changes -/
theorem mem_turn : ∀ {ts : List Int} {b : Bool} {n : Int}, Up ts → (n ∈ ts ↔ isIn b ts n ≠ isIn b ts (n - 1))
  | [], b, n, _ => by simp [isIn]
  | t :: ts, b, n, h => by
    have h' := List.pairwise_cons.mp h
    unfold isIn
    by_cases c : t ≤ n - 1
    · rw [if_pos (by omega), if_pos c, ← mem_turn h'.2, List.mem_cons]
      constructor
      · rintro (rfl | z)
        · omega
        · exact z
      · exact .inr
    · rw [if_neg c]
      by_cases e : t = n
      · subst e
        rw [if_pos (Int.le_refl _), isIn_lt h'.1]
        simp
      · rw [if_neg (by omega)]
        simp only [ne_eq, not_true_eq_false, iff_false, List.mem_cons, not_or]
        exact ⟨fun z => e z.symm, fun z => by have := h'.1 n z; omega⟩
theorem up_ext {l l' : List Int} (h : Up l) (h' : Up l') (e : ∀ n, n ∈ l ↔ n ∈ l') : l = l' := by
  have nd : l.Nodup := h.imp fun a => Int.ne_of_lt a
  have nd' : l'.Nodup := h'.imp fun a => Int.ne_of_lt a
  exact ((List.perm_ext_iff_of_nodup nd nd').mpr e).eq_of_pairwise (fun a b _ _ h1 h2 => absurd h1 (by omega)) h h'
/-- far below -/
theorem exists_below (ts : List Int) : ∃ n : Int, ∀ t ∈ ts, n < t := by
  induction ts with
  | nil => exact ⟨0, fun _ h => nomatch h⟩
  | cons t ts ih =>
    obtain ⟨n, h⟩ := ih
    refine ⟨min n (t - 1), fun u hu => ?_⟩
    rcases List.mem_cons.mp hu with rfl | hu
    · omega
    · have := h u hu; omega
/-- a row is known by what is in -/
theorem row_ext {b b' : Bool} {ts ts' : List Int} (h : Up ts) (h' : Up ts') (e : ∀ n, isIn b ts n = isIn b' ts' n) : b = b' ∧ ts = ts' := by
  have et : ts = ts' := up_ext h h' fun n => by rw [mem_turn (b := b) h, mem_turn (b := b') h', e, e]
  subst et
  obtain ⟨n, hn⟩ := exists_below ts
  have := e n
  rw [isIn_lt hn, isIn_lt hn] at this
  exact ⟨this, rfl⟩

/-- of rising spots those where f changes -/
def scan (f : Int → Bool) : Bool → List Int → List Int
  | _, [] => []
  | b, s :: ss => if f s ≠ b then s :: scan f (f s) ss else scan f b ss
theorem scan_sub {f : Int → Bool} : ∀ {ss : List Int} {b : Bool}, (scan f b ss).Sublist ss
  | [], _ => .slnil
  | s :: ss, b => by
    unfold scan
    split
    · exact .cons₂ _ scan_sub
    · exact .cons _ scan_sub
theorem scan_up {f : Int → Bool} {ss : List Int} {b : Bool} (h : Up ss) : Up (scan f b ss) := h.sublist scan_sub
/-- f is level where no spot stands -/
theorem level {f : Int → Bool} {S : List Int} (hc : ∀ n, f n ≠ f (n - 1) → n ∈ S) (a : Int) : ∀ (k : Nat), (∀ t ∈ S, t ≤ a ∨ a + k < t) → f (a + k) = f a
  | 0, _ => by simp
  | k + 1, h => by
    have ih := level hc a k fun t ht => by rcases h t ht with z | z; exact .inl z; right; omega
    have e : a + ((k + 1 : Nat) : Int) - 1 = a + (k : Nat) := by omega
    have : f (a + ((k + 1 : Nat) : Int)) = f (a + ((k + 1 : Nat) : Int) - 1) := by
      by_cases z : f (a + ((k + 1 : Nat) : Int)) = f (a + ((k + 1 : Nat) : Int) - 1)
      · exact z
      · have hm := hc _ z
        rcases h _ hm with y | y
        · omega
        · omega
    rw [this, e, ih]
theorem level' {f : Int → Bool} {S : List Int} (hc : ∀ n, f n ≠ f (n - 1) → n ∈ S) {a n : Int} (h : a ≤ n) (hs : ∀ t ∈ S, t ≤ a ∨ n < t) : f n = f a := by
  have e : n = a + ((n - a).toNat : Nat) := by omega
  rw [e]
  exact level hc a _ fun t ht => by rcases hs t ht with z | z; exact .inl z; right; omega
theorem scan_in_aux {f : Int → Bool} {S : List Int} (hc : ∀ n, f n ≠ f (n - 1) → n ∈ S) : ∀ {ss : List Int} {b : Bool} {lo n : Int}, Up ss → (∀ t ∈ S, t ∈ ss ∨ t ≤ lo) → (∀ t ∈ ss, lo < t) → f lo = b → lo ≤ n → isIn b (scan f b ss) n = f n
  | [], b, lo, n, _, h1, _, h3, h4 => by
    rw [scan, isIn, ← h3]
    exact (level' hc h4 fun t ht => (h1 t ht).elim (fun z => nomatch z) .inl).symm
  | s :: ss, b, lo, n, hu, h1, h2, h3, h4 => by
    have hu' := List.pairwise_cons.mp hu
    have hlo := h2 s List.mem_cons_self
    have rest : ∀ {c : Bool}, f s = c → s ≤ n → isIn c (scan f c ss) n = f n := fun {c} e hn =>
      scan_in_aux hc hu'.2 (fun t ht => by
        rcases h1 t ht with z | z
        · rcases List.mem_cons.mp z with rfl | z
          · exact .inr (Int.le_refl _)
          · exact .inl z
        · exact .inr (by omega)) hu'.1 e hn
    unfold scan
    by_cases c : f s ≠ b
    · rw [if_pos c, isIn]
      by_cases hn : s ≤ n
      · rw [if_pos hn]
        have e : (!b) = f s := by cases b <;> cases h : f s <;> simp_all
        rw [e]
        exact rest rfl hn
      · rw [if_neg hn, ← h3]
        exact (level' hc h4 fun t ht => by
          rcases h1 t ht with z | z
          · rcases List.mem_cons.mp z with rfl | z
            · right; omega
            · have := hu'.1 t z; right; omega
          · exact .inl z).symm
    · rw [if_neg c]
      have c' : f s = b := Classical.not_not.mp c
      by_cases hn : s ≤ n
      · exact rest c' hn
      · rw [isIn_lt fun t ht => by have := hu'.1 t (scan_sub.subset ht); omega, ← h3]
        exact (level' hc h4 fun t ht => by
          rcases h1 t ht with z | z
          · rcases List.mem_cons.mp z with rfl | z
            · right; omega
            · have := hu'.1 t z; right; omega
          · exact .inl z).symm
/-- what is found among spots that hold every change is the row of f -/
theorem scan_in {f : Int → Bool} {ss : List Int} {b : Bool} (hu : Up ss) (hc : ∀ n, f n ≠ f (n - 1) → n ∈ ss) (hb : ∀ n, (∀ t ∈ ss, n < t) → f n = b) (n : Int) : isIn b (scan f b ss) n = f n := by
  obtain ⟨lo, hlo⟩ := exists_below (n :: ss)
  exact scan_in_aux hc hu (fun t ht => .inl ht) (fun t ht => hlo t (List.mem_cons_of_mem _ ht)) (hb lo fun t ht => hlo t (List.mem_cons_of_mem _ ht)) (by have := hlo n List.mem_cons_self; omega)

/-! ### stretches -/
abbrev Str2 := Option Int × Option Int
/-- the stretches of a row: is one open, and from where -/
def strL : Bool → Option Int → List Int → List Str2
  | true, first, [] => [(first, none)]
  | false, _, [] => []
  | true, first, t :: ts => (first, some (t - 1)) :: strL false (some t) ts
  | false, _, t :: ts => strL true (some t) ts
def lies (s : Str2) (n : Int) : Bool := (match s.1 with | none => true | some a => decide (a ≤ n)) && (match s.2 with | none => true | some c => decide (n ≤ c))
/-- a stretch: the last is not less than the first -/
def okS (s : Str2) : Bool := match s with
  | (some a, some c) => decide (a ≤ c)
  | _ => true
/-- the turns of a stretch -/
def turnsS (s : Str2) : List Int := (match s.1 with | none => [] | some a => [a]) ++ (match s.2 with | none => [] | some c => [c + 1])
theorem turnsS_up {s : Str2} (h : okS s = true) : Up (turnsS s) := by
  obtain ⟨a, c⟩ := s
  cases a <;> cases c <;> simp [turnsS, okS] at h ⊢
  omega
theorem turnsS_in {s : Str2} (h : okS s = true) (n : Int) : isIn s.1.isNone (turnsS s) n = lies s n := by
  obtain ⟨a, c⟩ := s
  cases a with
  | none =>
    cases c with
    | none => rfl
    | some c =>
      simp only [turnsS, lies, isIn, Option.isNone, List.nil_append, Bool.true_and]
      by_cases z : c + 1 ≤ n
      · rw [if_pos z, decide_eq_false (by omega)]; rfl
      · rw [if_neg z, decide_eq_true (by omega)]
  | some a =>
    cases c with
    | none =>
      simp only [turnsS, lies, isIn, Option.isNone, List.append_nil, Bool.and_true]
      by_cases z : a ≤ n
      · rw [if_pos z, decide_eq_true z]; rfl
      · rw [if_neg z, decide_eq_false z]
    | some c =>
      have h' : a ≤ c := by simpa [okS] using h
      simp only [turnsS, lies, isIn, Option.isNone, List.cons_append, List.nil_append]
      by_cases z : a ≤ n
      · rw [if_pos z, decide_eq_true z, Bool.true_and]
        by_cases y : c + 1 ≤ n
        · rw [if_pos y, decide_eq_false (by omega)]; rfl
        · rw [if_neg y, decide_eq_true (by omega)]; rfl
      · rw [if_neg z, decide_eq_false z]; rfl
/-- what a rule makes of two rows -/
def mergedT (r : Bool → Bool → Bool) (b1 : Bool) (t1 : List Int) (b2 : Bool) (t2 : List Int) (ss : List Int) : List Int := scan (fun n => r (isIn b1 t1 n) (isIn b2 t2 n)) (r b1 b2) ss
theorem merged_in {r : Bool → Bool → Bool} {b1 b2 : Bool} {t1 t2 ss : List Int} (h1 : Up t1) (h2 : Up t2) (hu : Up ss) (hs : ∀ n, n ∈ ss ↔ n ∈ t1 ∨ n ∈ t2) (n : Int) :
    isIn (r b1 b2) (mergedT r b1 t1 b2 t2 ss) n = r (isIn b1 t1 n) (isIn b2 t2 n) := by
  refine scan_in hu (fun m hm => ?_) (fun m hm => ?_) n
  · rw [hs]
    by_cases c : m ∈ t1
    · exact .inl c
    · right
      rw [mem_turn (b := b2) h2]
      intro e
      have e1 : isIn b1 t1 m = isIn b1 t1 (m - 1) := Classical.not_not.mp fun z => c ((mem_turn (b := b1) h1).mpr z)
      exact hm (by simp only [e1, e])
  · show r (isIn b1 t1 m) (isIn b2 t2 m) = r b1 b2
    rw [isIn_lt fun t ht => hm t ((hs t).mpr (.inl ht)), isIn_lt fun t ht => hm t ((hs t).mpr (.inr ht))]
theorem merged_up {r : Bool → Bool → Bool} {b1 b2 : Bool} {t1 t2 ss : List Int} (hu : Up ss) : Up (mergedT r b1 t1 b2 t2 ss) := scan_up hu
/-- moved, mirrored -/
theorem moved_in : ∀ (b : Bool) (ts : List Int) (k n : Int), isIn b (ts.map (· + k)) n = isIn b ts (n - k)
  | b, [], _, _ => rfl
  | b, t :: ts, k, n => by
    rw [List.map_cons, isIn, isIn, moved_in]
    by_cases c : t + k ≤ n
    · rw [if_pos c, if_pos (by omega)]
    · rw [if_neg c, if_neg (by omega)]
theorem moved_up {ts : List Int} (h : Up ts) (k : Int) : Up (ts.map (· + k)) := List.pairwise_map.mpr (h.imp fun a => by omega)
theorem isIn_append_high {b : Bool} {ts us : List Int} {n : Int} (h : ∀ t ∈ us, n < t) : isIn b (ts ++ us) n = isIn b ts n := by
  induction ts generalizing b with
  | nil => rw [List.nil_append, isIn_lt h]; rfl
  | cons t ts ih => rw [List.cons_append, isIn, isIn, ih]
theorem isIn_all {b : Bool} {ts : List Int} {n : Int} (h : ∀ t ∈ ts, t ≤ n) : isIn b ts n = (b != (ts.length % 2 == 1)) := by
  induction ts generalizing b with
  | nil => cases b <;> rfl
  | cons t ts ih =>
    rw [isIn, if_pos (h t List.mem_cons_self), ih fun u hu => h u (List.mem_cons_of_mem _ hu), List.length_cons, odd_succ]
    cases b <;> cases (ts.length % 2 == 1) <;> rfl
theorem isIn_append {b : Bool} {ts : List Int} {t : Int} {n : Int} (h : ∀ u ∈ ts, u < t) : isIn b (ts ++ [t]) n = if t ≤ n then (b != ((ts.length + 1) % 2 == 1)) else isIn b ts n := by
  by_cases c : t ≤ n
  · rw [if_pos c, isIn_all fun u hu => by
      rcases List.mem_append.mp hu with z | z
      · have := h u z; omega
      · have : u = t := by simpa using z
        omega, List.length_append]
    rfl
  · rw [if_neg c, isIn_append_high fun u hu => by
      have : u = t := by simpa using hu
      omega]
theorem mirror_up {ts : List Int} (h : Up ts) : Up (ts.reverse.map fun t => 1 - t) := by
  refine List.pairwise_map.mpr (List.pairwise_reverse.mpr (h.imp fun a => by omega))
theorem mirror_in : ∀ {ts : List Int} {b : Bool} {n : Int}, Up ts → isIn (b != (ts.length % 2 == 1)) (ts.reverse.map fun t => 1 - t) n = isIn b ts (0 - n)
  | [], b, n, _ => by cases b <;> rfl
  | t :: ts, b, n, h => by
    have h' := List.pairwise_cons.mp h
    rw [List.reverse_cons, List.map_append, List.map_cons, List.map_nil, List.length_cons, odd_succ, isIn_append (fun u hu => by
      obtain ⟨v, hv, rfl⟩ := List.mem_map.mp hu
      have := h'.1 v (List.mem_reverse.mp hv)
      omega), isIn]
    have ih := mirror_in (b := !b) (n := n) h'.2
    have eb : (b != !(ts.length % 2 == 1)) = ((!b) != (ts.length % 2 == 1)) := by cases b <;> cases (ts.length % 2 == 1) <;> rfl
    rw [eb, ih, List.length_map, List.length_reverse]
    by_cases c : t ≤ 0 - n
    · rw [if_pos c]
      by_cases d : 1 - t ≤ n
      · omega
      · rw [if_neg d]
    · rw [if_neg c, if_pos (by omega), odd_succ]
      cases b <;> cases (ts.length % 2 == 1) <;> rfl
end L2.SK
/-! # Deeds, and the stretches that are due behind them (plain Lean) -/
namespace L2.SK
inductive Deed where
  | put (ss : List Str2) | take (ss : List Str2) | keep (ss : List Str2) | turn (ss : List Str2) | move (k : Int) | mirror
/-- whether a number lies in one of some stretches -/
def owns (ss : List Str2) (n : Int) : Bool := ss.any fun s => lies s n
def behind : Deed → Bool → Int → Bool
  | .put ss, b, n => b || owns ss n
  | .take ss, b, n => b && !owns ss n
  | .keep ss, b, n => b && owns ss n
  | .turn ss, b, n => b != owns ss n
  | .move _, b, _ => b
  | .mirror, b, _ => b
def back : Deed → Int → Int
  | .move k, n => n - k
  | .mirror, n => 0 - n
  | _, n => n
/-- by the deeds, the last one first -/
def inR : List Deed → Int → Bool
  | [], _ => false
  | d :: r, n => behind d (inR r (back d n)) n
def inD (ds : List Deed) (n : Int) : Bool := inR ds.reverse n
theorem inD_snoc (ds : List Deed) (d : Deed) (n : Int) : inD (ds ++ [d]) n = behind d (inD ds (back d n)) n := by
  unfold inD
  rw [List.reverse_append]
  rfl
/-- where they may change -/
def ends (ss : List Str2) : List Int := ss.filterMap (·.1) ++ (ss.filterMap (·.2)).map (· + 1)
def spotsS (acc : List Int) : Deed → List Int
  | .move k => acc.map (· + k)
  | .mirror => acc.map fun s => 1 - s
  | .put ss => acc ++ ends ss
  | .take ss => acc ++ ends ss
  | .keep ss => acc ++ ends ss
  | .turn ss => acc ++ ends ss
def spots (ds : List Deed) : List Int := ds.foldl spotsS []
theorem spots_snoc (ds : List Deed) (d : Deed) : spots (ds ++ [d]) = spotsS (spots ds) d := by
  unfold spots
  rw [List.foldl_append]
  rfl
theorem lies_turn {s : Str2} {n : Int} (h : lies s n ≠ lies s (n - 1)) : s.1 = some n ∨ s.2 = some (n - 1) := by
  obtain ⟨a, c⟩ := s
  have e1 : ∀ x : Int, decide (x ≤ n) ≠ decide (x ≤ n - 1) → x = n := fun x hx => by
    by_cases q : x ≤ n
    · by_cases r : x ≤ n - 1
      · simp [q, r] at hx
      · omega
    · simp [q, show ¬ x ≤ n - 1 by omega] at hx
  have e2 : ∀ x : Int, decide (n ≤ x) ≠ decide (n - 1 ≤ x) → x = n - 1 := fun x hx => by
    by_cases q : n ≤ x
    · simp [q, show n - 1 ≤ x by omega] at hx
    · by_cases r : n - 1 ≤ x
      · omega
      · simp [q, r] at hx
  have key : ∀ p p' q q' : Bool, (p && q) ≠ (p' && q') → p ≠ p' ∨ q ≠ q' := by decide
  unfold lies at h
  rcases key _ _ _ _ h with z | z
  · left
    cases a with
    | none => exact absurd rfl z
    | some a => rw [e1 a z]
  · right
    cases c with
    | none => exact absurd rfl z
    | some c => rw [e2 c z]
theorem owns_turn {ss : List Str2} {n : Int} (h : owns ss n ≠ owns ss (n - 1)) : n ∈ ends ss := by
  have : ∃ s ∈ ss, lies s n ≠ lies s (n - 1) := by
    refine Classical.byContradiction fun hn => h ?_
    unfold owns
    induction ss with
    | nil => rfl
    | cons s ss ih =>
      rw [List.any_cons, List.any_cons]
      have e : lies s n = lies s (n - 1) := Classical.byContradiction fun z => hn ⟨s, List.mem_cons_self, z⟩
      have nh : ¬ ∃ t ∈ ss, lies t n ≠ lies t (n - 1) := fun ⟨t, ht, z⟩ => hn ⟨t, List.mem_cons_of_mem _ ht, z⟩
      by_cases c : owns ss n = owns ss (n - 1)
      · unfold owns at c
        rw [e, c]
      · rw [e, ih c nh]
  obtain ⟨s, hs, z⟩ := this
  unfold ends
  rw [List.mem_append]
  rcases lies_turn z with e | e
  · left
    exact List.mem_filterMap.mpr ⟨s, hs, e⟩
  · right
    exact List.mem_map.mpr ⟨n - 1, List.mem_filterMap.mpr ⟨s, hs, e⟩, by omega⟩
theorem inD_spots : ∀ (rs : List Deed) (n : Int), inD rs.reverse n ≠ inD rs.reverse (n - 1) → n ∈ spots rs.reverse
  | [], n, h => absurd rfl h
  | d :: rs, n, h => by
    rw [List.reverse_cons, inD_snoc, inD_snoc] at h
    rw [List.reverse_cons, spots_snoc]
    have ih := inD_spots rs
    have ow : ∀ (f : Bool → Bool → Bool) (ss : List Str2), f (inD rs.reverse n) (owns ss n) ≠ f (inD rs.reverse (n - 1)) (owns ss (n - 1)) → n ∈ spots rs.reverse ++ ends ss := fun f ss hf => by
      rw [List.mem_append]
      by_cases c : inD rs.reverse n = inD rs.reverse (n - 1)
      · by_cases e : owns ss n = owns ss (n - 1)
        · rw [c, e] at hf; exact absurd rfl hf
        · exact .inr (owns_turn e)
      · exact .inl (ih n c)
    cases d with
    | put ss => exact ow (fun a b => a || b) ss h
    | take ss => exact ow (fun a b => a && !b) ss h
    | keep ss => exact ow (fun a b => a && b) ss h
    | turn ss => exact ow (fun a b => a != b) ss h
    | move k =>
      have h' : inD rs.reverse (n - k) ≠ inD rs.reverse (n - 1 - k) := h
      have := ih (n - k) (by rw [show n - k - 1 = n - 1 - k by omega]; exact h')
      exact List.mem_map.mpr ⟨n - k, this, by omega⟩
    | mirror =>
      have h' : inD rs.reverse (0 - n) ≠ inD rs.reverse (0 - (n - 1)) := h
      have := ih (1 - n) (by rw [show 1 - n - 1 = 0 - n by omega, show 1 - n = 0 - (n - 1) by omega]; exact h'.symm)
      exact List.mem_map.mpr ⟨1 - n, this, by omega⟩
theorem inD_spot {ds : List Deed} {n : Int} (h : inD ds n ≠ inD ds (n - 1)) : n ∈ spots ds := by
  have := inD_spots ds.reverse n
  rw [List.reverse_reverse] at this
  exact this h
/-- the stretches that are due, by the rising spots -/
def dueB (ds : List Deed) (ss : List Int) : Bool := inD ds ((ss ++ [0]).headD 0 - 1)
def dueT (ds : List Deed) (ss : List Int) : List Int := scan (inD ds) (dueB ds ss) ss
theorem dueB_low {ds : List Deed} {ss : List Int} (hu : Up ss) (hs : ∀ n, n ∈ ss ↔ n ∈ spots ds) (n : Int) (h : ∀ t ∈ ss, n < t) : inD ds n = dueB ds ss := by
  unfold dueB
  have hc : ∀ n, inD ds n ≠ inD ds (n - 1) → n ∈ ss := fun n hn => (hs n).mpr (inD_spot hn)
  cases ss with
  | nil =>
    show inD ds n = inD ds (0 - 1)
    rcases Int.le_total n (0 - 1) with c | c
    · exact (level' hc c fun t ht => nomatch ht).symm
    · exact level' hc c fun t ht => nomatch ht
  | cons s ss =>
    show inD ds n = inD ds (s - 1)
    have hn := h s List.mem_cons_self
    have hu' := List.pairwise_cons.mp hu
    exact (level' hc (show n ≤ s - 1 by omega) fun t ht => by
      right
      rcases List.mem_cons.mp ht with rfl | ht
      · omega
      · have := hu'.1 t ht; omega).symm
theorem due_in {ds : List Deed} {ss : List Int} (hu : Up ss) (hs : ∀ n, n ∈ ss ↔ n ∈ spots ds) (n : Int) : isIn (dueB ds ss) (dueT ds ss) n = inD ds n :=
  scan_in hu (fun n hn => (hs n).mpr (inD_spot hn)) (dueB_low hu hs) n
/-- a row for the deeds: the stretches due are its stretches -/
theorem due_is {ds : List Deed} {ss : List Int} {b : Bool} {ts : List Int} (hu : Up ss) (hs : ∀ n, n ∈ ss ↔ n ∈ spots ds) (ht : Up ts) (h : ∀ n, isIn b ts n = inD ds n) : dueB ds ss = b ∧ dueT ds ss = ts :=
  row_ext (scan_up hu) ht fun n => by rw [h]; exact due_in hu hs n

/-! ### what a Keeper's deed makes -/
/-- a row: begins, turns, rising -/
structure KRow where
  b : Bool
  ts : List Int
  up : Up ts
def KRow.has (r : KRow) (n : Int) : Bool := isIn r.b r.ts n
theorem KRow.ext' {r r' : KRow} (h : ∀ n, r.has n = r'.has n) : r = r' := by
  obtain ⟨b, ts, up⟩ := r
  obtain ⟨b', ts', up'⟩ := r'
  obtain ⟨rfl, rfl⟩ := row_ext up up' h
  rfl
end L2.SK
/-! # What each def promises, at the data level -/
namespace L2.SK
/-- sorted, each once -/
def ins (x : Int) : List Int → List Int
  | [] => [x]
  | y :: ys => if x < y then x :: y :: ys else if x = y then y :: ys else y :: ins x ys
def sset (l : List Int) : List Int := l.foldr ins []
theorem mem_ins {x n : Int} : ∀ {l : List Int}, n ∈ ins x l ↔ n = x ∨ n ∈ l
  | [] => by simp [ins]
  | y :: ys => by
    unfold ins
    split
    · rw [List.mem_cons]
    · split
      · rename_i e
        subst e
        constructor
        · exact .inr
        · rintro (rfl | h)
          · exact List.mem_cons_self
          · exact h
      · rw [List.mem_cons, mem_ins, List.mem_cons]
        constructor
        · rintro (h | h | h)
          · exact .inr (.inl h)
          · exact .inl h
          · exact .inr (.inr h)
        · rintro (h | h | h)
          · exact .inr (.inl h)
          · exact .inl h
          · exact .inr (.inr h)
theorem ins_up {x : Int} : ∀ {l : List Int}, Up l → Up (ins x l)
  | [], _ => List.pairwise_singleton _ _
  | y :: ys, h => by
    have h' := List.pairwise_cons.mp h
    unfold ins
    split
    · rename_i c
      refine List.pairwise_cons.mpr ⟨fun z hz => ?_, h⟩
      rcases List.mem_cons.mp hz with rfl | hz
      · exact c
      · have := h'.1 z hz; omega
    · split
      · exact h
      · refine List.pairwise_cons.mpr ⟨fun z hz => ?_, ins_up h'.2⟩
        rcases mem_ins.mp hz with rfl | hz
        · omega
        · exact h'.1 z hz
theorem mem_sset {n : Int} {l : List Int} : n ∈ sset l ↔ n ∈ l := by
  induction l with
  | nil => exact Iff.rfl
  | cons x l ih =>
    show n ∈ ins x (sset l) ↔ _
    rw [mem_ins, ih, List.mem_cons]
theorem sset_up (l : List Int) : Up (sset l) := by
  induction l with
  | nil => exact .nil
  | cons x l ih => exact ins_up ih
theorem sset_is {l ss : List Int} (hu : Up ss) (h : ∀ n, n ∈ ss ↔ n ∈ l) : ss = sset l := up_ext hu (sset_up l) fun n => by rw [h, mem_sset]
theorem ins_len {x : Int} : ∀ {l : List Int}, (ins x l).length ≤ l.length + 1
  | [] => Nat.le_refl _
  | y :: ys => by
    unfold ins
    split
    · exact Nat.le_refl _
    · split
      · exact Nat.le_succ _
      · have := ins_len (x := x) (l := ys)
        simp only [List.length_cons]
        omega
theorem sset_len (l : List Int) : (sset l).length ≤ l.length := by
  induction l with
  | nil => exact Nat.le_refl _
  | cons x l ih =>
    have := ins_len (x := x) (l := sset l)
    show (ins x (sset l)).length ≤ _
    rw [List.length_cons]
    omega
/-- what a rule makes of two rows -/
def mergeR (f : Bool → Bool → Bool) (r1 r2 : KRow) : KRow := ⟨f r1.b r2.b, mergedT f r1.b r1.ts r2.b r2.ts (sset (r1.ts ++ r2.ts)), merged_up (sset_up _)⟩
theorem mergeR_has (f : Bool → Bool → Bool) (r1 r2 : KRow) (n : Int) : (mergeR f r1 r2).has n = f (r1.has n) (r2.has n) :=
  merged_in r1.up r2.up (sset_up _) (fun n => by rw [mem_sset, List.mem_append]) n
def due (ds : List Deed) : List Str2 := strL (dueB ds (sset (spots ds))) none (dueT ds (sset (spots ds)))
def KRow.strs (r : KRow) : List Str2 := strL r.b none r.ts
theorem due_row {ds : List Deed} {r : KRow} (h : ∀ n, r.has n = inD ds n) : due ds = r.strs := by
  obtain ⟨e1, e2⟩ := due_is (sset_up (spots ds)) (fun n => mem_sset) r.up h
  unfold due KRow.strs
  rw [e1, e2]
end L2.SK

namespace L2.DL
open PySem PySem.Spec PyProof.Rows L2.SK

/-! ### data -/
def oi : Option Int → D
  | none => .non
  | some i => .int i
def sD (s : Str2) : D := .tup [oi s.1, oi s.2]
def ssD (ss : List Str2) : D := .lst (ss.map sD)
def insD (ns : List Int) : D := .lst (ns.map .int)
def word : Deed → Str
  | .put _ => "put"
  | .take _ => "take"
  | .keep _ => "keep"
  | .turn _ => "turn"
  | .move _ => "move"
  | .mirror => "mirror"
def thing : Deed → D
  | .put ss => ssD ss
  | .take ss => ssD ss
  | .keep ss => ssD ss
  | .turn ss => ssD ss
  | .move k => .int k
  | .mirror => .non
def dD (d : Deed) : D := .tup [.str (word d), thing d]
def dsD (ds : List Deed) : D := .lst (ds.map dD)
def rowD (r : KRow) : D := .tup [.bl r.b, insD r.ts]
def kpD (r : KRow) : D := .kp r.b r.ts

/-! ### sorted(set(xs)) -/
section
variable {X : Cx} {C : Addr} {E : XK} {pos : Pos}
def rSetL (w : World) (K : PySem.W.Frag) : List V → Hp → VK → Prop := fun xs H Q => ∃ (a : Addr) (ns U : List Int), xs = [V.ref a] ∧ SqL K H a (ns.map V.int) ∧ (∀ k ∈ ns, k ∈ U) ∧ U.length + 1 < scanBound ∧ ∀ p n, H p = none → Q (.ref p) (upd H p (SetO w p (fun j => decide (j ∈ ns)) n))
theorem cr_setL (hc : X.calm = true) : CallR X (.type "set") (rSetL X.w X.K) := by
  intro pins s σ H vs us Q I r h
  obtain ⟨a, ns, U, rfl, hs, hU, hb, q⟩ := h
  obtain ⟨its, rv, pl, hz⟩ := I.list hs
  rw [Vals.ref1 r]
  refine call_set_list ns U (I.ok.hd hc) pl.isList rv.ints hU hb fun h' tk c R1 k => ?_
  exact ⟨.ref _, _, I.laid (t' := tk) k (Nat.le_refl _) (setO_new R1), rfl, q _ c (I.hok.fresh (Nat.le_refl _))⟩
def rSortedSetA (w : World) : List V → Hp → VK → Prop := fun vs H Q => ∃ (a : Addr) (S : Int → Bool) (n : Nat), vs = [V.ref a] ∧ H a = some (SetO w a S n) ∧
  ∀ (ns : List Int) (p : Addr), ns.Pairwise (· < ·) → (∀ k : Int, k ∈ ns ↔ S k = true) → H p = none → Q (.ref p) (upd H p (.lst (ns.map V.int)))
theorem cr_sortedSetA (hc : X.calm = true) : CallR X (.builtin "sorted") (rSortedSetA X.w) := by
  intro pins s σ H vs us Q I r h
  obtain ⟨a, S, n, rfl, ha, q⟩ := h
  have R := setO_get I ha
  rw [Vals.ref1 r]
  have hn : n < scanBound := by
    obtain ⟨_, _, _, _, _, _, _, _, _, _, hb, _, hn, _⟩ := R
    omega
  refine sorted_set_any R (I.ok.hd hc) fun s' p out c ns k g o hp hg hi hs hm hl => ?_
  have hlen : (ns.map V.int).length ≤ sizeLine := by
    rw [List.length_map, hl, sizeLine_eq]
    exact Nat.le_trans (Nat.le_of_lt hn) (by decide)
  have hn : H p = none := I.hok.fresh hp
  have J : Inv X pins σ (upd H p (.lst (ns.map V.int))) { s with heap := s'.heap, gens := s'.gens, drawn := s'.drawn, toks := s'.toks } :=
    I.call (ch := []) (Un.laid k hp hn) (I.hok.laid k hp ⟨hlen, out.toList, c, vals_of_ints hi, hg⟩) (by rw [g]; exact I.bare) (fun _ z => nomatch z)
  have e : s' = { s with heap := s'.heap, gens := s'.gens, drawn := s'.drawn, toks := s'.toks } := by
    obtain ⟨h', g', d', t', o'⟩ := s'
    obtain ⟨h, g, d, t, o⟩ := s
    cases o
    rfl
  rw [e]
  exact ⟨.ref p, _, J, rfl, q ns p hs hm hn⟩
def dSSet (p : DE) : DE := fun ρ P R => p ρ (fun d => match d with
  | .lst ds => ∃ ns U : List Int, ds = ns.map .int ∧ (∀ k ∈ ns, k ∈ U) ∧ U.length + 1 < 4096 ∧ P (insD (sset ns))
  | _ => False) R
theorem bt_set : bootBuiltins "set" = some (.type "set") := by decide +kernel
theorem pd_sset {e : Expr} {p : DE} {p1 p2 pos2 : Pos} (nb1 : X.mg "sorted" = none) (nb2 : X.mg "set" = none) (he : PE X e (lift X.K C E p)) (hc : X.calm = true := by rfl) (hg1 : Gl X "sorted" := by rfl) (hg2 : Gl X "set" := by rfl)
    (hs1 : starEach [.Call (.Name "set" p2) [e] [] pos2] X.env = (false, eval (.Call (.Name "set" p2) [e] [] pos2) X.env) :: starEach [] X.env := by rfl) (hl1 : (backTo pos (starEach [] X.env)).any (·.1) = false := by rfl)
    (hs2 : starEach [e] X.env = (false, eval e X.env) :: starEach [] X.env := by rfl) (hl2 : (backTo pos2 (starEach [] X.env)).any (·.1) = false := by rfl) :
    PE X (.Call (.Name "sorted" p1) [.Call (.Name "set" p2) [e] [] pos2] [] pos) (lift X.K C E (dSSet p)) :=
  (pe_callB (cr_sortedSetA hc) hg1 nb1 bt_sorted (pa_cons (pe_callTy (cr_setL hc) hg2 nb2 bt_set (pa_cons he pa_nil hs2) (by decide) (by decide) hs2 hl2) pa_nil hs1) (by decide) (by decide) hs1 hl1).wk fun σ H Q q => by
    obtain ⟨B, O0, O, ρ, P, R, k, q, hP, hR⟩ := q
    refine ⟨B, O0, O, ρ, _, R, k, q, fun v d H1 s1 r1 q1 => ?_, hR⟩
    cases d with
    | lst ds =>
      obtain ⟨ns, U, rfl, hU, hb, q2⟩ := q1
      obtain ⟨a, vs, rfl, e1, e2⟩ := r1
      rw [RepL.of_ints e2] at e1
      refine ⟨a, ns, U, rfl, SqL.of (wo_some e1), hU, hb, fun p n hp => ?_⟩
      refine ⟨p, _, n, rfl, upd_same, fun ns' p' h1 h2 hp' => ?_⟩
      have e : ns' = sset ns := sset_is h1 fun n => by rw [h2]; simp
      subst e
      have s2 : Same H1 (upd H1 p (SetO X.w p (fun j => decide (j ∈ ns)) n)) := Same.new hp
      exact hP _ _ _ ((s1.trans s2).trans (Same.new hp')) (rep_new_lst hp' ((k.al.mono s1).mono s2) (RepL.ints _ (sset ns))) q2
    | _ => exact q1.elim
end
end L2.DL
/-! # Promises of the program's and the laws' defs, and lemmas for their readings -/
namespace L2.DL
open PySem PySem.Spec PyProof.Rows L2.SK

/-! ### sizes -/
theorem sz {n : Nat} (h : n ≤ 16000000) : n ≤ sizeLine := Nat.le_trans h (by rw [sizeLine_eq]; decide)
theorem szlt {n : Nat} (h : n ≤ 16000000) : n < sizeLine := Nat.lt_of_le_of_lt h (by rw [sizeLine_eq]; decide)
theorem mulL {i j : Int} (h1 : -(2 ^ 64) < i) (h2 : i < 2 ^ 64) : IntMulOk i j := .of_left (intBits_le_64 h1 h2)
theorem mulR {i j : Int} (h1 : -(2 ^ 64) < j) (h2 : j < 2 ^ 64) : IntMulOk i j := .of_right (intBits_le_64 h1 h2)
theorem atI_lt {α : Type} {xs : List α} {i : Int} (h0 : 0 ≤ i) (h1 : i < xs.length) : ∃ d, atI xs i = some d ∧ d ∈ xs := by
  have hl : i.toNat < xs.length := by omega
  refine ⟨xs[i.toNat], ?_, List.getElem_mem hl⟩
  unfold atI ixN
  rw [if_pos h0, if_pos h1]
  exact List.getElem?_eq_getElem hl
theorem atI_0 {α : Type} (x : α) (xs : List α) : atI (x :: xs) 0 = some x := by
  unfold atI ixN
  rw [if_pos (Int.le_refl 0), if_pos (by rw [List.length_cons]; omega)]
  rfl
theorem atI_1 {α : Type} (x y : α) (xs : List α) : atI (x :: y :: xs) 1 = some y := by
  unfold atI ixN
  rw [if_pos (by decide), if_pos (by rw [List.length_cons, List.length_cons]; omega)]
  rfl

/-! ### equality of data -/
theorem eqD_int (i j : Int) : eqD (.int i) (.int j) = decide (i = j) := by
  show (i == j) = _
  rw [Bool.beq_eq_decide_eq]
theorem eqD_bl (i j : Bool) : eqD (.bl i) (.bl j) = decide (i = j) := by
  show (i == j) = _
  rw [Bool.beq_eq_decide_eq]
mutual
/-- data of numbers, truths, None, lists and tuples -/
def plain : D → Bool
  | .non => true
  | .bl _ => true
  | .int _ => true
  | .lst ds => plains ds
  | .tup ds => plains ds
  | _ => false
def plains : List D → Bool
  | [] => true
  | d :: ds => plain d && plains ds
end
theorem plains_all : ∀ ds : List D, plains ds = ds.all plain
  | [] => rfl
  | d :: ds => by rw [plains, plains_all ds]; rfl
mutual
def dep : D → Nat
  | .lst ds => deps ds + 1
  | .tup ds => deps ds + 1
  | _ => 0
def deps : List D → Nat
  | [] => 0
  | d :: ds => max (dep d) (deps ds)
end
mutual
theorem plain_can : ∀ d : D, plain d = true → d.toPy.canLay0 = true ∧ d.toPy.depth = dep d
  | .non, _ => ⟨rfl, rfl⟩
  | .bl _, _ => ⟨rfl, rfl⟩
  | .int _, _ => ⟨rfl, rfl⟩
  | .lst ds, h => by
    obtain ⟨a, b⟩ := plains_can ds (by simpa [plain] using h)
    rw [D.toPy, dep, PyData.canLay0, PyData.depth, a, b]
    exact ⟨rfl, rfl⟩
  | .tup ds, h => by
    obtain ⟨a, b⟩ := plains_can ds (by simpa [plain] using h)
    rw [D.toPy, dep, PyData.canLay0, PyData.depth, a, b]
    exact ⟨rfl, rfl⟩
  | .str _, h => by cases h
  | .dic _ _, h => by cases h
  | .kp _ _, h => by cases h
  | .scr _, h => by cases h
  | .adr _, h => by cases h
  | .ty _, h => by cases h
theorem plains_can : ∀ ds : List D, plains ds = true → PyData.canLayAll0 (toPys ds) = true ∧ PyData.depthAll (toPys ds) = deps ds
  | [], _ => ⟨rfl, rfl⟩
  | d :: ds, h => by
    rw [plains, Bool.and_eq_true] at h
    obtain ⟨a, b⟩ := plain_can d h.1
    obtain ⟨a', b'⟩ := plains_can ds h.2
    rw [toPys, deps, PyData.canLayAll0, PyData.depthAll, a, a', b, b']
    exact ⟨rfl, rfl⟩
end
theorem okE_plain {d : D} (h : plain d = true) (hd : dep d ≤ 64) : okE d := by
  obtain ⟨a, b⟩ := plain_can d h
  unfold okE SeqAt.shaped
  rw [a, b, decide_eq_true hd]
  rfl
theorem okE_int (i : Int) : okE (.int i) := okE_plain rfl (Nat.zero_le _)
theorem okE_bl (b : Bool) : okE (.bl b) := okE_plain rfl (Nat.zero_le _)
theorem okE_non : okE .non := okE_plain rfl (Nat.zero_le _)
theorem plain_oi (o : Option Int) : plain (oi o) = true ∧ dep (oi o) = 0 := by cases o <;> exact ⟨rfl, rfl⟩
theorem plain_sD (s : Str2) : plain (sD s) = true ∧ dep (sD s) = 1 := by
  obtain ⟨a, c⟩ := s
  unfold sD
  rw [plain, plains, plains, plains, dep, deps, deps, deps, (plain_oi a).1, (plain_oi c).1, (plain_oi a).2, (plain_oi c).2]
  exact ⟨rfl, rfl⟩
theorem plains_sD : ∀ ss : List Str2, plains (ss.map sD) = true ∧ deps (ss.map sD) ≤ 1
  | [] => ⟨rfl, Nat.zero_le _⟩
  | s :: ss => by
    obtain ⟨a, b⟩ := plains_sD ss
    rw [List.map_cons, plains, deps, a, (plain_sD s).1, (plain_sD s).2]
    exact ⟨rfl, by omega⟩
theorem okE_ssD (ss : List Str2) : okE (ssD ss) := by
  obtain ⟨a, b⟩ := plains_sD ss
  refine okE_plain (by rw [ssD, plain]; exact a) ?_
  rw [ssD, dep]
  omega
theorem eqD_oi (a b : Option Int) : eqD (oi a) (oi b) = decide (a = b) := by
  cases a <;> cases b <;> simp [oi, eqD, D.toPy, PyData.eqv, Bool.beq_eq_decide_eq]
theorem eqD_sD (s t : Str2) : eqD (sD s) (sD t) = decide (s = t) := by
  obtain ⟨a, b⟩ := s
  obtain ⟨c, d⟩ := t
  have h1 := eqD_oi a c
  have h2 := eqD_oi b d
  unfold eqD at h1 h2 ⊢
  unfold sD
  simp only [D.toPy, toPys, PyData.eqv, PyData.eqvAll, h1, h2, Bool.and_true, Prod.mk.injEq, Bool.decide_and]
theorem eqAll_sD : ∀ ss tt : List Str2, PyData.eqvAll (toPys (ss.map sD)) (toPys (tt.map sD)) = decide (ss = tt)
  | [], [] => rfl
  | [], _ :: _ => rfl
  | _ :: _, [] => rfl
  | s :: ss, t :: tt => by
    have h1 := eqD_sD s t
    unfold eqD at h1
    rw [List.map_cons, List.map_cons, toPys, toPys, PyData.eqvAll, h1, eqAll_sD ss tt]
    simp only [List.cons.injEq, Bool.decide_and]
theorem eqD_ssD (ss tt : List Str2) : eqD (ssD ss) (ssD tt) = decide (ss = tt) := by
  unfold eqD ssD
  rw [D.toPy, D.toPy, PyData.eqv]
  exact eqAll_sD ss tt

/-! ### loops and comprehensions by what is left -/
theorem forD_ind {α : Type} {g : DG} {b : DS} {N : Env → Prop} {R : D → Prop} {Z : Addr → Prop} {enc : α → D} (S : List α → Env → Prop) (h0 : ∀ ρ, S [] ρ → N ρ)
    (hs : ∀ x xs ρ (k : Env → Prop), S (x :: xs) ρ → (∀ ρ', S xs ρ' → k ρ') → g (enc x) ρ (fun ρ' => b ρ' k R Z)) : ∀ xs ρ, S xs ρ → forD g b N R Z (xs.map enc) ρ
  | [], ρ, h => h0 ρ h
  | x :: xs, ρ, h => hs x xs ρ _ h fun ρ' h' => forD_ind S h0 hs xs ρ' h'
theorem lcD_map {α : Type} {g : DG} {t : DT} {p : DE} {ρ : Env} {enc : α → D} {f : α → Option D} : ∀ (xs : List α) {acc : List D} {P : List D → Prop},
    (∀ x ∈ xs, ∀ (k1 : D → Prop) (k2 : Prop), (match f x with | some y => k1 y | none => k2) → g (enc x) ρ (fun ρ2 => t ρ2 (fun b => if b = true then p ρ2 k1 (fun _ => False) else k2) (fun _ => False))) →
    P (acc ++ xs.filterMap f) → lcD g t p ρ P (xs.map enc) acc
  | [], acc, P, _, h => by
    rw [List.filterMap_nil, List.append_nil] at h
    exact h
  | x :: xs, acc, P, hs, h => by
    refine hs x List.mem_cons_self _ _ ?_
    cases e : f x with
    | none =>
      rw [List.filterMap_cons_none e] at h
      exact lcD_map xs (fun y hy => hs y (List.mem_cons_of_mem _ hy)) h
    | some y =>
      rw [List.filterMap_cons_some e] at h
      exact lcD_map xs (fun y hy => hs y (List.mem_cons_of_mem _ hy)) (by rw [List.append_assoc]; exact h)
theorem filterMap_some {α β : Type} (f : α → β) : ∀ xs : List α, xs.filterMap (fun x => some (f x)) = xs.map f
  | [] => rfl
  | x :: xs => by
    show f x :: xs.filterMap (fun x => some (f x)) = f x :: xs.map f
    rw [filterMap_some f xs]
/-! ### small words for the readings -/
theorem isN_non : D.isN .non = true := rfl
theorem isN_int (i : Int) : D.isN (.int i) = false := rfl
theorem isN_bl (i : Bool) : D.isN (.bl i) = false := rfl
theorem isN_str (i : Str) : D.isN (.str i) = false := rfl
theorem isN_lst (i : List D) : D.isN (.lst i) = false := rfl
theorem isN_tup (i : List D) : D.isN (.tup i) = false := rfl
theorem isN_oi (o : Option Int) : D.isN (oi o) = o.isNone := by cases o <;> rfl
theorem oi_none : oi none = .non := rfl
theorem oi_some (i : Int) : oi (some i) = .int i := rfl
theorem dec_tt : (true = true) = True := by simp
theorem dec_ff : (false = true) = False := by simp
/-! ### stretches.py -/
def isNum : D → Bool
  | .int _ => true
  | _ => false
def dp_is_number : DP := fun ds P _ => ∃ d, ds = [d] ∧ (tyD d).isSome = true ∧ P (.bl (isNum d))
def dp_need_number (bn : Addr) : DP := fun ds P R => ∃ d, ds = [d] ∧ (tyD d).isSome = true ∧ (isNum d = true → P .non) ∧ (isNum d = false → R bn)
theorem dp_is_number_eq {d : D} {P : D → Prop} {R : Addr → Prop} (h : (tyD d).isSome = true) : dp_is_number [d] P R = P (.bl (isNum d)) := propext
  ⟨fun ⟨e, he, _, p⟩ => by cases he; exact p, fun p => ⟨d, rfl, h, p⟩⟩
theorem end_cases (d : D) : d = .non ∨ (∃ i, d = .int i) ∨ (d.isN = false ∧ isNum d = false) := by
  cases d with
  | non => exact .inl rfl
  | int i => exact .inr (.inl ⟨i, rfl⟩)
  | _ => exact .inr (.inr ⟨rfl, rfl⟩)
/-- an end: None or a number -/
def isEnd : D → Bool
  | .int _ => true
  | .non => true
  | _ => false
theorem isEnd_no {d : D} (h : d.isN = false) (h' : isNum d = false) : isEnd d = false := by
  cases d <;> simp_all [isEnd, isNum, D.isN]
def leD : D → D → Bool
  | .int i, .int j => decide (i ≤ j)
  | _, _ => true
theorem isEnd_non : isEnd .non = true := rfl
theorem isEnd_int (i : Int) : isEnd (.int i) = true := rfl
theorem isNum_non : isNum .non = false := rfl
theorem isNum_int (i : Int) : isNum (.int i) = true := rfl
theorem leD_nx (d : D) : leD .non d = true := rfl
theorem leD_in (i : Int) : leD (.int i) .non = true := rfl
theorem leD_ii (i j : Int) : leD (.int i) (.int j) = decide (i ≤ j) := rfl
def isStr : D → Bool
  | .tup [a, b] => isEnd a && isEnd b && leD a b
  | _ => false
/-- a thing that may be asked -/
def okThing (d : D) : Prop := (tyD d).isSome = true ∧ ∀ ds, d = .tup ds → ∀ e ∈ ds, (tyD e).isSome = true
def dp_is_stretch : DP := fun ds P _ => ∃ d, ds = [d] ∧ okThing d ∧ P (.bl (isStr d))
def dp_need_stretch (bs : Addr) : DP := fun ds P R => ∃ d, ds = [d] ∧ okThing d ∧ (isStr d = true → P .non) ∧ (isStr d = false → R bs)
theorem isStr_sD (s : Str2) : isStr (sD s) = okS s := by
  obtain ⟨a, c⟩ := s
  cases a <;> cases c <;> rfl
theorem okThing_sD (s : Str2) : okThing (sD s) := by
  obtain ⟨a, c⟩ := s
  refine ⟨rfl, fun ds h e he => ?_⟩
  unfold sD at h
  cases h
  rcases List.mem_cons.mp he with rfl | he
  · cases a <;> rfl
  · rcases List.mem_cons.mp he with rfl | he
    · cases c <;> rfl
    · cases he

/-! ### keepers.py -/
def dp_rule (f : Bool → Bool → Bool) : DP := fun ds P _ => ∃ a b, ds = [.bl a, .bl b] ∧ P (.bl (f a b))
def f_either (a b : Bool) : Bool := a || b
def f_both (a b : Bool) : Bool := a && b
def f_alone (a b : Bool) : Bool := a && !b
def f_unlike (a b : Bool) : Bool := a != b
def sRow (s : Str2) (h : okS s = true) : KRow := ⟨s.1.isNone, turnsS s, turnsS_up h⟩
def dp_turns_of : DP := fun ds P _ => ∃ s, ds = [sD s] ∧ P (.tup [.bl s.1.isNone, insD (turnsS s)])
/-- two rows fit: their turns are few -/
def Few (r1 r2 : KRow) : Prop := ∃ U : List Int, (∀ k ∈ r1.ts, k ∈ U) ∧ (∀ k ∈ r2.ts, k ∈ U) ∧ U.length + 1 < 4096
theorem KRow.few {r1 r2 : KRow} (h : Few r1 r2) : r1.ts.length ≤ 4096 ∧ r2.ts.length ≤ 4096 := by
  obtain ⟨U, h1, h2, h3⟩ := h
  have a := nodup_few (r1.up.imp fun a => Int.ne_of_lt a) h1
  have b := nodup_few (r2.up.imp fun a => Int.ne_of_lt a) h2
  omega
def dp_merged (f : Bool → Bool → Bool) (fr : Addr) : DP := fun ds P _ => ∃ r1 r2, ds = [rowD r1, rowD r2, .adr fr] ∧ Few r1 r2 ∧ P (rowD (mergeR f r1 r2))
def dp_stretches : DP := fun ds P _ => ∃ r : KRow, ds = [kpD r] ∧ r.ts.length ≤ 1000000 ∧ P (ssD r.strs)
def df_stretches : List D → (List D → Prop) → Prop := fun ds P => ∃ r : KRow, ds = [kpD r] ∧ r.ts.length ≤ 1000000 ∧ P (r.strs.map sD)

/-! ### the laws' own -/
def dp_mixed : DP := fun ds P _ => ∃ c k, ds = [.int c, .int k] ∧ ∀ z : Int, 0 ≤ z → z < 1000003 → P (.int z)
def dp_whole : DP := fun ds P _ => ∃ d, ds = [d] ∧ (tyD d).isSome = true ∧ P (.bl (isNum d))
/-- the numbers of the laws -/
def Lim (z : Int) : Prop := -(10 ^ 480 + 10) ≤ z ∧ z ≤ 10 ^ 480 + 10
def LimO (o : Option Int) : Prop := ∀ z, o = some z → Lim z
def dp_number : DP := fun ds P _ => ∃ c k, ds = [.int c, .int k] ∧ ∀ z : Int, Lim z → P (.int z)
def dp_stretch : DP := fun ds P _ => ∃ c k, ds = [.int c, .int k] ∧ ∀ s : Str2, okS s = true → LimO s.1 → (∀ z, s.2 = some z → -(10 ^ 480 + 10) ≤ z ∧ z ≤ 10 ^ 480 + 20) → P (sD s)
def dp_lies : DP := fun ds P _ => ∃ s n, ds = [sD s, .int n] ∧ P (.bl (lies s n))
/-- the deed's lists are not too long -/
def lenD : Deed → Nat
  | .put ss => ss.length
  | .take ss => ss.length
  | .keep ss => ss.length
  | .turn ss => ss.length
  | _ => 0
def dp_behind : DP := fun ds P _ => ∃ d b n, ds = [dD d, .bl b, .int n] ∧ lenD d ≤ 1000000 ∧ P (.bl (behind d b n))
def dp_in : DP := fun ds P _ => ∃ dds n, ds = [dsD dds, .int n] ∧ dds.length ≤ 1000000 ∧ (∀ d ∈ dds, lenD d ≤ 1000000) ∧ P (.bl (inD dds n))
/-- deeds that can be done: their spots are few -/
structure Fit (dds : List Deed) : Prop where
  many : dds.length ≤ 1000000
  each : ∀ d ∈ dds, lenD d ≤ 1000000
  sp : (spots dds).length ≤ 1000000
  few : ∃ U : List Int, (∀ k ∈ spots dds, k ∈ U) ∧ U.length + 1 < 4096
def dp_spots : DP := fun ds P _ => ∃ dds, ds = [dsD dds] ∧ Fit dds ∧ P (insD (sset (spots dds)))
def dp_due : DP := fun ds P _ => ∃ dds, ds = [dsD dds] ∧ Fit dds ∧ P (ssD (due dds))
def dp_right : DP := fun ds P _ => ∃ ss tt, ds = [ssD ss, ssD tt] ∧ ss.length ≤ 1000000 ∧ P (.bl (decide (ss = tt)))
end L2.DL
namespace L2.DL
open PySem PySem.Spec PyProof.Rows L2.SK
theorem dp_mixed_eq {c k : Int} {P : D → Prop} {R : Addr → Prop} : dp_mixed [.int c, .int k] P R = ∀ z : Int, 0 ≤ z → z < 1000003 → P (.int z) := propext
  ⟨fun ⟨_, _, he, p⟩ => p, fun p => ⟨c, k, rfl, p⟩⟩
theorem dp_number_eq {c k : Int} {P : D → Prop} {R : Addr → Prop} : dp_number [.int c, .int k] P R = ∀ z : Int, Lim z → P (.int z) := propext
  ⟨fun ⟨_, _, he, p⟩ => p, fun p => ⟨c, k, rfl, p⟩⟩
theorem dp_whole_eq {d : D} {P : D → Prop} {R : Addr → Prop} (h : (tyD d).isSome = true) : dp_whole [d] P R = P (.bl (isNum d)) := propext
  ⟨fun ⟨e, he, _, p⟩ => by cases he; exact p, fun p => ⟨d, rfl, h, p⟩⟩
theorem sD_inj {s t : Str2} (h : sD s = sD t) : s = t := by
  obtain ⟨a, b⟩ := s
  obtain ⟨c, d⟩ := t
  unfold sD at h
  cases a <;> cases b <;> cases c <;> cases d <;> simp [oi] at h ⊢ <;> first | exact h | trivial
theorem dp_lies_eq {s : Str2} {n : Int} {P : D → Prop} {R : Addr → Prop} : dp_lies [.tup [oi s.1, oi s.2], .int n] P R = P (.bl (lies s n)) := propext
  ⟨fun ⟨t, m, he, p⟩ => by
    have h1 : D.tup [oi s.1, oi s.2] = sD t := (List.cons.inj he).1
    have h2 : D.int n = D.int m := (List.cons.inj (List.cons.inj he).2).1
    cases h2
    have := sD_inj (s := s) (t := t) h1
    subst this
    exact p, fun p => ⟨s, n, rfl, p⟩⟩
end L2.DL
namespace L2.DL
open PySem PySem.Spec PyProof.Rows L2.SK
theorem cpw_a : CPw 10 40 = True := eq_true ⟨by decide, by decide +kernel⟩
theorem cpw_b : CPw 10 60 = True := eq_true ⟨by decide, by decide +kernel⟩
theorem cpw_c : CPw 1000003 4 = True := eq_true ⟨by decide, by decide +kernel⟩
theorem cpw_d : CPw (10 ^ 60) 8 = True := eq_true ⟨by decide, by decide +kernel⟩
theorem pow_ok : (10 ^ 60 : Int) ^ 8 = 10 ^ 480 := by decide +kernel
theorem lt_t {i : Int} (h : 0 < i) : (0 < i) = True := eq_true h
theorem int_pos9 : ((0 : Int) < 9) = True := eq_true (by decide)
theorem law_mul1 (c : Int) : IntMulOk (c % 10 ^ 40) (1000003 ^ 4) := by
  have h1 := Int.emod_nonneg c (show (10 ^ 40 : Int) ≠ 0 by decide)
  have h2 := Int.emod_lt_of_pos c (show (0 : Int) < 10 ^ 40 by decide)
  refine (wide_mul (a := 140) (b := 90) ?_ (by decide +kernel) (by decide) (by decide) (by decide)).ok
  generalize c % 10 ^ 40 = y at h1 h2
  have : (2 ^ 140 : Nat) > 10 ^ 40 := by decide +kernel
  omega
/-- an index that is a remainder -/
theorem at_mod {xs : List D} {i m : Int} {P : D → Prop} (h0 : 0 < m) (h1 : m ≤ xs.length) (h : ∀ d ∈ xs, P d) : ∃ d, atI xs (i % m) = some d ∧ P d := by
  have a1 := Int.emod_nonneg i (show m ≠ 0 by omega)
  have a2 := Int.emod_lt_of_pos i h0
  obtain ⟨d, e, hd⟩ := atI_lt (xs := xs) a1 (by omega)
  exact ⟨d, e, h d hd⟩
end L2.DL
namespace L2.DL
open PySem PySem.Spec PyProof.Rows L2.SK
theorem plains_bls : ∀ bs : List Bool, plains (bs.map .bl) = true ∧ deps (bs.map .bl) = 0
  | [] => ⟨rfl, rfl⟩
  | b :: bs => by
    obtain ⟨h1, h2⟩ := plains_bls bs
    rw [List.map_cons, plains, deps, h1, h2]
    exact ⟨rfl, rfl⟩
theorem okE_bls (bs : List Bool) : okE (.lst (bs.map .bl)) := by
  obtain ⟨h1, h2⟩ := plains_bls bs
  exact okE_plain (by rw [plain]; exact h1) (by rw [dep, h2]; omega)
theorem any_bls (bs : List Bool) : ((bs.map D.bl).any fun z => eqD z (.bl true)) = bs.any id := by
  rw [List.any_map]
  congr 1
  funext b
  cases b <;> rfl
theorem wd_mm : ∀ w ∈ (["put", "take", "keep", "turn"] : List Str), ([D.str "move", D.str "mirror"].any fun z => eqD z (D.str w)) = false := by decide +kernel
theorem wd_nodup4 : ([.inr "put", .inr "take", .inr "keep", .inr "turn"] : List Key).Nodup := by decide +kernel
theorem wd_put {x1 x2 x3 x4 : D} : valD [.inr "put", .inr "take", .inr "keep", .inr "turn"] [x1, x2, x3, x4] (.inr "put") = some x1 := by
  simp only [valD, if_true]
theorem wd_take {x1 x2 x3 x4 : D} : valD [.inr "put", .inr "take", .inr "keep", .inr "turn"] [x1, x2, x3, x4] (.inr "take") = some x2 := by
  have e1 : ¬ ((.inr "put" : Key) = .inr "take") := by decide +kernel
  simp only [valD, if_true, if_neg e1]
theorem wd_keep {x1 x2 x3 x4 : D} : valD [.inr "put", .inr "take", .inr "keep", .inr "turn"] [x1, x2, x3, x4] (.inr "keep") = some x3 := by
  have e1 : ¬ ((.inr "put" : Key) = .inr "keep") := by decide +kernel
  have e2 : ¬ ((.inr "take" : Key) = .inr "keep") := by decide +kernel
  simp only [valD, if_true, if_neg e1, if_neg e2]
theorem wd_turn {x1 x2 x3 x4 : D} : valD [.inr "put", .inr "take", .inr "keep", .inr "turn"] [x1, x2, x3, x4] (.inr "turn") = some x4 := by
  have e1 : ¬ ((.inr "put" : Key) = .inr "turn") := by decide +kernel
  have e2 : ¬ ((.inr "take" : Key) = .inr "turn") := by decide +kernel
  have e3 : ¬ ((.inr "keep" : Key) = .inr "turn") := by decide +kernel
  simp only [valD, if_true, if_neg e1, if_neg e2, if_neg e3]
end L2.DL
namespace L2.SK
/-- the spots told on the way back, the last one left out -/
def path : List Deed → Int → List Int
  | [], _ => []
  | d :: rs, n => n :: path rs (back d n)
def later : List Deed → Int → List Int
  | [], _ => []
  | d :: rs, n => back d n :: later rs (back d n)
theorem path_later : ∀ (rs : List Deed) (n : Int), (n :: later rs n).dropLast = path rs n
  | [], _ => rfl
  | d :: rs, n => by
    rw [later, path, List.dropLast_cons₂, path_later rs]
theorem path_length : ∀ (rs : List Deed) (n : Int), (path rs n).length = rs.length
  | [], _ => rfl
  | d :: rs, n => by rw [path, List.length_cons, List.length_cons, path_length rs]
theorem path_fold : ∀ (rs : List Deed) (n : Int), (rs.reverse.zip (path rs n).reverse).foldl (fun b p => behind p.1 b p.2) false = inR rs n
  | [], _ => rfl
  | d :: rs, n => by
    rw [path, List.reverse_cons, List.reverse_cons, List.zip_append (by rw [List.length_reverse, List.length_reverse, path_length]), List.foldl_append, path_fold rs]
    rfl
def isMv : Deed → Bool
  | .move _ => true
  | _ => false
def isMi : Deed → Bool
  | .mirror => true
  | _ => false
end L2.SK
namespace L2.DL
open PySem PySem.Spec PyProof.Rows L2.SK
theorem word_mv : ∀ d : Deed, decide (word d = "move") = isMv d
  | .put _ => (by decide +kernel : decide (("put" : Str) = "move") = false)
  | .take _ => (by decide +kernel : decide (("take" : Str) = "move") = false)
  | .keep _ => (by decide +kernel : decide (("keep" : Str) = "move") = false)
  | .turn _ => (by decide +kernel : decide (("turn" : Str) = "move") = false)
  | .move _ => (by decide +kernel : decide (("move" : Str) = "move") = true)
  | .mirror => (by decide +kernel : decide (("mirror" : Str) = "move") = false)
theorem word_mi : ∀ d : Deed, decide (word d = "mirror") = isMi d
  | .put _ => (by decide +kernel : decide (("put" : Str) = "mirror") = false)
  | .take _ => (by decide +kernel : decide (("take" : Str) = "mirror") = false)
  | .keep _ => (by decide +kernel : decide (("keep" : Str) = "mirror") = false)
  | .turn _ => (by decide +kernel : decide (("turn" : Str) = "mirror") = false)
  | .move _ => (by decide +kernel : decide (("move" : Str) = "mirror") = false)
  | .mirror => (by decide +kernel : decide (("mirror" : Str) = "mirror") = true)
theorem cut_last (ds : List D) : cutD ds none (some (-1)) = ds.dropLast := by
  unfold cutD
  rw [List.dropLast_eq_take]
  cases ds with
  | nil => rfl
  | cons d ds =>
    have e : HT.sIx (d :: ds).length (d :: ds).length (some (-1)) = ds.length := by
      simp [HT.sIx]
      omega
    have e0 : HT.sIx (d :: ds).length 0 none = 0 := rfl
    rw [e, e0]
    simp
end L2.DL

namespace L2.SK
theorem spotsS_len (acc : List Int) (d : Deed) : acc.length ≤ (spotsS acc d).length := by
  cases d <;> simp [spotsS]
theorem spots_grow : ∀ (rest : List Deed) (acc : List Int), acc.length ≤ (rest.foldl spotsS acc).length
  | [], _ => Nat.le_refl _
  | d :: rest, acc => Nat.le_trans (spotsS_len acc d) (spots_grow rest _)
end L2.SK
/-! # Stateful readings: Keepers that change -/
namespace L2.DL
open PySem PySem.Spec PyProof.Rows

abbrev DEM := Env → (D → Env → Prop) → (Addr → Env → Prop) → Prop
abbrev DTM := Env → (Bool → Env → Prop) → (Addr → Env → Prop) → Prop
abbrev DSM := Env → (Env → Prop) → (D → Env → Prop) → (Addr → Env → Prop) → Prop
def liftM (K : PySem.W.Frag) (C : Addr) (E : XK) (p : DEM) : TE := fun σ H Q => ∃ B O0 O ρ P R, Ok K C B O0 O H σ ρ ∧ p ρ P R ∧
  (∀ v d H' ρ' O', Ok K C B O0 O' H' σ ρ' → Rep K C (wo H' O') d v → P d ρ' → Q v H') ∧ ∀ c H' σ' ρ' O', Ok K C B O0 O' H' σ' ρ' → R c ρ' → E (.ref c) none H'
def liftTM (K : PySem.W.Frag) (C : Addr) (E : XK) (p : DTM) : TT := fun σ H Q => ∃ B O0 O ρ P R, Ok K C B O0 O H σ ρ ∧ p ρ P R ∧
  (∀ b H' ρ' O', Ok K C B O0 O' H' σ ρ' → P b ρ' → Q b H') ∧ ∀ c H' σ' ρ' O', Ok K C B O0 O' H' σ' ρ' → R c ρ' → E (.ref c) none H'
def liftSM (K : PySem.W.Frag) (C : Addr) (E : XK) (p : DSM) : TS := fun T σ H => ∃ B O0 O ρ N R Z, Ok K C B O0 O H σ ρ ∧ p ρ N R Z ∧
  (∀ σ' H' ρ' O', Ok K C B O0 O' H' σ' ρ' → N ρ' → T.nx σ' H') ∧ (∀ v d H' σ' ρ' O', Ok K C B O0 O' H' σ' ρ' → Rep K C (wo H' O') d v → R d ρ' → T.rt v H') ∧ ∀ c H' σ' ρ' O', Ok K C B O0 O' H' σ' ρ' → Z c ρ' → E (.ref c) none H'

/-! ### the store -/
section
variable {K : PySem.W.Frag} {C : Addr} {B H H' : Hp} {O0 O : List Addr} {σ : St} {ρ : Env}
theorem Ok.apart0 (k : Ok K C B O0 O H σ ρ) {p : Addr} (hb : B p = none) : p ∉ O0 := fun h => k.al0 p h hb
/-- a slot comes to tell of a Keeper -/
theorem Ok.tell (k : Ok K C B O0 O H σ ρ) (j : Nat) {p l dx : Addr} {b : Bool} {ts : List Int} (hp : p ∈ O) (hb : B p = none) (h1 : H p = some (.ins C dx (kf b l))) (h2 : wo H O l = some (.lst (ts.map V.int)))
    (hn : ∀ (i : Nat) (b' : Bool) (ts' : List Int), ρ[i]? = some (some (.kst p b' ts')) → i = j) : Ok K C B O0 O H σ (ρ.set j (some (.kst p b ts))) := by
  have old : ∀ {i : Nat} {x : DV}, (ρ.set j (some (.kst p b ts)))[i]? = some (some x) → (i = j ∧ x = .kst p b ts) ∨ (i ≠ j ∧ ρ[i]? = some (some x)) := fun {i x} e => by
    by_cases h : j = i
    · subst h
      by_cases hl : j < ρ.length
      · rw [List.getElem?_set_self hl] at e
        exact .inl ⟨rfl, (Option.some.inj (Option.some.inj e)).symm⟩
      · rw [List.getElem?_eq_none (by rw [List.length_set]; omega)] at e
        cases e
    · rw [List.getElem?_set_ne h] at e
      exact .inr ⟨fun z => h z.symm, e⟩
  refine ⟨k.base, k.al0, k.al, k.sub0, k.new, by rw [List.length_set]; exact k.len, fun i d e => ?_, fun i ds e => ?_, fun a a' ds es e1 e2 e3 => ?_, ⟨fun i q b' ts' e => ?_, fun i i' q b1 b2 t1 t2 e1 e2 => ?_⟩, k.ls.to (set_ls fun _ _ h => by cases h) (fun _ _ _ _ _ _ h => h) (fun _ _ _ _ _ _ _ e => e) (Same.refl _) (fun _ _ h => h) fun a b' q ds' es e e' => by
      rcases old e' with ⟨_, z⟩ | ⟨_, e'⟩
      · cases z
      · exact k.ls.no a b' q ds' es e e', k.tb.to (set_tb fun _ _ h => by cases h) (fun _ _ _ h => h) (SameX.refl _) (fun _ _ h => h)⟩
  · rcases old e with ⟨_, z⟩ | ⟨_, e⟩
    · cases z
    · exact k.val i d e
  · rcases old e with ⟨_, z⟩ | ⟨_, e⟩
    · cases z
    · exact k.own i ds e
  · rcases old e1 with ⟨_, z⟩ | ⟨_, e1⟩
    · cases z
    · rcases old e2 with ⟨_, z⟩ | ⟨_, e2⟩
      · cases z
      · exact k.uniq a a' ds es e1 e2 e3
  · rcases old e with ⟨_, z⟩ | ⟨_, e⟩
    · cases z
      exact ⟨hp, hb, dx, l, h1, h2⟩
    · exact k.st.at_ i q b' ts' e
  · rcases old e1 with ⟨z1, z⟩ | ⟨n1, e1⟩
    · cases z
      rcases old e2 with ⟨z2, _⟩ | ⟨n2, e2⟩
      · rw [z1, z2]
      · exact absurd (hn _ _ _ e2) n2
    · rcases old e2 with ⟨z2, z⟩ | ⟨n2, e2⟩
      · cases z
        exact absurd (hn _ _ _ e1) n1
      · exact k.st.one i i' q b1 b2 t1 t2 e1 e2
/-- the Keeper that slot j tells of changes -/
theorem Ok.mut (k : Ok K C B O0 O H σ ρ) {j : Nat} {p l dx : Addr} {b b' : Bool} {ts ts' : List Int} (hj : ρ[j]? = some (some (.kst p b ts))) (s : Same (wo H [p]) H') (h1 : H' p = some (.ins C dx (kf b' l))) (h2 : wo H' O l = some (.lst (ts'.map V.int))) :
    Ok K C B O0 O H' σ (ρ.set j (some (.kst p b' ts'))) := by
  obtain ⟨hp, hb, dx0, l0, h3, h4⟩ := k.st.at_ j p b ts hj
  have s1 : ∀ q o, q ≠ p → H q = some o → H' q = some o := fun q o n e => s q o (wo_of e (by simpa using n))
  have sw : Same (wo H O) (wo H' O) := fun q o e => by
    have nO : q ∉ O := fun z => by
      unfold wo at e
      rw [if_pos z] at e
      cases e
    exact wo_of (s1 q o (fun z => nO (z ▸ hp)) (wo_some e)) nO
  have k1 : Ok K C B O0 O H' σ (ρ.set j none) := by
    have old : ∀ {i : Nat} {x : DV}, (ρ.set j none)[i]? = some (some x) → ρ[i]? = some (some x) ∧ j ≠ i := fun {i x} e => by
      by_cases h : j = i
      · subst h
        by_cases hl : j < ρ.length
        · rw [List.getElem?_set_self hl] at e
          simp at e
        · rw [List.getElem?_eq_none (by rw [List.length_set]; omega)] at e
          cases e
      · rw [List.getElem?_set_ne h] at e
        exact ⟨e, h⟩
    refine ⟨fun q o e => s1 q o (fun z => by rw [z, hb] at e; cases e) (k.base q o e), k.al0, fun a ha => ?_, k.sub0, k.new, by rw [List.length_set]; exact k.len, fun i d e => ?_, fun i ds e => ?_, fun a a' ds es e1 e2 e3 => ?_, ⟨fun i q c cs e => ?_, fun i i' q b1 b2 t1 t2 e1 e2 => ?_⟩, k.ls.to (set_ls fun _ _ h => by cases h) (fun _ _ _ _ _ _ h => h) (fun m a ds' vs' z _ _ e => s1 a _ (fun q => by rw [q, h3] at e; cases e) e) sw (fun _ _ h => h) fun a b' q ds' es e e' => k.ls.no a b' q ds' es e (old e').1, k.tb.to (set_tb fun _ _ h => by cases h) (fun _ _ _ h => h) (fun a o e _ n2 => s1 a o (fun z => by rw [z, h3] at e; cases e; exact n2 _ _ _ rfl) e) (fun _ _ h => h)⟩
    · by_cases z : a = p
      · rw [z, h1]; intro y; cases y
      · obtain ⟨o, ho⟩ := Option.ne_none_iff_exists'.mp (k.al a ha)
        rw [s1 a o z ho]; intro y; cases y
    · obtain ⟨x, e1, e2⟩ := k.val i d (old e).1
      exact ⟨x, e1, Rep.mono sw d e2⟩
    · obtain ⟨q, vs, e1, e2, e3, e4, e5⟩ := k.own i ds (old e).1
      exact ⟨q, vs, e1, e2, e3, s1 q _ (fun z => by rw [z, h3] at e4; cases e4) e4, RepL.mono sw ds e5⟩
    · exact k.uniq a a' ds es (old e1).1 (old e2).1 e3
    · obtain ⟨e, n⟩ := old e
      obtain ⟨a1, a2, dx1, l1, a3, a4⟩ := k.st.at_ i q c cs e
      exact ⟨a1, a2, dx1, l1, s1 q _ (fun z => n (k.st.one j i p b c ts cs hj (z ▸ e))) a3, sw _ _ a4⟩
    · exact k.st.one i i' q b1 b2 t1 t2 (old e1).1 (old e2).1
  have k2 := k1.tell j hp hb h1 h2 (fun i b1 t1 e => by
    by_cases h : j = i
    · exact h.symm
    · rw [List.getElem?_set_ne h] at e
      exact absurd (k.st.one j i p b b1 ts t1 hj e) h)
  rwa [List.set_set] at k2
/-- data in which no Keeper stands -/
def D.free : D → Prop
  | .lst ds => ∀ d ∈ ds, d.free
  | .tup ds => ∀ d ∈ ds, d.free
  | .dic _ ds => ∀ d ∈ ds, d.free
  | .kp _ _ => False
  | .scr _ => False
  | _ => True
mutual
theorem Rep.over {H1 H2 : Hp} (hs : ∀ a o, H1 a = some o → (∀ c dx fs, o ≠ .ins c dx fs) → H2 a = some o) : ∀ (d : D) {v : V}, d.free → Rep K C H1 d v → Rep K C H2 d v
  | .non, _, _, h => h
  | .bl _, _, _, h => h
  | .int _, _, _, h => h
  | .str _, _, _, h => h
  | .adr _, _, _, h => h
  | .ty _, _, _, h => h
  | .lst ds, v, f, h => by
    obtain ⟨a, vs, e, h1, h2⟩ := h
    rw [D.free] at f
    exact ⟨a, vs, e, hs _ _ h1 (fun _ _ _ z => by cases z), RepL.over hs ds f h2⟩
  | .tup ds, v, f, h => by
    obtain ⟨a, vs, e, h1, h2⟩ := h
    rw [D.free] at f
    exact ⟨a, vs, e, hs _ _ h1 (fun _ _ _ z => by cases z), RepL.over hs ds f h2⟩
  | .dic ks ds, v, f, h => by
    obtain ⟨a, vs, e, h1, h2, h3⟩ := h
    rw [D.free] at f
    exact ⟨a, vs, e, hs _ _ h1 (fun _ _ _ z => by cases z), RepL.over hs ds f h2, h3⟩
  | .kp b ts, v, f, h => by rw [D.free] at f; exact f.elim
  | .scr ns, v, f, h => by rw [D.free] at f; exact f.elim
  | .exc c, v, f, h => by
    obtain ⟨a, e, h1⟩ := h
    exact ⟨a, e, hs _ _ h1 (fun _ _ _ z => by cases z)⟩
theorem RepL.over {H1 H2 : Hp} (hs : ∀ a o, H1 a = some o → (∀ c dx fs, o ≠ .ins c dx fs) → H2 a = some o) : ∀ (ds : List D) {vs : List V}, (∀ d ∈ ds, d.free) → RepL K C H1 ds vs → RepL K C H2 ds vs
  | [], _, _, h => h
  | d :: ds, vs, f, h => by
    obtain ⟨v, r, e, h1, h2⟩ := h
    exact ⟨v, r, e, Rep.over hs d (f d List.mem_cons_self) h1, RepL.over hs ds (fun x hx => f x (List.mem_cons_of_mem _ hx)) h2⟩
end
def less1 (O : List Addr) (p : Addr) : List Addr := O.filter fun a => decide (a ≠ p)
theorem less1_sub {O : List Addr} {p a : Addr} (h : a ∈ less1 O p) : a ∈ O := (List.mem_filter.mp h).1
theorem less1_ne {O : List Addr} {p : Addr} : p ∉ less1 O p := fun h => by simpa using (List.mem_filter.mp h).2
theorem less1_mem {O : List Addr} {p a : Addr} (h : a ∈ O) (n : a ≠ p) : a ∈ less1 O p := List.mem_filter.mpr ⟨h, decide_eq_true n⟩
theorem Rep.back {p dx : Addr} {fs : List (Str × V)} {d : D} {v : V} (h : H p = some (.ins C dx fs)) (f : d.free) (r : Rep K C (wo H (less1 O p)) d v) : Rep K C (wo H O) d v :=
  Rep.over (fun a o e n => wo_of (wo_some e) fun z => by
    by_cases q : a = p
    · subst q
      have := wo_some e
      rw [h] at this
      exact n _ _ _ (Option.some.inj this).symm
    · unfold wo at e
      rw [if_pos (less1_mem z q)] at e
      cases e) d f r
/-- the Keeper of slot i, told of in slot j, as a value -/
theorem Ok.lend (k : Ok K C B O0 O H σ ρ) {i j : Nat} {p : Addr} {b : Bool} {ts : List Int} (hi : ρ[i]? = some (some (.v (.adr p)))) (hj : ρ[j]? = some (some (.kst p b ts))) :
    Ok K C B O0 (less1 O p) H σ ((ρ.set i (some (.v (.kp b ts)))).set j none) := by
  obtain ⟨hp, hb, dx, l, h1, h2⟩ := k.st.at_ j p b ts hj
  have ij : i ≠ j := fun z => by rw [z, hj] at hi; cases hi
  have jl : j < ρ.length := by
    rcases Nat.lt_or_ge j ρ.length with h | h
    · exact h
    · rw [List.getElem?_eq_none h] at hj; cases hj
  have sw : Same (wo H O) (wo H (less1 O p)) := wo_sub H fun a ha => less1_sub ha
  have old : ∀ {m : Nat} {x : DV}, ((ρ.set i (some (.v (.kp b ts)))).set j none)[m]? = some (some x) → (m = i ∧ x = .v (.kp b ts)) ∨ (ρ[m]? = some (some x) ∧ m ≠ j ∧ m ≠ i) := fun {m x} e => by
    by_cases h : j = m
    · subst h
      rw [List.getElem?_set_self (by rw [List.length_set]; exact jl)] at e
      simp at e
    · rw [List.getElem?_set_ne h] at e
      by_cases h' : i = m
      · subst h'
        by_cases hl : i < ρ.length
        · rw [List.getElem?_set_self hl] at e
          exact .inl ⟨rfl, (Option.some.inj (Option.some.inj e)).symm⟩
        · rw [List.getElem?_eq_none (by rw [List.length_set]; omega)] at e
          cases e
      · rw [List.getElem?_set_ne h'] at e
        exact .inr ⟨e, fun z => h z.symm, fun z => h' z.symm⟩
  obtain ⟨y, e1, e2⟩ := k.val i _ hi
  have ey : y = V.ref p := e2
  subst ey
  refine ⟨k.base, k.al0, fun a ha => k.al a (less1_sub ha), fun a ha => less1_mem (k.sub0 a ha) fun z => k.apart0 hb (z ▸ ha), fun a ha n => k.new a (less1_sub ha) n, by rw [List.length_set, List.length_set]; exact k.len, fun m d e => ?_, fun m ds e => ?_, fun a a' ds es e1 e2 e3 => ?_, ⟨fun m q c cs e => ?_, fun m m' q b1 b2 t1 t2 e1 e2 => ?_⟩, ?_, k.tb.to (fun m P q e => ?_) (fun P ps e h => less1_mem h fun z => by rw [z, h1] at e; cases e) (SameX.refl _) (fun _ _ h => h)⟩
  rotate_right
  · rcases old e with ⟨_, z⟩ | ⟨e, _, _⟩
    · cases z
    · exact e
  rotate_right
  · refine k.ls.to (fun m q ds' e => ?_) (fun m q ds' vs' z e h => less1_mem h fun y => by rw [y, h1] at e; cases e) (fun _ _ _ _ _ _ _ e => e) sw (fun _ _ h => h) fun a b' q ds' es e e' => ?_
    · rcases old e with ⟨_, z⟩ | ⟨e, _, _⟩
      · cases z
      · exact e
    · rcases old e' with ⟨_, z⟩ | ⟨e', _, _⟩
      · cases z
      · exact k.ls.no a b' q ds' es e e'
  · rcases old e with ⟨rfl, z⟩ | ⟨e, _, _⟩
    · cases z
      exact ⟨.ref p, e1, p, dx, l, rfl, wo_of h1 less1_ne, sw _ _ h2⟩
    · obtain ⟨x, a1, a2⟩ := k.val m d e
      exact ⟨x, a1, Rep.mono sw d a2⟩
  · rcases old e with ⟨_, z⟩ | ⟨e, _, _⟩
    · cases z
    · obtain ⟨q, vs, a1, a2, a3, a4, a5⟩ := k.own m ds e
      exact ⟨q, vs, a1, less1_mem a2 (fun z => by rw [z, h1] at a4; cases a4), a3, a4, RepL.mono sw ds a5⟩
  · rcases old e1 with ⟨_, z⟩ | ⟨e1, _, _⟩
    · cases z
    · rcases old e2 with ⟨_, z⟩ | ⟨e2, _, _⟩
      · cases z
      · exact k.uniq a a' ds es e1 e2 e3
  · rcases old e with ⟨_, z⟩ | ⟨e, n, _⟩
    · cases z
    · obtain ⟨a1, a2, dx1, l1, a3, a4⟩ := k.st.at_ m q c cs e
      exact ⟨less1_mem a1 fun z => n (k.st.one m j p c b cs ts (z ▸ e) hj), a2, dx1, l1, a3, sw _ _ a4⟩
  · rcases old e1 with ⟨_, z⟩ | ⟨e1, _, _⟩
    · cases z
    · rcases old e2 with ⟨_, z⟩ | ⟨e2, _, _⟩
      · cases z
      · exact k.st.one m m' q b1 b2 t1 t2 e1 e2
end

section
variable {X : Cx} {C : Addr} {E : XK} {pos : Pos} {a b e : Expr}
/-! ### lending -/
def dLend (i j : Nat) (p : DE) : DE := fun ρ P R => match ρ[i]?, ρ[j]? with
  | some (some (.v (.adr a))), some (some (.kst q b ts)) => a = q ∧ p ((ρ.set i (some (.v (.kp b ts)))).set j none) (fun d => d.free ∧ P d) R
  | _, _ => False
theorem pd_lend {p : DE} (i j : Nat) (h : PE X e (lift X.K C E p)) : PE X e (lift X.K C E (dLend i j p)) := h.wk fun σ H Q q => by
  obtain ⟨B, O0, O, ρ, P, R, k, q, hP, hR⟩ := q
  unfold dLend at q
  split at q
  · rename_i a q' b ts hi hj
    obtain ⟨rfl, q⟩ := q
    obtain ⟨_, _, dx, l, h1, _⟩ := k.st.at_ j a b ts hj
    exact ⟨B, O0, _, _, _, R, k.lend hi hj, q, fun v d H' s' r p => hP v d H' s' (Rep.back (s' _ _ h1) p.1 r) p.2, hR⟩
  · exact q.elim
def dLendT (i j : Nat) (t : DT) : DT := fun ρ P R => match ρ[i]?, ρ[j]? with
  | some (some (.v (.adr a))), some (some (.kst q b ts)) => a = q ∧ t ((ρ.set i (some (.v (.kp b ts)))).set j none) P R
  | _, _ => False
theorem qd_lend {t : DT} (i j : Nat) (h : PT X e (liftT X.K C E t)) : PT X e (liftT X.K C E (dLendT i j t)) := h.wk fun σ H Q q => by
  obtain ⟨B, O0, O, ρ, P, R, k, q, hP, hR⟩ := q
  unfold dLendT at q
  split at q
  · rename_i a q' b ts hi hj
    obtain ⟨rfl, q⟩ := q
    exact ⟨B, O0, _, _, _, R, k.lend hi hj, q, hP, hR⟩
  · exact q.elim
/-- from here on the Keeper is a value like any other -/
def dFrzK (i j : Nat) (p : DS) : DS := fun ρ N R Z => match ρ[i]?, ρ[j]? with
  | some (some (.v (.adr a))), some (some (.kst q b ts)) => a = q ∧ p ((ρ.set i (some (.v (.kp b ts)))).set j none) N R Z
  | _, _ => False
theorem sd_frzK {st : List Stmt} {p : DS} (i j : Nat) (h : PSs X st (liftS X.K C E p)) : PSs X st (liftS X.K C E (dFrzK i j p)) := h.wk fun T σ H q => by
  obtain ⟨B, O0, O, ρ, N, R, Z, k, q, hN, hR, hZ⟩ := q
  unfold dFrzK at q
  split at q
  · rename_i a q' b ts hi hj
    obtain ⟨rfl, q⟩ := q
    exact ⟨B, O0, _, _, N, R, Z, k.lend hi hj, q, hN, hR, hZ⟩
  · exact q.elim

/-! ### stateful expressions -/
def dOf (p : DE) : DEM := fun ρ P R => p ρ (fun d => P d ρ) (fun c => R c ρ)
theorem pm_of {p : DE} (h : PE X e (lift X.K C E p)) : PE X e (liftM X.K C E (dOf p)) := h.wk fun σ H Q q => by
  obtain ⟨B, O0, O, ρ, P, R, k, q, hP, hR⟩ := q
  exact ⟨B, O0, O, ρ, _, _, k, q, fun v d H' s' r p => hP v d H' ρ O (k.ext s') r p, fun c H' s' z => hR c H' σ ρ O (k.ext s') z⟩
def dOfT (p : DT) : DTM := fun ρ P R => p ρ (fun d => P d ρ) (fun c => R c ρ)
theorem qm_of {p : DT} (h : PT X e (liftT X.K C E p)) : PT X e (liftTM X.K C E (dOfT p)) := h.wk fun σ H Q q => by
  obtain ⟨B, O0, O, ρ, P, R, k, q, hP, hR⟩ := q
  exact ⟨B, O0, O, ρ, _, _, k, q, fun b H' s' p => hP b H' ρ O (k.ext s') p, fun c H' s' z => hR c H' σ ρ O (k.ext s') z⟩
/-- e is None -/
def dIsN (p : DEM) : DEM := fun ρ P R => p ρ (fun d ρ' => P (.bl d.isN) ρ') R
def dNotN (p : DEM) : DEM := fun ρ P R => p ρ (fun d ρ' => P (.bl (!d.isN)) ρ') R
theorem pm_isN {p : DEM} {j : Nat} {p2 : Pos} (h : PE X e (liftM X.K C E p)) : PE X (.Compare e [.Is] [.Constant .none j p2] pos) (liftM X.K C E (dIsN p)) := (pe_cmpR op_isN h pe_non (nomark _)).wk fun σ H Q q => by
  obtain ⟨B, O0, O, ρ, P, R, k, q, hP, hR⟩ := q
  exact ⟨B, O0, O, ρ, _, R, k, q, fun v d H' ρ' O' k' r p => ⟨rfl, by rw [isN_rep r]; exact hP (.bl d.isN) (.bl d.isN) H' ρ' O' k' rfl p⟩, hR⟩
theorem pm_notN {p : DEM} {j : Nat} {p2 : Pos} (h : PE X e (liftM X.K C E p)) : PE X (.Compare e [.IsNot] [.Constant .none j p2] pos) (liftM X.K C E (dNotN p)) := (pe_cmpR op_notN h pe_non (nomark _)).wk fun σ H Q q => by
  obtain ⟨B, O0, O, ρ, P, R, k, q, hP, hR⟩ := q
  exact ⟨B, O0, O, ρ, _, R, k, q, fun v d H' ρ' O' k' r p => ⟨rfl, by rw [isN_rep r]; exact hP (.bl (!d.isN)) (.bl (!d.isN)) H' ρ' O' k' rfl p⟩, hR⟩
theorem qm_notN {p : DEM} {j : Nat} {p2 : Pos} (h : PE X e (liftM X.K C E p)) : PT X (.Compare e [.IsNot] [.Constant .none j p2] pos) (liftTM X.K C E fun ρ P R => p ρ (fun d ρ' => P (!d.isN) ρ') R) := (pt_cmpR op_notN h pe_non (nomark _)).wk fun σ H Q q => by
  obtain ⟨B, O0, O, ρ, P, R, k, q, hP, hR⟩ := q
  exact ⟨B, O0, O, ρ, _, R, k, q, fun v d H' ρ' O' k' r p => ⟨rfl, !d.isN, by rw [isN_rep r], hP (!d.isN) H' ρ' O' k' p⟩, hR⟩
def dIfM (t : DT) (pa pb : DEM) : DEM := fun ρ P R => t ρ (fun b => if b = true then pa ρ P R else pb ρ P R) (fun c => R c ρ)
theorem pm_if {c : Expr} {t : DT} {pa pb : DEM} (hc : PT X c (liftT X.K C E t)) (ha : PE X a (liftM X.K C E pa)) (hb : PE X b (liftM X.K C E pb)) : PE X (.IfExp c a b pos) (liftM X.K C E (dIfM t pa pb)) :=
  (pe_ifExp hc ha hb).wk fun σ H Q q => by
    obtain ⟨B, O0, O, ρ, P, R, k, q, hP, hR⟩ := q
    refine ⟨B, O0, O, ρ, _, _, k, q, fun c H' s' p => ?_, fun c H' s' z => hR c H' σ ρ O (k.ext s') z⟩
    cases c with
    | true =>
      simp only [if_true] at p ⊢
      exact ⟨B, O0, O, ρ, P, R, k.ext s', p, hP, hR⟩
    | false =>
      simp only [Bool.false_eq_true, if_false] at p ⊢
      exact ⟨B, O0, O, ρ, P, R, k.ext s', p, hP, hR⟩
def dTruM (p : DEM) : DTM := fun ρ P R => p ρ (fun d ρ' => match d with | .bl b => P b ρ' | _ => False) R
theorem qm_val {p : DEM} (h : PE X e (liftM X.K C E p)) (he : ∀ whole, isTrue e X.env whole = (do let v ← whole; standAt e.pos; holding [v] (truthy v)) := by intro _; rfl) : PT X e (liftTM X.K C E (dTruM p)) := (pt_val h he).wk fun σ H Q q => by
  obtain ⟨B, O0, O, ρ, P, R, k, q, hP, hR⟩ := q
  refine ⟨B, O0, O, ρ, _, R, k, q, fun v d H' ρ' O' k' r p => ?_, hR⟩
  cases d with
  | bl b => exact ⟨b, r, hP b H' ρ' O' k' p⟩
  | _ => exact p.elim
def dNotM (t : DTM) : DTM := fun ρ P R => t ρ (fun b => P (!b)) R
theorem qm_not {t : DTM} (h : PT X e (liftTM X.K C E t)) : PT X (.UnaryOp .Not e pos) (liftTM X.K C E (dNotM t)) := (pt_not h).wk fun σ H Q q => by
  obtain ⟨B, O0, O, ρ, P, R, k, q, hP, hR⟩ := q
  exact ⟨B, O0, O, ρ, _, R, k, q, fun b H' ρ' O' k' p => hP (!b) H' ρ' O' k' p, hR⟩
def dOrM (t u : DTM) : DTM := fun ρ P R => t ρ (fun b ρ' => if b = true then P true ρ' else u ρ' P R) R
def dAndM (t u : DTM) : DTM := fun ρ P R => t ρ (fun b ρ' => if b = true then u ρ' P R else P false ρ') R
theorem wm_or1 {t : DTM} (h : PT X e (liftTM X.K C E t)) : PW X (.BoolOp .Or [e] pos) (liftTM X.K C E t) := pw_or1 h
theorem wm_and1 {t : DTM} (h : PT X e (liftTM X.K C E t)) : PW X (.BoolOp .And [e] pos) (liftTM X.K C E t) := pw_and1 h
theorem wm_or {rest : List Expr} {t u : DTM} (ha : PT X a (liftTM X.K C E t)) (hb : PW X (.BoolOp .Or (b :: rest) pos) (liftTM X.K C E u)) : PW X (.BoolOp .Or (a :: b :: rest) pos) (liftTM X.K C E (dOrM t u)) := (pw_or ha hb).wk fun σ H Q q => by
  obtain ⟨B, O0, O, ρ, P, R, k, q, hP, hR⟩ := q
  refine ⟨B, O0, O, ρ, _, R, k, q, fun b H' ρ' O' k' p => ?_, hR⟩
  cases b with
  | true =>
    rw [if_pos rfl] at p ⊢
    exact hP true H' ρ' O' k' p
  | false =>
    rw [if_neg Bool.false_ne_true] at p ⊢
    exact ⟨B, O0, O', ρ', P, R, k', p, hP, hR⟩
theorem wm_and {rest : List Expr} {t u : DTM} (ha : PT X a (liftTM X.K C E t)) (hb : PW X (.BoolOp .And (b :: rest) pos) (liftTM X.K C E u)) : PW X (.BoolOp .And (a :: b :: rest) pos) (liftTM X.K C E (dAndM t u)) := (pw_and ha hb).wk fun σ H Q q => by
  obtain ⟨B, O0, O, ρ, P, R, k, q, hP, hR⟩ := q
  refine ⟨B, O0, O, ρ, _, R, k, q, fun b H' ρ' O' k' p => ?_, hR⟩
  cases b with
  | true =>
    rw [if_pos rfl] at p ⊢
    exact ⟨B, O0, O', ρ', P, R, k', p, hP, hR⟩
  | false =>
    rw [if_neg Bool.false_ne_true] at p ⊢
    exact hP false H' ρ' O' k' p

/-! ### defs that change a Keeper -/
/-- the promise: what the Keeper holds, the other arguments; what it holds behind, the result -/
abbrev DM := Bool → List Int → List D → (Bool → List Int → D → Prop) → (Addr → Bool → List Int → Prop) → Prop
def spM (K : PySem.W.Frag) (C : Addr) (t : DM) : Sp := fun vs H Q E => ∃ O p vs' ds b ts dx l P R, vs = .ref p :: vs' ∧ p ∈ O ∧ Al O H ∧ RepL K C (wo H O) ds vs' ∧ H p = some (.ins C dx (kf b l)) ∧ wo H O l = some (.lst (ts.map V.int)) ∧ t b ts ds P R ∧
  (∀ v d H' b' ts' l' dx', Same (wo H [p]) H' → H' p = some (.ins C dx' (kf b' l')) → wo H' O l' = some (.lst (ts'.map V.int)) → Rep K C (wo H' O) d v → P b' ts' d → Q v H') ∧
  ∀ c H' b' ts' l' dx', Same (wo H [p]) H' → H' p = some (.ins C dx' (kf b' l')) → wo H' O l' = some (.lst (ts'.map V.int)) → R c b' ts' → E (.ref c) none H'
/-- what is left when the Keeper d, told of in slot j, is handed to t -/
def mutQ (j : Nat) (t : DM) (ds : List D) (P : D → Env → Prop) (R : Addr → Env → Prop) (ρ : Env) : D → Prop
  | .adr a => match ρ[j]? with
    | some (some (.kst p b ts)) => a = p ∧ t b ts ds (fun b' ts' d => P d (ρ.set j (some (.kst p b' ts')))) (fun c b' ts' => R c (ρ.set j (some (.kst p b' ts'))))
    | _ => False
  | _ => False
def recv (j : Nat) (ρ : Env) : D → Prop
  | .adr a => match ρ[j]? with
    | some (some (.kst p _ _)) => a = p
    | _ => False
  | _ => False
def dMut (j : Nat) (t : DM) (e : DE) (q : DA) : DEM := fun ρ P R => e ρ (fun x => q ρ (fun ds => mutQ j t ds P R ρ x) (fun c => R c ρ)) (fun c => R c ρ)
def dMutM (j : Nat) (t : DM) (e : DE) (q : DA) : DEM := fun ρ P R => e ρ (fun x => recv j ρ x ∧ q ρ (fun ds => mutQ j t ds P R ρ x) (fun c => R c ρ)) (fun c => R c ρ)
theorem recv_at {K : PySem.W.Frag} {B : Hp} {O0 O : List Addr} {σ : St} {ρ : Env} {H : Hp} {j : Nat} {x : V} {d : D} (k : Ok K C B O0 O H σ ρ) (rx : Rep K C (wo H O) d x) (q : recv j ρ d) : ∃ p dx b l, x = .ref p ∧ H p = some (.ins C dx (kf b l)) := by
  cases d with
  | adr a =>
    simp only [recv] at q
    split at q
    · rename_i p b ts hj
      subst q
      obtain ⟨_, _, dx, l, h3, _⟩ := k.st.at_ j _ b ts hj
      exact ⟨_, dx, b, l, rx, h3⟩
    · exact q.elim
  | _ => exact q.elim
theorem mut_call {K : PySem.W.Frag} {B : Hp} {O0 O : List Addr} {σ : St} {ρ : Env} {H : Hp} {Q : VK} {P : D → Env → Prop} {R : Addr → Env → Prop} {t : DM} {j : Nat} {x : V} {d : D} {vs : List V} {ds : List D} (k : Ok K C B O0 O H σ ρ) (rx : Rep K C (wo H O) d x) (rs : RepL K C (wo H O) ds vs)
    (q : mutQ j t ds P R ρ d) (hP : ∀ v d H' ρ' O', Ok K C B O0 O' H' σ ρ' → Rep K C (wo H' O') d v → P d ρ' → Q v H') (hR : ∀ c H' σ' ρ' O', Ok K C B O0 O' H' σ' ρ' → R c ρ' → E (.ref c) none H') :
    spM K C t (x :: vs) H Q E := by
  cases d with
  | adr a =>
    simp only [mutQ] at q
    split at q
    · rename_i p b ts hj
      obtain ⟨rfl, q⟩ := q
      have ex : x = V.ref a := rx
      subst ex
      obtain ⟨h1, h2, dx, l, h3, h4⟩ := k.st.at_ j a b ts hj
      refine ⟨O, a, vs, ds, b, ts, dx, l, _, _, rfl, h1, k.al, rs, h3, h4, q, fun v d H' b' ts' l' dx' s' e1 e2 r p => ?_, fun c H' b' ts' l' dx' s' e1 e2 p => ?_⟩
      · exact hP v d H' _ O (k.mut hj s' e1 e2) r p
      · exact hR c H' σ _ O (k.mut hj s' e1 e2) p
    · exact q.elim
  | _ => exact q.elim
theorem pm_fn {p : Pos} {x : Str} {f : Addr} {fd : FuncData} {ps : List Str} {n : Nat} {es : List Expr} {t : DM} {pe : DE} {q : DA} (j : Nat) (F : FnOk X.prog X.w X.K X.mg X.base (L2.CX X.prog X.w) n f fd ps (spM X.K C t)) (hr : Room n X.A) (hg : Gl X x) (hm : X.mg x = some (.ref f)) (hk : PySem.W.keepIn X.K (.ref f) = true) (hb : Binds X.K fd ps [])
    (hx : Passes (L2.CX X.prog X.w) X E) (he : PE X a (lift X.K C E pe)) (ha : PA X es (liftA X.K C E q)) (hs : starEach (a :: es) X.env = (false, eval a X.env) :: starEach es X.env := by rfl)
    (hdb : (x == ("__debug__" : Str)) = false := by decide) (hpl : (backTo pos (starEach es X.env)).any (·.1) = false := by rfl) :
    PE X (.Call (.Name x p) (a :: es) [] pos) (liftM X.K C E (dMut j t pe q)) := (pe_call F hr hg hm hk hb .nil hx (pa_cons he ha hs) hdb hs hpl).wk fun σ H Q h => by
  obtain ⟨B, O0, O, ρ, P, R, k, h, hP, hR⟩ := h
  refine ⟨B, O0, O, ρ, _, _, k, h, fun x d H1 s1 r1 h1 => ⟨B, O0, O, ρ, _, _, k.ext s1, h1, fun vs ds H2 s2 r2 h2 => ?_, fun c H' s' z => hR c H' σ ρ O ((k.ext s1).ext s') z⟩, fun c H' s' z => hR c H' σ ρ O (k.ext s') z⟩
  show spM X.K C t ((x :: vs) ++ []) H2 Q E
  rw [List.append_nil]
  exact mut_call ((k.ext s1).ext s2) (Rep.mono (wo_same O s2) d r1) r2 h2 hP hR
theorem pm_mt {apos : Pos} {m : Str} {f : Addr} {fd : FuncData} {ps : List Str} {n : Nat} {o : Expr} {es : List Expr} {t : DM} {pe : DE} {q : DA} (j : Nat) (T : Kp X.K X.mg C) (M : FnOk X.prog X.w X.K X.mg X.base (L2.CX X.prog X.w) n f fd ps (spM X.K C t)) (hm : Meth X.K C m f) (hb : Binds X.K fd ps []) (hr : Room n X.A) (hx : Passes (L2.CX X.prog X.w) X E)
    (ho : PE X o (lift X.K C E pe)) (ha : PA X (e :: es) (liftA X.K C E q))
    (hm1 : ¬ m = "begins" := by decide) (hm2 : ¬ m = "turns" := by decide)
    (hst : starEach (e :: es) X.env = (false, eval e X.env) :: starEach es X.env := by rfl) (hpl : (backTo pos (starEach es X.env)).any (·.1) = false := by rfl) {pl : Sem Bool}
    (ht : eval (.Call (.Attribute o m apos) (e :: es) [] pos) X.env = (do
      let ov ← eval o X.env
      standAt apos.atName
      let (f, first) ← holding [ov] (getMethod ov m pl)
      callWith pos f first (backTo pos (starEach (e :: es) X.env)) (backToKw pos (keywordEach [] X.env))) := by rfl) :
    PE X (.Call (.Attribute o m apos) (e :: es) [] pos) (liftM X.K C E (dMutM j t pe q)) := (pe_meth ho T.cl hm M hr hb .nil hx ha hst hpl ht).wk fun σ H Q h => by
  obtain ⟨B, O0, O, ρ, P, R, k, h, hP, hR⟩ := h
  refine ⟨B, O0, O, ρ, _, _, k, h, fun x d H1 s1 r1 h1 => ?_, fun c H' s' z => hR c H' σ ρ O (k.ext s') z⟩
  have k1 := k.ext s1
  obtain ⟨p, dx, b, l, rfl, e1⟩ := recv_at k1 r1 h1.1
  refine ⟨p, dx, _, rfl, e1, kf_no b l hm1 hm2, B, O0, O, ρ, _, _, k1, h1.2, fun vs ds H2 s2 r2 h2 => ?_, fun c H' s' z => hR c H' σ ρ O (k1.ext s') z⟩
  show spM X.K C t (V.ref p :: (vs ++ [])) H2 Q E
  rw [List.append_nil]
  exact mut_call (k1.ext s2) (Rep.mono (wo_same O s2) d r1) r2 h2 hP hR
theorem pm_mt0 {apos : Pos} {m : Str} {f : Addr} {fd : FuncData} {ps : List Str} {n : Nat} {o : Expr} {t : DM} {pe : DE} (j : Nat) (T : Kp X.K X.mg C) (M : FnOk X.prog X.w X.K X.mg X.base (L2.CX X.prog X.w) n f fd ps (spM X.K C t)) (hm : Meth X.K C m f) (hb : Binds X.K fd ps []) (hr : Room n X.A) (hx : Passes (L2.CX X.prog X.w) X E)
    (ho : PE X o (lift X.K C E pe)) (hm1 : ¬ m = "begins" := by decide) (hm2 : ¬ m = "turns" := by decide) {pl : Sem Bool}
    (ht : eval (.Call (.Attribute o m apos) [] [] pos) X.env = (do
      let ov ← eval o X.env
      standAt apos.atName
      let (f, first) ← holding [ov] (getMethod ov m pl)
      callWith pos f first (backTo pos (starEach [] X.env)) (backToKw pos (keywordEach [] X.env))) := by rfl) :
    PE X (.Call (.Attribute o m apos) [] [] pos) (liftM X.K C E (dMutM j t pe dNil)) := (pe_meth0 ho T.cl hm M hr hb .nil hx ht).wk fun σ H Q h => by
  obtain ⟨B, O0, O, ρ, P, R, k, h, hP, hR⟩ := h
  refine ⟨B, O0, O, ρ, _, _, k, h, fun x d H1 s1 r1 h1 => ?_, fun c H' s' z => hR c H' σ ρ O (k.ext s') z⟩
  have k1 := k.ext s1
  obtain ⟨p, dx, b, l, rfl, e1⟩ := recv_at k1 r1 h1.1
  refine ⟨p, dx, _, rfl, e1, kf_no b l hm1 hm2, ?_⟩
  show spM X.K C t [V.ref p] H1 Q E
  exact mut_call (vs := []) (ds := []) k1 r1 rfl h1.2 hP hR

/-! ### stateful statements -/
def dNextM : DSM := fun ρ N _ _ => N ρ
def dSeqM (p q : DSM) : DSM := fun ρ N R Z => p ρ (fun ρ' => q ρ' N R Z) R Z
def dSetM (i : Nat) (p : DEM) : DSM := fun ρ N _ Z => p ρ (fun d ρ' => N (ρ'.set i (some (.v d)))) Z
def dDropM (p : DEM) : DSM := fun ρ N _ Z => p ρ (fun _ ρ' => N ρ') Z
def dRetM (p : DEM) : DSM := fun ρ _ R Z => p ρ (fun d ρ' => R d ρ') Z
def dIfSM (t : DTM) (p q : DSM) : DSM := fun ρ N R Z => t ρ (fun b ρ' => if b = true then p ρ' N R Z else q ρ' N R Z) Z
/-- a statement that tells nothing and raises nothing -/
def dOfS (p : DS) : DSM := fun ρ N _ _ => p ρ N (fun _ => False) (fun _ => False)
variable {st : Stmt} {rest sts : List Stmt}
theorem sm_of {p : DS} (h : PS X st (liftS X.K C E p)) : PS X st (liftSM X.K C E (dOfS p)) := h.wk fun T σ H q => by
  obtain ⟨B, O0, O, ρ, N, R, Z, k, q, hN, hR, hZ⟩ := q
  exact ⟨B, O0, O, ρ, N, _, _, k, q, hN, fun v d H' s' r z => z.elim, fun c H' s' z => z.elim⟩
theorem sm_nil : PSs X [] (liftSM X.K C E dNextM) := pss_nil.wk fun T σ H q => by
  obtain ⟨B, O0, O, ρ, N, R, Z, k, q, hN, hR, hZ⟩ := q
  exact hN σ H ρ O k q
theorem sm_one {p : DSM} (h : PS X st (liftSM X.K C E p)) : PSs X [st] (liftSM X.K C E p) := pss_one h
theorem sm_cons {p q : DSM} (h1 : PS X st (liftSM X.K C E p)) (h2 : PSs X rest (liftSM X.K C E q)) : PSs X (st :: rest) (liftSM X.K C E (dSeqM p q)) := (pss_cons h1 h2).wk fun T σ H q => by
  obtain ⟨B, O0, O, ρ, N, R, Z, k, q, hN, hR, hZ⟩ := q
  exact ⟨B, O0, O, ρ, _, R, Z, k, q, fun σ' H' ρ' O' k' n' => ⟨B, O0, O', ρ', N, R, Z, k', n', hN, hR, hZ⟩, hR, hZ⟩
theorem sm_if {c : Expr} {p1 p2 : List Stmt} {t : DTM} {p q : DSM} (hc : PT X c (liftTM X.K C E t)) (ha : PSs X p1 (liftSM X.K C E p)) (hb : PSs X p2 (liftSM X.K C E q)) : PS X (.If c p1 p2 pos) (liftSM X.K C E (dIfSM t p q)) := (ps_if hc ha hb).wk fun T σ H q => by
  obtain ⟨B, O0, O, ρ, N, R, Z, k, q, hN, hR, hZ⟩ := q
  refine ⟨B, O0, O, ρ, _, Z, k, q, fun b H' ρ' O' k' p => ?_, hZ⟩
  cases b with
  | true =>
    simp only [if_true] at p ⊢
    exact ⟨B, O0, O', ρ', N, R, Z, k', p, hN, hR, hZ⟩
  | false =>
    simp only [Bool.false_eq_true, if_false] at p ⊢
    exact ⟨B, O0, O', ρ', N, R, Z, k', p, hN, hR, hZ⟩
theorem sm_ret {p : DEM} (he : PE X e (liftM X.K C E p)) : PS X (.Return (some e) pos) (liftSM X.K C E (dRetM p)) := (ps_ret he).wk fun T σ H q => by
  obtain ⟨B, O0, O, ρ, N, R, Z, k, q, hN, hR, hZ⟩ := q
  exact ⟨B, O0, O, ρ, _, Z, k, q, fun v d H' ρ' O' k' r p => hR v d H' σ ρ' O' k' r p, hZ⟩
theorem sm_expr {p : DEM} (he : PE X e (liftM X.K C E p)) (hs : swapsWith e none pos.line X.env = pure false := by rfl) : PS X (.Expr e pos) (liftSM X.K C E (dDropM p)) := (ps_expr he hs).wk fun T σ H q => by
  obtain ⟨B, O0, O, ρ, N, R, Z, k, q, hN, hR, hZ⟩ := q
  exact ⟨B, O0, O, ρ, _, Z, k, q, fun v d H' ρ' O' k' r p => hN σ H' ρ' O' k' p, hZ⟩
theorem sm_set {i : Nat} {x : Str} {p : DEM} {pos' : Pos} (hN : X.N.Nodup) (hi : X.N[i]? = some x) (hx : Loc X.env.scope x) (he : PE X e (liftM X.K C E p)) (hs : swapsWith e (some (.Name x pos')) pos.line X.env = pure false := by rfl) (hf : X.fn x = true ∨ X.env.scope.names.lookup x = some .local := by first | exact .inl rfl | exact .inr rfl | assumption) :
    PS X (.Assign [.Name x pos'] e pos) (liftSM X.K C E (dSetM i p)) := (ps_set hN hi hx he hs hf).wk fun T σ H q => by
  obtain ⟨B, O0, O, ρ, N, R, Z, k, q, hN, hR, hZ⟩ := q
  exact ⟨B, O0, O, ρ, _, Z, k, q, fun v d H' ρ' O' k' r p => hN (σ.set i (some v)) H' _ O' (k'.set i r) p, hZ⟩
/-- a stateful statement among the others -/
def dIn' (p : DSM) : DS := fun ρ N R Z => p ρ N (fun d _ => R d) (fun c _ => Z c)
theorem sd_in {p : DSM} (h : PS X st (liftSM X.K C E p)) : PS X st (liftS X.K C E (dIn' p)) := h.wk fun T σ H q => by
  obtain ⟨B, O0, O, ρ, N, R, Z, k, q, hN, hR, hZ⟩ := q
  exact ⟨B, O0, O, ρ, N, _, _, k, q, hN, fun v d H' σ' ρ' O' k' r z => hR v d H' k'.base (Rep.mono (wo_sub H' k'.sub0) d r) z, fun c H' σ' ρ' O' k' z => hZ c H' k'.base z⟩
end

/-! ### a def that changes its first argument -/
section
variable {P : Program} {w : World} {K : PySem.W.Frag} {mg : Str → Option Value} {base : Heap} {C : Addr}
def startM (N : List Str) (j : Nat) (p : Addr) (b : Bool) (ts : List Int) (ds : List D) : Env := (startE N (.adr p :: ds)).set j (some (.kst p b ts))
theorem startE_kst {N : List Str} {ds : List D} {i : Nat} {p : Addr} {b : Bool} {ts : List Int} : (startE N ds)[i]? ≠ some (some (.kst p b ts)) := fun e => by
  unfold startE at e
  rw [List.getElem?_append] at e
  split at e
  · rw [List.getElem?_map] at e
    cases h : ds[i]? with
    | none => rw [h] at e; cases e
    | some d => rw [h] at e; simp at e
  · rw [List.getElem?_replicate] at e
    split at e
    · simp at e
    · cases e
theorem startM_ok {H : Hp} {O : List Addr} {p l dx : Addr} {b : Bool} {ts : List Int} {ds : List D} {vs : List V} (hp : p ∈ O) (al : Al O H) (r : RepL K C (wo H O) ds vs) (h1 : H p = some (.ins C dx (kf b l))) (h2 : wo H O l = some (.lst (ts.map V.int))) (N : List Str) (j : Nat) :
    Ok K C (wo H [p]) (less1 O p) O H (start N (.ref p :: vs)) (startM N j p b ts ds) := by
  have k := start_ok (ds := .adr p :: ds) (vs := .ref p :: vs) al ⟨.ref p, vs, rfl, rfl, r⟩ N
  have al1 : Al (less1 O p) (wo H [p]) := fun a ha e => by
    have n : a ≠ p := fun z => less1_ne (z ▸ ha)
    unfold wo at e
    rw [if_neg (by simpa using n)] at e
    exact al a (less1_sub ha) e
  have hb : wo H [p] p = none := by unfold wo; rw [if_pos (by simp)]
  have k1 : Ok K C (wo H [p]) (less1 O p) O H (start N (.ref p :: vs)) (startE N (.adr p :: ds)) := by
    refine ⟨wo_le H [p], al1, al, fun a ha => less1_sub ha, fun a ha n => ?_, k.len, k.val, fun i es e => ?_, k.uniq, ⟨fun i q c cs e => absurd e startE_kst, fun i i' q b1 b2 t1 t2 e1 e2 => absurd e1 startE_kst⟩, k.ls.to (fun _ _ _ e => e) (fun _ _ _ _ _ _ h => h) (fun _ _ _ _ _ _ _ e => e) (Same.refl _) (fun a _ e => (wo_le H [p]).free e) k.ls.no, k.tb.to (fun _ _ _ e => e) (fun _ _ _ h => h) (SameX.refl _) (fun a _ e => (wo_le H [p]).free e)⟩
    · by_cases z : a = p
      · rw [z]; exact hb
      · exact absurd (less1_mem ha z) n
    · obtain ⟨q, ws, e1, e2, e3, e4, e5⟩ := k.own i es e
      exact ⟨q, ws, e1, e2, (wo_le H [p]).free e3, e4, e5⟩
  exact k1.tell j hp hb h1 h2 fun i b' ts' e => absurd e startE_kst
theorem fnM {x qual : Str} {st : Stmt} {f : Addr} {fd : FuncData} {N ps : List Str} {k : Nat} {t : DM} {p : DSM} (j : Nat) (F : Fun K x qual st f fd) (S : FnScope N ps (defScope st))
    (body : ∀ (cdv : Value) (A : Around) (outer : List PySem.Env) (s : Shared) (H : Hp) (E : XK), Room k (A.deeper (envOfC qual (defScope st) s.heap.objs.size f cdv)) → PSs (cxD P w K mg base N qual (defScope st) f cdv A outer s H E) (defBody st) (liftSM K C E p))
    (h : ∀ (a : Addr) (b : Bool) (ts : List Int) (ds : List D) (T : Bool → List Int → D → Prop) (R : Addr → Bool → List Int → Prop), t b ts ds T R → ds.length + 1 = ps.length ∧ p (startM N j a b ts ds)
      (fun ρ' => ∃ b' ts', ρ'[j]? = some (some (.kst a b' ts')) ∧ T b' ts' .non) (fun d ρ' => ∃ b' ts', ρ'[j]? = some (some (.kst a b' ts')) ∧ T b' ts' d) (fun c ρ' => ∃ b' ts', ρ'[j]? = some (some (.kst a b' ts')) ∧ R c b' ts')) : FnOk P w K mg base (L2.CX P w) (k + 1) f fd ps (spM K C t) := by
  refine F.okX S (fun vs H Q E q => ?_) (fun cdv A outer s H vs Q E hr q => ⟨_, body cdv A outer s H E hr, ?_⟩)
  · obtain ⟨O, p', vs', ds, b, ts, dx, l, T, R, rfl, hp, al, r, h1, h2, q, _⟩ := q
    rw [List.length_cons, RepL.length r]
    exact (h p' b ts ds T R q).1
  · obtain ⟨O, a, vs', ds, b, ts, dx, l, T, R, rfl, hp, al, r, h1, h2, q, hT, hR⟩ := q
    have fin : ∀ {H' : Hp} {σ' : St} {ρ' : Env} {O' : List Addr} {b' : Bool} {ts' : List Int}, Ok K C (wo H [a]) (less1 O a) O' H' σ' ρ' → ρ'[j]? = some (some (.kst a b' ts')) → ∃ dx' l', Same (wo H [a]) H' ∧ H' a = some (.ins C dx' (kf b' l')) ∧ wo H' O l' = some (.lst (ts'.map V.int)) ∧ Same (wo H' O') (wo H' O) := fun {H' σ' ρ' O' b' ts'} k' e => by
      obtain ⟨a1, a2, dx', l', a3, a4⟩ := k'.st.at_ j a b' ts' e
      have sub : ∀ q ∈ O, q ∈ O' := fun q hq => by
        by_cases z : q = a
        · rw [z]; exact a1
        · exact k'.sub0 q (less1_mem hq z)
      exact ⟨dx', l', k'.base, a3, wo_sub H' sub _ _ a4, wo_sub H' sub⟩
    refine ⟨wo H [a], less1 O a, O, _, _, _, _, startM_ok hp al r h1 h2 N j, (h a b ts ds T R q).2, fun σ' H' ρ' O' k' n => ?_, fun v d H' σ' ρ' O' k' r n => ?_, fun c H' σ' ρ' O' k' n => ?_⟩
    · obtain ⟨b', ts', e, n⟩ := n
      obtain ⟨dx', l', a1, a2, a3, a4⟩ := fin k' e
      exact hT .non .non H' b' ts' l' dx' a1 a2 a3 rfl n
    · obtain ⟨b', ts', e, n⟩ := n
      obtain ⟨dx', l', a1, a2, a3, a4⟩ := fin k' e
      exact hT v d H' b' ts' l' dx' a1 a2 a3 (Rep.mono a4 d r) n
    · obtain ⟨b', ts', e, n⟩ := n
      obtain ⟨dx', l', a1, a2, a3, a4⟩ := fin k' e
      exact hR c H' b' ts' l' dx' a1 a2 a3 n
end
end L2.DL
/-! # Stateful readings: attributes, new Keepers, dicts, calls of a local name -/
namespace L2.DL
open PySem PySem.Spec PyProof.Rows L2.SK

/-! ### attributes -/
def gFld (K : PySem.W.Frag) (to : TE) (f : Str) : TG := fun v σ H Q => to σ H fun x H1 => ∃ a C dx fs, x = .ref a ∧ H1 a = some (.ins C dx fs) ∧ Cls K C ∧ NoAttr K C f ∧ fs.length < 1000 ∧ Q σ (upd H1 a (.ins C dx (putF f v fs)))
theorem pg_fld {X : Cx} {o : Expr} {f : Str} {pos : Pos} {to : TE} (ho : PE X o to) : PG X (.Attribute o f pos) (gFld X.K to f) := by
  refine ⟨fun pins s σ H v u Q I r h => ?_⟩
  rw [arm_assign_Attribute]
  refine wpAny_bind (wpAny_holding (thn (ho.run pins s σ H _ I h) fun ov s1 ⟨x, H1, I1, rx, a, C, dx, fs, ex, ea, c, n, l, q⟩ => ?_))
  subst ex
  obtain rfl : ov = Value.ref a := rx
  refine wpAny_bind (wpAny_standAt (wpAny_bind (wpAny_holding (setattr_ok I1 ea c n l r fun s3 I3 => ?_))))
  exact wpAny_release ⟨σ, _, I3, q⟩
theorem putF_begins (b b' : Bool) (l : Addr) : putF "begins" (.bl b') (kf b l) = kf b' l := by
  unfold kf putF
  rw [if_pos rfl]
theorem putF_turns (b : Bool) (l l' : Addr) : putF "turns" (.ref l') (kf b l) = kf b l' := by
  unfold kf putF
  rw [if_neg ne_bt']
  unfold putF
  rw [if_pos rfl]
theorem kf_len (b : Bool) (l : Addr) : (kf b l).length < 1000 := by
  show 2 < 1000
  decide
section
variable {K : PySem.W.Frag} {C : Addr} {B H H' : Hp} {O0 O : List Addr} {σ : St} {ρ : Env}
theorem upd_same_wo {H : Hp} {p : Addr} {o : HO} : Same (wo H [p]) (upd H p o) := fun q u e => by
  have n : q ≠ p := fun z => by
    unfold wo at e
    rw [if_pos (by simp [z])] at e
    cases e
  rw [upd_ne n]
  exact wo_some e
theorem wo_upd {H : Hp} {O : List Addr} {p a : Addr} {o u : HO} (hp : p ∈ O) (h : wo H O a = some u) : wo (upd H p o) O a = some u := by
  have n : a ∉ O := fun z => by
    unfold wo at h
    rw [if_pos z] at h
    cases h
  exact wo_of (by rw [upd_ne (show a ≠ p from fun z => n (by rw [z]; exact hp))]; exact wo_some h) n
theorem Ok.setB (k : Ok K C B O0 O H σ ρ) {j : Nat} {p : Addr} {b : Bool} {ts : List Int} (hj : ρ[j]? = some (some (.kst p b ts))) (b' : Bool) : ∃ dx fs, H p = some (.ins C dx fs) ∧ fs.length < 1000 ∧ Ok K C B O0 O (upd H p (.ins C dx (putF "begins" (.bl b') fs))) σ (ρ.set j (some (.kst p b' ts))) := by
  obtain ⟨hp, hb, dx, l, h1, h2⟩ := k.st.at_ j p b ts hj
  refine ⟨dx, kf b l, h1, kf_len b l, ?_⟩
  rw [putF_begins]
  exact k.mut hj upd_same_wo upd_same (wo_upd hp h2)
theorem Ok.setT (k : Ok K C B O0 O H σ ρ) {j : Nat} {p l' : Addr} {b : Bool} {ts ts' : List Int} (hj : ρ[j]? = some (some (.kst p b ts))) (hl : wo H O l' = some (.lst (ts'.map V.int))) : ∃ dx fs, H p = some (.ins C dx fs) ∧ fs.length < 1000 ∧ Ok K C B O0 O (upd H p (.ins C dx (putF "turns" (.ref l') fs))) σ (ρ.set j (some (.kst p b ts'))) := by
  obtain ⟨hp, hb, dx, l, h1, h2⟩ := k.st.at_ j p b ts hj
  refine ⟨dx, kf b l, h1, kf_len b l, ?_⟩
  rw [putF_turns]
  exact k.mut hj upd_same_wo upd_same (wo_upd hp hl)
end
section
variable {X : Cx} {C : Addr} {E : XK} {pos : Pos} {a e o : Expr}
def stAt (j : Nat) (ρ : Env) (f : Addr → Bool → List Int → Prop) : D → Prop
  | .adr a => match ρ[j]? with
    | some (some (.kst p b ts)) => a = p ∧ f p b ts
    | _ => False
  | _ => False
theorem stAt_at {K : PySem.W.Frag} {B : Hp} {O0 O : List Addr} {σ : St} {ρ : Env} {H : Hp} {j : Nat} {x : V} {d : D} {f : Addr → Bool → List Int → Prop} (k : Ok K C B O0 O H σ ρ) (rx : Rep K C (wo H O) d x) (q : stAt j ρ f d) : ∃ p b ts, x = .ref p ∧ ρ[j]? = some (some (.kst p b ts)) ∧ f p b ts := by
  cases d with
  | adr a =>
    simp only [stAt] at q
    split at q
    · rename_i p b ts hj
      obtain ⟨rfl, q⟩ := q
      exact ⟨a, b, ts, rx, hj, q⟩
    · exact q.elim
  | _ => exact q.elim
/-- self.begins, self.turns, of the Keeper that slot j tells of -/
def dSB (j : Nat) (p : DE) : DE := fun ρ P R => p ρ (fun d => stAt j ρ (fun _ b _ => P (.bl b)) d) R
def dST (j : Nat) (p : DE) : DE := fun ρ P R => p ρ (fun d => stAt j ρ (fun _ _ ts => P (.lst (ts.map .int))) d) R
theorem pd_sB {p : DE} (j : Nat) (T : Kp X.K X.mg C) (he : PE X a (lift X.K C E p)) (hb : attributeBase a "begins" X.env (eval a X.env) = eval a X.env := by rfl) : PE X (.Attribute a "begins" pos) (lift X.K C E (dSB j p)) := (pe_fld he hb).wk fun σ H Q q => by
  obtain ⟨B, O0, O, ρ, P, R, k, q, hP, hR⟩ := q
  refine ⟨B, O0, O, ρ, _, R, k, q, fun x d H1 s1 r1 q1 => ?_, hR⟩
  obtain ⟨y, b, ts, rfl, hj, q2⟩ := stAt_at (k.ext s1) r1 q1
  obtain ⟨_, _, dx, l, h1, h2⟩ := (k.ext s1).st.at_ j y b ts hj
  exact ⟨y, C, dx, _, _, rfl, h1, T.cl, T.nB, kf_begins b l, hP (.bl b) (.bl b) H1 s1 rfl q2⟩
theorem pd_sT {p : DE} (j : Nat) (T : Kp X.K X.mg C) (he : PE X a (lift X.K C E p)) (hb : attributeBase a "turns" X.env (eval a X.env) = eval a X.env := by rfl) : PE X (.Attribute a "turns" pos) (lift X.K C E (dST j p)) := (pe_fld he hb).wk fun σ H Q q => by
  obtain ⟨B, O0, O, ρ, P, R, k, q, hP, hR⟩ := q
  refine ⟨B, O0, O, ρ, _, R, k, q, fun x d H1 s1 r1 q1 => ?_, hR⟩
  obtain ⟨y, b, ts, rfl, hj, q2⟩ := stAt_at (k.ext s1) r1 q1
  obtain ⟨_, _, dx, l, h1, h2⟩ := (k.ext s1).st.at_ j y b ts hj
  exact ⟨y, C, dx, _, _, rfl, h1, T.cl, T.nT, kf_turns b l, hP (.ref l) (.lst (ts.map .int)) H1 s1 ⟨l, _, rfl, h2, RepL.ints _ ts⟩ q2⟩
/-- self.begins = e -/
def dSetB (j : Nat) (po pv : DE) : DSM := fun ρ N _ Z => pv ρ (fun v => po ρ (fun d => stAt j ρ (fun p _ ts => match v with
  | .bl b' => N (ρ.set j (some (.kst p b' ts)))
  | _ => False) d) (fun c => Z c ρ)) (fun c => Z c ρ)
theorem sm_setB {po pv : DE} {pos' : Pos} (j : Nat) (T : Kp X.K X.mg C) (ho : PE X o (lift X.K C E po)) (he : PE X e (lift X.K C E pv)) (hs : swapsWith e (some (.Attribute o "begins" pos')) pos.line X.env = pure false := by rfl) : PS X (.Assign [.Attribute o "begins" pos'] e pos) (liftSM X.K C E (dSetB j po pv)) := (ps_fld ho he hs).wk fun T' σ H q => by
  obtain ⟨B, O0, O, ρ, N, R, Z, k, q, hN, hR, hZ⟩ := q
  refine ⟨B, O0, O, ρ, _, _, k, q, fun v d H1 s1 r1 q1 => ⟨B, O0, O, ρ, _, _, k.ext s1, q1, fun x d2 H2 s2 r2 q2 => ?_, fun c H' s' z => hZ c H' σ ρ O ((k.ext s1).ext s') z⟩, fun c H' s' z => hZ c H' σ ρ O (k.ext s') z⟩
  have k2 := (k.ext s1).ext s2
  obtain ⟨y, b, ts, rfl, hj, q3⟩ := stAt_at k2 r2 q2
  cases d with
  | bl b' =>
    have ev : v = V.bl b' := r1
    subst ev
    obtain ⟨dx, fs, h1, hl, k3⟩ := k2.setB hj b'
    exact ⟨y, C, dx, fs, rfl, h1, T.cl, T.nB, hl, hN σ _ _ O k3 q3⟩
  | _ => exact q3.elim
/-- self.turns = e -/
def dSetT (j : Nat) (po pv : DE) : DSM := fun ρ N _ Z => pv ρ (fun v => po ρ (fun d => stAt j ρ (fun p b _ => match v with
  | .lst ds => ∃ ns : List Int, ds = ns.map .int ∧ N (ρ.set j (some (.kst p b ns)))
  | _ => False) d) (fun c => Z c ρ)) (fun c => Z c ρ)
theorem sm_setT {po pv : DE} {pos' : Pos} (j : Nat) (T : Kp X.K X.mg C) (ho : PE X o (lift X.K C E po)) (he : PE X e (lift X.K C E pv)) (hs : swapsWith e (some (.Attribute o "turns" pos')) pos.line X.env = pure false := by rfl) : PS X (.Assign [.Attribute o "turns" pos'] e pos) (liftSM X.K C E (dSetT j po pv)) := (ps_fld ho he hs).wk fun T' σ H q => by
  obtain ⟨B, O0, O, ρ, N, R, Z, k, q, hN, hR, hZ⟩ := q
  refine ⟨B, O0, O, ρ, _, _, k, q, fun v d H1 s1 r1 q1 => ⟨B, O0, O, ρ, _, _, k.ext s1, q1, fun x d2 H2 s2 r2 q2 => ?_, fun c H' s' z => hZ c H' σ ρ O ((k.ext s1).ext s') z⟩, fun c H' s' z => hZ c H' σ ρ O (k.ext s') z⟩
  have k2 := (k.ext s1).ext s2
  obtain ⟨y, b, ts, rfl, hj, q3⟩ := stAt_at k2 r2 q2
  cases d with
  | lst ds =>
    obtain ⟨ns, rfl, q3⟩ := q3
    obtain ⟨l', vs, rfl, e1, e2⟩ := Rep.mono (wo_same O s2) (.lst (ns.map .int)) r1
    rw [RepL.of_ints e2] at e1
    obtain ⟨dx, fs, h1, hl, k3⟩ := k2.setT hj e1
    exact ⟨y, C, dx, fs, rfl, h1, T.cl, T.nT, hl, hN σ _ _ O k3 q3⟩
  | _ => exact q3.elim
/-- self.begins, self.turns = e -/
def dSetBT (j : Nat) (po pv : DE) : DSM := fun ρ N _ Z => pv ρ (fun v => match v with
  | .tup [.bl b', .lst ds] => ∃ ns : List Int, ds = ns.map .int ∧ po ρ (fun d => stAt j ρ (fun p _ ts => po (ρ.set j (some (.kst p b' ts))) (fun d2 => stAt j (ρ.set j (some (.kst p b' ts))) (fun p2 b2 _ => N ((ρ.set j (some (.kst p b' ts))).set j (some (.kst p2 b2 ns)))) d2) (fun _ => False)) d) (fun _ => False)
  | _ => False) (fun c => Z c ρ)
theorem sm_setBT {o2 : Expr} {po pv : DE} {p1 p2 p3 : Pos} {k2 : Nat} (j : Nat) (hc : X.calm = true) (T : Kp X.K X.mg C) (ho : PE X o (lift X.K C E po)) (ho2 : PE X o2 (lift X.K C E po)) (he : PE X e (lift X.K C E pv))
    (hn : (assignEach [.Attribute o "begins" p1, .Attribute o2 "turns" p2] X.env).length = 2 := by rfl) (hst : (assignEach [.Attribute o "begins" p1, .Attribute o2 "turns" p2] X.env).findIdx? (·.1) = none := by rfl)
    (hs1 : (assignEach [.Attribute o "begins" p1, .Attribute o2 "turns" p2] X.env).map (·.2) = assign (.Attribute o "begins" p1) X.env :: (assignEach [.Attribute o2 "turns" p2] X.env).map (·.2) := by rfl)
    (hs2 : (assignEach [.Attribute o2 "turns" p2] X.env).map (·.2) = assign (.Attribute o2 "turns" p2) X.env :: (assignEach [] X.env).map (·.2) := by rfl)
    (hs : swapsWithSole [.Tuple [.Attribute o "begins" p1, .Attribute o2 "turns" p2] k2 p3] e pos.line X.env = pure false := by rfl) (hw : swappedStores [.Tuple [.Attribute o "begins" p1, .Attribute o2 "turns" p2] k2 p3] e X.env = pure none := by rfl)
    (h1 : (assignEach [.Tuple [.Attribute o "begins" p1, .Attribute o2 "turns" p2] k2 p3] X.env).map (·.2) = [assign (.Tuple [.Attribute o "begins" p1, .Attribute o2 "turns" p2] k2 p3) X.env] := by rfl) :
    PS X (.Assign [.Tuple [.Attribute o "begins" p1, .Attribute o2 "turns" p2] k2 p3] e pos) (liftSM X.K C E (dSetBT j po pv)) :=
  (ps_asg he (pg_tup hc (pgs_cons (pg_fld ho) (pgs_cons (pg_fld ho2) pgs_nil hs2) hs1) hn hst) hs hw h1).wk fun T' σ H q => by
    obtain ⟨B, O0, O, ρ, N, R, Z, k, q, hN, hR, hZ⟩ := q
    refine ⟨B, O0, O, ρ, _, _, k, q, fun v d H1 s1 r1 q1 => ?_, fun c H' s' z => hZ c H' σ ρ O (k.ext s') z⟩
    have kk := k.ext s1
    split at q1
    · rename_i b' ds
      obtain ⟨ns, rfl, q1⟩ := q1
      obtain ⟨a0, vs, rfl, e1, x1, w1, rfl, r11, x2, w2, rfl, r12, e3⟩ := r1
      have e3' : w2 = [] := e3
      subst e3'
      have e11 : x1 = V.bl b' := r11
      subst e11
      refine ⟨a0, _, rfl, SqT.of (wo_some e1), rfl, V.bl b', [x2], rfl, B, O0, O, ρ, _, _, kk, q1, fun x d2 H2 s2 r2 q2 => ?_, fun c H' s' z => z.elim⟩
      have k2 := kk.ext s2
      obtain ⟨y, b, ts, rfl, hj, q3⟩ := stAt_at k2 r2 q2
      obtain ⟨dx, fs, g1, hl, k3⟩ := k2.setB hj b'
      obtain ⟨hp, _, _⟩ := k2.st.at_ j y b ts hj
      refine ⟨y, C, dx, fs, rfl, g1, T.cl, T.nB, hl, x2, [], rfl, B, O0, O, _, _, _, k3, q3, fun x d3 H3 s3 r3 q4 => ?_, fun c H' s' z => z.elim⟩
      have k4 := k3.ext s3
      obtain ⟨y2, b2, ts2, rfl, hj2, q5⟩ := stAt_at k4 r3 q4
      obtain ⟨l', ws, rfl, f1, f2⟩ := Rep.mono (wo_same O s2) (.lst (ns.map .int)) r12
      rw [RepL.of_ints f2] at f1
      have f3 := wo_same O s3 _ _ (wo_upd (o := .ins C dx (putF "begins" (.bl b') fs)) hp f1)
      obtain ⟨dx2, fs2, g2, hl2, k5⟩ := k4.setT hj2 f3
      exact ⟨y2, C, dx2, fs2, rfl, g2, T.cl, T.nT, hl2, rfl, hN σ _ _ O k5 q5⟩
    · exact q1.elim

/-! ### calls of a local name -/
structure Fa (P : Program) (w : World) (K : PySem.W.Frag) (mg : Str → Option Value) (base : Heap) (C : Addr) (k : Nat) (f : Addr) (t : DP) : Prop where
  ex : ∃ (fd : FuncData) (ps : List Str), FnOk P w K mg base (L2.CX P w) k f fd ps (spD K C t) ∧ PySem.W.keepIn K (.ref f) = true ∧ Binds K fd ps []
def dCallL (i : Nat) (fr : Addr) (t : DP) (q : DA) : DE := fun ρ P R => ρ[i]? = some (some (.v (.adr fr))) ∧ q ρ (fun ds => t ds P R) R
theorem pd_callL {p : Pos} {x : Str} {k : Nat} {fr : Addr} {es : List Expr} {t : DP} {q : DA} (i : Nat) (F : Fa X.prog X.w X.K X.mg X.base C k fr t) (hr : Room k X.A) (hx : Passes (L2.CX X.prog X.w) X E) (ha : PA X (e :: es) (liftA X.K C E q)) (hN : X.N[i]? = some x := by rfl)
    (hv : Vis X.env.scope x := by first | exact Or.inl rfl | exact Or.inr (Or.inl rfl) | exact Or.inr (Or.inr rfl)) (hdb : (x == ("__debug__" : Str)) = false := by decide) (hcd : (x == ("__classdict__" : Str)) = false := by decide)
    (he : starEach (e :: es) X.env = (false, eval e X.env) :: starEach es X.env := by rfl) (hpl : (backTo pos (starEach es X.env)).any (·.1) = false := by rfl) : PE X (.Call (.Name x p) (e :: es) [] pos) (lift X.K C E (dCallL i fr t q)) := by
  obtain ⟨fd, ps, F, hk, hb⟩ := F.ex
  refine (pe_callL F hr hN hv hk hb .nil hx ha hdb hcd he hpl).wk fun σ H Q q => ?_
  obtain ⟨B, O0, O, ρ, P, R, k, ⟨hi, q⟩, hP, hR⟩ := q
  obtain ⟨x, e1, e2⟩ := k.val i _ hi
  have ex : x = V.ref fr := e2
  subst ex
  exact ⟨e1, lift_call σ H Q ⟨B, O0, O, ρ, P, R, k, q, hP, hR⟩⟩

/-! ### dict of pairs -/
def kD : Key → D
  | .inl i => .int i
  | .inr s => .str s
def dDict : DB
  | [.lst ds], P => ∃ kvs : List (Key × D), ds = kvs.map (fun kv => .tup [kD kv.1, kv.2]) ∧ (kvs.map (·.1)).Nodup ∧ P (.dic (kvs.map (·.1)) (kvs.map (·.2)))
  | _, _ => False
theorem kD_rep {K : PySem.W.Frag} {H : Hp} {k : Key} {v : V} (r : Rep K C H (kD k) v) : v = kV k := by
  cases k with
  | inl i => exact r
  | inr s => exact r
theorem pairs_rep {K : PySem.W.Frag} {H : Hp} {O : List Addr} : ∀ {kvs : List (Key × D)} {vs : List V}, RepL K C (wo H O) (kvs.map fun kv => .tup [kD kv.1, kv.2]) vs →
    ∃ (ps : List Addr) (ws : List V), vs = ps.map V.ref ∧ RepL K C (wo H O) (kvs.map (·.2)) ws ∧ ws.length = kvs.length ∧ Paired (fun p (kv : Key × V) => SqT K H p [kV kv.1, kv.2]) ps ((kvs.map (·.1)).zip ws)
  | [], _, r => ⟨[], [], r, rfl, rfl, .nil⟩
  | kv :: kvs, vs, r => by
    obtain ⟨v, w', rfl, ⟨p, xs, rfl, e1, x1, y1, rfl, r1, x2, y2, rfl, r2, e3⟩, r'⟩ := r
    have e3' : y2 = [] := e3
    subst e3'
    have ek := kD_rep r1
    subst ek
    obtain ⟨ps, ws, rfl, h1, h2, h3⟩ := pairs_rep r'
    exact ⟨p :: ps, x2 :: ws, rfl, ⟨x2, ws, rfl, r2, h1⟩, by rw [List.length_cons, List.length_cons, h2], .cons (SqT.of (wo_some e1)) h3⟩
theorem ab_dict {K : PySem.W.Frag} : AbC K C (fun xs H Q => ∃ (a : Addr) (ps : List Addr) (kvs : List (Key × V)), xs = [.ref a] ∧ SqL K H a (ps.map V.ref) ∧ Paired (fun p kv => SqT K H p [kV kv.1, kv.2]) ps kvs ∧ ∀ p, H p = none → Q (.ref p) (upd H p (.dK (mergeK [] kvs)))) dDict := by
  intro O H vs ds P Q al r q k
  unfold dDict at q
  split at q
  · obtain ⟨v, _, rfl, ⟨a, ws, rfl, e1, e2⟩, rfl⟩ := r
    obtain ⟨kvs, rfl, hn, q⟩ := q
    obtain ⟨ps, us, rfl, h1, h2, h3⟩ := pairs_rep e2
    refine ⟨a, ps, _, rfl, SqL.of (wo_some e1), h3, fun p hp => ?_⟩
    have em : mergeK [] ((kvs.map (·.1)).zip us) = (kvs.map (·.1)).zip us := by
      rw [merge_nodup _ [] (by rw [List.nil_append, List.map_fst_zip (by rw [List.length_map, h2]; exact Nat.le_refl _)]; exact hn), List.nil_append]
    rw [em]
    exact k (.ref p) (.dic (kvs.map (·.1)) (kvs.map (·.2))) _ (Same.new hp) ⟨p, us, rfl, wo_of upd_same (al.new hp), RepL.mono (wo_same O (Same.new hp)) _ h1, by rw [List.length_map, List.length_map]⟩ q
  · exact q.elim
theorem bt_dict : bootBuiltins "dict" = some (.type "dict") := by decide +kernel
theorem pd_dict {es : List Expr} {q : DA} {p : Pos} (nb : X.mg "dict" = none) (ha : PA X (a :: es) (liftA X.K C E q)) (hc : X.calm = true := by rfl) (hg : Gl X "dict" := by rfl) (he : starEach (a :: es) X.env = (false, eval a X.env) :: starEach es X.env := by rfl) (hpl : (backTo pos (starEach es X.env)).any (·.1) = false := by rfl) : PE X (.Call (.Name "dict" p) (a :: es) [] pos) (lift X.K C E (dBi dDict q)) :=
  pd_bt (call_dictP hc) ab_dict hg nb bt_dict ha (by decide) (by decide) he hpl
/-- i in a dict -/
def hasK (k : Key) (ks : List Key) : Bool := ks.any fun z => decide (z = k)
theorem hasK_val : ∀ {ks : List Key} {vs : List V} {k : Key}, ks.length = vs.length → (valV (ks.zip vs) k).isSome = hasK k ks
  | [], _, _, _ => rfl
  | k' :: ks, [], _, h => by cases h
  | k' :: ks, v :: vs, k, h => by
    show (valV ((k', v) :: ks.zip vs) k).isSome = _
    by_cases e : k' = k
    · rw [valV_pos e]
      simp [hasK, e]
    · rw [valV_neg e, hasK_val (Nat.succ.inj h)]
      simp [hasK, e]
def dInD (p q : DE) : DE := fun ρ P R => p ρ (fun y => q ρ (fun x => match x with
  | .dic ks _ => ∃ k, keyD y = some k ∧ P (.bl (hasK k ks))
  | _ => False) R) R
theorem pd_ind {i : Expr} {p q : DE} (hu : X.A.units + 1 < cLine) (hi : PE X i (lift X.K C E p)) (ho : PE X o (lift X.K C E q)) (hm : behindInMarks .In o = false := by rfl) : PE X (.Compare i [.In] [o] pos) (lift X.K C E (dInD p q)) := (pe_cmp (pc_din hu hi ho) hm).wk fun σ H Q q => by
  obtain ⟨B, O0, O, ρ, P, R, k, q, hP, hR⟩ := q
  refine ⟨B, O0, O, ρ, _, R, k, q, fun y dy H1 s1 r1 q1 => ⟨B, O0, O, ρ, _, R, k.ext s1, q1, fun x dx H2 s2 r2 q2 => ?_, fun c H' s' z => hR c H' (s1.trans s') z⟩, hR⟩
  cases dx with
  | dic ks ds =>
    obtain ⟨k', e1, q3⟩ := q2
    obtain ⟨a, vs, rfl, h1, h2, h3⟩ := r2
    have ek := keyD_rep e1 r1
    subst ek
    refine ⟨a, _, rfl, DGet.k (wo_some h1), ?_⟩
    rw [hasK_val (by rw [RepL.length h2]; exact h3)]
    exact hP (.bl _) (.bl _) H2 (s1.trans s2) rfl q3
  | _ => exact q2.elim

/-! ### a new Keeper -/
def spInit (C : Addr) : Sp := fun vs H Q _ => ∃ p dx, vs = [.ref p] ∧ H p = some (.ins C dx []) ∧ ∀ l H', H l = none → Same (wo H [p]) H' → H' p = some (.ins C dx (kf false l)) → H' l = some (.lst []) → Q .non H'
structure Kn (P : Program) (w : World) (K : PySem.W.Frag) (mg : Str → Option Value) (base : Heap) (C : Addr) (k : Nat) : Prop where
  g : mg "Keeper" = some (.ref C)
  ex : ∃ (f : Addr) (fd : FuncData) (ps : List Str), Mk K C f ∧ FnOk P w K mg base (L2.CX P w) k f fd ps (spInit C) ∧ Binds K fd ps []
/-- x = Keeper(): slot i stands for it, slot j tells of it -/
def dNewK (i j : Nat) : DS := fun ρ N _ _ => ∀ p, N ((ρ.set i (some (.v (.adr p)))).set j (some (.kst p false [])))
theorem sd_newK {i j n : Nat} {x : Str} {p p2 pos' : Pos} (T : Kn X.prog X.w X.K X.mg X.base C n) (hr : Room (n + 1) X.A) (hx' : Passes (L2.CX X.prog X.w) X E) (hN : X.N.Nodup) (hi : X.N[i]? = some x) (hx : Loc X.env.scope x) (hg : Gl X "Keeper" := by rfl)
    (hs : swapsWith (.Call (.Name "Keeper" p) [] [] p2) (some (.Name x pos')) pos.line X.env = pure false := by rfl) (hf : X.fn x = true ∨ X.env.scope.names.lookup x = some .local := by first | exact .inl rfl | exact .inr rfl | assumption) (hdb : (("Keeper" : Str) == ("__debug__" : Str)) = false := by decide) :
    PS X (.Assign [.Name x pos'] (.Call (.Name "Keeper" p) [] [] p2) pos) (liftS X.K C E (dNewK i j)) := by
  obtain ⟨f, fd, ps, M, F, hb⟩ := T.ex
  refine (ps_set hN hi hx (pe_make0 M F hr hg T.g hb .nil hx' hdb) hs hf).wk fun T' σ H q => ?_
  obtain ⟨B, O0, O, ρ, N, R, Z, k, q, hN, hR, hZ⟩ := q
  intro y dx hy hdx ne
  have hdx' : (upd H dx (.own y)) y = none := by rw [upd_ne (Ne.symm ne)]; exact hy
  refine ⟨y, dx, rfl, upd_same, fun l H' hl s' h1 h2 => ⟨rfl, ?_⟩⟩
  have hl0 : H l = none := by
    have n1 : l ≠ y := fun z => by rw [z, upd_same] at hl; cases hl
    have n2 : l ≠ dx := fun z => by rw [z, upd_ne ne, upd_same] at hl; cases hl
    rw [upd_ne n1, upd_ne n2] at hl
    exact hl
  have ly : l ≠ y := fun z => by rw [z, upd_same] at hl; cases hl
  have s0 : Same H H' := fun b o e => s' b o (wo_of (by
    have n1 : b ≠ y := ne_of_none e hy
    have n2 : b ≠ dx := ne_of_none e hdx
    rw [upd_ne n1, upd_ne n2]
    exact e) (by simpa using ne_of_none e hy))
  -- y is kept apart from here on
  have hyO : y ∉ O := k.al.new hy
  have k0 := k.apart (o := .ins C dx []) hy
  have sw : Same (wo H O) (wo H' (y :: O)) := fun b o e => by
    have e1 := wo_some e
    have nO : b ∉ O := fun z => by
      unfold wo at e
      rw [if_pos z] at e
      cases e
    exact wo_of (s0 _ _ e1) (by simp [ne_of_none e1 hy, nO])
  have k1 : Ok X.K C B O0 (y :: O) H' σ ρ := by
    refine ⟨k.base.trans s0, k.al0, fun a ha => ?_, fun a ha => List.mem_cons_of_mem _ (k.sub0 a ha), k0.new, k.len, fun m d e => ?_, fun m es e => ?_, k.uniq, k.st.to (fun _ _ _ _ e => e) (fun _ _ _ h _ => List.mem_cons_of_mem _ h) (fun _ _ _ _ _ e _ => s0 _ _ e) sw (fun _ _ h => h), k.ls.to (fun _ _ _ e => e) (fun _ _ _ _ _ _ h => List.mem_cons_of_mem _ h) (fun _ _ _ _ _ _ _ e => s0 _ _ e) sw (fun _ _ h => h) k.ls.no, k.tb.to (fun _ _ _ e => e) (fun _ _ _ h => List.mem_cons_of_mem _ h) (SameX.of s0) (fun _ _ h => h)⟩
    · rcases List.mem_cons.mp ha with rfl | ha
      · rw [h1]; intro z; cases z
      · exact (k.al.mono s0) a ha
    · obtain ⟨x, e1, e2⟩ := k.val m d e
      exact ⟨x, e1, Rep.mono sw d e2⟩
    · obtain ⟨q, vs, e1, e2, e3, e4, e5⟩ := k.own m es e
      exact ⟨q, vs, e1, List.mem_cons_of_mem _ e2, e3, s0 _ _ e4, RepL.mono sw es e5⟩
  have k2 := k1.set i (d := .adr y) (x := .ref y) rfl
  have k3 := k2.tell j (p := y) (l := l) (dx := dx) (b := false) (ts := []) List.mem_cons_self (k.base.free hy) h1 (wo_of h2 (by simp [ly, k.al.new hl0])) (fun m b' ts' e => by
    have e' := set_kst (fun _ _ _ h => by cases h) _ _ _ _ e
    obtain ⟨z, _⟩ := k.st.at_ m y b' ts' e'
    exact absurd z hyO)
  exact hN _ H' _ _ k3 (q y)
end
end L2.DL
/-! # Fresh lists, ranges, lending of own lists -/
namespace L2.DL
open PySem PySem.Spec PyProof.Rows L2.SK
def asgVal : Stmt → Expr
  | .Assign _ v _ => v
  | _ => .Constant .none 0 ⟨0, 0, 0, 0⟩
def lcScope : Expr → Scope
  | .ListComp _ _ sc _ => sc
  | _ => defScope (.Pass ⟨0, 0, 0, 0⟩)

section
variable {K : PySem.W.Frag} {C : Addr} {B H H' : Hp} {O0 O : List Addr} {σ : St} {ρ : Env}
/-- a new list, its items as they are told, comes into a slot as the def's own -/
theorem Ok.setOwn' (k : Ok K C B O0 O H σ ρ) {i : Nat} {a : Addr} {es : List D} {ws : List V} (s : Same H H') (ha : H a = none) (hl : H' a = some (.lst ws)) (r : RepL K C (wo H' (a :: O)) es ws) :
    Ok K C B O0 (a :: O) H' (σ.set i (some (.ref a))) (ρ.set i (some (.own es))) := by
  have e0 : wo H' [a] a = none := by unfold wo; rw [if_pos (by simp)]
  have s1 : Same H (wo H' [a]) := fun b o e => wo_of (s b o e) (by simpa using ne_of_none e ha)
  have k1 := k.ext s1
  have r1 : RepL K C (wo (wo H' [a]) O) es ws := RepL.mono (fun b o e => by
    have n : b ∉ a :: O := fun z => by
      unfold wo at e
      rw [if_pos z] at e
      cases e
    have n' := n
    rw [List.mem_cons, not_or] at n'
    exact wo_of (wo_of (wo_some e) (by simpa using n'.1)) n'.2) es r
  have k2 := k1.setOwn (i := i) (p := a) e0 r1
  have eH : upd (wo H' [a]) a (.lst ws) = H' := by
    funext b
    by_cases z : b = a
    · rw [z, upd_same, hl]
    · rw [upd_ne z]
      unfold wo
      rw [if_neg (by simpa using z)]
  rwa [eH] at k2
end
section
variable {X : Cx} {C : Addr} {E : XK} {pos : Pos} {a e o : Expr}
/-! ### lending an own list -/
def dLendO (i : Nat) (t : DT) : DT := fun ρ P R => match ρ[i]? with
  | some (some (.own ds)) => t (ρ.set i (some (.v (.lst ds)))) P R
  | _ => False
theorem qd_lendO {t : DT} (i : Nat) (h : PT X e (liftT X.K C E t)) : PT X e (liftT X.K C E (dLendO i t)) := h.wk fun σ H Q q => by
  obtain ⟨B, O0, O, ρ, P, R, k, q, hP, hR⟩ := q
  unfold dLendO at q
  split at q
  · rename_i ds hi
    obtain ⟨O', k'⟩ := k.freeze hi
    exact ⟨B, O0, O', _, P, R, k', q, hP, hR⟩
  · exact q.elim
/-! ### own lists cleared -/
def dClear (i : Nat) : DS := fun ρ N _ _ => match ρ[i]? with
  | some (some (.own _)) => N (ρ.set i (some (.own [])))
  | _ => False
theorem Ok.clear {K : PySem.W.Frag} {B H : Hp} {O0 O : List Addr} {σ : St} {ρ : Env} (k : Ok K C B O0 O H σ ρ) {i : Nat} {ds : List D} {p : Addr} {vs : List V} (hi : ρ[i]? = some (some (.own ds))) (hp : σ[i]? = some (some (.ref p))) (hl : H p = some (.lst vs)) :
    Ok K C B O0 O (upd H p (.lst [])) σ (ρ.set i (some (.own []))) := by
  obtain ⟨p', vs', e1, e2, e3, e4, e5⟩ := k.own i ds hi
  rw [hp] at e1
  have ep : p = p' := by simpa using e1
  subst ep
  have hil : i < ρ.length := by
    rcases Nat.lt_or_ge i ρ.length with h | h
    · exact h
    · rw [List.getElem?_eq_none h] at hi; cases hi
  have sw : Same (wo H O) (wo (upd H p (.lst [])) O) := fun b o e => wo_upd e2 e
  refine ⟨fun b o e => ?_, k.al0, fun a ha => ?_, k.sub0, k.new, by rw [List.length_set]; exact k.len, fun j d' e => ?_, fun j es e => ?_, fun a b es fs h1 h2 h3 => ?_, k.st.to (set_kst fun _ _ _ h => by cases h) (fun _ _ _ h _ => h) (fun a dx fs _ _ e _ => by
    rw [upd_ne fun q => by rw [q, hl] at e; cases e]
    exact e) sw (fun _ _ h => h), k.ls.to (set_ls fun _ _ h => by cases h) (fun _ _ _ _ _ _ h => h) (fun j a ds' vs' z _ _ e => by
    rw [upd_ne (show a ≠ p from fun q => k.ls.no j i a ds' ds z hi (by rw [hp, q]))]
    exact e) sw (fun _ _ h => h) fun a b q ds' es e e' => by
    by_cases h : i = b
    · subst h
      exact k.ls.no a i q ds' ds e hi
    · rw [List.getElem?_set_ne h] at e'
      exact k.ls.no a b q ds' es e e', k.tb.to (set_tb fun _ _ h => by cases h) (fun _ _ _ h => h) (SameX.upd hl) (fun _ _ h => h)⟩
  · rw [upd_ne (ne_of_none e e3)]
    exact k.base b o e
  · by_cases h : a = p
    · rw [h, upd_same]; intro z; cases z
    · rw [upd_ne h]; exact k.al a ha
  · have h : i ≠ j := fun z => by
      subst z
      rw [List.getElem?_set_self hil] at e
      simp at e
    rw [List.getElem?_set_ne h] at e
    obtain ⟨y, a1, a2⟩ := k.val j d' e
    exact ⟨y, a1, Rep.mono sw d' a2⟩
  · by_cases h : i = j
    · subst h
      rw [List.getElem?_set_self hil] at e
      have e' : ([] : List D) = es := by simpa using e
      subst e'
      exact ⟨p, [], hp, e2, e3, upd_same, rfl⟩
    · rw [List.getElem?_set_ne h] at e
      obtain ⟨q, ws, a1, a2, a3, a4, a5⟩ := k.own j es e
      have nq : q ≠ p := fun z => h (k.uniq i j ds es hi e (by rw [hp, a1, z]))
      exact ⟨q, ws, a1, a2, a3, by rw [upd_ne nq]; exact a4, RepL.mono sw es a5⟩
  · have old : ∀ (j : Nat) (es : List D), (ρ.set i (some (DV.own [])))[j]? = some (some (.own es)) → ∃ fs, ρ[j]? = some (some (.own fs)) := fun j es e => by
      by_cases h : i = j
      · exact ⟨ds, by rw [← h]; exact hi⟩
      · rw [List.getElem?_set_ne h] at e
        exact ⟨es, e⟩
    obtain ⟨es', h1⟩ := old a es h1
    obtain ⟨fs', h2⟩ := old b fs h2
    exact k.uniq a b es' fs' h1 h2 h3
theorem sd_clear {i : Nat} {x : Str} {np apos cpos : Pos} (hv : PE X (.Name x np) (tVar i)) (hs : swapsWith (.Call (.Attribute (.Name x np) "clear" apos) [] [] cpos) none pos.line X.env = pure false := by rfl)
    (hb : attributeBase (.Name x np) "clear" X.env (eval (.Name x np) X.env) = eval (.Name x np) X.env := by rfl) (hl : (apos.endLine == cpos.line) = true := by rfl) : PS X (.Expr (.Call (.Attribute (.Name x np) "clear" apos) [] [] cpos) pos) (liftS X.K C E (dClear i)) :=
  (ps_expr (pe_bm0 PySem.F.plainAttrs_list PySem.F.slot_list_clear PySem.F.type_list_clear mt_clear hv hb hl) hs).wk fun D σ H q => by
    obtain ⟨B, O0, O, ρ, N, R, Z, k, q, hN, hR, hZ⟩ := q
    unfold dClear at q
    split at q
    · rename_i ds ho
      obtain ⟨a, vs, e1, e2, e3, e4, e5⟩ := k.own i ds ho
      exact ⟨.ref a, e1, .inl ⟨rfl, vs, SqL.of e4⟩, a, vs, rfl, rfl, e4, hN σ _ _ O (k.clear ho e1 e4) q⟩
    · exact q.elim
/-! ### range -/
def dRng (q : DA) : DA := fun ρ P R => q ρ (fun ds => match ds with
  | [.int j] => -(2 ^ 62) ≤ j ∧ j < 2 ^ 62 ∧ P ((List.range j.toNat).map fun i => .int (i : Nat))
  | _ => False) R
theorem wk_range {K : PySem.W.Frag} {O : List Addr} {H : Hp} {n : Nat} : Wk K C O H (Itr 0 n) ((List.range n).map fun i => D.int (i : Nat)) := fun H' s => by
  refine ⟨fun i d hd => ?_, by show n ≤ _; rw [List.length_map, List.length_range]; exact Nat.le_refl _⟩
  have hi : i < n := by
    have := (List.getElem?_eq_some_iff.mp hd).1
    rwa [List.length_map, List.length_range] at this
  rw [List.getElem?_map, List.getElem?_range hi] at hd
  have ed : D.int (i : Nat) = d := Option.some.inj hd
  subst ed
  refine ⟨hi, fun x H'' y => ?_⟩
  obtain ⟨rfl, rfl⟩ := y
  exact ⟨Same.refl _, fun O' so al => by show V.int (0 + (i : Nat)) = V.int (i : Nat); rw [Int.zero_add]⟩
theorem id_range1 {tg : Expr} {q : DA} {p : Pos} (hg : Gl X "range") (hm : X.mg "range" = none) (ha : PA X [a] (liftA X.K C E q)) (hs : starEach [a] X.env = [(false, eval a X.env)] := by rfl) : PI X tg (.Call (.Name "range" p) [a] [] pos) (liftI X.K C E (dRng q)) := (pi_range1 hg hm ha hs).wk fun σ H Q q => by
  obtain ⟨B, O0, O, ρ, P, R, k, q, hP, hR⟩ := q
  refine ⟨B, O0, O, ρ, _, R, k, q, fun vs ds H' s' r p => ?_, hR⟩
  split at p
  · obtain ⟨v, _, rfl, rfl, rfl⟩ := r
    exact ⟨_, rfl, p.1, p.2.1, hP _ _ H' s' wk_range p.2.2⟩
  · exact p.elim
/-! ### a def that returns a list that it made -/
abbrev DR := Env → (List D → Prop) → Prop
def liftR (K : PySem.W.Frag) (C : Addr) (E : XK) (p : DR) : TS := fun T σ H => ∃ B O0 O ρ RO, Ok K C B O0 O H σ ρ ∧ p ρ RO ∧
  ∀ a ws es H', Same B H' → B a = none → H' a = some (.lst ws) → RepL K C (wo H' (a :: O0)) es ws → RO es → T.rt (.ref a) H'
def dSeqR (p : DS) (q : DR) : DR := fun ρ RO => p ρ (fun ρ' => q ρ' RO) (fun _ => False) (fun _ => False)
def dRetO (i : Nat) : DR := fun ρ RO => match ρ[i]? with
  | some (some (.own ds)) => RO ds
  | _ => False
theorem sr_cons {st : Stmt} {rest : List Stmt} {p : DS} {q : DR} (h1 : PS X st (liftS X.K C E p)) (h2 : PSs X rest (liftR X.K C E q)) : PSs X (st :: rest) (liftR X.K C E (dSeqR p q)) := (pss_cons h1 h2).wk fun T σ H q => by
  obtain ⟨B, O0, O, ρ, RO, k, q, hR⟩ := q
  exact ⟨B, O0, O, ρ, _, _, _, k, q, fun σ' H' ρ' O' k' n' => ⟨B, O0, O', ρ', RO, k', n', hR⟩, fun v d H' s' r z => z.elim, fun c H' s' z => z.elim⟩
theorem sr_ret {i : Nat} {x : Str} {np : Pos} (hv : PE X (.Name x np) (tVar i)) : PSs X [.Return (some (.Name x np)) pos] (liftR X.K C E (dRetO i)) := (pss_one (ps_ret hv)).wk fun T σ H q => by
  obtain ⟨B, O0, O, ρ, RO, k, q, hR⟩ := q
  unfold dRetO at q
  split at q
  · rename_i ds hi
    obtain ⟨p, vs, e1, e2, e3, e4, e5⟩ := k.own i ds hi
    refine ⟨.ref p, e1, hR p vs ds H k.base e3 e4 (RepL.mono (wo_sub H fun b hb => ?_) ds e5) q⟩
    rcases List.mem_cons.mp hb with rfl | hb
    · exact e2
    · exact k.sub0 b hb
  · exact q.elim
abbrev DFp := List D → (List D → Prop) → Prop
def spF (K : PySem.W.Frag) (C : Addr) (t : DFp) : Sp := fun vs H Q _ => ∃ O ds P, Al O H ∧ RepL K C (wo H O) ds vs ∧ t ds P ∧
  ∀ a ws es H', Same H H' → H a = none → H' a = some (.lst ws) → RepL K C (wo H' (a :: O)) es ws → P es → Q (.ref a) H'
/-- the same def, its list as a value -/
theorem spF_spD {K : PySem.W.Frag} (t : DFp) : ∀ vs H Q E, spD K C (fun ds P _ => t ds (fun es => P (.lst es))) vs H Q E → spF K C t vs H Q E := fun vs H Q E q => by
  obtain ⟨O, ds, P, R, al, r, q, hP, _⟩ := q
  refine ⟨O, ds, _, al, r, q, fun a ws es H' s ha hl rr p => hP _ (.lst es) H' s ⟨a, ws, rfl, wo_of hl (al.new ha), RepL.mono (wo_sub H' fun b hb => List.mem_cons_of_mem _ hb) es rr⟩ p⟩
end
section
variable {P : Program} {w : World} {K : PySem.W.Frag} {mg : Str → Option Value} {base : Heap} {C : Addr}
theorem fnF {x qual : Str} {st : Stmt} {f : Addr} {fd : FuncData} {N ps : List Str} {k : Nat} {t : DFp} {p : DR} (F : Fun K x qual st f fd) (S : FnScope N ps (defScope st))
    (body : ∀ (cdv : Value) (A : Around) (outer : List PySem.Env) (s : Shared) (H : Hp) (E : XK), Room k (A.deeper (envOfC qual (defScope st) s.heap.objs.size f cdv)) → PSs (cxD P w K mg base N qual (defScope st) f cdv A outer s H E) (defBody st) (liftR K C E p))
    (h : ∀ (ds : List D) (T : List D → Prop), t ds T → ds.length = ps.length ∧ p (startE N ds) T) : FnOk P w K mg base (L2.CX P w) (k + 1) f fd ps (spF K C t) := by
  refine F.okX S (fun vs H Q E q => ?_) (fun cdv A outer s H vs Q E hr q => ⟨_, body cdv A outer s H E hr, ?_⟩)
  · obtain ⟨O, ds, T, al, r, q, _⟩ := q
    rw [RepL.length r]
    exact (h ds T q).1
  · obtain ⟨O, ds, T, al, r, q, hT⟩ := q
    exact ⟨H, O, O, startE N ds, _, start_ok al r N, (h ds T q).2, hT⟩
/-- a method of Keeper that makes a list -/
structure Mf (P : Program) (w : World) (K : PySem.W.Frag) (mg : Str → Option Value) (base : Heap) (C : Addr) (k : Nat) (m : Str) (t : DFp) : Prop where
  ex : ∃ (f : Addr) (fd : FuncData) (ps : List Str), FnOk P w K mg base (L2.CX P w) k f fd ps (spF K C t) ∧ Meth K C m f ∧ Binds K fd ps []
theorem Mf.mc {k : Nat} {m : Str} {t : DFp} (h : Mf P w K mg base C k m t) : Mc P w K mg base C k m (fun ds P _ => t ds (fun es => P (.lst es))) := by
  obtain ⟨f, fd, ps, F, hm, hb⟩ := h.ex
  exact ⟨f, fd, ps, F.imp (spF_spD t), hm, hb⟩
/-- a method of Keeper that changes it -/
structure Mm (P : Program) (w : World) (K : PySem.W.Frag) (mg : Str → Option Value) (base : Heap) (C : Addr) (k : Nat) (m : Str) (t : DM) : Prop where
  ex : ∃ (f : Addr) (fd : FuncData) (ps : List Str), FnOk P w K mg base (L2.CX P w) k f fd ps (spM K C t) ∧ Meth K C m f ∧ Binds K fd ps []
/-- a def that changes its first argument, a Keeper -/
structure Fm (P : Program) (w : World) (K : PySem.W.Frag) (mg : Str → Option Value) (base : Heap) (C : Addr) (k : Nat) (name : Str) (t : DM) : Prop where
  ex : ∃ (f : Addr) (fd : FuncData) (ps : List Str), FnOk P w K mg base (L2.CX P w) k f fd ps (spM K C t) ∧ mg name = some (.ref f) ∧ PySem.W.keepIn K (.ref f) = true ∧ Binds K fd ps []
end
section
variable {X : Cx} {C : Addr} {E : XK} {pos : Pos} {a e o : Expr}
theorem pm_m {apos : Pos} {m : Str} {n : Nat} {es : List Expr} {t : DM} {pe : DE} {q : DA} (j : Nat) (T : Kp X.K X.mg C) (M : Mm X.prog X.w X.K X.mg X.base C n m t) (hr : Room n X.A) (hx : Passes (L2.CX X.prog X.w) X E)
    (ho : PE X o (lift X.K C E pe)) (ha : PA X (e :: es) (liftA X.K C E q)) (hm1 : ¬ m = "begins" := by decide) (hm2 : ¬ m = "turns" := by decide)
    (hst : starEach (e :: es) X.env = (false, eval e X.env) :: starEach es X.env := by rfl) (hpl : (backTo pos (starEach es X.env)).any (·.1) = false := by rfl) {pl : Sem Bool}
    (ht : eval (.Call (.Attribute o m apos) (e :: es) [] pos) X.env = (do
      let ov ← eval o X.env
      standAt apos.atName
      let (f, first) ← holding [ov] (getMethod ov m pl)
      callWith pos f first (backTo pos (starEach (e :: es) X.env)) (backToKw pos (keywordEach [] X.env))) := by rfl) :
    PE X (.Call (.Attribute o m apos) (e :: es) [] pos) (liftM X.K C E (dMutM j t pe q)) := by
  obtain ⟨f, fd, ps, F, hm, hb⟩ := M.ex
  exact pm_mt j T F hm hb hr hx ho ha hm1 hm2 hst hpl ht
theorem pm_m0 {apos : Pos} {m : Str} {n : Nat} {t : DM} {pe : DE} (j : Nat) (T : Kp X.K X.mg C) (M : Mm X.prog X.w X.K X.mg X.base C n m t) (hr : Room n X.A) (hx : Passes (L2.CX X.prog X.w) X E)
    (ho : PE X o (lift X.K C E pe)) (hm1 : ¬ m = "begins" := by decide) (hm2 : ¬ m = "turns" := by decide) {pl : Sem Bool}
    (ht : eval (.Call (.Attribute o m apos) [] [] pos) X.env = (do
      let ov ← eval o X.env
      standAt apos.atName
      let (f, first) ← holding [ov] (getMethod ov m pl)
      callWith pos f first (backTo pos (starEach [] X.env)) (backToKw pos (keywordEach [] X.env))) := by rfl) :
    PE X (.Call (.Attribute o m apos) [] [] pos) (liftM X.K C E (dMutM j t pe dNil)) := by
  obtain ⟨f, fd, ps, F, hm, hb⟩ := M.ex
  exact pm_mt0 j T F hm hb hr hx ho hm1 hm2 ht
theorem pm_f {p : Pos} {x : Str} {n : Nat} {es : List Expr} {t : DM} {pe : DE} {q : DA} (j : Nat) (F : Fm X.prog X.w X.K X.mg X.base C n x t) (hr : Room n X.A) (hg : Gl X x)
    (hx : Passes (L2.CX X.prog X.w) X E) (he : PE X a (lift X.K C E pe)) (ha : PA X es (liftA X.K C E q)) (hs : starEach (a :: es) X.env = (false, eval a X.env) :: starEach es X.env := by rfl)
    (hdb : (x == ("__debug__" : Str)) = false := by decide) (hpl : (backTo pos (starEach es X.env)).any (·.1) = false := by rfl) :
    PE X (.Call (.Name x p) (a :: es) [] pos) (liftM X.K C E (dMut j t pe q)) := by
  obtain ⟨f, fd, ps, F, hm, hk, hb⟩ := F.ex
  exact pm_fn j F hr hg hm hk hb hx he ha hs hdb hpl
/-- x = o.m(), a list that the method makes; o: the Keeper of slot io, told of in slot j -/
def dSetF (i io j : Nat) (t : DFp) : DS := fun ρ N _ _ => match ρ[io]?, ρ[j]? with
  | some (some (.v (.adr a))), some (some (.kst q b ts)) => a = q ∧ t [.kp b ts] (fun es => (∀ d ∈ es, d.free) ∧ N (ρ.set i (some (.own es))))
  | _, _ => False
theorem sd_setF {i io j n : Nat} {x y m : Str} {t : DFp} {apos cpos np pos' : Pos} (T : Kp X.K X.mg C) (M : Mf X.prog X.w X.K X.mg X.base C n m t) (hr : Room n X.A) (hx' : Passes (L2.CX X.prog X.w) X E) (hN : X.N.Nodup) (hi : X.N[i]? = some x) (hx : Loc X.env.scope x) (hv : PE X (.Name y np) (tVar io))
    (hm1 : ¬ m = "begins" := by decide) (hm2 : ¬ m = "turns" := by decide)
    (hs : swapsWith (.Call (.Attribute (.Name y np) m apos) [] [] cpos) (some (.Name x pos')) pos.line X.env = pure false := by rfl) (hf : X.fn x = true ∨ X.env.scope.names.lookup x = some .local := by first | exact .inl rfl | exact .inr rfl | assumption) {pl : Sem Bool}
    (ht : eval (.Call (.Attribute (.Name y np) m apos) [] [] cpos) X.env = (do
      let ov ← eval (.Name y np) X.env
      standAt apos.atName
      let (f, first) ← holding [ov] (getMethod ov m pl)
      callWith cpos f first (backTo cpos (starEach [] X.env)) (backToKw cpos (keywordEach [] X.env))) := by rfl) :
    PS X (.Assign [.Name x pos'] (.Call (.Attribute (.Name y np) m apos) [] [] cpos) pos) (liftS X.K C E (dSetF i io j t)) := by
  obtain ⟨f, fd, ps, F, hm, hb⟩ := M.ex
  refine (ps_set hN hi hx (pe_meth0 hv T.cl hm F hr hb .nil hx' ht) hs hf).wk fun T' σ H q => ?_
  obtain ⟨B, O0, O, ρ, N, R, Z, k, q, hN, hR, hZ⟩ := q
  unfold dSetF at q
  split at q
  · rename_i a q' b ts hio hj
    obtain ⟨rfl, q⟩ := q
    obtain ⟨hp, hb', dx, l, h1, h2⟩ := k.st.at_ j a b ts hj
    obtain ⟨z, e1, e2⟩ := k.val io _ hio
    have ez : z = V.ref a := e2
    subst ez
    refine ⟨.ref a, e1, a, dx, _, rfl, h1, kf_no b l hm1 hm2, ?_⟩
    refine ⟨less1 O a, [.kp b ts], _, fun x hx => k.al x (less1_sub hx), ⟨.ref a, [], rfl, ⟨a, dx, l, rfl, wo_of h1 less1_ne, wo_sub H (fun x hx => less1_sub hx) _ _ h2⟩, rfl⟩, q, fun y ws es H' s ha hl rr p => ?_⟩
    have h1' := s _ _ h1
    have rr' : RepL X.K C (wo H' (y :: O)) es ws := RepL.over (fun c o e n => wo_of (wo_some e) fun z => by
      by_cases q : c = a
      · subst q
        have := wo_some e
        rw [h1'] at this
        exact n _ _ _ (Option.some.inj this).symm
      · have hn : c ∈ y :: less1 O a := by
          rcases List.mem_cons.mp z with z | z
          · rw [z]; exact List.mem_cons_self
          · exact List.mem_cons_of_mem _ (less1_mem z q)
        unfold wo at e
        rw [if_pos hn] at e
        cases e) es p.1 rr
    exact hN _ H' _ _ (k.setOwn' s ha hl rr') p.2
  · exact q.elim
end
end L2.DL

namespace L2.SK
theorem step_in {b : Bool} {ts : List Int} {lo s : Int} (h : Up ts) (hs : ∀ t ∈ ts, t ≤ lo ∨ s ≤ t) (hl : lo < s) : (isIn b ts lo != decide (s ∈ ts)) = isIn b ts s := by
  have e : isIn b ts (s - 1) = isIn b ts lo := level' (f := isIn b ts) (S := ts) (fun n hn => (mem_turn (b := b) h).mpr hn) (by omega) fun t ht => by
    rcases hs t ht with z | z
    · exact .inl z
    · right; omega
  rw [← e]
  by_cases c : s ∈ ts
  · have := (mem_turn (b := b) h).mp c
    rw [decide_eq_true c]
    cases h1 : isIn b ts s <;> cases h2 : isIn b ts (s - 1) <;> simp_all
  · have : isIn b ts s = isIn b ts (s - 1) := Classical.not_not.mp fun z => c ((mem_turn (b := b) h).mpr z)
    rw [decide_eq_false c, this]
    simp
end L2.SK
namespace L2.DL
open PySem PySem.Spec PyProof.Rows L2.SK
theorem bne_dec (a b : Bool) : (a != b) = !decide (a = b) := by cases a <;> cases b <;> rfl
def idic (ts : List Int) : D := .dic (ts.map .inl) (ts.map fun _ => .bl true)
theorem hasK_int (x : Int) (ts : List Int) : hasK (.inl x) (ts.map .inl) = decide (x ∈ ts) := by
  unfold hasK
  rw [List.any_map]
  induction ts with
  | nil => rfl
  | cons t ts ih =>
    rw [List.any_cons, ih]
    have e : ((Sum.inl t : Key) = Sum.inl x) = (t = x) := by simp
    simp only [Function.comp, e, List.mem_cons]
    by_cases c : x = t
    · simp [c]
    · simp [c, Ne.symm c]
theorem dDict_ints {ts : List Int} {P : D → Prop} (h : ts.Nodup) (q : P (idic ts)) : dDict [.lst (ts.map fun n => .tup [.int n, .bl true])] P := by
  refine ⟨ts.map fun n => (.inl n, .bl true), by rw [List.map_map]; rfl, ?_, ?_⟩
  · rw [List.map_map]
    exact List.Pairwise.map _ (fun a b hab z => hab (Sum.inl.inj z)) h
  · rw [List.map_map, List.map_map]
    exact q
end L2.DL

namespace L2.DL
open PySem PySem.Spec PyProof.Rows L2.SK
def dm_ruled (f : Bool → Bool → Bool) (fr : Addr) : DM := fun b ts ds T _ => ∃ r r2 : KRow, b = r.b ∧ ts = r.ts ∧ ds = [rowD r2, .adr fr] ∧ Few r r2 ∧ T (mergeR f r r2).b (mergeR f r r2).ts .non
def dm_put (f : Bool → Bool → Bool) (bs : Addr) : DM := fun b ts ds T R => ∃ (r : KRow) (d : D), b = r.b ∧ ts = r.ts ∧ ds = [d] ∧ ((∃ (s : Str2) (h : okS s = true), d = sD s ∧ Few r (sRow s h) ∧ T (mergeR f r (sRow s h)).b (mergeR f r (sRow s h)).ts .non) ∨ (okThing d ∧ isStr d = false ∧ R bs b ts))
def _root_.L2.SK.KRow.moved (r : KRow) (k : Int) : KRow := ⟨r.b, r.ts.map (· + k), moved_up r.up k⟩
def _root_.L2.SK.KRow.mirrored (r : KRow) : KRow := ⟨r.b != (r.ts.length % 2 == 1), r.ts.reverse.map fun t => 1 - t, mirror_up r.up⟩
theorem _root_.L2.SK.KRow.moved_has (r : KRow) (k n : Int) : (r.moved k).has n = r.has (n - k) := moved_in r.b r.ts k n
theorem _root_.L2.SK.KRow.mirrored_has (r : KRow) (n : Int) : r.mirrored.has n = r.has (0 - n) := mirror_in r.up
def dm_move (bn : Addr) : DM := fun b ts ds T R => ∃ (r : KRow) (d : D), b = r.b ∧ ts = r.ts ∧ ds = [d] ∧ r.ts.length ≤ 1000000 ∧ ((∃ k, d = .int k ∧ T (r.moved k).b (r.moved k).ts .non) ∨ ((tyD d).isSome = true ∧ isNum d = false ∧ R bn b ts))
def dm_mirror : DM := fun b ts ds T _ => ∃ r : KRow, b = r.b ∧ ts = r.ts ∧ ds = [] ∧ r.ts.length ≤ 1000000 ∧ T r.mirrored.b r.mirrored.ts .non
end L2.DL

namespace L2.DL
open PySem PySem.Spec PyProof.Rows L2.SK
theorem spotsS_one {acc : List Int} {d : Deed} (h : lenD d ≤ 1) : (spotsS acc d).length ≤ acc.length + 2 := by
  have four : ∀ ss : List Str2, ss.length ≤ 1 → (acc ++ ends ss).length ≤ acc.length + 2 := fun ss hs => by
    have l1 : (ss.filterMap (·.1)).length ≤ ss.length := List.length_filterMap_le _ _
    have l2 : (ss.filterMap (·.2)).length ≤ ss.length := List.length_filterMap_le _ _
    unfold ends
    rw [List.length_append, List.length_append, List.length_map]
    omega
  cases d with
  | put ss => exact four ss h
  | take ss => exact four ss h
  | keep ss => exact four ss h
  | turn ss => exact four ss h
  | move k => rw [spotsS, List.length_map]; omega
  | mirror => rw [spotsS, List.length_map]; omega
theorem spots_one : ∀ (rs : List Deed), (∀ d ∈ rs, lenD d ≤ 1) → (spots rs.reverse).length ≤ 2 * rs.length
  | [], _ => Nat.le_refl _
  | d :: rs, h => by
    rw [List.reverse_cons, spots_snoc, List.length_cons]
    have := spotsS_one (acc := spots rs.reverse) (h d List.mem_cons_self)
    have := spots_one rs fun e he => h e (List.mem_cons_of_mem _ he)
    omega
/-- the row stands for the deeds, each of one stretch at most -/
structure Inv1 (r : KRow) (dds : List Deed) : Prop where
  has : ∀ n, r.has n = inD dds n
  one : ∀ d ∈ dds, lenD d ≤ 1
theorem Inv1.len {r : KRow} {dds : List Deed} (h : Inv1 r dds) : (spots dds).length ≤ 2 * dds.length := by
  have := spots_one dds.reverse fun d hd => h.one d (List.mem_reverse.mp hd)
  rwa [List.reverse_reverse, List.length_reverse] at this
theorem Inv1.sub {r : KRow} {dds : List Deed} (h : Inv1 r dds) : ∀ t ∈ r.ts, t ∈ spots dds := fun t ht => by
  have := (mem_turn (b := r.b) r.up).mp ht
  refine inD_spot ?_
  rw [← h.has, ← h.has]
  exact this
theorem Inv1.tlen {r : KRow} {dds : List Deed} (h : Inv1 r dds) (hl : dds.length ≤ 1000) : r.ts.length ≤ 2000 := by
  have := nodup_few (r.up.imp fun a => Int.ne_of_lt a) h.sub
  have := h.len
  omega
theorem Inv1.fit {r : KRow} {dds : List Deed} (h : Inv1 r dds) (hl : dds.length ≤ 1000) : Fit dds := by
  have := h.len
  exact ⟨by omega, fun d hd => Nat.le_trans (h.one d hd) (by decide), by omega, spots dds, fun _ hk => hk, by omega⟩
theorem sRow_has {s : Str2} {h : okS s = true} (n : Int) : (sRow s h).has n = lies s n := turnsS_in h n
theorem Inv1.few {r : KRow} {dds : List Deed} (h : Inv1 r dds) (hl : dds.length ≤ 1000) (s : Str2) (hs : okS s = true) : Few r (sRow s hs) := by
  have := h.len
  have l : (turnsS s).length ≤ 2 := by
    obtain ⟨a, c⟩ := s
    cases a <;> cases c <;> simp [turnsS]
  exact ⟨spots dds ++ turnsS s, fun k hk => List.mem_append.mpr (.inl (h.sub k hk)), fun k hk => List.mem_append.mpr (.inr hk), by rw [List.length_append]; omega⟩
theorem Inv1.nil : Inv1 ⟨false, [], .nil⟩ [] := ⟨fun _ => rfl, fun _ h => nomatch h⟩
theorem Inv1.one' {dds : List Deed} {d : Deed} (h : ∀ d ∈ dds, lenD d ≤ 1) (hd : lenD d ≤ 1) : ∀ e ∈ dds ++ [d], lenD e ≤ 1 := fun e he => by
  rcases List.mem_append.mp he with z | z
  · exact h e z
  · have : e = d := by simpa using z
    rw [this]; exact hd
theorem owns_one (s : Str2) (n : Int) : owns [s] n = lies s n := by simp [owns]
theorem Inv1.put {r : KRow} {dds : List Deed} (h : Inv1 r dds) (s : Str2) (hs : okS s = true) : Inv1 (mergeR f_either r (sRow s hs)) (dds ++ [.put [s]]) := ⟨fun n => by rw [mergeR_has, inD_snoc, sRow_has, h.has]; show _ = (inD dds n || owns [s] n); rw [owns_one]; rfl, Inv1.one' h.one (Nat.le_refl _)⟩
theorem Inv1.take {r : KRow} {dds : List Deed} (h : Inv1 r dds) (s : Str2) (hs : okS s = true) : Inv1 (mergeR f_alone r (sRow s hs)) (dds ++ [.take [s]]) := ⟨fun n => by rw [mergeR_has, inD_snoc, sRow_has, h.has]; show _ = (inD dds n && !owns [s] n); rw [owns_one]; rfl, Inv1.one' h.one (Nat.le_refl _)⟩
theorem Inv1.keep {r : KRow} {dds : List Deed} (h : Inv1 r dds) (s : Str2) (hs : okS s = true) : Inv1 (mergeR f_both r (sRow s hs)) (dds ++ [.keep [s]]) := ⟨fun n => by rw [mergeR_has, inD_snoc, sRow_has, h.has]; show _ = (inD dds n && owns [s] n); rw [owns_one]; rfl, Inv1.one' h.one (Nat.le_refl _)⟩
theorem Inv1.turn {r : KRow} {dds : List Deed} (h : Inv1 r dds) (s : Str2) (hs : okS s = true) : Inv1 (mergeR f_unlike r (sRow s hs)) (dds ++ [.turn [s]]) := ⟨fun n => by rw [mergeR_has, inD_snoc, sRow_has, h.has]; show _ = (inD dds n != owns [s] n); rw [owns_one]; rfl, Inv1.one' h.one (Nat.le_refl _)⟩
theorem Inv1.move {r : KRow} {dds : List Deed} (h : Inv1 r dds) (k : Int) : Inv1 (r.moved k) (dds ++ [.move k]) := ⟨fun n => by rw [KRow.moved_has, inD_snoc, h.has]; rfl, Inv1.one' h.one (Nat.zero_le _)⟩
theorem Inv1.mirror {r : KRow} {dds : List Deed} (h : Inv1 r dds) : Inv1 r.mirrored (dds ++ [.mirror]) := ⟨fun n => by rw [KRow.mirrored_has, inD_snoc, h.has]; rfl, Inv1.one' h.one (Nat.zero_le _)⟩
def dp_law : DP := fun ds P _ => ∃ ns : List Int, ds = [.scr ns] ∧ ns.length ≤ 63 ∧ P (.bl true)
theorem cut_take (ns : List Int) (k : Nat) : cutD (ns.map D.int) none (some (k : Int)) = (ns.take k).map .int := by
  unfold cutD
  rw [HT.sIx_none, HT.sIx_nat, List.length_map, List.drop_zero, Nat.sub_zero, List.map_take, List.take_eq_take_iff, List.length_map]
  omega
theorem enum_map (ns : List Int) : ((ns.map D.int).mapIdx fun i d => D.tup [.int (i : Nat), d]) = (ns.mapIdx fun i n => ((i : Int), n)).map fun p => D.tup [.int p.1, .int p.2] := by
  refine List.ext_getElem? fun i => ?_
  rw [List.getElem?_mapIdx, List.getElem?_map, List.getElem?_map, List.getElem?_mapIdx]
  cases ns[i]? <;> rfl
end L2.DL

namespace L2.DL
open PySem PySem.Spec PyProof.Rows L2.SK
theorem free_oi (o : Option Int) : (oi o).free := by cases o <;> simp [oi, D.free]
theorem free_sD (s : Str2) : (sD s).free := by
  unfold sD
  rw [D.free]
  intro d hd
  simp only [List.mem_cons, List.not_mem_nil, or_false] at hd
  rcases hd with rfl | rfl <;> exact free_oi _
theorem free_sDs (ss : List Str2) : ∀ d ∈ ss.map sD, d.free := fun d hd => by
  obtain ⟨s, _, rfl⟩ := List.mem_map.mp hd
  exact free_sD s
theorem free_ssD (ss : List Str2) : (ssD ss).free := by
  unfold ssD
  rw [D.free]
  exact free_sDs ss
theorem strL_len : ∀ (ts : List Int) (o : Bool) (f : Option Int), (strL o f ts).length ≤ ts.length + 1
  | [], true, _ => Nat.le_refl _
  | [], false, _ => Nat.zero_le _
  | t :: ts, true, f => by
    rw [strL, List.length_cons, List.length_cons]
    have := strL_len ts false (some t)
    omega
  | t :: ts, false, f => by
    rw [strL, List.length_cons]
    have := strL_len ts true (some t)
    omega
theorem strs_len {r : KRow} (h : r.ts.length ≤ 2000) : r.strs.length ≤ 1000000 := by
  have := strL_len r.ts r.b none
  unfold KRow.strs
  omega
end L2.DL
/-! # Deeds done by name -/
namespace L2.SK
open L2.DL
theorem merge_sub {f : Bool → Bool → Bool} {r1 r2 : KRow} {t : Int} (h : t ∈ (mergeR f r1 r2).ts) : t ∈ r1.ts ∨ t ∈ r2.ts := by
  have h1 : t ∈ sset (r1.ts ++ r2.ts) := scan_sub.subset h
  rwa [mem_sset, List.mem_append] at h1
/-- a deed that is done, and what it makes -/
inductive Step : KRow → Deed → KRow → Prop
  | put (r : KRow) (s : Str2) (h : okS s = true) (f : Few r (sRow s h)) : Step r (.put [s]) (mergeR f_either r (sRow s h))
  | take (r : KRow) (s : Str2) (h : okS s = true) (f : Few r (sRow s h)) : Step r (.take [s]) (mergeR f_alone r (sRow s h))
  | keep (r : KRow) (s : Str2) (h : okS s = true) (f : Few r (sRow s h)) : Step r (.keep [s]) (mergeR f_both r (sRow s h))
  | turn (r : KRow) (s : Str2) (h : okS s = true) (f : Few r (sRow s h)) : Step r (.turn [s]) (mergeR f_unlike r (sRow s h))
  | move (r : KRow) (k : Int) (h : r.ts.length ≤ 1000000) : Step r (.move k) (r.moved k)
  | mirror (r : KRow) (h : r.ts.length ≤ 1000000) : Step r .mirror r.mirrored
def Bd (z : Int) : Prop := -(10 ^ 480 + 100) ≤ z ∧ z ≤ 10 ^ 480 + 100
def BdO (o : Option Int) : Prop := ∀ z, o = some z → Bd z
/-- a deed of the laws -/
def okDeed : Deed → Prop
  | .put [s] => okS s = true ∧ BdO s.1 ∧ BdO s.2
  | .take [s] => okS s = true ∧ BdO s.1 ∧ BdO s.2
  | .keep [s] => okS s = true ∧ BdO s.1 ∧ BdO s.2
  | .turn [s] => okS s = true ∧ BdO s.1 ∧ BdO s.2
  | .move k => Bd k
  | .mirror => True
  | _ => False
theorem _root_.L2.DL.Inv1.step {r : KRow} {dds : List Deed} (h : Inv1 r dds) (hl : dds.length ≤ 1000) : ∀ {d : Deed}, okDeed d → ∃ r', Step r d r' ∧ Inv1 r' (dds ++ [d])
  | .put [s], hd => ⟨_, .put r s hd.1 (h.few hl s hd.1), h.put s hd.1⟩
  | .take [s], hd => ⟨_, .take r s hd.1 (h.few hl s hd.1), h.take s hd.1⟩
  | .keep [s], hd => ⟨_, .keep r s hd.1 (h.few hl s hd.1), h.keep s hd.1⟩
  | .turn [s], hd => ⟨_, .turn r s hd.1 (h.few hl s hd.1), h.turn s hd.1⟩
  | .move k, _ => ⟨_, .move r k (by have := h.tlen hl; omega), h.move k⟩
  | .mirror, _ => ⟨_, .mirror r (by have := h.tlen hl; omega), h.mirror⟩
  | .put [], hd => hd.elim
  | .put (_ :: _ :: _), hd => hd.elim
  | .take [], hd => hd.elim
  | .take (_ :: _ :: _), hd => hd.elim
  | .keep [], hd => hd.elim
  | .keep (_ :: _ :: _), hd => hd.elim
  | .turn [], hd => hd.elim
  | .turn (_ :: _ :: _), hd => hd.elim
theorem undo (r : KRow) (k : Int) : ((((r.moved k).mirrored).moved k).mirrored) = r := KRow.ext' fun n => by
  rw [KRow.mirrored_has, KRow.moved_has, KRow.mirrored_has, KRow.moved_has]
  congr 1
  omega
theorem twice (r s : KRow) : mergeR f_unlike (mergeR f_unlike r s) s = r := KRow.ext' fun n => by
  rw [mergeR_has, mergeR_has]
  unfold f_unlike
  cases r.has n <;> cases s.has n <;> rfl
def Runs : List Deed → KRow → KRow → Prop
  | [], r, t => r = t
  | d :: ds, r, t => ∃ r', Step r d r' ∧ Runs ds r' t
end L2.SK
namespace L2.DL
open PySem PySem.Spec PyProof.Rows L2.SK
def dm_done : DM := fun b ts ds T _ => ∃ (r r' : KRow) (d : Deed), b = r.b ∧ ts = r.ts ∧ ds = [dD d] ∧ Step r d r' ∧ T r'.b r'.ts (.bl true)
def dp_deed : DP := fun ds P _ => ∃ c k, ds = [.int c, .int k] ∧ ∀ d, okDeed d → P (dD d)
theorem sq_put_take : decide (("put" : Str) = "take") = false := by decide +kernel
theorem sq_put_keep : decide (("put" : Str) = "keep") = false := by decide +kernel
theorem sq_put_turn : decide (("put" : Str) = "turn") = false := by decide +kernel
theorem sq_put_move : decide (("put" : Str) = "move") = false := by decide +kernel
theorem sq_put_mirror : decide (("put" : Str) = "mirror") = false := by decide +kernel
theorem sq_take_put : decide (("take" : Str) = "put") = false := by decide +kernel
theorem sq_take_keep : decide (("take" : Str) = "keep") = false := by decide +kernel
theorem sq_take_turn : decide (("take" : Str) = "turn") = false := by decide +kernel
theorem sq_take_move : decide (("take" : Str) = "move") = false := by decide +kernel
theorem sq_take_mirror : decide (("take" : Str) = "mirror") = false := by decide +kernel
theorem sq_keep_put : decide (("keep" : Str) = "put") = false := by decide +kernel
theorem sq_keep_take : decide (("keep" : Str) = "take") = false := by decide +kernel
theorem sq_keep_turn : decide (("keep" : Str) = "turn") = false := by decide +kernel
theorem sq_keep_move : decide (("keep" : Str) = "move") = false := by decide +kernel
theorem sq_keep_mirror : decide (("keep" : Str) = "mirror") = false := by decide +kernel
theorem sq_turn_put : decide (("turn" : Str) = "put") = false := by decide +kernel
theorem sq_turn_take : decide (("turn" : Str) = "take") = false := by decide +kernel
theorem sq_turn_keep : decide (("turn" : Str) = "keep") = false := by decide +kernel
theorem sq_turn_move : decide (("turn" : Str) = "move") = false := by decide +kernel
theorem sq_turn_mirror : decide (("turn" : Str) = "mirror") = false := by decide +kernel
theorem sq_move_put : decide (("move" : Str) = "put") = false := by decide +kernel
theorem sq_move_take : decide (("move" : Str) = "take") = false := by decide +kernel
theorem sq_move_keep : decide (("move" : Str) = "keep") = false := by decide +kernel
theorem sq_move_turn : decide (("move" : Str) = "turn") = false := by decide +kernel
theorem sq_move_mirror : decide (("move" : Str) = "mirror") = false := by decide +kernel
theorem sq_mirror_put : decide (("mirror" : Str) = "put") = false := by decide +kernel
theorem sq_mirror_take : decide (("mirror" : Str) = "take") = false := by decide +kernel
theorem sq_mirror_keep : decide (("mirror" : Str) = "keep") = false := by decide +kernel
theorem sq_mirror_turn : decide (("mirror" : Str) = "turn") = false := by decide +kernel
theorem sq_mirror_move : decide (("mirror" : Str) = "move") = false := by decide +kernel
end L2.DL
/-! # Slices by a step of 1 or -1; comprehensions whose items are told by what they keep -/
namespace L2.DL
open PySem PySem.Spec PyProof.Rows L2.SK
theorem pick_one (items : Array Value) : slicePick items none none (some 1) = items := by
  unfold slicePick
  show ((sliceRange 0 (items.size : Int) 1).filterMap (items[·]?)).toArray = _
  have e : sliceRange 0 (items.size : Int) 1 = List.range items.size := by
    unfold sliceRange
    by_cases h : (0 : Int) < items.size
    · simp only [show (1 : Int) > 0 by decide, if_true, h]
      rw [show ((items.size : Int) - 0 + 1 - 1) / 1 = (items.size : Int) by rw [Int.ediv_one]; omega, Int.toNat_natCast]
      conv => rhs; rw [← List.map_id (List.range items.size)]
      apply List.map_congr_left
      intro k _
      show (0 + 1 * (k : Int)).toNat = k
      omega
    · have e : items.size = 0 := by omega
      simp [e]
  rw [e, PySem.W.krv_all]
def tStepL (K : PySem.W.Frag) (te ts : TE) : TE := fun σ H Q => te σ H fun x H1 => ts σ H1 fun k H2 => ∃ a xs, x = .ref a ∧ SqL K H2 a xs ∧ ((k = .int 1 ∧ ∀ p, H2 p = none → Q (.ref p) (upd H2 p (.lst xs))) ∨ (k = .int (-1) ∧ ∀ p, H2 p = none → Q (.ref p) (upd H2 p (.lst xs.reverse))))
section
variable {X : Cx} {C : Addr} {E : XK} {pos : Pos}
theorem pe_stepL {e st : Expr} {te ts : TE} {p3 : Pos} (he : PE X e te) (hs : PE X st ts) (htl : ∀ (v p : Value), ∃ ops, subscripted (.Slice none none (some st) p3) false v p = operate ops (getItem v p) := by exact fun _ _ => ⟨_, by with_unfolding_all rfl⟩) : PE X (.Subscript e (.Slice none none (some st) p3) pos) (tStepL X.K te ts) := by
  refine ⟨fun pins s σ H Q I h => ?_⟩
  refine Subscript_ (thn (he.run pins s σ H _ I h) fun v s1 ⟨x, H1, I1, r1, q1⟩ => ?_)
  have hst : PO X (some st) (tPart ts) := po_some hs
  refine wpAny_Slice (thn (po_none.run pins s1 σ H1 (fun o H2 => o = none ∧ H2 = H1) I1 ⟨rfl, rfl⟩) fun vl s2 ⟨l, H2, I2, pl, el, e2⟩ => ?_)
  subst el e2
  refine thn (po_none.run pins s2 σ H2 (fun o H3 => o = none ∧ H3 = H2) I2 ⟨rfl, rfl⟩) fun vu s3 ⟨u, H3, I3, pu, eu, e3⟩ => ?_
  subst eu e3
  -- the step is known only behind it: what is asked of it is put into the reading
  have hst2 : PO X (some st) (fun σ H Q => ts σ H fun x H1 => ∃ i, x = .int i ∧ Q (some i) H1) := hst
  have go : wpAny (model X.prog X.w) X.A (evalPart (some st) X.env) (fun v s' => ∃ o H', Inv X pins σ H' s' ∧ IsPart v o ∧ ∃ a xs, x = V.ref a ∧ SqL X.K H' a xs ∧
      ((o = some 1 ∧ ∀ p, H' p = none → Q (V.ref p) (upd H' p (.lst xs))) ∨ (o = some (-1) ∧ ∀ p, H' p = none → Q (V.ref p) (upd H' p (.lst xs.reverse))))) X.xe s3 := by
    rw [evalPart_some]
    refine thn (hs.run pins s3 σ H3 _ I3 q1) fun u s4 ⟨k, H4, I4, r4, a, xs, ex, hx, q⟩ => ?_
    rcases q with ⟨rfl, q⟩ | ⟨rfl, q⟩
    · obtain ⟨t, rfl⟩ := r4
      exact ⟨some 1, H4, I4, .int 1 t, a, xs, ex, hx, .inl ⟨rfl, q⟩⟩
    · obtain ⟨t, rfl⟩ := r4
      exact ⟨some (-1), H4, I4, .int (-1) t, a, xs, ex, hx, .inr ⟨rfl, q⟩⟩
  refine thn go fun vs s4 ⟨o, H4, I4, ps, a, xs, ex, hx, q⟩ => ?_
  subst ex
  cases r1
  have I5 : Inv X pins σ H4 { s4 with heap := s4.heap.push { cls := .type "slice", data := .fields #[vl, vu, vs] } } := I4.kept (t' := s4.toks) fun b ob q => Heap.get?_push_of_some _ q
  obtain ⟨its, r, ht, hz⟩ := I5.list hx
  have hlen := r.length
  show wpAny (model X.prog X.w) X.A (subscriptTail e (.Slice none none (some st) p3) (.ref a) (.ref s4.heap.objs.size)) (EP X pins σ Q) X.xe { s4 with heap := s4.heap.push { cls := .type "slice", data := .fields #[vl, vu, vs] } }
  obtain ⟨ops, hops⟩ := htl (.ref a) (.ref s4.heap.objs.size)
  refine tail_any (ops := ops) ht.isList.typeIs (PySem.slot_list_getitem.lookup) ?_ hops
  rcases q with ⟨rfl, q⟩ | ⟨rfl, q⟩
  · refine wpAny_getItem_list_slice ht.isList (Heap.IsSliceOf.new _ vl vu vs) pl pu ps (by decide) ?_ (by rw [List.size_toArray]; omega)
    rw [pick_one]
    refine ⟨.ref _, _, I5.laid (t' := s4.toks) (o := .lst xs) (fun b ob q => Heap.get?_push_of_some _ q) (Nat.le_refl _) ?_, rfl, q _ (I5.hok.fresh (Nat.le_refl _))⟩
    exact ⟨hz, _, 0, r, Heap.get?_push_size _ rfl⟩
  · refine wpAny_getItem_list_slice ht.isList (Heap.IsSliceOf.new _ vl vu vs) pl pu ps (by decide) ?_ (by rw [List.size_toArray]; omega)
    rw [PySem.W.krv_pick]
    refine ⟨.ref _, _, I5.laid (t' := s4.toks) (o := .lst xs.reverse) (fun b ob q => Heap.get?_push_of_some _ q) (Nat.le_refl _) ?_, rfl, q _ (I5.hok.fresh (Nat.le_refl _))⟩
    exact ⟨by rw [List.length_reverse]; exact hz, _, 0, r.reverse, Heap.get?_push_size _ rfl⟩
/-- xs[::k], k 1 or -1 -/
def dStep (p s : DE) : DE := fun ρ P R => p ρ (fun d => s ρ (fun k => match d, k with
  | .lst ds, .int i => (i = 1 ∧ P (.lst ds)) ∨ (i = -1 ∧ P (.lst ds.reverse))
  | _, _ => False) R) R
theorem pd_step {e st : Expr} {p s : DE} {p3 : Pos} (he : PE X e (lift X.K C E p)) (hs : PE X st (lift X.K C E s)) (htl : ∀ (v p : Value), ∃ ops, subscripted (.Slice none none (some st) p3) false v p = operate ops (getItem v p) := by exact fun _ _ => ⟨_, by with_unfolding_all rfl⟩) :
    PE X (.Subscript e (.Slice none none (some st) p3) pos) (lift X.K C E (dStep p s)) := (pe_stepL he hs htl).wk fun σ H Q q => by
  obtain ⟨B, O0, O, ρ, P, R, k, q, hP, hR⟩ := q
  refine ⟨B, O0, O, ρ, _, R, k, q, fun x d H1 s1 r1 q1 => ⟨B, O0, O, ρ, _, R, k.ext s1, q1, fun y e2 H2 s2 r2 q2 => ?_, fun c H' s' z => hR c H' (s1.trans s') z⟩, hR⟩
  have s12 := s1.trans s2
  have r1' := Rep.mono (wo_same O s2) d r1
  split at q2
  · obtain ⟨a, vs, rfl, e1, e3⟩ := r1'
    refine ⟨a, vs, rfl, SqL.of (wo_some e1), ?_⟩
    rcases q2 with ⟨rfl, q2⟩ | ⟨rfl, q2⟩
    · exact .inl ⟨r2, fun p hp => hP _ _ _ (s12.trans (Same.new hp)) (rep_new_lst hp (k.al.mono s12) e3) q2⟩
    · exact .inr ⟨r2, fun p hp => hP _ _ _ (s12.trans (Same.new hp)) (rep_new_lst hp (k.al.mono s12) e3.reverse) q2⟩
  · exact q2.elim
end
/-- items told by what they keep -/
theorem lcD_rel {α β : Type} {g : DG} {t : DT} {p : DE} {ρ : Env} {enc : α → D} {ey : β → D} {R : α → β → Prop} : ∀ (xs : List α) {acc : List D} {P : List D → Prop},
    (∀ x ∈ xs, ∀ (k1 : D → Prop) (k2 : Prop), (∀ y, R x y → k1 (ey y)) → g (enc x) ρ (fun ρ2 => t ρ2 (fun b => if b = true then p ρ2 k1 (fun _ => False) else k2) (fun _ => False))) →
    (∀ ys : List β, ys.length = xs.length → (∀ y ∈ ys, ∃ x ∈ xs, R x y) → P (acc ++ ys.map ey)) → lcD g t p ρ P (xs.map enc) acc
  | [], acc, P, _, h => by
    have := h [] rfl (fun _ h => nomatch h)
    rw [List.map_nil, List.append_nil] at this
    exact this
  | x :: xs, acc, P, hs, h => by
    refine hs x List.mem_cons_self _ _ fun y hy => ?_
    exact lcD_rel xs (fun z hz => hs z (List.mem_cons_of_mem _ hz)) fun ys hl hR => by
      have := h (y :: ys) (by rw [List.length_cons, List.length_cons, hl]) fun z hz => by
        rcases List.mem_cons.mp hz with rfl | hz
        · exact ⟨x, List.mem_cons_self, hy⟩
        · obtain ⟨x', h1, h2⟩ := hR z hz
          exact ⟨x', List.mem_cons_of_mem _ h1, h2⟩
      rw [List.append_assoc]
      exact this
end L2.DL
/-! # Questions: promises and their plain laws -/
namespace L2.SK
open L2.DL
theorem ahead_filterMap (ts : List Int) (n : Int) : ((ts.filterMap fun t => if t ≤ n then some (D.int t) else none).length : Int) = (ahead ts n : Nat) := by
  unfold ahead
  induction ts with
  | nil => rfl
  | cons t ts ih =>
    by_cases c : t ≤ n
    · rw [List.filterMap_cons_some (b := D.int t) (by rw [if_pos c]), List.filter_cons, if_pos (by simpa using c), List.length_cons, List.length_cons]
      omega
    · rw [List.filterMap_cons_none (by rw [if_neg c]), List.filter_cons, if_neg (by simpa using c)]
      exact ih
theorem has_ahead (r : KRow) (n : Int) : r.has n = !decide (r.b = decide (((ahead r.ts n : Nat) : Int) % 2 = 1)) := by
  show isIn r.b r.ts n = _
  rw [isIn_ahead r.up, bne_dec]
  congr 2
  rcases Nat.mod_two_eq_zero_or_one (ahead r.ts n) with h | h
  · have : ¬ ((ahead r.ts n : Nat) : Int) % 2 = 1 := by omega
    rw [h, decide_eq_false this]
    rfl
  · have : ((ahead r.ts n : Nat) : Int) % 2 = 1 := by omega
    rw [h, decide_eq_true this]
    rfl
theorem strL_owns (n : Int) : ∀ (ts : List Int) (o : Bool) (f : Option Int), Up ts → (∀ a, f = some a → ∀ t ∈ ts, a < t) → owns (strL o f ts) n = (match f with | none => isIn o ts n | some a => if n < a then false else isIn o ts n)
  | [], true, none, _, _ => by simp [strL, owns, lies, isIn]
  | [], true, some a, _, _ => by
    by_cases c : n < a
    · simp [strL, owns, lies, isIn, c]
    · simp [strL, owns, lies, isIn, c, Int.not_lt.mp c]
  | [], false, none, _, _ => rfl
  | [], false, some a, _, _ => by simp [strL, owns, isIn]
  | t :: ts, true, f, h, hf => by
    have h' := List.pairwise_cons.mp h
    have ih := strL_owns n ts false (some t) h'.2 (fun a e => by cases e; exact h'.1)
    have e1 : owns (strL true f (t :: ts)) n = (lies (f, some (t - 1)) n || owns (strL false (some t) ts) n) := rfl
    rw [e1, ih]
    by_cases c : n < t
    · have c2 : ¬ t ≤ n := by omega
      have c3 : n ≤ t - 1 := by omega
      cases f with
      | none => simp [lies, isIn, c, c2, c3]
      | some a => by_cases d : n < a <;> simp [lies, isIn, c, c2, c3, d] <;> omega
    · have c2 : t ≤ n := by omega
      have c3 : ¬ n ≤ t - 1 := by omega
      cases f with
      | none => simp [lies, isIn, c, c2, c3]
      | some a =>
        have := hf a rfl t List.mem_cons_self
        have d : ¬ n < a := by omega
        simp [lies, isIn, c, c2, c3, d]
  | t :: ts, false, f, h, hf => by
    have h' := List.pairwise_cons.mp h
    have ih := strL_owns n ts true (some t) h'.2 (fun a e => by cases e; exact h'.1)
    have e1 : owns (strL false f (t :: ts)) n = owns (strL true (some t) ts) n := rfl
    rw [e1, ih]
    by_cases c : n < t
    · have c2 : ¬ t ≤ n := by omega
      cases f with
      | none => simp [isIn, c, c2]
      | some a => by_cases d : n < a <;> simp [isIn, c, c2, d]
    · have c2 : t ≤ n := by omega
      cases f with
      | none => simp [isIn, c, c2]
      | some a =>
        have := hf a rfl t List.mem_cons_self
        have d : ¬ n < a := by omega
        simp [isIn, c, c2, d]
theorem owns_strs (r : KRow) (n : Int) : owns r.strs n = r.has n := strL_owns n r.ts r.b none r.up (fun a e => by cases e)
def hasNone (ss : List Str2) : Bool := ss.any fun s => s.1.isNone || s.2.isNone
theorem strL_none : ∀ (ts : List Int) (o : Bool) (f : Option Int), hasNone (strL o f ts) = if o = true then (f.isNone || (ts.length % 2 == 0)) else (ts.length % 2 == 1)
  | [], true, f => by simp [strL, hasNone]
  | [], false, f => rfl
  | t :: ts, true, f => by
    have ih := strL_none ts false (some t)
    show (((f.isNone || (some (t - 1)).isNone) || hasNone (strL false (some t) ts)) : Bool) = _
    rw [ih, List.length_cons]
    rcases Nat.mod_two_eq_zero_or_one ts.length with h | h
    · have : (ts.length + 1) % 2 = 1 := by omega
      simp [h, this]
    · have : (ts.length + 1) % 2 = 0 := by omega
      simp [h, this]
  | t :: ts, false, f => by
    have ih := strL_none ts true (some t)
    show hasNone (strL true (some t) ts) = _
    rw [ih, List.length_cons]
    rcases Nat.mod_two_eq_zero_or_one ts.length with h | h
    · have : (ts.length + 1) % 2 = 1 := by omega
      simp [h, this]
    · have : (ts.length + 1) % 2 = 0 := by omega
      simp [h, this]
theorem strs_none (r : KRow) : hasNone r.strs = (r.b || (r.ts.length % 2 == 1)) := by
  unfold KRow.strs
  rw [strL_none]
  cases r.b <;> rfl
def sizes (ss : List Str2) : List Int := ss.filterMap fun s => match s with
  | (some a, some c) => some (c - a + 1)
  | _ => none
def sizeD (s : Str2) : Option D := match s with
  | (some a, some c) => some (D.int (c - a + 1))
  | _ => none
theorem sizes_map {ss : List Str2} : ss.filterMap sizeD = (sizes ss).map D.int := by
  unfold sizes
  rw [List.map_filterMap]
  congr 1
  funext s
  obtain ⟨a, c⟩ := s
  cases a <;> cases c <;> rfl
theorem none_ends {ss : List Str2} (h : hasNone ss = false) : ∀ s ∈ ss, ∃ a c, s = (some a, some c) := fun s hs => by
  have := List.any_eq_false.mp h s hs
  obtain ⟨a, c⟩ := s
  cases a <;> cases c <;> simp at this
  exact ⟨_, _, rfl⟩
/-- how many are in some stretches, where there is an end -/
def manyL (ss : List Str2) : Option Int := if hasNone ss = true then none else some (sizes ss).sum
/-- how many of some stretches lie below a number, where there is an end -/
def belowF (n : Int) : Int → List Str2 → Option Int
  | acc, [] => some acc
  | _, (none, _) :: _ => none
  | acc, (some a, c) :: ss => belowF n (acc + max 0 ((match c with | none => n | some c => min n (c + 1)) - a)) ss
theorem filterMap_if {α : Type} (p : α → Bool) (f : α → D) : ∀ xs : List α, (xs.filterMap fun x => if p x = true then some (f x) else none) = (xs.filter p).map f
  | [] => rfl
  | x :: xs => by
    by_cases h : p x = true
    · rw [List.filterMap_cons_some (b := f x) (by rw [if_pos h]), List.filter_cons, if_pos h, List.map_cons, filterMap_if p f xs]
    · rw [List.filterMap_cons_none (by rw [if_neg h]), List.filter_cons, if_neg h, filterMap_if p f xs]
theorem strL_first : ∀ (ts : List Int) (o : Bool) (f : Option Int), (o = true → f ≠ none) → ∀ s ∈ strL o f ts, s.1 ≠ none
  | [], true, f, h, s, hs => by
    have : s = (f, none) := by simpa [strL] using hs
    rw [this]; exact h rfl
  | [], false, f, _, s, hs => by cases hs
  | t :: ts, true, f, h, s, hs => by
    rcases List.mem_cons.mp hs with rfl | hs
    · exact h rfl
    · exact strL_first ts false (some t) (fun z => by cases z) s hs
  | t :: ts, false, f, _, s, hs => strL_first ts true (some t) (fun _ => by simp) s hs
theorem strs_first {r : KRow} (h : r.b = false) : ∀ s ∈ r.strs, s.1 ≠ none := strL_first r.ts r.b none (fun z => by rw [h] at z; cases z)
theorem below_begins {r : KRow} (n : Int) (h : r.b = true) : belowF n 0 r.strs = none := by
  unfold KRow.strs
  rw [h]
  cases r.ts <;> rfl
end L2.SK
namespace L2.DL
open PySem PySem.Spec PyProof.Rows L2.SK
def dp_ahead : DP := fun ds P _ => ∃ (r : KRow) (n : Int), ds = [kpD r, .int n] ∧ r.ts.length ≤ 1000000 ∧ P (.int (ahead r.ts n : Nat))
def dp_isin : DP := fun ds P _ => ∃ (r : KRow) (n : Int), ds = [kpD r, .int n] ∧ r.ts.length ≤ 1000000 ∧ P (.bl (r.has n))
def dp_has (bn : Addr) : DP := fun ds P R => ∃ (r : KRow) (d : D), ds = [kpD r, d] ∧ r.ts.length ≤ 1000000 ∧ (tyD d).isSome = true ∧ (∀ n, d = .int n → P (.bl (r.has n))) ∧ (isNum d = false → R bn)
def dp_many : DP := fun ds P _ => ∃ r : KRow, ds = [kpD r] ∧ r.ts.length ≤ 1000000 ∧ P (oi (manyL r.strs))
def dp_below (bn : Addr) : DP := fun ds P R => ∃ (r : KRow) (d : D), ds = [kpD r, d] ∧ r.ts.length ≤ 1000000 ∧ (tyD d).isSome = true ∧ (∀ n, d = .int n → P (oi (belowF n 0 r.strs))) ∧ (isNum d = false → R bn)
def dp_lbelow : DP := fun ds P _ => ∃ (ss : List Str2) (n : Int), ds = [ssD ss, .int n] ∧ P (oi (belowF n 0 ss))
def dp_lmany : DP := fun ds P _ => ∃ ss : List Str2, ds = [ssD ss] ∧ ss.length ≤ 1000000 ∧ P (oi (manyL ss))
def dp_probes : DP := fun ds P _ => ∃ (ss : List Str2) (ns : List Int), ds = [ssD ss, .scr ns] ∧ ss.length ≤ 100000 ∧ ∀ zs : List Int, zs.length ≤ 1000000 → P (insD zs)
def dp_made : DP := fun ds P _ => ∃ dds : List Deed, ds = [dsD dds] ∧ dds.length ≤ 1000 ∧ (∀ d ∈ dds, okDeed d) ∧ ∀ r : KRow, Inv1 r dds → P (kpD r)
def dp_keeper : DP := fun ds P _ => ∃ (ns : List Int) (m : Nat), ds = [.scr ns, .int m] ∧ m ≤ 1000 ∧ ∀ (r : KRow) (dds : List Deed), Inv1 r dds → (∀ d ∈ dds, okDeed d) → dds.length ≤ m → P (.tup [kpD r, ssD r.strs])
end L2.DL
/-! # The next ones, and places: promises and their plain laws -/
namespace L2.SK
open L2.DL
theorem ahead_cons_le {t : Int} {ts : List Int} {n : Int} (h : t ≤ n) : ahead (t :: ts) n = ahead ts n + 1 := by
  unfold ahead
  rw [List.filter_cons, if_pos (by simpa using h)]
  rfl
theorem ahead_drop : ∀ {ts : List Int} {n : Int}, Up ts → ts.drop (ahead ts n) = ts.filter fun t => decide (n < t)
  | [], _, _ => rfl
  | t :: ts, n, h => by
    have h' := List.pairwise_cons.mp h
    by_cases c : t ≤ n
    · rw [ahead_cons_le c, List.drop_succ_cons, ahead_drop h'.2, List.filter_cons, if_neg (by simp; omega)]
    · have e : ahead (t :: ts) n = 0 := ahead_none fun u hu => by
        rcases List.mem_cons.mp hu with rfl | hu
        · omega
        · have := h'.1 u hu; omega
      rw [e, List.drop_zero]
      exact (List.filter_eq_self.mpr fun u hu => by
        rcases List.mem_cons.mp hu with rfl | hu
        · simp; omega
        · have := h'.1 u hu; simp; omega).symm
theorem ahead_take : ∀ {ts : List Int} {n : Int}, Up ts → ts.take (ahead ts n) = ts.filter fun t => decide (t ≤ n)
  | [], _, _ => rfl
  | t :: ts, n, h => by
    have h' := List.pairwise_cons.mp h
    by_cases c : t ≤ n
    · rw [ahead_cons_le c, List.take_succ_cons, ahead_take h'.2, List.filter_cons, if_pos (by simpa using c)]
    · have e : ahead (t :: ts) n = 0 := ahead_none fun u hu => by
        rcases List.mem_cons.mp hu with rfl | hu
        · omega
        · have := h'.1 u hu; omega
      rw [e, List.take_zero]
      exact (List.filter_eq_nil_iff.mpr fun u hu => by
        rcases List.mem_cons.mp hu with rfl | hu
        · simp; omega
        · have := h'.1 u hu; simp; omega).symm
/-- the first turn beyond a number; the last one up to it -/
def upT (ts : List Int) (n : Int) : Option Int := (ts.filter fun t => decide (n < t)).head?
def dnT (ts : List Int) (n : Int) : Option Int := (ts.filter fun t => decide (t ≤ n)).getLast?
def upD (r : KRow) (n : Int) (w : Bool) : Option Int := if r.has n = w then some n else upT r.ts n
def downD (r : KRow) (n : Int) (w : Bool) : Option Int := if r.has n = w then some n else (dnT r.ts n).map (· - 1)
theorem ahead_len (ts : List Int) (n : Int) : ahead ts n ≤ ts.length := List.length_filter_le _ _
theorem dnT_at {ts : List Int} {n : Int} (h : Up ts) (hp : 0 < ahead ts n) : ∃ t, ts[ahead ts n - 1]? = some t ∧ dnT ts n = some t := by
  have hl := ahead_len ts n
  have hlt : ahead ts n - 1 < ts.length := by omega
  refine ⟨ts[ahead ts n - 1], List.getElem?_eq_getElem hlt, ?_⟩
  unfold dnT
  rw [← ahead_take h, List.getLast?_eq_getElem?, List.length_take, Nat.min_eq_left hl, List.getElem?_take, if_pos (by omega)]
  exact List.getElem?_eq_getElem hlt
theorem dnT_none {ts : List Int} {n : Int} (hp : ahead ts n = 0) : dnT ts n = none := by
  unfold dnT
  rw [List.eq_nil_of_length_eq_zero (l := ts.filter fun t => decide (t ≤ n)) hp]
  rfl
end L2.SK
namespace L2.DL
open PySem PySem.Spec PyProof.Rows L2.SK
theorem cut_drop (ns : List Int) (k : Nat) (h : k ≤ ns.length) : cutD (ns.map D.int) (some (k : Int)) none = (ns.drop k).map .int := by
  unfold cutD
  rw [HT.sIx_none, HT.sIx_nat, List.length_map, Nat.min_eq_left h, List.take_of_length_le (by rw [List.length_drop, List.length_map]; exact Nat.le_refl _), List.map_drop]
theorem plains_ints : ∀ bs : List Int, plains (bs.map .int) = true ∧ deps (bs.map .int) = 0
  | [] => ⟨rfl, rfl⟩
  | b :: bs => by
    obtain ⟨h1, h2⟩ := plains_ints bs
    rw [List.map_cons, plains, deps, h1, h2]
    exact ⟨rfl, rfl⟩
theorem okE_ints (bs : List Int) : okE (.lst (bs.map .int)) := by
  obtain ⟨h1, h2⟩ := plains_ints bs
  exact okE_plain (by rw [plain]; exact h1) (by rw [dep, h2]; omega)
theorem eqD_nil (bs : List Int) : eqD (.lst (bs.map .int)) (.lst []) = decide (bs = []) := by
  cases bs with
  | nil => decide +kernel
  | cons b bs => rfl
theorem okE_nil : okE (.lst []) := okE_plain rfl (by show 1 ≤ 64; decide)
theorem atI_nat {α : Type} {xs : List α} {i : Nat} {d : α} (h : xs[i]? = some d) : atI xs (i : Int) = some d := by
  have hl : i < xs.length := (List.getElem?_eq_some_iff.mp h).1
  unfold atI ixN
  rw [if_pos (by omega), if_pos (by omega)]
  exact h
def dp_going (f : KRow → Int → Bool → Option Int) : DP := fun ds P _ => ∃ (r : KRow) (n : Int) (w : Bool), ds = [kpD r, .int n, .bl w] ∧ r.ts.length ≤ 1000000 ∧ P (oi (f r n w))
def dp_next (f : KRow → Int → Bool → Option Int) (w : Bool) (bn : Addr) : DP := fun ds P R => ∃ (r : KRow) (d : D), ds = [kpD r, d] ∧ r.ts.length ≤ 1000000 ∧ (tyD d).isSome = true ∧ (∀ n, d = .int n → P (oi (f r n w))) ∧ (isNum d = false → R bn)
end L2.DL
namespace L2.SK
open L2.DL
theorem upT_some {ts : List Int} {n t : Int} (h : Up ts) (e : upT ts n = some t) : t ∈ ts ∧ n < t ∧ ∀ u ∈ ts, u ≤ n ∨ t ≤ u := by
  unfold upT at e
  cases f : ts.filter fun t => decide (n < t) with
  | nil => rw [f] at e; cases e
  | cons a l =>
    rw [f] at e
    have ea : a = t := Option.some.inj e
    subst ea
    have hm : a ∈ ts.filter fun t => decide (n < t) := by rw [f]; exact List.mem_cons_self
    have hm' := List.mem_filter.mp hm
    refine ⟨hm'.1, of_decide_eq_true hm'.2, fun u hu => ?_⟩
    by_cases c : u ≤ n
    · exact .inl c
    · right
      have hu' : u ∈ a :: l := by rw [← f]; exact List.mem_filter.mpr ⟨hu, decide_eq_true (by omega)⟩
      have hs : Up (a :: l) := by rw [← f]; exact h.sublist List.filter_sublist
      rcases List.mem_cons.mp hu' with rfl | hu'
      · exact Int.le_refl _
      · have := (List.pairwise_cons.mp hs).1 u hu'; omega
theorem upT_no {ts : List Int} {n : Int} (e : upT ts n = none) : ∀ u ∈ ts, u ≤ n := fun u hu => by
  unfold upT at e
  have := List.filter_eq_nil_iff.mp (List.head?_eq_none_iff.mp e) u hu
  simpa using this
theorem dnT_some {ts : List Int} {n t : Int} (h : Up ts) (e : dnT ts n = some t) : t ∈ ts ∧ t ≤ n ∧ ∀ u ∈ ts, n < u ∨ u ≤ t := by
  unfold dnT at e
  have hs : Up (ts.filter fun t => decide (t ≤ n)) := h.sublist List.filter_sublist
  obtain ⟨l, f⟩ := List.getLast?_eq_some_iff.mp e
  have hm : t ∈ ts.filter fun t => decide (t ≤ n) := by rw [f]; simp
  have hm' := List.mem_filter.mp hm
  refine ⟨hm'.1, of_decide_eq_true hm'.2, fun u hu => ?_⟩
  by_cases c : n < u
  · exact .inl c
  · right
    have hu' : u ∈ l ++ [t] := by rw [← f]; exact List.mem_filter.mpr ⟨hu, decide_eq_true (by omega)⟩
    rw [f] at hs
    rcases List.mem_append.mp hu' with z | z
    · have := (List.pairwise_append.mp hs).2.2 u z t (by simp); omega
    · have : u = t := by simpa using z
      omega
theorem dnT_no {ts : List Int} {n : Int} (e : dnT ts n = none) : ∀ u ∈ ts, n < u := fun u hu => by
  unfold dnT at e
  have := List.filter_eq_nil_iff.mp (List.getLast?_eq_none_iff.mp e) u hu
  simpa using this
theorem has_turn {r : KRow} {t : Int} (h : t ∈ r.ts) : r.has t ≠ r.has (t - 1) := (mem_turn (b := r.b) r.up).mp h
theorem has_level {r : KRow} {a n : Int} (h : a ≤ n) (hs : ∀ t ∈ r.ts, t ≤ a ∨ n < t) : r.has n = r.has a := level' (f := r.has) (S := r.ts) (fun n hn => (mem_turn (b := r.b) r.up).mpr hn) h hs
theorem up_before {r : KRow} {n t : Int} (e : upT r.ts n = some t) : r.has (t - 1) = r.has n := by
  obtain ⟨h1, h2, h3⟩ := upT_some r.up e
  exact has_level (by omega) fun u hu => by rcases h3 u hu with z | z; exact .inl z; right; omega
theorem dn_at {r : KRow} {n t : Int} (e : dnT r.ts n = some t) : r.has t = r.has n := by
  obtain ⟨h1, h2, h3⟩ := dnT_some r.up e
  exact (has_level h2 fun u hu => by rcases h3 u hu with z | z; right; exact z; exact .inl z).symm
/-- the stretch that a number lies in, by the turns about it -/
def about (r : KRow) (n : Int) : Str2 := (dnT r.ts n, (upT r.ts n).map (· - 1))
theorem upT_cons_le {t : Int} {ts : List Int} {n : Int} (h : t ≤ n) : upT (t :: ts) n = upT ts n := by
  unfold upT
  rw [List.filter_cons, if_neg (by simp; omega)]
theorem dnT_cons_le {t : Int} {ts : List Int} {n : Int} (h : t ≤ n) : dnT (t :: ts) n = (dnT ts n).or (some t) := by
  unfold dnT
  rw [List.filter_cons, if_pos (by simpa using h), List.getLast?_cons]
  cases (ts.filter fun t => decide (t ≤ n)).getLast? <;> rfl
theorem strL_about (n : Int) : ∀ (ts : List Int) (o : Bool) (f : Option Int), Up ts → isIn o ts n = true → (((dnT ts n).or f, (upT ts n).map (· - 1)) : Str2) ∈ strL o f ts
  | [], true, f, _, _ => List.mem_cons_self
  | [], false, f, _, h => by cases h
  | t :: ts, o, f, h, hi => by
    have h' := List.pairwise_cons.mp h
    unfold isIn at hi
    by_cases c : t ≤ n
    · rw [if_pos c] at hi
      have ih := strL_about n ts (!o) (some t) h'.2 hi
      rw [upT_cons_le c, dnT_cons_le c, Option.or_assoc]
      have e : (some t).or f = some t := rfl
      rw [e]
      cases o with
      | true => exact List.mem_cons_of_mem _ ih
      | false => exact ih
    · rw [if_neg c] at hi
      subst hi
      have e1 : dnT (t :: ts) n = none := dnT_none (ahead_none fun u hu => by
        rcases List.mem_cons.mp hu with rfl | hu
        · omega
        · have := h'.1 u hu; omega)
      have e2 : upT (t :: ts) n = some t := by
        unfold upT
        rw [List.filter_cons, if_pos (by simp; omega)]
        rfl
      rw [e1, e2]
      exact List.mem_cons_self
theorem about_in (r : KRow) (n : Int) : (about r n ∈ r.strs) ↔ r.has n = true := by
  constructor
  · intro h
    rw [← owns_strs]
    refine List.any_eq_true.mpr ⟨_, h, ?_⟩
    unfold about lies
    cases e1 : dnT r.ts n with
    | none =>
      cases e2 : upT r.ts n with
      | none => rfl
      | some u =>
        have := (upT_some r.up e2).2.1
        simp; omega
    | some d =>
      have := (dnT_some r.up e1).2.1
      cases e2 : upT r.ts n with
      | none => simpa using this
      | some u =>
        have := (upT_some r.up e2).2.1
        simp; omega
  · intro h
    have := strL_about n r.ts r.b none r.up h
    rw [Option.or_none] at this
    exact this
/-- stretches with a first, rising, the last one alone without an end -/
def Srt : Int → List Str2 → Prop
  | _, [] => True
  | _, (none, _) :: _ => False
  | lo, (some a, none) :: ss => lo ≤ a ∧ ss = []
  | lo, (some a, some c) :: ss => lo ≤ a ∧ a ≤ c ∧ Srt (c + 1) ss
theorem strL_srt : ∀ (ts : List Int) (o : Bool) (f : Option Int) (lo : Int), Up ts → (o = true → ∃ a, f = some a ∧ lo ≤ a ∧ ∀ t ∈ ts, a < t) → (o = false → ∀ t ∈ ts, lo ≤ t) → Srt lo (strL o f ts)
  | [], true, f, lo, _, h, _ => by
    obtain ⟨a, rfl, h1, _⟩ := h rfl
    exact ⟨h1, rfl⟩
  | [], false, f, lo, _, _, _ => trivial
  | t :: ts, true, f, lo, h, h1, _ => by
    have h' := List.pairwise_cons.mp h
    obtain ⟨a, rfl, h2, h3⟩ := h1 rfl
    have := h3 t List.mem_cons_self
    refine ⟨h2, by omega, strL_srt ts false (some t) _ h'.2 (fun z => by cases z) fun _ u hu => ?_⟩
    have := h'.1 u hu
    omega
  | t :: ts, false, f, lo, h, _, h2 => by
    have h' := List.pairwise_cons.mp h
    exact strL_srt ts true (some t) lo h'.2 (fun _ => ⟨t, rfl, h2 rfl t List.mem_cons_self, h'.1⟩) (fun z => by cases z)
theorem strs_srt {r : KRow} (h : r.b = false) : ∃ lo, Srt lo r.strs := by
  obtain ⟨lo, hlo⟩ := exists_below r.ts
  exact ⟨lo, strL_srt r.ts r.b none lo r.up (fun z => by rw [h] at z; cases z) fun _ t ht => Int.le_of_lt (hlo t ht)⟩
/-- how many lie below a number -/
def B (n : Int) : List Str2 → Int
  | [] => 0
  | s :: ss => max 0 ((match s.2 with | none => n | some c => min n (c + 1)) - s.1.getD 0) + B n ss
theorem belowF_B (n : Int) : ∀ (ss : List Str2) (lo acc : Int), Srt lo ss → belowF n acc ss = some (acc + B n ss)
  | [], _, acc, _ => by rw [belowF, B, Int.add_zero]
  | (none, _) :: _, _, _, h => h.elim
  | (some a, none) :: ss, lo, acc, h => by
    obtain ⟨_, rfl⟩ := h
    simp only [belowF, B, Option.getD_some]
    congr 1
    omega
  | (some a, some c) :: ss, lo, acc, h => by
    simp only [belowF]
    rw [belowF_B n ss (c + 1) _ h.2.2]
    simp only [B, Option.getD_some]
    congr 1
    omega
theorem B_low {n : Int} : ∀ {ss : List Str2} {lo : Int}, Srt lo ss → n ≤ lo → B n ss = 0
  | [], _, _, _ => rfl
  | (none, _) :: _, _, h, _ => h.elim
  | (some a, none) :: ss, lo, h, hn => by
    obtain ⟨h1, rfl⟩ := h
    simp only [B, Option.getD_some]
    omega
  | (some a, some c) :: ss, lo, h, hn => by
    have := B_low (n := n) h.2.2 (by have := h.1; have := h.2.1; omega)
    simp only [B, Option.getD_some, this]
    have := h.1
    omega
theorem B_pos {n : Int} : ∀ {ss : List Str2}, 0 ≤ B n ss
  | [] => Int.le_refl _
  | s :: ss => by
    have := B_pos (n := n) (ss := ss)
    rw [B]
    omega
theorem owns_low {n : Int} : ∀ {ss : List Str2} {lo : Int}, Srt lo ss → n < lo → owns ss n = false
  | [], _, _, _ => rfl
  | (none, _) :: _, _, h, _ => h.elim
  | (some a, none) :: ss, lo, h, hn => by
    obtain ⟨h1, rfl⟩ := h
    simp only [owns, List.any_cons, List.any_nil, lies, Bool.or_false, Bool.and_true]
    exact decide_eq_false (by omega)
  | (some a, some c) :: ss, lo, h, hn => by
    have ih := owns_low (n := n) h.2.2 (by have := h.1; have := h.2.1; omega)
    unfold owns at ih ⊢
    rw [List.any_cons, ih]
    have : ¬ a ≤ n := by have := h.1; omega
    simp [lies, this]
theorem B_next {n : Int} : ∀ {ss : List Str2} {lo : Int}, Srt lo ss → B (n + 1) ss = B n ss + (if owns ss n = true then 1 else 0)
  | [], _, _ => rfl
  | (none, _) :: _, _, h => h.elim
  | (some a, none) :: ss, lo, h => by
    obtain ⟨h1, rfl⟩ := h
    simp only [B, Option.getD_some, owns, List.any_cons, List.any_nil, lies, Bool.or_false, Bool.and_true]
    by_cases c : a ≤ n
    · simp only [decide_eq_true c, if_true]
      omega
    · simp only [decide_eq_false c, Bool.false_eq_true, if_false]
      omega
  | (some a, some c) :: ss, lo, h => by
    have ih := B_next (n := n) h.2.2
    simp only [B, Option.getD_some]
    have e : owns ((some a, some c) :: ss) n = (lies (some a, some c) n || owns ss n) := rfl
    rw [ih, e]
    have hac := h.2.1
    by_cases c1 : n < a
    · have : ¬ a ≤ n := by omega
      simp only [lies, decide_eq_false this, Bool.false_and, Bool.false_or]
      omega
    · by_cases c2 : n ≤ c
      · have h0 : owns ss n = false := owns_low h.2.2 (by omega)
        simp only [lies, decide_eq_true (show a ≤ n by omega), decide_eq_true c2, Bool.true_and, Bool.true_or, if_true, h0, Bool.false_eq_true, if_false]
        omega
      · simp only [lies, decide_eq_false c2, Bool.and_false, Bool.false_or]
        omega
/-- the number at a place -/
def atF : Int → List Str2 → Option Int
  | _, [] => none
  | _, (none, _) :: _ => none
  | p, (some a, none) :: _ => some (a + p)
  | p, (some a, some c) :: ss => if p ≤ c - a then some (a + p) else atF (p - (c - a + 1)) ss
theorem at_B {n : Int} : ∀ {ss : List Str2} {lo : Int}, Srt lo ss → owns ss n = true → atF (B n ss) ss = some n
  | [], _, _, h => by cases h
  | (none, _) :: _, _, h, _ => h.elim
  | (some a, none) :: ss, lo, h, ho => by
    obtain ⟨h1, rfl⟩ := h
    have : a ≤ n := by simpa [owns, lies] using ho
    simp only [B, Option.getD_some, atF]
    congr 1
    omega
  | (some a, some c) :: ss, lo, h, ho => by
    have hac := h.2.1
    have eB : B n ((some a, some c) :: ss) = max 0 (min n (c + 1) - a) + B n ss := rfl
    rw [eB, atF]
    have e : owns ((some a, some c) :: ss) n = (lies (some a, some c) n || owns ss n) := rfl
    rw [e] at ho
    by_cases c2 : n ≤ c
    · have h0 : owns ss n = false := owns_low h.2.2 (by omega)
      rw [h0, Bool.or_false] at ho
      have : a ≤ n := by
        by_cases z : a ≤ n
        · exact z
        · simp [lies, z] at ho
      have b0 : B n ss = 0 := B_low h.2.2 (by omega)
      rw [b0, if_pos (by omega)]
      congr 1
      omega
    · have l0 : lies (some a, some c) n = false := by simp [lies, c2]
      rw [l0, Bool.false_or] at ho
      have hp := B_pos (n := n) (ss := ss)
      rw [if_neg (by omega), ← at_B h.2.2 ho]
      congr 1
      omega
theorem sizes_cons {a c : Int} {ss : List Str2} : (sizes ((some a, some c) :: ss)).sum = (c - a + 1) + (sizes ss).sum := rfl
theorem at_ok : ∀ {ss : List Str2} {lo p : Int}, Srt lo ss → hasNone ss = false → 0 ≤ p → p < (sizes ss).sum → ∃ v, atF p ss = some v ∧ owns ss v = true ∧ B v ss = p
  | [], _, p, _, _, h1, h2 => by
    have : (sizes []).sum = 0 := rfl
    omega
  | (none, _) :: _, _, _, h, _, _, _ => h.elim
  | (some a, none) :: ss, _, _, h, hn, _, _ => by simp [hasNone] at hn
  | (some a, some c) :: ss, lo, p, h, hn, h1, h2 => by
    have hac := h.2.1
    rw [sizes_cons] at h2
    have hn' : hasNone ss = false := by simpa [hasNone] using hn
    by_cases z : p ≤ c - a
    · refine ⟨a + p, by rw [atF, if_pos z], ?_, ?_⟩
      · show (lies (some a, some c) (a + p) || owns ss (a + p)) = true
        simp only [lies, decide_eq_true (show a ≤ a + p by omega), decide_eq_true (show a + p ≤ c by omega), Bool.true_and, Bool.true_or]
      · simp only [B, Option.getD_some]
        rw [B_low h.2.2 (by omega)]
        omega
    · obtain ⟨v, e1, e2, e3⟩ := at_ok (p := p - (c - a + 1)) h.2.2 hn' (by omega) (by omega)
      have hv : c < v := by
        by_cases y : c < v
        · exact y
        · rw [owns_low h.2.2 (by omega)] at e2
          cases e2
      refine ⟨v, by rw [atF, if_neg z]; exact e1, ?_, ?_⟩
      · show (lies (some a, some c) v || owns ss v) = true
        rw [e2, Bool.or_true]
      · simp only [B, Option.getD_some, e3]
        omega
end L2.SK
/-! # isinstance of Keeper, defs that return a Keeper that they made -/
namespace L2.DL
open PySem PySem.Spec PyProof.Rows L2.SK
structure Kis (K : PySem.W.Frag) (C : Addr) : Prop where
  ha : PySem.W.findIn K (.ref C) "__class__" = some (some (.builtin "object.__class__"))
  hn : PySem.W.specialIn K (.builtin "object.__class__") "__get__" = some (some (.builtin "getset_descriptor.__get__"))
  htk : PySem.W.takesIn K (.builtin "object.__class__") = some true
  hm : PySem.W.mroIn K C (.type "object") = some true
  k0 : PySem.W.kitCls K (.type "NoneType") (.ref C) = some false
  k1 : PySem.W.kitCls K (.type "bool") (.ref C) = some false
  k2 : PySem.W.kitCls K (.type "int") (.ref C) = some false
  k3 : PySem.W.kitCls K (.type "str") (.ref C) = some false
  k4 : PySem.W.kitCls K (.type "list") (.ref C) = some false
  k5 : PySem.W.kitCls K (.type "tuple") (.ref C) = some false
  k6 : PySem.W.kitCls K (.type "dict") (.ref C) = some false
theorem kitCls_sub {K : PySem.W.Frag} {C : Addr} {t : Value} {b : Bool} (i : PySem.W.isClsIn K C = true) (ty : PySem.W.typeIn K (.ref C) = some (.type "type")) (h : PySem.W.subIn K t (.ref C) = some b) : PySem.W.kitCls K t (.ref C) = some b := by
  have i' : (PySem.W.clsIn K C).isSome = true := i
  show (if ((PySem.W.clsIn K C).isSome && PySem.W.typeIn K (.ref C) == some (.type "type")) = true then PySem.W.subIn K t (.ref C) else none) = some b
  rw [if_pos (by rw [i', ty]; rfl), h]
theorem Kis.no {K : PySem.W.Frag} {C : Addr} (k : Kis K C) {d : D} {t : String} (h : tyD d = some t) : PySem.W.kitOne K (.type t) (.ref C) = some false := by
  unfold PySem.W.kitOne
  rw [if_neg (by
    intro z
    have := beq_iff_eq.mp z
    cases this)]
  cases d <;> simp only [tyD, Option.some.injEq] at h <;> first | (subst h; first | exact k.k0 | exact k.k1 | exact k.k2 | exact k.k3 | exact k.k4 | exact k.k5 | exact k.k6) | cases h
section
variable {X : Cx} {C : Addr} {E : XK} {pos : Pos} {a e o : Expr}
/-- isinstance(d, Keeper) -/
def dIsK (C : Addr) : DB
  | [.kp _ _, .adr c], P => c = C ∧ P (.bl true)
  | [d, .adr c], P => (tyD d).isSome = true ∧ c = C ∧ P (.bl false)
  | _, _ => False
theorem ab_isK {K : PySem.W.Frag} (cl : Cls K C) (ki : Kis K C) : AbC K C (rIsi K) (dIsK C) := by
  intro O H vs ds P Q al r q k
  unfold dIsK at q
  split at q
  · obtain ⟨v, _, rfl, ⟨a, dx, l, rfl, e1, e2⟩, v2, _, rfl, r2, rfl⟩ := r
    obtain ⟨rfl, q⟩ := q
    have e3 : v2 = V.ref _ := r2
    subst e3
    refine ⟨.ref a, .ref _, .ref _, .ref _, true, rfl, .own _, .base (.ins (wo_some e1) cl ki.ha ki.hn ki.htk ki.hm), ?_, kB k q⟩
    unfold PySem.W.kitOne
    rw [if_pos (beq_self_eq_true _)]
  · obtain ⟨v, _, rfl, r1, v2, _, rfl, r2, rfl⟩ := r
    obtain ⟨h, rfl, q⟩ := q
    have e3 : v2 = V.ref _ := r2
    subst e3
    obtain ⟨t, ht⟩ := Option.isSome_iff_exists.mp h
    exact ⟨v, .ref _, .type t, .ref _, false, rfl, .own _, ty_rep ht (Rep.mono (wo_le H O) _ r1), ki.no ht, kB k q⟩
  · exact q.elim
theorem pd_isK {es : List Expr} {q : DA} {p : Pos} (T : Kp X.K X.mg C) (ki : Kis X.K C) (nb : X.mg "isinstance" = none) (ha : PA X (a :: es) (liftA X.K C E q)) (hg : Gl X "isinstance" := by rfl) (he : starEach (a :: es) X.env = (false, eval a X.env) :: starEach es X.env := by rfl) (hpl : (backTo pos (starEach es X.env)).any (·.1) = false := by rfl) : PE X (.Call (.Name "isinstance" p) (a :: es) [] pos) (lift X.K C E (dBi (dIsK C) q)) :=
  pd_bi call_isi (ab_isK T.cl ki) hg nb bt_isinstance ha (by decide) (by decide) he hpl

/-! ### a def that returns a Keeper that it made -/
abbrev DN := Env → (Bool → List Int → Prop) → Prop
def liftN (K : PySem.W.Frag) (C : Addr) (E : XK) (p : DN) : TS := fun T σ H => ∃ B O0 O ρ RO, Ok K C B O0 O H σ ρ ∧ p ρ RO ∧
  ∀ a dx l b ts H', Same B H' → B a = none → H' a = some (.ins C dx (kf b l)) → wo H' (a :: O0) l = some (.lst (ts.map V.int)) → RO b ts → T.rt (.ref a) H'
def dSeqN (p : DS) (q : DN) : DN := fun ρ RO => p ρ (fun ρ' => q ρ' RO) (fun _ => False) (fun _ => False)
def dRetK (i j : Nat) : DN := fun ρ RO => match ρ[i]?, ρ[j]? with
  | some (some (.v (.adr a))), some (some (.kst q b ts)) => a = q ∧ RO b ts
  | _, _ => False
theorem sn_cons {st : Stmt} {rest : List Stmt} {p : DS} {q : DN} (h1 : PS X st (liftS X.K C E p)) (h2 : PSs X rest (liftN X.K C E q)) : PSs X (st :: rest) (liftN X.K C E (dSeqN p q)) := (pss_cons h1 h2).wk fun T σ H q => by
  obtain ⟨B, O0, O, ρ, RO, k, q, hR⟩ := q
  exact ⟨B, O0, O, ρ, _, _, _, k, q, fun σ' H' ρ' O' k' n' => ⟨B, O0, O', ρ', RO, k', n', hR⟩, fun v d H' s' r z => z.elim, fun c H' s' z => z.elim⟩
theorem sn_ret {i j : Nat} {x : Str} {np : Pos} (hv : PE X (.Name x np) (tVar i)) : PSs X [.Return (some (.Name x np)) pos] (liftN X.K C E (dRetK i j)) := (pss_one (ps_ret hv)).wk fun T σ H q => by
  obtain ⟨B, O0, O, ρ, RO, k, q, hR⟩ := q
  unfold dRetK at q
  split at q
  · rename_i a q' b ts hi hj
    obtain ⟨rfl, q⟩ := q
    obtain ⟨z, e1, e2⟩ := k.val i _ hi
    have ez : z = V.ref a := e2
    subst ez
    obtain ⟨h1, h2, dx, l, h3, h4⟩ := k.st.at_ j a b ts hj
    refine ⟨.ref a, e1, hR a dx l b ts H k.base h2 h3 (wo_sub H (fun c hc => ?_) _ _ h4) q⟩
    rcases List.mem_cons.mp hc with rfl | hc
    · exact h1
    · exact k.sub0 c hc
  · exact q.elim
abbrev DNp := List D → (Bool → List Int → Prop) → Prop
def spN (K : PySem.W.Frag) (C : Addr) (t : DNp) : Sp := fun vs H Q _ => ∃ O ds P, Al O H ∧ RepL K C (wo H O) ds vs ∧ t ds P ∧
  ∀ a dx l b ts H', Same H H' → H a = none → H' a = some (.ins C dx (kf b l)) → wo H' (a :: O) l = some (.lst (ts.map V.int)) → P b ts → Q (.ref a) H'
theorem spN_spD {K : PySem.W.Frag} (t : DNp) : ∀ vs H Q E, spD K C (fun ds P _ => t ds (fun b ts => P (.kp b ts))) vs H Q E → spN K C t vs H Q E := fun vs H Q E q => by
  obtain ⟨O, ds, P, R, al, r, q, hP, _⟩ := q
  exact ⟨O, ds, _, al, r, q, fun a dx l b ts H' s ha h1 h2 p => hP _ (.kp b ts) H' s ⟨a, dx, l, rfl, wo_of h1 (al.new ha), wo_sub H' (fun b hb => List.mem_cons_of_mem _ hb) _ _ h2⟩ p⟩
theorem Ok.setN {K : PySem.W.Frag} {B H H' : Hp} {O0 O : List Addr} {σ : St} {ρ : Env} (k : Ok K C B O0 O H σ ρ) {i j : Nat} {y l dx : Addr} {b : Bool} {ts : List Int} (s0 : Same H H') (hy : H y = none) (h1 : H' y = some (.ins C dx (kf b l))) (h2 : wo H' (y :: O) l = some (.lst (ts.map V.int))) :
    Ok K C B O0 (y :: O) H' (σ.set i (some (.ref y))) ((ρ.set i (some (.v (.adr y)))).set j (some (.kst y b ts))) := by
  have hyO : y ∉ O := k.al.new hy
  have k0 := k.apart (o := .ins C dx []) hy
  have sw : Same (wo H O) (wo H' (y :: O)) := fun b o e => by
    have e1 := wo_some e
    have nO : b ∉ O := fun z => by
      unfold wo at e
      rw [if_pos z] at e
      cases e
    exact wo_of (s0 _ _ e1) (by simp [ne_of_none e1 hy, nO])
  have k1 : Ok K C B O0 (y :: O) H' σ ρ := by
    refine ⟨k.base.trans s0, k.al0, fun a ha => ?_, fun a ha => List.mem_cons_of_mem _ (k.sub0 a ha), k0.new, k.len, fun m d e => ?_, fun m es e => ?_, k.uniq, k.st.to (fun _ _ _ _ e => e) (fun _ _ _ h _ => List.mem_cons_of_mem _ h) (fun _ _ _ _ _ e _ => s0 _ _ e) sw (fun _ _ h => h), k.ls.to (fun _ _ _ e => e) (fun _ _ _ _ _ _ h => List.mem_cons_of_mem _ h) (fun _ _ _ _ _ _ _ e => s0 _ _ e) sw (fun _ _ h => h) k.ls.no, k.tb.to (fun _ _ _ e => e) (fun _ _ _ h => List.mem_cons_of_mem _ h) (SameX.of s0) (fun _ _ h => h)⟩
    · rcases List.mem_cons.mp ha with rfl | ha
      · rw [h1]; intro z; cases z
      · exact (k.al.mono s0) a ha
    · obtain ⟨x, e1, e2⟩ := k.val m d e
      exact ⟨x, e1, Rep.mono sw d e2⟩
    · obtain ⟨q, vs, e1, e2, e3, e4, e5⟩ := k.own m es e
      exact ⟨q, vs, e1, List.mem_cons_of_mem _ e2, e3, s0 _ _ e4, RepL.mono sw es e5⟩
  have k2 := k1.set i (d := .adr y) (x := .ref y) rfl
  exact k2.tell j (p := y) (l := l) (dx := dx) List.mem_cons_self (k.base.free hy) h1 h2 (fun m b' ts' e => by
    have e' := set_kst (fun _ _ _ h => by cases h) _ _ _ _ e
    obtain ⟨z, _⟩ := k.st.at_ m y b' ts' e'
    exact absurd z hyO)
end
section
variable {P : Program} {w : World} {K : PySem.W.Frag} {mg : Str → Option Value} {base : Heap} {C : Addr}
theorem fnN {x qual : Str} {st : Stmt} {f : Addr} {fd : FuncData} {N ps : List Str} {k : Nat} {t : DNp} {p : DN} (F : Fun K x qual st f fd) (S : FnScope N ps (defScope st))
    (body : ∀ (cdv : Value) (A : Around) (outer : List PySem.Env) (s : Shared) (H : Hp) (E : XK), Room k (A.deeper (envOfC qual (defScope st) s.heap.objs.size f cdv)) → PSs (cxD P w K mg base N qual (defScope st) f cdv A outer s H E) (defBody st) (liftN K C E p))
    (h : ∀ (ds : List D) (T : Bool → List Int → Prop), t ds T → ds.length = ps.length ∧ p (startE N ds) T) : FnOk P w K mg base (L2.CX P w) (k + 1) f fd ps (spN K C t) := by
  refine F.okX S (fun vs H Q E q => ?_) (fun cdv A outer s H vs Q E hr q => ⟨_, body cdv A outer s H E hr, ?_⟩)
  · obtain ⟨O, ds, T, al, r, q, _⟩ := q
    rw [RepL.length r]
    exact (h ds T q).1
  · obtain ⟨O, ds, T, al, r, q, hT⟩ := q
    exact ⟨H, O, O, startE N ds, _, start_ok al r N, (h ds T q).2, hT⟩
/-- a method that makes a Keeper; a def that makes one -/
structure Mn (P : Program) (w : World) (K : PySem.W.Frag) (mg : Str → Option Value) (base : Heap) (C : Addr) (k : Nat) (m : Str) (t : DNp) : Prop where
  ex : ∃ (f : Addr) (fd : FuncData) (ps : List Str), FnOk P w K mg base (L2.CX P w) k f fd ps (spN K C t) ∧ Meth K C m f ∧ Binds K fd ps []
structure Fn (P : Program) (w : World) (K : PySem.W.Frag) (mg : Str → Option Value) (base : Heap) (C : Addr) (k : Nat) (name : Str) (t : DNp) : Prop where
  ex : ∃ (f : Addr) (fd : FuncData) (ps : List Str), FnOk P w K mg base (L2.CX P w) k f fd ps (spN K C t) ∧ mg name = some (.ref f) ∧ PySem.W.keepIn K (.ref f) = true ∧ Binds K fd ps []
end
section
variable {X : Cx} {C : Addr} {E : XK} {pos : Pos} {a e o : Expr}
/-- x = o.m(): a new Keeper; slot i stands for it, slot j tells of it -/
def dSetNm (i j : Nat) (t : DNp) (p : DE) : DS := fun ρ N _ Z => p ρ (fun d => d.isKp ∧ t [d] (fun b ts => ∀ y, N ((ρ.set i (some (.v (.adr y)))).set j (some (.kst y b ts))))) Z
theorem sd_setNm {i j n : Nat} {x m : Str} {t : DNp} {p : DE} {apos cpos pos' : Pos} (T : Kp X.K X.mg C) (M : Mn X.prog X.w X.K X.mg X.base C n m t) (hr : Room n X.A) (hx' : Passes (L2.CX X.prog X.w) X E) (hN : X.N.Nodup) (hi : X.N[i]? = some x) (hx : Loc X.env.scope x) (ho : PE X o (lift X.K C E p))
    (hm1 : ¬ m = "begins" := by decide) (hm2 : ¬ m = "turns" := by decide)
    (hs : swapsWith (.Call (.Attribute o m apos) [] [] cpos) (some (.Name x pos')) pos.line X.env = pure false := by rfl) (hf : X.fn x = true ∨ X.env.scope.names.lookup x = some .local := by first | exact .inl rfl | exact .inr rfl | assumption) {pl : Sem Bool}
    (ht : eval (.Call (.Attribute o m apos) [] [] cpos) X.env = (do
      let ov ← eval o X.env
      standAt apos.atName
      let (f, first) ← holding [ov] (getMethod ov m pl)
      callWith cpos f first (backTo cpos (starEach [] X.env)) (backToKw cpos (keywordEach [] X.env))) := by rfl) :
    PS X (.Assign [.Name x pos'] (.Call (.Attribute o m apos) [] [] cpos) pos) (liftS X.K C E (dSetNm i j t p)) := by
  obtain ⟨f, fd, ps, F, hm, hb⟩ := M.ex
  refine (ps_set hN hi hx (pe_meth0 ho T.cl hm F hr hb .nil hx' ht) hs hf).wk fun T' σ H q => ?_
  obtain ⟨B, O0, O, ρ, N, R, Z, k, q, hN, hR, hZ⟩ := q
  refine ⟨B, O0, O, ρ, _, _, k, q, fun v d H1 s1 r1 q1 => ?_, fun c H' s' z => hZ c H' (k.base.trans s') z⟩
  have k1 := k.ext s1
  cases d with
  | kp b ts =>
    obtain ⟨z, dx, l, rfl, e1, e2⟩ := r1
    refine ⟨z, dx, _, rfl, wo_some e1, kf_no b l hm1 hm2, ?_⟩
    refine ⟨O, [.kp b ts], _, k1.al, ⟨.ref z, [], rfl, ⟨z, dx, l, rfl, e1, e2⟩, rfl⟩, q1.2, fun y dx' l' b' ts' H' s hy h1 h2 p => ?_⟩
    exact hN _ H' _ _ (k1.setN s hy h1 h2) (p y)
  | _ => exact q1.1.elim
/-- x = f(e, ..): a new Keeper -/
def dSetNf (i j : Nat) (t : DNp) (q : DA) : DS := fun ρ N _ Z => q ρ (fun ds => t ds (fun b ts => ∀ y, N ((ρ.set i (some (.v (.adr y)))).set j (some (.kst y b ts))))) Z
theorem sd_setNf {i j n : Nat} {x f : Str} {t : DNp} {q : DA} {es : List Expr} {fpos cpos pos' : Pos} (M : Fn X.prog X.w X.K X.mg X.base C n f t) (hr : Room n X.A) (hx' : Passes (L2.CX X.prog X.w) X E) (hN : X.N.Nodup) (hi : X.N[i]? = some x) (hx : Loc X.env.scope x) (hg : Gl X f) (ha : PA X (a :: es) (liftA X.K C E q))
    (hs : swapsWith (.Call (.Name f fpos) (a :: es) [] cpos) (some (.Name x pos')) pos.line X.env = pure false := by rfl) (hf : X.fn x = true ∨ X.env.scope.names.lookup x = some .local := by first | exact .inl rfl | exact .inr rfl | assumption)
    (hdb : (f == ("__debug__" : Str)) = false := by decide) (he : starEach (a :: es) X.env = (false, eval a X.env) :: starEach es X.env := by rfl) (hpl : (backTo cpos (starEach es X.env)).any (·.1) = false := by rfl) :
    PS X (.Assign [.Name x pos'] (.Call (.Name f fpos) (a :: es) [] cpos) pos) (liftS X.K C E (dSetNf i j t q)) := by
  obtain ⟨fa, fd, ps, F, hm, hk, hb⟩ := M.ex
  refine (ps_set hN hi hx (pe_call F hr hg hm hk hb .nil hx' ha hdb he hpl) hs hf).wk fun T' σ H q => ?_
  obtain ⟨B, O0, O, ρ, N, R, Z, k, q, hN, hR, hZ⟩ := q
  refine ⟨B, O0, O, ρ, _, _, k, q, fun vs ds H1 s1 r1 q1 => ?_, fun c H' s' z => hZ c H' (k.base.trans s') z⟩
  have k1 := k.ext s1
  show spN X.K C t (vs ++ []) H1 _ E
  rw [List.append_nil]
  exact ⟨O, ds, _, k1.al, r1, q1, fun y dx' l' b' ts' H' s hy h1 h2 p => hN _ H' _ _ (k1.setN s hy h1 h2) (p y)⟩
end
def dm_gain (f : Bool → Bool → Bool) (bk : Addr) : DM := fun b ts ds T R => ∃ (r : KRow) (d : D), b = r.b ∧ ts = r.ts ∧ ds = [d] ∧ ((∃ r2 : KRow, d = kpD r2 ∧ Few r r2 ∧ T (mergeR f r r2).b (mergeR f r r2).ts .non) ∨ ((tyD d).isSome = true ∧ R bk b ts))
def dp_need_keeper (bk : Addr) : DP := fun ds P R => ∃ d, ds = [d] ∧ (((∃ r : KRow, d = kpD r) ∧ P .non) ∨ ((tyD d).isSome = true ∧ R bk))
def dn_copied : DNp := fun ds P => ∃ r : KRow, ds = [kpD r] ∧ r.ts.length ≤ 3000 ∧ P r.b r.ts
def dp_at (bn ns : Addr) : DP := fun ds P R => ∃ (r : KRow) (d : D), ds = [kpD r, d] ∧ r.ts.length ≤ 1000000 ∧ (tyD d).isSome = true ∧
  (∀ n, d = .int n → 0 ≤ n → (∀ v, r.b = false → atF n r.strs = some v → P (.int v)) ∧ (r.b = true ∨ atF n r.strs = none → R ns)) ∧ (isNum d = false ∨ (∃ n, d = .int n ∧ n < 0) → R bn)
def dp_ngood : DP := fun ds P _ => ∃ (r : KRow) (n : Int), ds = [kpD r, .int n] ∧ r.ts.length ≤ 3000 ∧ P (.bl true)
theorem copy_row (r : KRow) : mergeR f_either ⟨false, [], .nil⟩ r = r := KRow.ext' fun n => by
  rw [mergeR_has]
  rfl
end L2.DL
namespace L2.DL
open PySem PySem.Spec PyProof.Rows L2.SK
theorem any_sD (s : Str2) : ∀ ss : List Str2, ((ss.map sD).any fun z => eqD z (sD s)) = decide (s ∈ ss)
  | [] => rfl
  | t :: ss => by
    rw [List.map_cons, List.any_cons, eqD_sD, any_sD s ss]
    by_cases c : t = s
    · simp [c]
    · simp [c, Ne.symm c]
theorem okE_sD (s : Str2) : okE (sD s) := okE_plain (plain_sD s).1 (by rw [(plain_sD s).2]; decide)
theorem about_any (r : KRow) (n : Int) : ((r.strs.map sD).any fun z => eqD z (sD (about r n))) = r.has n := by
  rw [any_sD]
  have := about_in r n
  cases h : r.has n
  · rw [h] at this
    exact decide_eq_false fun z => by have := this.mp z; cases this
  · rw [h] at this
    exact decide_eq_true (this.mpr rfl)
theorem bF (r : KRow) (n : Int) : belowF n 0 r.strs = if r.b = true then none else some (B n r.strs) := by
  by_cases h : r.b = true
  · rw [if_pos h, below_begins n h]
  · have hb : r.b = false := by cases e : r.b <;> simp_all
    obtain ⟨lo, hs⟩ := strs_srt hb
    rw [if_neg h, belowF_B n r.strs lo 0 hs, Int.zero_add]
theorem has_up {r : KRow} {n t : Int} (e : upT r.ts n = some t) : r.has t = !r.has n := by
  have h1 := has_turn (r := r) (upT_some r.up e).1
  rw [up_before e] at h1
  cases a : r.has t <;> cases b : r.has n <;> simp_all
theorem has_dn {r : KRow} {n t : Int} (e : dnT r.ts n = some t) : r.has (t - 1) = !r.has n := by
  have h1 := has_turn (r := r) (dnT_some r.up e).1
  rw [dn_at e] at h1
  cases a : r.has (t - 1) <;> cases b : r.has n <;> simp_all
end L2.DL
namespace L2.SK
open L2.DL
def shS (k : Int) (s : Str2) : Str2 := (s.1.map (· + k), s.2.map (· + k))
theorem strL_moved (k : Int) : ∀ (ts : List Int) (o : Bool) (f : Option Int), strL o (f.map (· + k)) (ts.map (· + k)) = (strL o f ts).map (shS k)
  | [], true, f => rfl
  | [], false, f => rfl
  | t :: ts, true, f => by
    have := strL_moved k ts false (some t)
    simp only [List.map_cons, strL, shS, Option.map_some] at this ⊢
    rw [← this, show t + k - 1 = t - 1 + k by omega]
  | t :: ts, false, f => by
    have := strL_moved k ts true (some t)
    simp only [List.map_cons, strL, Option.map_some] at this ⊢
    exact this
theorem moved_strs (r : KRow) (k : Int) : (r.moved k).strs = r.strs.map (shS k) := strL_moved k r.ts r.b none
theorem belowF_moved (k n : Int) : ∀ (ss : List Str2) (acc : Int), belowF (n + k) acc (ss.map (shS k)) = belowF n acc ss
  | [], acc => rfl
  | (none, c) :: ss, acc => rfl
  | (some a, none) :: ss, acc => by
    simp only [List.map_cons, shS, Option.map_some, Option.map_none, belowF]
    rw [show acc + max 0 (n + k - (a + k)) = acc + max 0 (n - a) by omega]
    exact belowF_moved k n ss _
  | (some a, some c) :: ss, acc => by
    simp only [List.map_cons, shS, Option.map_some, belowF]
    rw [show acc + max 0 (min (n + k) (c + k + 1) - (a + k)) = acc + max 0 (min n (c + 1) - a) by omega]
    exact belowF_moved k n ss _
theorem upT_moved (ts : List Int) (k n : Int) : upT (ts.map (· + k)) (n + k) = (upT ts n).map (· + k) := by
  unfold upT
  rw [List.filter_map, List.head?_map]
  congr 2
  refine List.filter_congr fun t _ => ?_
  simp only [Function.comp]
  by_cases c : n < t
  · rw [decide_eq_true c, decide_eq_true (by omega)]
  · rw [decide_eq_false c, decide_eq_false (by omega)]
theorem moved_has' (r : KRow) (k n : Int) : (r.moved k).has (n + k) = r.has n := by
  rw [KRow.moved_has]
  congr 1
  omega
theorem upD_moved (r : KRow) (k n : Int) (w : Bool) : upD (r.moved k) (n + k) w = (upD r n w).map (· + k) := by
  unfold upD
  rw [moved_has']
  by_cases c : r.has n = w
  · rw [if_pos c, if_pos c]
    rfl
  · rw [if_neg c, if_neg c]
    exact upT_moved r.ts k n
end L2.SK

namespace L2.DL
theorem eqD_nn : eqD .non .non = true := by decide +kernel
theorem free_bl (b : Bool) : (D.bl b).free := by simp [D.free]
end L2.DL
/-! # Lists and Keepers that other lists hold: the store by address -/
namespace L2.DL
open PySem PySem.Spec PyProof.Rows L2.SK

section
variable {K : PySem.W.Frag} {C : Addr} {B H H' : Hp} {O0 O : List Addr} {σ : St} {ρ : Env}
/-- a slot comes to tell of a list -/
theorem Ok.tellL (k : Ok K C B O0 O H σ ρ) (j : Nat) {p : Addr} {ds : List D} {vs : List V} (hp : p ∈ O) (hb : B p = none) (h1 : H p = some (.lst vs)) (h2 : RepL K C (wo H O) ds vs)
    (hn : ∀ (i : Nat) (es : List D), ρ[i]? = some (some (.ls p es)) → i = j) (ho : ∀ (i : Nat) (es : List D), ρ[i]? = some (some (.own es)) → σ[i]? ≠ some (some (.ref p))) : Ok K C B O0 O H σ (ρ.set j (some (.ls p ds))) := by
  have old : ∀ {i : Nat} {x : DV}, (ρ.set j (some (.ls p ds)))[i]? = some (some x) → (i = j ∧ x = .ls p ds) ∨ (i ≠ j ∧ ρ[i]? = some (some x)) := fun {i x} e => by
    by_cases h : j = i
    · subst h
      by_cases hl : j < ρ.length
      · rw [List.getElem?_set_self hl] at e
        exact .inl ⟨rfl, (Option.some.inj (Option.some.inj e)).symm⟩
      · rw [List.getElem?_eq_none (by rw [List.length_set]; omega)] at e
        cases e
    · rw [List.getElem?_set_ne h] at e
      exact .inr ⟨fun z => h z.symm, e⟩
  refine ⟨k.base, k.al0, k.al, k.sub0, k.new, by rw [List.length_set]; exact k.len, fun i d e => ?_, fun i es e => ?_, fun a a' es fs e1 e2 e3 => ?_, k.st.to (set_kst fun _ _ _ h => by cases h) (fun _ _ _ h _ => h) (fun _ _ _ _ _ e _ => e) (Same.refl _) (fun _ _ h => h), ⟨fun i q es e => ?_, fun i i' q es fs e1 e2 => ?_, fun i i' q es fs e1 e2 => ?_⟩, k.tb.to (set_tb fun _ _ h => by cases h) (fun _ _ _ h => h) (SameX.refl _) (fun _ _ h => h)⟩
  · rcases old e with ⟨_, z⟩ | ⟨_, e⟩
    · cases z
    · exact k.val i d e
  · rcases old e with ⟨_, z⟩ | ⟨_, e⟩
    · cases z
    · exact k.own i es e
  · rcases old e1 with ⟨_, z⟩ | ⟨_, e1⟩
    · cases z
    · rcases old e2 with ⟨_, z⟩ | ⟨_, e2⟩
      · cases z
      · exact k.uniq a a' es fs e1 e2 e3
  · rcases old e with ⟨_, z⟩ | ⟨_, e⟩
    · cases z
      exact ⟨hp, hb, vs, h1, h2⟩
    · exact k.ls.at_ i q es e
  · rcases old e1 with ⟨z1, z⟩ | ⟨n1, e1⟩
    · cases z
      rcases old e2 with ⟨z2, _⟩ | ⟨n2, e2⟩
      · rw [z1, z2]
      · exact absurd (hn _ _ e2) n2
    · rcases old e2 with ⟨z2, z⟩ | ⟨n2, e2⟩
      · cases z
        exact absurd (hn _ _ e1) n1
      · exact k.ls.one i i' q es fs e1 e2
  · rcases old e2 with ⟨_, z⟩ | ⟨_, e2⟩
    · cases z
    · rcases old e1 with ⟨_, z⟩ | ⟨_, e1⟩
      · cases z
        exact ho _ _ e2
      · exact k.ls.no i i' q es fs e1 e2
/-- the list that slot j tells of changes -/
theorem Ok.mutL (k : Ok K C B O0 O H σ ρ) {j : Nat} {p : Addr} {ds es : List D} {ws : List V} (hj : ρ[j]? = some (some (.ls p ds))) (r : RepL K C (wo H O) es ws) : Ok K C B O0 O (upd H p (.lst ws)) σ (ρ.set j (some (.ls p es))) := by
  obtain ⟨hp, hb, vs, h3, h4⟩ := k.ls.at_ j p ds hj
  have s1 : ∀ q o, q ≠ p → H q = some o → upd H p (.lst ws) q = some o := fun q o n e => by rw [upd_ne n]; exact e
  have sw : Same (wo H O) (wo (upd H p (.lst ws)) O) := fun q o e => wo_upd hp e
  have k1 : Ok K C B O0 O (upd H p (.lst ws)) σ (ρ.set j none) := by
    have old : ∀ {i : Nat} {x : DV}, (ρ.set j none)[i]? = some (some x) → ρ[i]? = some (some x) ∧ j ≠ i := fun {i x} e => by
      by_cases h : j = i
      · subst h
        by_cases hl : j < ρ.length
        · rw [List.getElem?_set_self hl] at e
          simp at e
        · rw [List.getElem?_eq_none (by rw [List.length_set]; omega)] at e
          cases e
      · rw [List.getElem?_set_ne h] at e
        exact ⟨e, h⟩
    refine ⟨fun q o e => s1 q o (fun z => by rw [z, hb] at e; cases e) (k.base q o e), k.al0, fun a ha => ?_, k.sub0, k.new, by rw [List.length_set]; exact k.len, fun i d e => ?_, fun i es e => ?_, fun a a' es fs e1 e2 e3 => ?_,
      k.st.to (set_kst fun _ _ _ h => by cases h) (fun _ _ _ h _ => h) (fun a dx fs _ _ e _ => s1 a _ (fun z => by rw [z, h3] at e; cases e) e) sw (fun _ _ h => h), ⟨fun i q es e => ?_, fun i i' q es fs e1 e2 => ?_, fun i i' q es fs e1 e2 => ?_⟩, k.tb.to (set_tb fun _ _ h => by cases h) (fun _ _ _ h => h) (SameX.upd h3) (fun _ _ h => h)⟩
    · by_cases z : a = p
      · rw [z, upd_same]; intro y; cases y
      · obtain ⟨o, ho⟩ := Option.ne_none_iff_exists'.mp (k.al a ha)
        rw [s1 a o z ho]; intro y; cases y
    · obtain ⟨x, e1, e2⟩ := k.val i d (old e).1
      exact ⟨x, e1, Rep.mono sw d e2⟩
    · obtain ⟨q, us, e1, e2, e3, e4, e5⟩ := k.own i es (old e).1
      exact ⟨q, us, e1, e2, e3, s1 q _ (fun z => k.ls.no j i p ds es hj (old e).1 (by rw [e1, z])) e4, RepL.mono sw es e5⟩
    · exact k.uniq a a' es fs (old e1).1 (old e2).1 e3
    · obtain ⟨e, n⟩ := old e
      obtain ⟨a1, a2, us, a3, a4⟩ := k.ls.at_ i q es e
      exact ⟨a1, a2, us, s1 q _ (fun z => n (k.ls.one j i p ds es hj (z ▸ e))) a3, RepL.mono sw es a4⟩
    · exact k.ls.one i i' q es fs (old e1).1 (old e2).1
    · exact k.ls.no i i' q es fs (old e1).1 (old e2).1
  have k2 := k1.tellL j hp hb upd_same (RepL.mono sw es r) (fun i fs e => by
    by_cases h : j = i
    · exact h.symm
    · rw [List.getElem?_set_ne h] at e
      exact absurd (k.ls.one j i p ds fs hj e) h) (fun i fs e => by
    by_cases h : j = i
    · subst h
      by_cases hl : j < ρ.length
      · rw [List.getElem?_set_self hl] at e
        simp at e
      · rw [List.getElem?_eq_none (by rw [List.length_set]; omega)] at e
        cases e
    · rw [List.getElem?_set_ne h] at e
      exact k.ls.no j i p ds fs hj e)
  rwa [List.set_set] at k2
/-- a new list is told of -/
theorem Ok.newL (k : Ok K C B O0 O H σ ρ) (j : Nat) {a : Addr} {ds : List D} {vs : List V} (ha : H a = none) (r : RepL K C (wo H O) ds vs) : Ok K C B O0 (a :: O) (upd H a (.lst vs)) σ (ρ.set j (some (.ls a ds))) := by
  have k1 := k.apart (o := .lst vs) ha
  have sw : Same (wo H O) (wo (upd H a (.lst vs)) (a :: O)) := fun b o e => by
    have h1 : H b = some o := wo_some e
    have nb : b ≠ a := ne_of_none h1 ha
    have nO : b ∉ O := fun z => by
      unfold wo at e
      rw [if_pos z] at e
      cases e
    exact wo_of (by rw [upd_ne nb]; exact h1) (by simp [nb, nO])
  refine k1.tellL j List.mem_cons_self (k.base.free ha) upd_same (RepL.mono sw ds r) (fun i es e => ?_) fun i es e z => ?_
  · obtain ⟨_, _, us, h3, _⟩ := k.ls.at_ i a es e
    rw [ha] at h3
    cases h3
  · obtain ⟨q, us, e1, e2, e3, e4, e5⟩ := k.own i es e
    rw [z] at e1
    have : a = q := by simpa using e1
    rw [← this, ha] at e4
    cases e4
/-- a new Keeper is told of -/
theorem Ok.newK (k : Ok K C B O0 O H σ ρ) (j : Nat) {y l dx : Addr} {b : Bool} {ts : List Int} (s0 : Same H H') (hy : H y = none) (h1 : H' y = some (.ins C dx (kf b l))) (h2 : wo H' (y :: O) l = some (.lst (ts.map V.int))) :
    Ok K C B O0 (y :: O) H' σ (ρ.set j (some (.kst y b ts))) := by
  have hyO : y ∉ O := k.al.new hy
  have k0 := k.apart (o := .ins C dx []) hy
  have sw : Same (wo H O) (wo H' (y :: O)) := fun b o e => by
    have e1 := wo_some e
    have nO : b ∉ O := fun z => by
      unfold wo at e
      rw [if_pos z] at e
      cases e
    exact wo_of (s0 _ _ e1) (by simp [ne_of_none e1 hy, nO])
  have k1 : Ok K C B O0 (y :: O) H' σ ρ := by
    refine ⟨k.base.trans s0, k.al0, fun a ha => ?_, fun a ha => List.mem_cons_of_mem _ (k.sub0 a ha), k0.new, k.len, fun m d e => ?_, fun m es e => ?_, k.uniq, k.st.to (fun _ _ _ _ e => e) (fun _ _ _ h _ => List.mem_cons_of_mem _ h) (fun _ _ _ _ _ e _ => s0 _ _ e) sw (fun _ _ h => h), k.ls.to (fun _ _ _ e => e) (fun _ _ _ _ _ _ h => List.mem_cons_of_mem _ h) (fun _ _ _ _ _ _ _ e => s0 _ _ e) sw (fun _ _ h => h) k.ls.no, k.tb.to (fun _ _ _ e => e) (fun _ _ _ h => List.mem_cons_of_mem _ h) (SameX.of s0) (fun _ _ h => h)⟩
    · rcases List.mem_cons.mp ha with rfl | ha
      · rw [h1]; intro z; cases z
      · exact (k.al.mono s0) a ha
    · obtain ⟨x, e1, e2⟩ := k.val m d e
      exact ⟨x, e1, Rep.mono sw d e2⟩
    · obtain ⟨q, vs, e1, e2, e3, e4, e5⟩ := k.own m es e
      exact ⟨q, vs, e1, List.mem_cons_of_mem _ e2, e3, s0 _ _ e4, RepL.mono sw es e5⟩
  exact k1.tell j (p := y) (l := l) (dx := dx) List.mem_cons_self (k.base.free hy) h1 h2 (fun m b' ts' e => by
    obtain ⟨z, _⟩ := k.st.at_ m y b' ts' e
    exact absurd z hyO)
end
section
variable {X : Cx} {C : Addr} {E : XK} {pos : Pos} {a e o : Expr}
/-- o[i], o a list that slot l tells of -/
def dIxS (l : Nat) (p q : DE) : DE := fun ρ P R => p ρ (fun x => q ρ (fun i => match x, i, ρ[l]? with
  | .adr a, .int n, some (some (.ls b ds)) => a = b ∧ ∃ d, atI ds n = some d ∧ P d
  | _, _, _ => False) R) R
theorem pd_ixS {b : Expr} {p q : DE} (l : Nat) (ha : PE X a (lift X.K C E p)) (hb : PE X b (lift X.K C E q)) (hs : PlainIx b) : PE X (.Subscript a b pos) (lift X.K C E (dIxS l p q)) := (pe_ix ix_seq ha hb hs).wk fun σ H Q h => by
  obtain ⟨B, O0, O, ρ, P, R, k, h, hP, hR⟩ := h
  refine ⟨B, O0, O, ρ, _, R, k, h, fun x dx H1 s1 r1 h1 => ⟨B, O0, O, ρ, _, R, k.ext s1, h1, fun y dy H2 s2 r2 h2 => ?_, fun c H' s' z => hR c H' (s1.trans s') z⟩, hR⟩
  have k2 := (k.ext s1).ext s2
  have r1' := Rep.mono (wo_same O s2) dx r1
  split at h2
  · rename_i a' n b' ds hl
    obtain ⟨rfl, d, e1, e2⟩ := h2
    obtain ⟨_, _, vs, h3, h4⟩ := k2.ls.at_ l _ ds hl
    obtain ⟨v, h5, h6⟩ := atI_rep h4 e1
    exact .inl ⟨_, vs, n, v, r1', r2, SqL.of h3, h5, hP v d H2 (s1.trans s2) h6 e2⟩
  · exact h2.elim
/-- o.m() with o a Keeper in the store; the result is free of Keepers -/
def dMethX (t : DP) (p : DE) : DE := fun ρ P R => p ρ (fun x => ∃ (j : Nat) (q : Addr) (b : Bool) (ts : List Int), x = .adr q ∧ ρ[j]? = some (some (.kst q b ts)) ∧ t [.kp b ts] (fun d => d.free ∧ P d) R) R
theorem pd_mtX {apos : Pos} {m : Str} {n : Nat} {t : DP} {p : DE} (T : Kp X.K X.mg C) (M : Mc X.prog X.w X.K X.mg X.base C n m t) (hr : Room n X.A) (hx : Passes (L2.CX X.prog X.w) X E) (ho : PE X o (lift X.K C E p))
    (hm1 : ¬ m = "begins" := by decide) (hm2 : ¬ m = "turns" := by decide) {pl : Sem Bool}
    (ht : eval (.Call (.Attribute o m apos) [] [] pos) X.env = (do
      let ov ← eval o X.env
      standAt apos.atName
      let (f, first) ← holding [ov] (getMethod ov m pl)
      callWith pos f first (backTo pos (starEach [] X.env)) (backToKw pos (keywordEach [] X.env))) := by rfl) :
    PE X (.Call (.Attribute o m apos) [] [] pos) (lift X.K C E (dMethX t p)) := by
  obtain ⟨f, fd, ps, G, hm, hb⟩ := M.ex
  refine (pe_meth0 ho T.cl hm G hr hb .nil hx ht).wk fun σ H Q q => ?_
  obtain ⟨B, O0, O, ρ, P, R, k, q, hP, hR⟩ := q
  refine ⟨B, O0, O, ρ, _, R, k, q, fun x d H1 s1 r1 q1 => ?_, hR⟩
  obtain ⟨j, y, b, ts, rfl, hj, q2⟩ := q1
  have k1 := k.ext s1
  obtain ⟨hp, hb', dx, l, h1, h2⟩ := k1.st.at_ j y b ts hj
  have ex : x = V.ref y := r1
  subst ex
  refine ⟨y, dx, _, rfl, h1, kf_no b l hm1 hm2, ?_⟩
  exact ⟨less1 O y, [.kp b ts], _, R, fun c hc => k1.al c (less1_sub hc), ⟨.ref y, [], rfl, ⟨y, dx, l, rfl, wo_of h1 less1_ne, wo_sub H1 (fun c hc => less1_sub hc) _ _ h2⟩, rfl⟩, q2, fun v d H3 s3 r3 p3 => hP v d H3 (s1.trans s3) (Rep.back (s3 _ _ h1) p3.1 r3) p3.2, fun c H' s' z => hR c H' (s1.trans s') z⟩
/-- isinstance(o, Keeper), o a Keeper in the store -/
def dIsX (C : Addr) (p q : DE) : DE := fun ρ P R => p ρ (fun x => q ρ (fun y => ∃ (j : Nat) (a : Addr) (b : Bool) (ts : List Int), x = .adr a ∧ ρ[j]? = some (some (.kst a b ts)) ∧ y = .adr C ∧ P (.bl true)) R) R
theorem pd_isX {b : Expr} {p q : DE} {np : Pos} (T : Kp X.K X.mg C) (ki : Kis X.K C) (nb : X.mg "isinstance" = none) (ha : PE X a (lift X.K C E p)) (hb : PE X b (lift X.K C E q)) (hg : Gl X "isinstance" := by rfl) (hs1 : starEach [a, b] X.env = (false, eval a X.env) :: starEach [b] X.env := by rfl) (hs2 : starEach [b] X.env = (false, eval b X.env) :: starEach [] X.env := by rfl) (hpl : (backTo pos (starEach [b] X.env)).any (·.1) = false := by rfl) :
    PE X (.Call (.Name "isinstance" np) [a, b] [] pos) (lift X.K C E (dIsX C p q)) := (pe_callB call_isi hg nb bt_isinstance (pa_cons ha (pa_cons hb pa_nil hs2) hs1) (by decide) (by decide) hs1 hpl).wk fun σ H Q h => by
  obtain ⟨B, O0, O, ρ, P, R, k, h, hP, hR⟩ := h
  refine ⟨B, O0, O, ρ, _, R, k, h, fun x dx H1 s1 r1 h1 => ⟨B, O0, O, ρ, _, R, k.ext s1, h1, fun y dy H2 s2 r2 h2 => ?_, fun c H' s' z => hR c H' (s1.trans s') z⟩, hR⟩
  obtain ⟨j, c, b', ts, rfl, hj, rfl, h3⟩ := h2
  have k2 := (k.ext s1).ext s2
  obtain ⟨_, _, dx, l, g1, _⟩ := k2.st.at_ j c b' ts hj
  have ex : x = V.ref c := r1
  have ey : y = V.ref C := r2
  subst ex ey
  refine ⟨.ref c, .ref C, .ref C, .ref C, true, rfl, .own _, .base (.ins g1 T.cl ki.ha ki.hn ki.htk ki.hm), ?_, hP (.bl true) (.bl true) H2 (s1.trans s2) rfl h3⟩
  unfold PySem.W.kitOne
  rw [if_pos (beq_self_eq_true _)]

/-! ### stateful expressions and arguments -/
abbrev DAM := Env → (List D → Env → Prop) → (Addr → Env → Prop) → Prop
def liftAM (K : PySem.W.Frag) (C : Addr) (E : XK) (p : DAM) : TA := fun σ H Q => ∃ B O0 O ρ P R, Ok K C B O0 O H σ ρ ∧ p ρ P R ∧
  (∀ vs ds H' ρ' O', Ok K C B O0 O' H' σ ρ' → Same (wo H O) (wo H' O') → RepL K C (wo H' O') ds vs → P ds ρ' → Q vs H') ∧ ∀ c H' σ' ρ' O', Ok K C B O0 O' H' σ' ρ' → R c ρ' → E (.ref c) none H'
end
end L2.DL
/-! # Stateful displays, items set, lists in the store that grow -/
namespace L2.DL
open PySem PySem.Spec PyProof.Rows L2.SK
section
variable {X : Cx} {C : Addr} {E : XK} {pos : Pos} {a e o : Expr}
/-- Keeper() as an expression -/
def dNewE : DEM := fun ρ P _ => ∃ j : Nat, ∀ p, P (.adr p) (ρ.set j (some (.kst p false [])))
theorem pm_new {n : Nat} {p p2 : Pos} (T : Kn X.prog X.w X.K X.mg X.base C n) (hr : Room (n + 1) X.A) (hx' : Passes (L2.CX X.prog X.w) X E) (hg : Gl X "Keeper" := by rfl) (hdb : (("Keeper" : Str) == ("__debug__" : Str)) = false := by decide) :
    PE X (.Call (.Name "Keeper" p) [] [] p2) (liftM X.K C E dNewE) := by
  obtain ⟨f, fd, ps, M, F, hb⟩ := T.ex
  refine (pe_make0 M F hr hg T.g hb .nil hx' hdb).wk fun σ H Q q => ?_
  obtain ⟨B, O0, O, ρ, P, R, k, ⟨j, q⟩, hP, hR⟩ := q
  intro y dx hy hdx ne
  refine ⟨y, dx, rfl, upd_same, fun l H' hl s' h1 h2 => ⟨rfl, ?_⟩⟩
  have ly : l ≠ y := fun z => by rw [z, upd_same] at hl; cases hl
  have hl0 : H l = none := by
    have n2 : l ≠ dx := fun z => by rw [z, upd_ne ne, upd_same] at hl; cases hl
    rw [upd_ne ly, upd_ne n2] at hl
    exact hl
  have s0 : Same H H' := fun b o e => s' b o (wo_of (by
    have n1 : b ≠ y := ne_of_none e hy
    have n2 : b ≠ dx := ne_of_none e hdx
    rw [upd_ne n1, upd_ne n2]
    exact e) (by simpa using ne_of_none e hy))
  exact hP _ (.adr y) H' _ _ (k.newK j s0 hy h1 (ts := []) (wo_of h2 (by simp [ly, k.al.new hl0]))) rfl (q y)
/-- a new list that the store tells of -/
def dLsE (q : DA) : DEM := fun ρ P R => q ρ (fun ds => ds.length ≤ sizeLine ∧ ∃ j : Nat, ∀ p, P (.adr p) (ρ.set j (some (.ls p ds)))) (fun c => R c ρ)
theorem pm_ls {es : List Expr} {q : DA} (h : PA X es (liftA X.K C E q)) : PE X (.List es pos) (liftM X.K C E (dLsE q)) := (pe_lst h).wk fun σ H Q q => by
  obtain ⟨B, O0, O, ρ, P, R, k, q, hP, hR⟩ := q
  refine ⟨B, O0, O, ρ, _, _, k, q, fun vs ds H1 s1 r1 q1 => ⟨by rw [RepL.length r1]; exact q1.1, fun p hp => ?_⟩, fun c H' s' z => hR c H' σ ρ O (k.ext s') z⟩
  obtain ⟨j, q2⟩ := q1.2
  exact hP (.ref p) (.adr p) _ _ _ ((k.ext s1).newL j hp r1) rfl (q2 p)
/-- stateful items: each an address (nothing that they lean on changes) -/
def dNilM : DAM := fun ρ P _ => P [] ρ
def dConsM (p : DEM) (q : DAM) : DAM := fun ρ P R => p ρ (fun d ρ' => (∃ c, d = .adr c) ∧ q ρ' (fun ds ρ'' => P (d :: ds) ρ'') R) R
def liftAd (K : PySem.W.Frag) (C : Addr) (E : XK) (p : DAM) : TA := fun σ H Q => ∃ B O0 O ρ P R, Ok K C B O0 O H σ ρ ∧ p ρ P R ∧
  (∀ vs ds H' ρ' O', Ok K C B O0 O' H' σ ρ' → (∀ d ∈ ds, ∃ c, d = .adr c) → (∀ H'', RepL K C H'' ds vs) → P ds ρ' → Q vs H') ∧ ∀ c H' σ' ρ' O', Ok K C B O0 O' H' σ' ρ' → R c ρ' → E (.ref c) none H'
theorem am_nil : PA X [] (liftAd X.K C E dNilM) := pa_nil.wk fun σ H Q q => by
  obtain ⟨B, O0, O, ρ, P, R, k, q, hP, hR⟩ := q
  exact hP [] [] H ρ O k (fun _ h => nomatch h) (fun _ => rfl) q
theorem am_cons {es : List Expr} {p : DEM} {q : DAM} (ha : PE X a (liftM X.K C E p)) (hr : PA X es (liftAd X.K C E q)) (hs : starEach (a :: es) X.env = (false, eval a X.env) :: starEach es X.env := by rfl) : PA X (a :: es) (liftAd X.K C E (dConsM p q)) := (pa_cons ha hr hs).wk fun σ H Q q => by
  obtain ⟨B, O0, O, ρ, P, R, k, q, hP, hR⟩ := q
  refine ⟨B, O0, O, ρ, _, R, k, q, fun v d H1 ρ1 O1 k1 r1 q1 => ?_, hR⟩
  obtain ⟨⟨c, rfl⟩, q1⟩ := q1
  have ev : v = V.ref c := r1
  subst ev
  exact ⟨B, O0, O1, ρ1, _, R, k1, q1, fun vs ds H2 ρ2 O2 k2 hd r2 q2 => hP (.ref c :: vs) (.adr c :: ds) H2 ρ2 O2 k2 (fun d hm => by
    rcases List.mem_cons.mp hm with rfl | hm
    · exact ⟨c, rfl⟩
    · exact hd d hm) (fun H'' => ⟨.ref c, vs, rfl, rfl, r2 H''⟩) q2, hR⟩
def dLsM (q : DAM) : DEM := fun ρ P R => q ρ (fun ds ρ' => ds.length ≤ sizeLine ∧ ∃ j : Nat, ∀ p, P (.adr p) (ρ'.set j (some (.ls p ds)))) R
theorem pm_lsM {es : List Expr} {q : DAM} (h : PA X es (liftAd X.K C E q)) : PE X (.List es pos) (liftM X.K C E (dLsM q)) := (pe_lst h).wk fun σ H Q q => by
  obtain ⟨B, O0, O, ρ, P, R, k, q, hP, hR⟩ := q
  refine ⟨B, O0, O, ρ, _, R, k, q, fun vs ds H1 ρ1 O1 k1 hd r1 q1 => ?_, hR⟩
  refine ⟨by rw [RepL.length (r1 (fun _ => none))]; exact q1.1, fun p hp => ?_⟩
  obtain ⟨j, q2⟩ := q1.2
  exact hP (.ref p) (.adr p) _ _ _ (k1.newL j hp (r1 _)) rfl (q2 p)
/-- o[i] = e, o a list that slot l tells of -/
def dSetIx (l : Nat) (pe : DEM) (po pi : DE) : DSM := fun ρ N _ Z => pe ρ (fun v ρ' => po ρ' (fun x => pi ρ' (fun i => match x, i, ρ'[l]? with
  | .adr a, .int n, some (some (.ls b ds)) => a = b ∧ (∃ c, v = .adr c) ∧ ∃ m, ixN ds.length n = some m ∧ N (ρ'.set l (some (.ls b (ds.set m v))))
  | _, _, _ => False) (fun c => Z c ρ')) (fun c => Z c ρ')) Z
theorem RepL.set {K : PySem.W.Frag} {H : Hp} {d : D} {v : V} (r : Rep K C H d v) : ∀ {ds : List D} {vs : List V} (m : Nat), RepL K C H ds vs → RepL K C H (ds.set m d) (vs.set m v)
  | [], vs, m, h => by
    have e : _ = _ := h
    subst e
    rfl
  | x :: ds, vs, 0, h => by
    obtain ⟨w, us, rfl, h1, h2⟩ := h
    exact ⟨v, us, rfl, r, h2⟩
  | x :: ds, vs, m + 1, h => by
    obtain ⟨w, us, rfl, h1, h2⟩ := h
    exact ⟨w, us.set m v, rfl, h1, RepL.set r m h2⟩
theorem sm_setIx {i : Expr} {pe : DEM} {po pi : DE} {p2 : Pos} (l : Nat) (he : PE X e (liftM X.K C E pe)) (ho : PE X o (lift X.K C E po)) (hi : PE X i (lift X.K C E pi))
    (hs : swapsWithSole [.Subscript o i p2] e pos.line X.env = pure false := by rfl) (hw : swappedStores [.Subscript o i p2] e X.env = pure none := by rfl) (h1 : (assignEach [.Subscript o i p2] X.env).map (·.2) = [assign (.Subscript o i p2) X.env] := by rfl)
    (ha : ∀ v, assign (.Subscript o i p2) X.env v = (do
      let ov ← holding [v] (eval o X.env)
      let iv ← holding [v, ov] (eval i X.env)
      standAt p2
      holding [v, ov, iv] (setItem ov iv v)
      release [v, ov, iv] []) := by intro _; rfl) : PS X (.Assign [.Subscript o i p2] e pos) (liftSM X.K C E (dSetIx l pe po pi)) := (ps_asg he (pg_sub ho hi set_list ha) hs hw h1).wk fun T' σ H q => by
  obtain ⟨B, O0, O, ρ, N, R, Z, k, q, hN, hR, hZ⟩ := q
  refine ⟨B, O0, O, ρ, _, _, k, q, fun v d H1 ρ1 O1 k1 r1 q1 => ?_, hZ⟩
  refine ⟨B, O0, O1, ρ1, _, _, k1, q1, fun x dx H2 s2 r2 q2 => ⟨B, O0, O1, ρ1, _, _, k1.ext s2, q2, fun y dy H3 s3 r3 q3 => ?_, fun c H' s' z => hZ c H' σ ρ1 O1 ((k1.ext s2).ext s') z⟩, fun c H' s' z => hZ c H' σ ρ1 O1 (k1.ext s') z⟩
  have k3 := (k1.ext s2).ext s3
  have r2' := Rep.mono (wo_same O1 s3) dx r2
  split at q3
  · rename_i a' n b' ds hl
    obtain ⟨rfl, ⟨c, rfl⟩, m, hm, q4⟩ := q3
    obtain ⟨_, _, vs, g3, g4⟩ := k3.ls.at_ l _ ds hl
    have ev : v = V.ref c := r1
    subst ev
    exact ⟨_, vs, n, m, r2', r3, g3, by rw [RepL.length g4]; exact hm, hN σ _ _ O1 (k3.mutL hl (RepL.set (d := .adr c) (v := .ref c) rfl m g4)) q4⟩
  · exact q3.elim
end
end L2.DL
/-! # What the store's things are asked and told, by address -/
namespace L2.DL
open PySem PySem.Spec PyProof.Rows L2.SK
section
variable {X : Cx} {C : Addr} {E : XK} {pos : Pos} {a e o : Expr}
/-- o.append(e), o a list in the store -/
def dAppX (po pe : DE) : DS := fun ρ N _ Z => po ρ (fun x => ∃ (l : Nat) (q : Addr) (ds : List D), x = .adr q ∧ ρ[l]? = some (some (.ls q ds)) ∧ pe ρ (fun d => ds.length < sizeLine ∧ N (ρ.set l (some (.ls q (ds ++ [d]))))) Z) Z
theorem sd_appX {po pe : DE} {apos cpos : Pos} (ho : PE X o (lift X.K C E po)) (he : PE X e (lift X.K C E pe))
    (hw : ∀ (t : TE), PE X e t → PE X (.Call (.Attribute o "append" apos) [e] [] cpos) (tBM X.K "list" rAppend (lift X.K C E po) (tCons t tNil)))
    (hs : swapsWith (.Call (.Attribute o "append" apos) [e] [] cpos) none pos.line X.env = pure false := by rfl) : PS X (.Expr (.Call (.Attribute o "append" apos) [e] [] cpos) pos) (liftS X.K C E (dAppX po pe)) := (ps_expr (hw _ he) hs).wk fun T' σ H q => by
  obtain ⟨B, O0, O, ρ, N, R, Z, k, q, hN, hR, hZ⟩ := q
  refine ⟨B, O0, O, ρ, _, _, k, q, fun x dx H1 s1 r1 q1 => ?_, fun c H' s' z => hZ c H' (k.base.trans s') z⟩
  obtain ⟨l, y, ds, rfl, hl, q2⟩ := q1
  have k1 := k.ext s1
  have ex : x = V.ref y := r1
  subst ex
  obtain ⟨_, _, vs, h3, h4⟩ := k1.ls.at_ l y ds hl
  refine ⟨.inl ⟨rfl, vs, SqL.of h3⟩, B, O0, O, ρ, _, _, k1, q2, fun v d H2 s2 r2 q3 => ?_, fun c H' s' z => hZ c H' (k1.base.trans s') z⟩
  have k2 := k1.ext s2
  obtain ⟨_, _, vs', h5, h6⟩ := k2.ls.at_ l y ds hl
  refine ⟨y, vs', v, rfl, rfl, h5, by rw [RepL.length h6]; exact q3.1, ?_⟩
  exact hN σ _ _ O (k2.mutL hl (h6.append (RepL.one r2))) q3.2
/-- list(o), o a list in the store: a new one in the store -/
def dCopyL (po : DE) : DEM := fun ρ P R => po ρ (fun x => ∃ (l : Nat) (q : Addr) (ds : List D), x = .adr q ∧ ρ[l]? = some (some (.ls q ds)) ∧ ∃ j : Nat, ∀ p, P (.adr p) (ρ.set j (some (.ls p ds)))) (fun c => R c ρ)
theorem pm_copyL {po : DE} {np : Pos} (nb : X.mg "list" = none) (ho : PE X o (lift X.K C E po)) (hg : Gl X "list" := by rfl) (hs : starEach [o] X.env = (false, eval o X.env) :: starEach [] X.env := by rfl) (hpl : (backTo pos (starEach [] X.env)).any (·.1) = false := by rfl) :
    PE X (.Call (.Name "list" np) [o] [] pos) (liftM X.K C E (dCopyL po)) := (pe_callTy call_list_of hg nb bt_list (pa_cons ho pa_nil hs) (by decide) (by decide) hs hpl).wk fun σ H Q q => by
  obtain ⟨B, O0, O, ρ, P, R, k, q, hP, hR⟩ := q
  refine ⟨B, O0, O, ρ, _, _, k, q, fun x dx H1 s1 r1 q1 => ?_, fun c H' s' z => hR c H' σ ρ O (k.ext s') z⟩
  obtain ⟨l, y, ds, rfl, hl, j, q2⟩ := q1
  have k1 := k.ext s1
  have ex : x = V.ref y := r1
  subst ex
  obtain ⟨_, _, vs, h3, h4⟩ := k1.ls.at_ l y ds hl
  exact ⟨y, vs, rfl, .inl (SqL.of h3), fun p hp => hP (.ref p) (.adr p) _ _ _ (k1.newL j hp h4) rfl (q2 p)⟩
/-- o.copied(), o a Keeper in the store: a new one in the store -/
def dCopyK (t : DNp) (po : DE) : DEM := fun ρ P R => po ρ (fun x => ∃ (i : Nat) (q : Addr) (b : Bool) (ts : List Int), x = .adr q ∧ ρ[i]? = some (some (.kst q b ts)) ∧ t [.kp b ts] (fun b' ts' => ∃ j : Nat, ∀ y, P (.adr y) (ρ.set j (some (.kst y b' ts'))))) (fun c => R c ρ)
theorem pm_copyK {n : Nat} {m : Str} {t : DNp} {po : DE} {apos : Pos} (T : Kp X.K X.mg C) (M : Mn X.prog X.w X.K X.mg X.base C n m t) (hr : Room n X.A) (hx : Passes (L2.CX X.prog X.w) X E) (ho : PE X o (lift X.K C E po))
    (hm1 : ¬ m = "begins" := by decide) (hm2 : ¬ m = "turns" := by decide) {pl : Sem Bool}
    (ht : eval (.Call (.Attribute o m apos) [] [] pos) X.env = (do
      let ov ← eval o X.env
      standAt apos.atName
      let (f, first) ← holding [ov] (getMethod ov m pl)
      callWith pos f first (backTo pos (starEach [] X.env)) (backToKw pos (keywordEach [] X.env))) := by rfl) :
    PE X (.Call (.Attribute o m apos) [] [] pos) (liftM X.K C E (dCopyK t po)) := by
  obtain ⟨f, fd, ps, G, hm, hb⟩ := M.ex
  refine (pe_meth0 ho T.cl hm G hr hb .nil hx ht).wk fun σ H Q q => ?_
  obtain ⟨B, O0, O, ρ, P, R, k, q, hP, hR⟩ := q
  refine ⟨B, O0, O, ρ, _, _, k, q, fun x d H1 s1 r1 q1 => ?_, fun c H' s' z => hR c H' σ ρ O (k.ext s') z⟩
  obtain ⟨i, y, b, ts, rfl, hj, q2⟩ := q1
  have k1 := k.ext s1
  obtain ⟨hp, hb', dx, l, h1, h2⟩ := k1.st.at_ i y b ts hj
  have ex : x = V.ref y := r1
  subst ex
  refine ⟨y, dx, _, rfl, h1, kf_no b l hm1 hm2, ?_⟩
  refine ⟨less1 O y, [.kp b ts], _, fun c hc => k1.al c (less1_sub hc), ⟨.ref y, [], rfl, ⟨y, dx, l, rfl, wo_of h1 less1_ne, wo_sub H1 (fun c hc => less1_sub hc) _ _ h2⟩, rfl⟩, q2, fun z dx' l' b' ts' H' s hz g1 g2 p => ?_⟩
  obtain ⟨j, p⟩ := p
  -- the new one's list leans on no Keeper's place
  have hy' : H' y = some (.ins C dx (kf b l)) := s _ _ h1
  have g2' : wo H' (z :: O) l' = some (.lst (ts'.map V.int)) := wo_of (wo_some g2) fun m => by
    by_cases q : l' = y
    · have := wo_some g2
      rw [q, hy'] at this
      cases this
    · have hn : l' ∈ z :: less1 O y := by
        rcases List.mem_cons.mp m with m | m
        · rw [m]; exact List.mem_cons_self
        · exact List.mem_cons_of_mem _ (less1_mem m q)
      unfold wo at g2
      rw [if_pos hn] at g2
      cases g2
  exact hP _ (.adr z) H' _ _ (k1.newK j s hz g1 g2') rfl (p z)
/-- a call that changes its first argument, a Keeper in the store -/
def dMutX (t : DM) (pe : DE) (q : DA) : DEM := fun ρ P R => pe ρ (fun x => q ρ (fun ds => ∃ j, mutQ j t ds P R ρ x) (fun c => R c ρ)) (fun c => R c ρ)
theorem pm_fX {p : Pos} {x : Str} {n : Nat} {es : List Expr} {t : DM} {pe : DE} {q : DA} (F : Fm X.prog X.w X.K X.mg X.base C n x t) (hr : Room n X.A) (hg : Gl X x)
    (hx : Passes (L2.CX X.prog X.w) X E) (he : PE X a (lift X.K C E pe)) (ha : PA X es (liftA X.K C E q)) (hs : starEach (a :: es) X.env = (false, eval a X.env) :: starEach es X.env := by rfl)
    (hdb : (x == ("__debug__" : Str)) = false := by decide) (hpl : (backTo pos (starEach es X.env)).any (·.1) = false := by rfl) :
    PE X (.Call (.Name x p) (a :: es) [] pos) (liftM X.K C E (dMutX t pe q)) := by
  obtain ⟨f, fd, ps, G, hm, hk, hb⟩ := F.ex
  refine (pe_call G hr hg hm hk hb .nil hx (pa_cons he ha hs) hdb hs hpl).wk fun σ H Q h => ?_
  obtain ⟨B, O0, O, ρ, P, R, k, h, hP, hR⟩ := h
  refine ⟨B, O0, O, ρ, _, _, k, h, fun x d H1 s1 r1 h1 => ⟨B, O0, O, ρ, _, _, k.ext s1, h1, fun vs ds H2 s2 r2 h2 => ?_, fun c H' s' z => hR c H' σ ρ O ((k.ext s1).ext s') z⟩, fun c H' s' z => hR c H' σ ρ O (k.ext s') z⟩
  obtain ⟨j, h2⟩ := h2
  show spM X.K C t ((x :: vs) ++ []) H2 Q E
  rw [List.append_nil]
  exact mut_call ((k.ext s1).ext s2) (Rep.mono (wo_same O s2) d r1) r2 h2 hP hR
/-- the list in slot i, in the store, as a value -/
theorem Ok.lendL {K : PySem.W.Frag} {B H : Hp} {O0 O : List Addr} {σ : St} {ρ : Env} (k : Ok K C B O0 O H σ ρ) {i j : Nat} {p : Addr} {ds : List D} (hi : ρ[i]? = some (some (.v (.adr p)))) (hj : ρ[j]? = some (some (.ls p ds))) :
    Ok K C B O0 (less1 O p) H σ ((ρ.set i (some (.v (.lst ds)))).set j none) := by
  obtain ⟨hp, hb, vs, h1, h2⟩ := k.ls.at_ j p ds hj
  have jl : j < ρ.length := by
    rcases Nat.lt_or_ge j ρ.length with h | h
    · exact h
    · rw [List.getElem?_eq_none h] at hj; cases hj
  have sw : Same (wo H O) (wo H (less1 O p)) := wo_sub H fun a ha => less1_sub ha
  have old : ∀ {m : Nat} {x : DV}, ((ρ.set i (some (.v (.lst ds)))).set j none)[m]? = some (some x) → (m = i ∧ x = .v (.lst ds)) ∨ (ρ[m]? = some (some x) ∧ m ≠ j ∧ m ≠ i) := fun {m x} e => by
    by_cases h : j = m
    · subst h
      rw [List.getElem?_set_self (by rw [List.length_set]; exact jl)] at e
      simp at e
    · rw [List.getElem?_set_ne h] at e
      by_cases h' : i = m
      · subst h'
        by_cases hl : i < ρ.length
        · rw [List.getElem?_set_self hl] at e
          exact .inl ⟨rfl, (Option.some.inj (Option.some.inj e)).symm⟩
        · rw [List.getElem?_eq_none (by rw [List.length_set]; omega)] at e
          cases e
      · rw [List.getElem?_set_ne h'] at e
        exact .inr ⟨e, fun z => h z.symm, fun z => h' z.symm⟩
  obtain ⟨y, e1, e2⟩ := k.val i _ hi
  have ey : y = V.ref p := e2
  subst ey
  refine ⟨k.base, k.al0, fun a ha => k.al a (less1_sub ha), fun a ha => less1_mem (k.sub0 a ha) fun z => k.apart0 hb (z ▸ ha), fun a ha n => k.new a (less1_sub ha) n, by rw [List.length_set, List.length_set]; exact k.len, fun m d e => ?_, fun m es e => ?_, fun a a' es fs e1 e2 e3 => ?_, ?_, ?_, k.tb.to (fun m P q e => ?_) (fun P ps e h => less1_mem h fun z => by rw [z, h1] at e; cases e) (SameX.refl _) (fun _ _ h => h)⟩
  rotate_right
  · rcases old e with ⟨_, z⟩ | ⟨e, _, _⟩
    · cases z
    · exact e
  · rcases old e with ⟨rfl, z⟩ | ⟨e, _, _⟩
    · cases z
      exact ⟨.ref p, e1, p, vs, rfl, wo_of h1 less1_ne, RepL.mono sw ds h2⟩
    · obtain ⟨x, a1, a2⟩ := k.val m d e
      exact ⟨x, a1, Rep.mono sw d a2⟩
  · rcases old e with ⟨_, z⟩ | ⟨e, _, _⟩
    · cases z
    · obtain ⟨q, us, a1, a2, a3, a4, a5⟩ := k.own m es e
      exact ⟨q, us, a1, less1_mem a2 (fun z => k.ls.no j m p ds es hj e (by rw [a1, z])), a3, a4, RepL.mono sw es a5⟩
  · rcases old e1 with ⟨_, z⟩ | ⟨e1, _, _⟩
    · cases z
    · rcases old e2 with ⟨_, z⟩ | ⟨e2, _, _⟩
      · cases z
      · exact k.uniq a a' es fs e1 e2 e3
  · refine k.st.to (fun m q c cs e => ?_) (fun q dx fs h e => less1_mem h fun z => by rw [z, h1] at e; cases e) (fun _ _ _ _ _ e _ => e) sw (fun _ _ h => h)
    rcases old e with ⟨_, z⟩ | ⟨e, _, _⟩
    · cases z
    · exact e
  · refine ⟨fun m q es e => ?_, fun m m' q es fs e1 e2 => ?_, fun m m' q es fs e1 e2 => ?_⟩
    · rcases old e with ⟨_, z⟩ | ⟨e, n, _⟩
      · cases z
      · obtain ⟨a1, a2, us, a3, a4⟩ := k.ls.at_ m q es e
        exact ⟨less1_mem a1 fun z => n (k.ls.one m j p es ds (z ▸ e) hj), a2, us, a3, RepL.mono sw es a4⟩
    · rcases old e1 with ⟨_, z⟩ | ⟨e1, _, _⟩
      · cases z
      · rcases old e2 with ⟨_, z⟩ | ⟨e2, _, _⟩
        · cases z
        · exact k.ls.one m m' q es fs e1 e2
    · rcases old e1 with ⟨_, z⟩ | ⟨e1, _, _⟩
      · cases z
      · rcases old e2 with ⟨_, z⟩ | ⟨e2, _, _⟩
        · cases z
        · exact k.ls.no m m' q es fs e1 e2
/-- slot i's list lent to a test; to an expression that is a flat thing -/
def dLendXT (i : Nat) (t : DT) : DT := fun ρ P R => ∃ (j : Nat) (p : Addr) (ds : List D), ρ[i]? = some (some (.v (.adr p))) ∧ ρ[j]? = some (some (.ls p ds)) ∧ t ((ρ.set i (some (.v (.lst ds)))).set j none) P R
theorem qd_lendX {t : DT} (i : Nat) (h : PT X e (liftT X.K C E t)) : PT X e (liftT X.K C E (dLendXT i t)) := h.wk fun σ H Q q => by
  obtain ⟨B, O0, O, ρ, P, R, k, ⟨j, p, ds, hi, hj, q⟩, hP, hR⟩ := q
  exact ⟨B, O0, _, _, P, R, k.lendL hi hj, q, hP, hR⟩
def dLendX (i : Nat) (t : DE) : DE := fun ρ P R => ∃ (j : Nat) (p : Addr) (ds : List D), ρ[i]? = some (some (.v (.adr p))) ∧ ρ[j]? = some (some (.ls p ds)) ∧ t ((ρ.set i (some (.v (.lst ds)))).set j none) (fun d => flatD d = true ∧ P d) R
theorem rep_flat {K : PySem.W.Frag} {H H' : Hp} {d : D} {v : V} (h : flatD d = true) (r : Rep K C H d v) : Rep K C H' d v := by
  cases d <;> first | exact r | cases h
theorem pd_lendX {t : DE} (i : Nat) (h : PE X e (lift X.K C E t)) : PE X e (lift X.K C E (dLendX i t)) := h.wk fun σ H Q q => by
  obtain ⟨B, O0, O, ρ, P, R, k, ⟨j, p, ds, hi, hj, q⟩, hP, hR⟩ := q
  exact ⟨B, O0, _, _, _, R, k.lendL hi hj, q, fun v d H' s' r p => hP v d H' s' (rep_flat p.1 r) p.2, hR⟩
end
end L2.DL
/-! # for x, y in zip(a, b), a and b lists in the store -/
namespace L2.DL
open PySem PySem.Spec PyProof.Rows L2.SK
def forZ (l1 l2 : Nat) (a b : Addr) (g : DG) (bd : DS) (N : Env → Prop) (R : D → Prop) (Z : Addr → Prop) : Nat → Nat → Env → Prop
  | 0, i, ρ => (∃ ds es : List D, ρ[l1]? = some (some (.ls a ds)) ∧ ρ[l2]? = some (some (.ls b es)) ∧ (ds.length ≤ i ∨ es.length ≤ i)) ∧ N ρ
  | n + 1, i, ρ => ∃ (ds es : List D) (x y : D), ρ[l1]? = some (some (.ls a ds)) ∧ ρ[l2]? = some (some (.ls b es)) ∧ ds[i]? = some x ∧ es[i]? = some y ∧ g (.tup [x, y]) ρ (fun ρ' => bd ρ' (fun ρ'' => forZ l1 l2 a b g bd N R Z n (i + 1) ρ'') R Z)
def dForZ (l1 l2 : Nat) (q : DA) (g : DG) (bd : DS) : DS := fun ρ N R Z => q ρ (fun ds => match ds with
  | [.adr a, .adr b] => (∃ ds es : List D, ρ[l1]? = some (some (.ls a ds)) ∧ ρ[l2]? = some (some (.ls b es))) ∧ ∃ n, forZ l1 l2 a b g bd N R Z n 0 ρ
  | _ => False) Z
section
variable {X : Cx} {C : Addr} {E : XK} {pos : Pos}
theorem sd_forZ {e1 e2 : Expr} {elts : List Expr} {kk : Nat} {tpos p cpos : Pos} {body : List Stmt} {q : DA} {js : List Nat} {g : DG} {bd : DS} (l1 l2 : Nat) (hp : PassesOwn (model X.prog X.w) X.A X.env X.xe) (hc : X.calm = true) (hm : X.mg "zip" = none) (ha : PA X [e1, e2] (liftA X.K C E q)) (hg : PG X (.Tuple elts kk tpos) (liftG X.K C js g)) (hb : PSs X body (liftS X.K C E bd)) (hgl : Gl X "zip" := by rfl)
    (hs0 : starEach [e1, e2] X.env = (false, eval e1 X.env) :: starEach [e2] X.env := by rfl) (hpl : (backTo cpos (starEach [e2] X.env)).any (·.1) = false := by rfl) (hs : ∀ x, foldedSetIterable (.Call (.Name "zip" p) [e1, e2] [] cpos) X.env x = pure x := by intro _; rfl) :
    PS X (.For (.Tuple elts kk tpos) (.Call (.Name "zip" p) [e1, e2] [] cpos) body [] pos) (liftS X.K C E (dForZ l1 l2 q g bd)) := (ps_for hp hc (pi_zip hgl hm ha hs0 hpl) hg hb hs).wk fun T' σ H q => by
  obtain ⟨B, O0, O, ρ, N, R, Z, k, q, hN, hR, hZ⟩ := q
  refine ⟨B, O0, O, ρ, _, Z, k, q, fun vs ds H1 s1 r1 q1 => ?_, fun c H' s' z => hZ c H' (k.base.trans s') z⟩
  split at q1
  · rename_i a b
    obtain ⟨⟨ds1, es1, h1, h2⟩, n, hf⟩ := q1
    obtain ⟨v, _, rfl, ra, v2, _, rfl, rb, r3⟩ := r1
    have e3 : _ = _ := r3
    subst e3
    have ev : v = V.ref a := ra
    have ev2 : v2 = V.ref b := rb
    subst ev ev2
    have k1 := k.ext s1
    obtain ⟨_, _, xs, g1, _⟩ := k1.ls.at_ l1 a ds1 h1
    obtain ⟨_, _, ys, g2, _⟩ := k1.ls.at_ l2 b es1 h2
    have kB : Same B (mid B H1 O) := k1.base_mid
    refine ⟨a, b, xs, ys, rfl, SqL.of g1, SqL.of g2, ?_⟩
    refine ⟨fun i m σ' H' => ∃ O' ρ', Ok X.K C (mid B H1 O) O0 O' H' σ' ρ' ∧ forZ l1 l2 a b g bd N R Z m i ρ', ⟨n, O, ρ, k1.mid, hf⟩, ?_⟩
    rintro i m σ' H' ⟨O', ρ', k', hf'⟩
    cases m with
    | zero =>
      obtain ⟨⟨ds, es, z1, z2, z3⟩, hf'⟩ := hf'
      obtain ⟨_, _, xs', g3, g4⟩ := k'.ls.at_ l1 a ds z1
      obtain ⟨_, _, ys', g5, g6⟩ := k'.ls.at_ l2 b es z2
      exact .inl ⟨⟨xs', ys', SqL.of g3, SqL.of g5, by rw [RepL.length g4, RepL.length g6]; exact z3⟩, hN σ' H' ρ' O' (k'.less kB k1.al0) hf'⟩
    | succ m =>
      obtain ⟨ds, es, x, y, z1, z2, z3, z4, hf'⟩ := hf'
      obtain ⟨_, _, xs', g3, g4⟩ := k'.ls.at_ l1 a ds z1
      obtain ⟨_, _, ys', g5, g6⟩ := k'.ls.at_ l2 b es z2
      obtain ⟨vx, w1, w2⟩ := RepL.get g4 z3
      obtain ⟨vy, w3, w4⟩ := RepL.get g6 z4
      refine .inr ⟨⟨xs', ys', vx, vy, SqL.of g3, SqL.of g5, w1, w3⟩, fun σ2 H2 => ∃ O2 ρ2, Ok X.K C (mid B H1 O) O0 O2 H2 σ2 ρ2 ∧ forZ l1 l2 a b g bd N R Z m (i + 1) ρ2, fun σ2 H2 ⟨O2, ρ2, k2, h2⟩ => ⟨m, Nat.lt_succ_self _, O2, ρ2, k2, h2⟩, fun v H'' yd => ?_⟩
      obtain ⟨T, x', y', rfl, hT, rfl, y1, y2⟩ := yd
      have ex : x' = vx := Option.some.inj ((y1 xs' (SqL.of g3)).symm.trans w1)
      have ey : y' = vy := Option.some.inj ((y2 ys' (SqL.of g5)).symm.trans w3)
      subst ex ey
      have rx := rep_new_tup hT k'.al (show RepL X.K C (wo H' O') [x, y] [x', y'] from ⟨x', [y'], rfl, w2, RepL.one w4⟩)
      refine ⟨_, O0, O', ρ', _, _, k'.ext (Same.new hT), rx, hf', fun σ3 ρ3 k3 _ h3 => ?_⟩
      exact ⟨_, O0, O', ρ3, _, R, Z, k3, h3, fun σ4 H4 ρ4 O4 k4 h4 => ⟨O4, ρ4, k4, h4⟩, fun v d H4 s4 r p => hR v d H4 (kB.trans s4) r p, fun c H4 s4 z => hZ c H4 (kB.trans s4) z⟩
  · exact q1.elim
end
end L2.DL
namespace L2.DL
open PySem PySem.Spec PyProof.Rows L2.SK
section
variable {X : Cx} {C : Addr} {E : XK} {pos : Pos}
/-- x = o.m(), a list that the method makes; o: a Keeper in the store -/
def dSetFX (i io : Nat) (t : DFp) : DS := fun ρ N R Z => ∃ j : Nat, dSetF i io j t ρ N R Z
theorem sd_setFX {i io n : Nat} {x y m : Str} {t : DFp} {apos cpos np pos' : Pos} (T : Kp X.K X.mg C) (M : Mf X.prog X.w X.K X.mg X.base C n m t) (hr : Room n X.A) (hx' : Passes (L2.CX X.prog X.w) X E) (hN : X.N.Nodup) (hi : X.N[i]? = some x) (hx : Loc X.env.scope x) (hv : PE X (.Name y np) (tVar io))
    (hm1 : ¬ m = "begins" := by decide) (hm2 : ¬ m = "turns" := by decide)
    (hs : swapsWith (.Call (.Attribute (.Name y np) m apos) [] [] cpos) (some (.Name x pos')) pos.line X.env = pure false := by rfl) (hf : X.fn x = true ∨ X.env.scope.names.lookup x = some .local := by first | exact .inl rfl | exact .inr rfl | assumption) {pl : Sem Bool}
    (ht : eval (.Call (.Attribute (.Name y np) m apos) [] [] cpos) X.env = (do
      let ov ← eval (.Name y np) X.env
      standAt apos.atName
      let (f, first) ← holding [ov] (getMethod ov m pl)
      callWith cpos f first (backTo cpos (starEach [] X.env)) (backToKw cpos (keywordEach [] X.env))) := by rfl) :
    PS X (.Assign [.Name x pos'] (.Call (.Attribute (.Name y np) m apos) [] [] cpos) pos) (liftS X.K C E (dSetFX i io t)) :=
  ⟨fun pins s σ H D I q => by
    obtain ⟨B, O0, O, ρ, N, R, Z, k, ⟨j, q⟩, h⟩ := q
    exact (sd_setF (j := j) T M hr hx' hN hi hx hv hm1 hm2 hs hf ht).run pins s σ H D I ⟨B, O0, O, ρ, N, R, Z, k, q, h⟩⟩
end
end L2.DL
namespace L2.DL
open PySem PySem.Spec PyProof.Rows L2.SK
theorem atI_2 {α : Type} (x y z : α) (xs : List α) : atI (x :: y :: z :: xs) 2 = some z := by
  unfold atI ixN
  rw [if_pos (by decide), if_pos (by simp only [List.length_cons]; omega)]
  rfl
/-- the slots of law k10: three Keepers, three lists of deeds -/
abbrev env10 (cs : List Int) (a b p0 p1 p2 q0 q1 q2 : Addr) (r0 r1 r2 : KRow) (d0 d1 d2 : List Deed) (u3 u4 u5 u6 u7 u8 u9 u10 u11 : Option DV) : Env :=
  [some (.v (.scr cs)), some (.v (.adr a)), some (.v (.adr b)), u3, u4, u5, u6, u7, u8, u9, u10, u11, some (.ls a [.adr p0, .adr p1, .adr p2]), some (.ls b [.adr q0, .adr q1, .adr q2]),
    some (.kst p0 r0.b r0.ts), some (.kst p1 r1.b r1.ts), some (.kst p2 r2.b r2.ts), some (.ls q0 (d0.map dD)), some (.ls q1 (d1.map dD)), some (.ls q2 (d2.map dD))]
end L2.DL
/-! # Promises that tell the Keeper's address; two Keepers in the store; fresh lists by a sum; either of two readings -/
namespace L2.DL
open PySem PySem.Spec PyProof.Rows L2.SK
/-! ### either of two readings -/
section
variable {X : Cx} {C : Addr} {E : XK} {pos : Pos} {a e o : Expr} {st : Stmt}
def dOrE (p q : DEM) : DEM := fun ρ P R => p ρ P R ∨ q ρ P R
theorem pm_or {p q : DEM} (h1 : PE X e (liftM X.K C E p)) (h2 : PE X e (liftM X.K C E q)) : PE X e (liftM X.K C E (dOrE p q)) :=
  ⟨fun pins s σ H Q I h => by
    obtain ⟨B, O0, O, ρ, P, R, k, h | h, hP, hR⟩ := h
    · exact h1.run pins s σ H Q I ⟨B, O0, O, ρ, P, R, k, h, hP, hR⟩
    · exact h2.run pins s σ H Q I ⟨B, O0, O, ρ, P, R, k, h, hP, hR⟩⟩
def dOrS (p q : DS) : DS := fun ρ N R Z => p ρ N R Z ∨ q ρ N R Z
theorem sd_or {p q : DS} (h1 : PS X st (liftS X.K C E p)) (h2 : PS X st (liftS X.K C E q)) : PS X st (liftS X.K C E (dOrS p q)) :=
  ⟨fun pins s σ H D I h => by
    obtain ⟨B, O0, O, ρ, N, R, Z, k, h | h, hN, hR, hZ⟩ := h
    · exact h1.run pins s σ H D I ⟨B, O0, O, ρ, N, R, Z, k, h, hN, hR, hZ⟩
    · exact h2.run pins s σ H D I ⟨B, O0, O, ρ, N, R, Z, k, h, hN, hR, hZ⟩⟩
end

/-! ### promises that tell the Keeper's address -/
abbrev DMA := Addr → DM
def spMA (K : PySem.W.Frag) (C : Addr) (t : DMA) : Sp := fun vs H Q E => ∃ p vs', vs = .ref p :: vs' ∧ spM K C (t p) vs H Q E
section
variable {P : Program} {w : World} {K : PySem.W.Frag} {mg : Str → Option Value} {base : Heap} {C : Addr}
theorem fnMA {x qual : Str} {st : Stmt} {f : Addr} {fd : FuncData} {N ps : List Str} {k : Nat} {t : DMA} {p : DSM} (j : Nat) (F : Fun K x qual st f fd) (S : FnScope N ps (defScope st))
    (body : ∀ (cdv : Value) (A : Around) (outer : List PySem.Env) (s : Shared) (H : Hp) (E : XK), Room k (A.deeper (envOfC qual (defScope st) s.heap.objs.size f cdv)) → PSs (cxD P w K mg base N qual (defScope st) f cdv A outer s H E) (defBody st) (liftSM K C E p))
    (h : ∀ (a : Addr) (b : Bool) (ts : List Int) (ds : List D) (T : Bool → List Int → D → Prop) (R : Addr → Bool → List Int → Prop), t a b ts ds T R → ds.length + 1 = ps.length ∧ p (startM N j a b ts ds)
      (fun ρ' => ∃ b' ts', ρ'[j]? = some (some (.kst a b' ts')) ∧ T b' ts' .non) (fun d ρ' => ∃ b' ts', ρ'[j]? = some (some (.kst a b' ts')) ∧ T b' ts' d) (fun c ρ' => ∃ b' ts', ρ'[j]? = some (some (.kst a b' ts')) ∧ R c b' ts')) : FnOk P w K mg base (L2.CX P w) (k + 1) f fd ps (spMA K C t) := by
  refine F.okX S (fun vs H Q E q => ?_) (fun cdv A outer s H vs Q E hr q => ⟨_, body cdv A outer s H E hr, ?_⟩)
  · obtain ⟨p0, v0, e0, O, p', vs', ds, b, ts, dx, l, T, R, rfl, hp, al, r, h1, h2, q, _⟩ := q
    cases e0
    rw [List.length_cons, RepL.length r]
    exact (h _ b ts ds T R q).1
  · obtain ⟨p0, v0, e0, O, a, vs', ds, b, ts, dx, l, T, R, rfl, hp, al, r, h1, h2, q, hT, hR⟩ := q
    have ea : a = p0 := by cases e0; rfl
    subst ea
    have fin : ∀ {H' : Hp} {σ' : St} {ρ' : Env} {O' : List Addr} {b' : Bool} {ts' : List Int}, Ok K C (wo H [a]) (less1 O a) O' H' σ' ρ' → ρ'[j]? = some (some (.kst a b' ts')) → ∃ dx' l', Same (wo H [a]) H' ∧ H' a = some (.ins C dx' (kf b' l')) ∧ wo H' O l' = some (.lst (ts'.map V.int)) ∧ Same (wo H' O') (wo H' O) := fun {H' σ' ρ' O' b' ts'} k' e => by
      obtain ⟨a1, a2, dx', l', a3, a4⟩ := k'.st.at_ j a b' ts' e
      have sub : ∀ q ∈ O, q ∈ O' := fun q hq => by
        by_cases z : q = a
        · rw [z]; exact a1
        · exact k'.sub0 q (less1_mem hq z)
      exact ⟨dx', l', k'.base, a3, wo_sub H' sub _ _ a4, wo_sub H' sub⟩
    refine ⟨wo H [a], less1 O a, O, _, _, _, _, startM_ok hp al r h1 h2 N j, (h a b ts ds T R q).2, fun σ' H' ρ' O' k' n => ?_, fun v d H' σ' ρ' O' k' r n => ?_, fun c H' σ' ρ' O' k' n => ?_⟩
    · obtain ⟨b', ts', e, n⟩ := n
      obtain ⟨dx', l', a1, a2, a3, a4⟩ := fin k' e
      exact hT .non .non H' b' ts' l' dx' a1 a2 a3 rfl n
    · obtain ⟨b', ts', e, n⟩ := n
      obtain ⟨dx', l', a1, a2, a3, a4⟩ := fin k' e
      exact hT v d H' b' ts' l' dx' a1 a2 a3 (Rep.mono a4 d r) n
    · obtain ⟨b', ts', e, n⟩ := n
      obtain ⟨dx', l', a1, a2, a3, a4⟩ := fin k' e
      exact hR c H' b' ts' l' dx' a1 a2 a3 n
/-- a method of Keeper that changes it, the promise knows its address -/
structure MmA (P : Program) (w : World) (K : PySem.W.Frag) (mg : Str → Option Value) (base : Heap) (C : Addr) (k : Nat) (m : Str) (t : DMA) : Prop where
  ex : ∃ (f : Addr) (fd : FuncData) (ps : List Str), FnOk P w K mg base (L2.CX P w) k f fd ps (spMA K C t) ∧ Meth K C m f ∧ Binds K fd ps []
structure FmA (P : Program) (w : World) (K : PySem.W.Frag) (mg : Str → Option Value) (base : Heap) (C : Addr) (k : Nat) (name : Str) (t : DMA) : Prop where
  ex : ∃ (f : Addr) (fd : FuncData) (ps : List Str), FnOk P w K mg base (L2.CX P w) k f fd ps (spMA K C t) ∧ mg name = some (.ref f) ∧ PySem.W.keepIn K (.ref f) = true ∧ Binds K fd ps []
end
section
variable {X : Cx} {C : Addr} {E : XK} {pos : Pos} {a e o : Expr}
/-- what is left when the Keeper d, told of in some slot, is handed to t -/
def mutA (t : DMA) (ds : List D) (P : D → Env → Prop) (R : Addr → Env → Prop) (ρ : Env) : D → Prop
  | .adr a => ∃ j, mutQ j (t a) ds P R ρ (.adr a)
  | _ => False
theorem mut_callA {K : PySem.W.Frag} {B : Hp} {O0 O : List Addr} {σ : St} {ρ : Env} {H : Hp} {Q : VK} {P : D → Env → Prop} {R : Addr → Env → Prop} {t : DMA} {x : V} {d : D} {vs : List V} {ds : List D} (k : Ok K C B O0 O H σ ρ) (rx : Rep K C (wo H O) d x) (rs : RepL K C (wo H O) ds vs)
    (q : mutA t ds P R ρ d) (hP : ∀ v d H' ρ' O', Ok K C B O0 O' H' σ ρ' → Rep K C (wo H' O') d v → P d ρ' → Q v H') (hR : ∀ c H' σ' ρ' O', Ok K C B O0 O' H' σ' ρ' → R c ρ' → E (.ref c) none H') :
    spMA K C t (x :: vs) H Q E := by
  cases d with
  | adr a =>
    obtain ⟨j, q⟩ := q
    have ex : x = V.ref a := rx
    subst ex
    exact ⟨a, vs, rfl, mut_call k rx rs q hP hR⟩
  | _ => exact q.elim
def dMutXA (t : DMA) (pe : DE) (q : DA) : DEM := fun ρ P R => pe ρ (fun x => q ρ (fun ds => mutA t ds P R ρ x) (fun c => R c ρ)) (fun c => R c ρ)
theorem pm_fXA {p : Pos} {x : Str} {n : Nat} {es : List Expr} {t : DMA} {pe : DE} {q : DA} (F : FmA X.prog X.w X.K X.mg X.base C n x t) (hr : Room n X.A) (hg : Gl X x)
    (hx : Passes (L2.CX X.prog X.w) X E) (he : PE X a (lift X.K C E pe)) (ha : PA X es (liftA X.K C E q)) (hs : starEach (a :: es) X.env = (false, eval a X.env) :: starEach es X.env := by rfl)
    (hdb : (x == ("__debug__" : Str)) = false := by decide) (hpl : (backTo pos (starEach es X.env)).any (·.1) = false := by rfl) :
    PE X (.Call (.Name x p) (a :: es) [] pos) (liftM X.K C E (dMutXA t pe q)) := by
  obtain ⟨f, fd, ps, G, hm, hk, hb⟩ := F.ex
  refine (pe_call G hr hg hm hk hb .nil hx (pa_cons he ha hs) hdb hs hpl).wk fun σ H Q h => ?_
  obtain ⟨B, O0, O, ρ, P, R, k, h, hP, hR⟩ := h
  refine ⟨B, O0, O, ρ, _, _, k, h, fun x d H1 s1 r1 h1 => ⟨B, O0, O, ρ, _, _, k.ext s1, h1, fun vs ds H2 s2 r2 h2 => ?_, fun c H' s' z => hR c H' σ ρ O ((k.ext s1).ext s') z⟩, fun c H' s' z => hR c H' σ ρ O (k.ext s') z⟩
  show spMA X.K C t ((x :: vs) ++ []) H2 Q E
  rw [List.append_nil]
  exact mut_callA ((k.ext s1).ext s2) (Rep.mono (wo_same O s2) d r1) r2 h2 hP hR
/-- a Keeper that some slot tells of -/
def recvX (ρ : Env) (d : D) : Prop := ∃ j, recv j ρ d
def dMutMXA (t : DMA) (e : DE) (q : DA) : DEM := fun ρ P R => e ρ (fun x => recvX ρ x ∧ q ρ (fun ds => mutA t ds P R ρ x) (fun c => R c ρ)) (fun c => R c ρ)
theorem pm_mXA {apos : Pos} {m : Str} {n : Nat} {es : List Expr} {t : DMA} {pe : DE} {q : DA} (T : Kp X.K X.mg C) (M : MmA X.prog X.w X.K X.mg X.base C n m t) (hr : Room n X.A) (hx : Passes (L2.CX X.prog X.w) X E)
    (ho : PE X o (lift X.K C E pe)) (ha : PA X (e :: es) (liftA X.K C E q)) (hm1 : ¬ m = "begins" := by decide) (hm2 : ¬ m = "turns" := by decide)
    (hst : starEach (e :: es) X.env = (false, eval e X.env) :: starEach es X.env := by rfl) (hpl : (backTo pos (starEach es X.env)).any (·.1) = false := by rfl) {pl : Sem Bool}
    (ht : eval (.Call (.Attribute o m apos) (e :: es) [] pos) X.env = (do
      let ov ← eval o X.env
      standAt apos.atName
      let (f, first) ← holding [ov] (getMethod ov m pl)
      callWith pos f first (backTo pos (starEach (e :: es) X.env)) (backToKw pos (keywordEach [] X.env))) := by rfl) :
    PE X (.Call (.Attribute o m apos) (e :: es) [] pos) (liftM X.K C E (dMutMXA t pe q)) := by
  obtain ⟨f, fd, ps, F, hm, hb⟩ := M.ex
  refine (pe_meth ho T.cl hm F hr hb .nil hx ha hst hpl ht).wk fun σ H Q h => ?_
  obtain ⟨B, O0, O, ρ, P, R, k, h, hP, hR⟩ := h
  refine ⟨B, O0, O, ρ, _, _, k, h, fun x d H1 s1 r1 h1 => ?_, fun c H' s' z => hR c H' σ ρ O (k.ext s') z⟩
  have k1 := k.ext s1
  obtain ⟨⟨j, hrec⟩, h1⟩ := h1
  obtain ⟨p, dx, b, l, rfl, e1⟩ := recv_at k1 r1 hrec
  refine ⟨p, dx, _, rfl, e1, kf_no b l hm1 hm2, B, O0, O, ρ, _, _, k1, h1, fun vs ds H2 s2 r2 h2 => ?_, fun c H' s' z => hR c H' σ ρ O (k1.ext s') z⟩
  show spMA X.K C t (V.ref p :: (vs ++ [])) H2 Q E
  rw [List.append_nil]
  exact mut_callA (k1.ext s2) (Rep.mono (wo_same O s2) d r1) r2 h2 hP hR
/-- f(x, y, ..): x and y two Keepers in the store, x changes -/
def mutXX (t : DM) (P : D → Env → Prop) (R : Addr → Env → Prop) (ρ : Env) (ds : List D) (x y : D) : Prop := ∃ (j j2 : Nat) (p q : Addr) (b b2 : Bool) (ts ts2 : List Int), x = .adr p ∧ y = .adr q ∧ j ≠ j2 ∧ ρ[j]? = some (some (.kst p b ts)) ∧ ρ[j2]? = some (some (.kst q b2 ts2)) ∧
  t b ts (.kp b2 ts2 :: ds) (fun b' ts' d => d.free ∧ P d (ρ.set j (some (.kst p b' ts')))) (fun c b' ts' => R c (ρ.set j (some (.kst p b' ts'))))
theorem mut_callXX {K : PySem.W.Frag} {B : Hp} {O0 O : List Addr} {σ : St} {ρ : Env} {H : Hp} {Q : VK} {P : D → Env → Prop} {R : Addr → Env → Prop} {t : DM} {x y : V} {d d2 : D} {vs : List V} {ds : List D} (k : Ok K C B O0 O H σ ρ) (rx : Rep K C (wo H O) d x) (ry : Rep K C (wo H O) d2 y) (rs : RepL K C (wo H O) ds vs)
    (q : mutXX t P R ρ ds d d2) (hP : ∀ v d H' ρ' O', Ok K C B O0 O' H' σ ρ' → Rep K C (wo H' O') d v → P d ρ' → Q v H') (hR : ∀ c H' σ' ρ' O', Ok K C B O0 O' H' σ' ρ' → R c ρ' → E (.ref c) none H') :
    spM K C t (x :: y :: vs) H Q E := by
  obtain ⟨j, j2, p, q', b, b2, ts, ts2, rfl, rfl, jj, hj, hj2, h⟩ := q
  have ex : x = V.ref p := rx
  have ey : y = V.ref q' := ry
  subst ex ey
  have pq : p ≠ q' := fun z => by
    subst z
    exact jj (k.st.one j j2 p b b2 ts ts2 hj hj2)
  obtain ⟨hp, hb, dx, l, h1, h2⟩ := k.st.at_ j p b ts hj
  obtain ⟨gp, gb, dx2, l2, g1, g2⟩ := k.st.at_ j2 q' b2 ts2 hj2
  have sw : Same (wo H O) (wo H (less1 O q')) := wo_sub H fun a ha => less1_sub ha
  have key : ∀ {H' : Hp} {l' : Addr} {ts' : List Int}, Same (wo H [p]) H' → wo H' (less1 O q') l' = some (.lst (ts'.map V.int)) → wo H' O l' = some (.lst (ts'.map V.int)) := fun {H' l' ts'} s' e2 => wo_of (wo_some e2) fun m => by
    have hq' : H' q' = some (.ins C dx2 (kf b2 l2)) := s' _ _ (wo_of g1 (by simpa using fun z => pq z.symm))
    by_cases z : l' = q'
    · have := wo_some e2
      rw [z, hq'] at this
      cases this
    · unfold wo at e2
      rw [if_pos (less1_mem m z)] at e2
      cases e2
  refine ⟨less1 O q', p, V.ref q' :: vs, .kp b2 ts2 :: ds, b, ts, dx, l, _, _, rfl, less1_mem hp pq, fun a ha => k.al a (less1_sub ha), ⟨V.ref q', vs, rfl, ⟨q', dx2, l2, rfl, wo_of g1 less1_ne, sw _ _ g2⟩, RepL.mono sw ds rs⟩, h1, sw _ _ h2, h, fun v d H' b' ts' l' dx' s' e1 e2 r p => ?_, fun c H' b' ts' l' dx' s' e1 e2 p => ?_⟩
  · have hq' : H' q' = some (.ins C dx2 (kf b2 l2)) := s' _ _ (wo_of g1 (by simpa using fun z => pq z.symm))
    exact hP v d H' _ O (k.mut hj s' e1 (key s' e2)) (Rep.back hq' p.1 r) p.2
  · exact hR c H' σ _ O (k.mut hj s' e1 (key s' e2)) p
def dMutXX (t : DM) (pe pe2 : DE) (q : DA) : DEM := fun ρ P R => pe ρ (fun x => pe2 ρ (fun y => q ρ (fun ds => mutXX t P R ρ ds x y) (fun c => R c ρ)) (fun c => R c ρ)) (fun c => R c ρ)
theorem pm_fXX {p : Pos} {x : Str} {n : Nat} {e2 : Expr} {es : List Expr} {t : DM} {pe pe2 : DE} {q : DA} (F : Fm X.prog X.w X.K X.mg X.base C n x t) (hr : Room n X.A) (hg : Gl X x)
    (hx : Passes (L2.CX X.prog X.w) X E) (he : PE X a (lift X.K C E pe)) (he2 : PE X e2 (lift X.K C E pe2)) (ha : PA X es (liftA X.K C E q)) (hs : starEach (a :: e2 :: es) X.env = (false, eval a X.env) :: starEach (e2 :: es) X.env := by rfl) (hs2 : starEach (e2 :: es) X.env = (false, eval e2 X.env) :: starEach es X.env := by rfl)
    (hdb : (x == ("__debug__" : Str)) = false := by decide) (hpl : (backTo pos (starEach (e2 :: es) X.env)).any (·.1) = false := by rfl) :
    PE X (.Call (.Name x p) (a :: e2 :: es) [] pos) (liftM X.K C E (dMutXX t pe pe2 q)) := by
  obtain ⟨f, fd, ps, G, hm, hk, hb⟩ := F.ex
  refine (pe_call G hr hg hm hk hb .nil hx (pa_cons he (pa_cons he2 ha hs2) hs) hdb hs hpl).wk fun σ H Q h => ?_
  obtain ⟨B, O0, O, ρ, P, R, k, h, hP, hR⟩ := h
  refine ⟨B, O0, O, ρ, _, _, k, h, fun x d H1 s1 r1 h1 => ⟨B, O0, O, ρ, _, _, k.ext s1, h1, fun y d2 H2 s2 r2 h2 => ⟨B, O0, O, ρ, _, _, (k.ext s1).ext s2, h2, fun vs ds H3 s3 r3 h3 => ?_, fun c H' s' z => hR c H' σ ρ O (((k.ext s1).ext s2).ext s') z⟩, fun c H' s' z => hR c H' σ ρ O ((k.ext s1).ext s') z⟩, fun c H' s' z => hR c H' σ ρ O (k.ext s') z⟩
  show spM X.K C t ((x :: y :: vs) ++ []) H3 Q E
  rw [List.append_nil]
  exact mut_callXX (((k.ext s1).ext s2).ext s3) (Rep.mono (wo_same O (s2.trans s3)) d r1) (Rep.mono (wo_same O s3) d2 r2) r3 h3 hP hR
end

/-! ### a def that returns the sum of two lists -/
section
variable {X : Cx} {C : Addr} {E : XK} {pos bpos : Pos} {a b e : Expr}
def dFrzR (i : Nat) (q : DR) : DR := fun ρ RO => match ρ[i]? with
  | some (some (.own ds)) => q (ρ.set i (some (.v (.lst ds)))) RO
  | _ => False
theorem sr_frz {st : List Stmt} {q : DR} (i : Nat) (h : PSs X st (liftR X.K C E q)) : PSs X st (liftR X.K C E (dFrzR i q)) := h.wk fun T σ H q => by
  obtain ⟨B, O0, O, ρ, RO, k, q, hR⟩ := q
  unfold dFrzR at q
  split at q
  · rename_i ds hi
    obtain ⟨O', k'⟩ := k.freeze hi
    exact ⟨B, O0, O', _, RO, k', q, hR⟩
  · exact q.elim
def dRetAdd (pa pb : DE) : DR := fun ρ RO => pa ρ (fun x => pb ρ (fun y => match x, y with
  | .lst ds, .lst es => ds.length + es.length ≤ sizeLine ∧ RO (ds ++ es)
  | _, _ => False) (fun _ => False)) (fun _ => False)
theorem sr_retAdd {pa pb : DE} (ha : PE X a (lift X.K C E pa)) (hb : PE X b (lift X.K C E pb)) : PSs X [.Return (some (.BinOp a .Add b bpos)) pos] (liftR X.K C E (dRetAdd pa pb)) :=
  (pss_one (ps_ret (pe_op (op_cat (X := X)) ha hb))).wk fun T σ H q => by
  obtain ⟨B, O0, O, ρ, RO, k, q, hR⟩ := q
  refine ⟨B, O0, O, ρ, _, _, k, q, fun x dx H1 s1 r1 q1 => ⟨B, O0, O, ρ, _, _, k.ext s1, q1, fun y dy H2 s2 r2 q2 => ?_, fun c H' s' z => z.elim⟩, fun c H' s' z => z.elim⟩
  have k2 := (k.ext s1).ext s2
  have r1' := Rep.mono (wo_same O s2) dx r1
  split at q2
  · rename_i ds es
    obtain ⟨x1, vs, rfl, e1, e2⟩ := r1'
    obtain ⟨y1, ws, rfl, e3, e4⟩ := r2
    refine ⟨x1, y1, vs, ws, rfl, rfl, wo_some e1, wo_some e3, by rw [RepL.length e2, RepL.length e4]; exact q2.1, fun p hp => ?_⟩
    have s3 : Same H2 (upd H2 p (.lst (vs ++ ws))) := Same.new hp
    have sw : Same (wo H2 O) (wo (upd H2 p (.lst (vs ++ ws))) (p :: O0)) := fun c o e => by
      have h1 := wo_some e
      have nc : c ≠ p := ne_of_none h1 hp
      refine wo_of (by rw [upd_ne nc]; exact h1) fun z => ?_
      rcases List.mem_cons.mp z with z | z
      · exact nc z
      · unfold wo at e
        rw [if_pos (k.sub0 c z)] at e
        cases e
    exact hR p (vs ++ ws) (ds ++ es) _ (k2.base.trans s3) (k2.base.free hp) upd_same (RepL.mono sw _ (e2.append e4)) q2.2
  · exact q2.elim
end

/-! ### a list in the store handed to a def that makes a list -/
/-- data in which no list stands -/
def D.noL : D → Prop
  | .tup ds => ∀ d ∈ ds, d.noL
  | .lst _ => False
  | .dic _ _ => False
  | .kp _ _ => False
  | .scr _ => False
  | _ => True
section
variable {K : PySem.W.Frag} {C : Addr}
mutual
theorem Rep.overL {H1 H2 : Hp} (hs : ∀ a o, H1 a = some o → (∀ xs, o ≠ .lst xs) → H2 a = some o) : ∀ (d : D) {v : V}, d.noL → Rep K C H1 d v → Rep K C H2 d v
  | .non, _, _, h => h
  | .bl _, _, _, h => h
  | .int _, _, _, h => h
  | .str _, _, _, h => h
  | .adr _, _, _, h => h
  | .ty _, _, _, h => h
  | .lst ds, v, f, h => by rw [D.noL] at f; exact f.elim
  | .tup ds, v, f, h => by
    obtain ⟨a, vs, e, h1, h2⟩ := h
    rw [D.noL] at f
    exact ⟨a, vs, e, hs _ _ h1 (fun _ z => by cases z), RepL.overL hs ds f h2⟩
  | .dic ks ds, v, f, h => by rw [D.noL] at f; exact f.elim
  | .kp b ts, v, f, h => by rw [D.noL] at f; exact f.elim
  | .scr ns, v, f, h => by rw [D.noL] at f; exact f.elim
  | .exc c, v, f, h => by
    obtain ⟨a, e, h1⟩ := h
    exact ⟨a, e, hs _ _ h1 (fun _ z => by cases z)⟩
theorem RepL.overL {H1 H2 : Hp} (hs : ∀ a o, H1 a = some o → (∀ xs, o ≠ .lst xs) → H2 a = some o) : ∀ (ds : List D) {vs : List V}, (∀ d ∈ ds, d.noL) → RepL K C H1 ds vs → RepL K C H2 ds vs
  | [], _, _, h => h
  | d :: ds, vs, f, h => by
    obtain ⟨v, r, e, h1, h2⟩ := h
    exact ⟨v, r, e, Rep.overL hs d (f d List.mem_cons_self) h1, RepL.overL hs ds (fun x hx => f x (List.mem_cons_of_mem _ hx)) h2⟩
end
end
theorem noL_sD (s : Str2) : (sD s).noL := by
  unfold sD
  rw [D.noL]
  intro d hd
  simp only [List.mem_cons, List.not_mem_nil, or_false] at hd
  rcases hd with rfl | rfl
  · cases s.1 <;> simp [oi, D.noL]
  · cases s.2 <;> simp [oi, D.noL]
theorem noL_sDs (ss : List Str2) : ∀ d ∈ ss.map sD, d.noL := fun d hd => by
  obtain ⟨s, _, rfl⟩ := List.mem_map.mp hd
  exact noL_sD s
/-- a def that makes a list -/
structure Ff (P : Program) (w : World) (K : PySem.W.Frag) (mg : Str → Option Value) (base : Heap) (C : Addr) (k : Nat) (name : Str) (t : DFp) : Prop where
  ex : ∃ (f : Addr) (fd : FuncData) (ps : List Str), FnOk P w K mg base (L2.CX P w) k f fd ps (spF K C t) ∧ mg name = some (.ref f) ∧ PySem.W.keepIn K (.ref f) = true ∧ Binds K fd ps []
theorem Ff.fc {P : Program} {w : World} {K : PySem.W.Frag} {mg : Str → Option Value} {base : Heap} {C : Addr} {k : Nat} {m : Str} {t : DFp} (h : Ff P w K mg base C k m t) : Fc P w K mg base C k m (fun ds P _ => t ds (fun es => P (.lst es))) := by
  obtain ⟨f, fd, ps, F, hm, hk, hb⟩ := h.ex
  exact ⟨f, fd, ps, F.imp (spF_spD t), hm, hk, hb⟩
section
variable {X : Cx} {C : Addr} {E : XK} {pos : Pos} {a e : Expr}
def dCallXL (t : DFp) (pe : DE) : DE := fun ρ P R => pe ρ (fun x => ∃ (j : Nat) (q : Addr) (ds : List D), x = .adr q ∧ ρ[j]? = some (some (.ls q ds)) ∧ t [.lst ds] (fun es => (∀ d ∈ es, d.noL) ∧ P (.lst es))) R
theorem pd_fnXL {p : Pos} {x : Str} {n : Nat} {t : DFp} {pe : DE} (F : Ff X.prog X.w X.K X.mg X.base C n x t) (hr : Room n X.A) (hg : Gl X x) (hx : Passes (L2.CX X.prog X.w) X E) (he : PE X a (lift X.K C E pe))
    (hs : starEach [a] X.env = (false, eval a X.env) :: starEach [] X.env := by rfl) (hdb : (x == ("__debug__" : Str)) = false := by decide) (hpl : (backTo pos (starEach [] X.env)).any (·.1) = false := by rfl) :
    PE X (.Call (.Name x p) [a] [] pos) (lift X.K C E (dCallXL t pe)) := by
  obtain ⟨f, fd, ps, G, hm, hk, hb⟩ := F.ex
  refine (pe_call G hr hg hm hk hb .nil hx (pa_cons he pa_nil hs) hdb hs hpl).wk fun σ H Q h => ?_
  obtain ⟨B, O0, O, ρ, P, R, k, h, hP, hR⟩ := h
  refine ⟨B, O0, O, ρ, _, R, k, h, fun x d H1 s1 r1 h1 => ?_, hR⟩
  obtain ⟨j, q, ds, rfl, hj, h2⟩ := h1
  have k1 := k.ext s1
  obtain ⟨hq, hb', vs, e1, e2⟩ := k1.ls.at_ j q ds hj
  have ex : x = V.ref q := r1
  subst ex
  show spF X.K C t ([V.ref q] ++ []) H1 Q E
  have sw : Same (wo H1 O) (wo H1 (less1 O q)) := wo_sub H1 fun a ha => less1_sub ha
  refine ⟨less1 O q, [.lst ds], _, fun a ha => k1.al a (less1_sub ha), ⟨V.ref q, [], rfl, ⟨q, vs, rfl, wo_of e1 less1_ne, RepL.mono sw ds e2⟩, rfl⟩, h2, fun y ws es H' s hy hl rr p => ?_⟩
  refine hP (.ref y) (.lst es) H' (s1.trans s) ⟨y, ws, rfl, wo_of hl (k1.al.new hy), RepL.overL (fun c o ho hn => wo_of (wo_some ho) fun z => ?_) es p.1 rr⟩ p.2
  by_cases cq : c = q
  · have := wo_some ho
    rw [cq, s _ _ e1] at this
    exact hn _ (Option.some.inj this).symm
  · unfold wo at ho
    rw [if_pos (List.mem_cons_of_mem _ (less1_mem z cq))] at ho
    cases ho
end
end L2.DL
/-! # Two Keepers that gain, lose, meet, part one another: how many spots there may be -/
namespace L2.SK
open L2.DL PySem
abbrev T3 := Nat × Nat × Nat
def succ3 (t : T3) : List T3 := [(t.1 + 2, t.2.1, t.2.2 + 2), (t.1, t.2.1 + 2, t.2.2 + 2), (t.1, t.2.1, t.1 + t.2.1), (t.2.2, t.2.1, t.2.2), (t.1, t.2.2, t.2.2)]
def le3 (s t : T3) : Bool := decide (s.1 ≤ t.1) && decide (s.2.1 ≤ t.2.1) && decide (s.2.2 ≤ t.2.2)
/-- the greatest sizes behind so many deeds: the one's spots, the other one's, both together -/
def tab3 : List (List T3) := [[(0, 0, 0)],
  [(2, 0, 2), (0, 2, 2)],
  [(4, 0, 4), (2, 2, 4), (0, 4, 4)],
  [(6, 0, 6), (4, 4, 4), (4, 2, 6), (2, 4, 6), (0, 6, 6)],
  [(8, 0, 8), (6, 6, 6), (6, 2, 8), (4, 4, 8), (2, 6, 8), (0, 8, 8)],
  [(10, 0, 10), (8, 8, 8), (8, 2, 10), (6, 6, 12), (2, 8, 10), (0, 10, 10)],
  [(12, 6, 12), (10, 10, 10), (8, 8, 16), (6, 12, 12)],
  [(16, 8, 16), (12, 12, 12), (12, 6, 18), (10, 10, 20), (8, 16, 16), (6, 12, 18)],
  [(20, 10, 20), (18, 12, 18), (16, 16, 16), (16, 8, 24), (12, 18, 18), (12, 12, 24), (10, 20, 20), (8, 16, 24)],
  [(24, 16, 24), (20, 20, 20), (20, 10, 30), (18, 12, 30), (16, 24, 24), (16, 16, 32), (12, 18, 30), (10, 20, 30)],
  [(32, 16, 32), (30, 20, 30), (24, 24, 24), (24, 16, 40), (20, 30, 30), (20, 20, 40), (16, 32, 32), (16, 24, 40)],
  [(40, 24, 40), (32, 32, 32), (32, 16, 48), (30, 20, 50), (24, 40, 40), (24, 24, 48), (20, 30, 50), (16, 32, 48)],
  [(50, 30, 50), (48, 32, 48), (40, 40, 40), (40, 24, 64), (32, 48, 48), (32, 32, 64), (30, 50, 50), (24, 40, 64)],
  [(64, 40, 64), (50, 50, 50), (50, 30, 80), (48, 32, 80), (40, 64, 64), (40, 40, 80), (32, 48, 80), (30, 50, 80)],
  [(80, 50, 80), (64, 64, 64), (64, 40, 104), (50, 80, 80), (50, 50, 100), (40, 64, 104)],
  [(104, 64, 104), (80, 80, 80), (80, 50, 130), (64, 104, 104), (64, 64, 128), (50, 80, 130)],
  [(130, 80, 130), (104, 104, 104), (104, 64, 168), (80, 130, 130), (80, 80, 160), (64, 104, 168)],
  [(168, 104, 168), (130, 130, 130), (130, 80, 210), (104, 168, 168), (104, 104, 208), (80, 130, 210)],
  [(210, 130, 210), (168, 168, 168), (168, 104, 272), (130, 210, 210), (130, 130, 260), (104, 168, 272)],
  [(272, 168, 272), (210, 210, 210), (210, 130, 340), (168, 272, 272), (168, 168, 336), (130, 210, 340)],
  [(340, 210, 340), (272, 272, 272), (272, 168, 440), (210, 340, 340), (210, 210, 420), (168, 272, 440)],
  [(440, 272, 440), (340, 340, 340), (340, 210, 550), (272, 440, 440), (272, 272, 544), (210, 340, 550)],
  [(550, 340, 550), (440, 440, 440), (440, 272, 712), (340, 550, 550), (340, 340, 680), (272, 440, 712)],
  [(712, 440, 712), (550, 550, 550), (550, 340, 890), (440, 712, 712), (440, 440, 880), (340, 550, 890)],
  [(890, 550, 890), (712, 712, 712), (712, 440, 1152), (550, 890, 890), (550, 550, 1100), (440, 712, 1152)],
  [(1152, 712, 1152), (890, 890, 890), (890, 550, 1440), (712, 1152, 1152), (712, 712, 1424), (550, 890, 1440)],
  [(1440, 890, 1440), (1152, 1152, 1152), (1152, 712, 1864), (890, 1440, 1440), (890, 890, 1780), (712, 1152, 1864)],
  [(1864, 1152, 1864), (1440, 1440, 1440), (1440, 890, 2330), (1152, 1864, 1864), (1152, 1152, 2304), (890, 1440, 2330)],
  [(2330, 1440, 2330), (1864, 1864, 1864), (1864, 1152, 3016), (1440, 2330, 2330), (1440, 1440, 2880), (1152, 1864, 3016)],
  [(3016, 1864, 3016), (2330, 2330, 2330), (2330, 1440, 3770), (1864, 3016, 3016), (1864, 1864, 3728), (1440, 2330, 3770)],
  [(3770, 2330, 3770), (3016, 3016, 3016), (3016, 1864, 4880), (2330, 3770, 3770), (2330, 2330, 4660), (1864, 3016, 4880)]]
def row3 (n : Nat) : List T3 := tab3.getD n []
theorem tab_step : ∀ n < 30, ∀ t ∈ row3 n, ∀ s ∈ succ3 t, ∃ t' ∈ row3 (n + 1), le3 s t' = true := by decide +kernel
theorem tab_swap : ∀ n < 31, ∀ t ∈ row3 n, (t.2.1, t.1, t.2.2) ∈ row3 n := by decide +kernel
theorem tab_few : ∀ n < 31, ∀ t ∈ row3 n, t.1 ≤ 3770 ∧ t.2.1 ≤ 3770 ∧ (n < 30 → t.2.2 ≤ 3770) := by decide +kernel
def Bd3 (n a b u : Nat) : Prop := ∃ t ∈ row3 n, a ≤ t.1 ∧ b ≤ t.2.1 ∧ u ≤ t.2.2
theorem Bd3.zero : Bd3 0 0 0 0 := ⟨(0, 0, 0), by decide, Nat.le_refl _, Nat.le_refl _, Nat.le_refl _⟩
theorem Bd3.swap {n a b u : Nat} (hn : n < 31) (h : Bd3 n a b u) : Bd3 n b a u := by
  obtain ⟨t, ht, h1, h2, h3⟩ := h
  exact ⟨_, tab_swap n hn t ht, h2, h1, h3⟩
theorem Bd3.to {n a b u a' b' u' : Nat} (hn : n < 30) (h : Bd3 n a b u) {f : T3 → T3} (hf : ∀ t, f t ∈ succ3 t) (hm : ∀ t : T3, a ≤ t.1 → b ≤ t.2.1 → u ≤ t.2.2 → a' ≤ (f t).1 ∧ b' ≤ (f t).2.1 ∧ u' ≤ (f t).2.2) : Bd3 (n + 1) a' b' u' := by
  obtain ⟨t, ht, h1, h2, h3⟩ := h
  obtain ⟨t', ht', hl⟩ := tab_step n hn t ht _ (hf t)
  obtain ⟨g1, g2, g3⟩ := hm t h1 h2 h3
  unfold le3 at hl
  simp only [Bool.and_eq_true, decide_eq_true_eq] at hl
  exact ⟨t', ht', by omega, by omega, by omega⟩
theorem Bd3.add {n a b u : Nat} (hn : n < 30) (h : Bd3 n a b u) : Bd3 (n + 1) (a + 2) b (u + 2) :=
  h.to hn (f := fun t => (t.1 + 2, t.2.1, t.2.2 + 2)) (fun t => by simp [succ3]) fun t h1 h2 h3 => ⟨by show _ ≤ t.1 + 2; omega, h2, by show _ ≤ t.2.2 + 2; omega⟩
theorem Bd3.far {n a b u : Nat} (hn : n < 30) (h : Bd3 n a b u) : Bd3 (n + 1) a b (a + b) :=
  h.to hn (f := fun t => (t.1, t.2.1, t.1 + t.2.1)) (fun t => by simp [succ3]) fun t h1 h2 h3 => ⟨h1, h2, by show _ ≤ t.1 + t.2.1; omega⟩
theorem Bd3.join {n a b u a' : Nat} (hn : n < 30) (h : Bd3 n a b u) (ha : a' ≤ u) : Bd3 (n + 1) a' b u :=
  h.to hn (f := fun t => (t.2.2, t.2.1, t.2.2)) (fun t => by simp [succ3]) fun t h1 h2 h3 => ⟨by show _ ≤ t.2.2; omega, h2, h3⟩
theorem Bd3.few {n a b u : Nat} (hn : n < 31) (h : Bd3 n a b u) : a ≤ 3770 ∧ b ≤ 3770 ∧ (n < 30 → u ≤ 3770) := by
  obtain ⟨t, ht, h1, h2, h3⟩ := h
  obtain ⟨g1, g2, g3⟩ := tab_few n hn t ht
  exact ⟨by omega, by omega, fun z => by have := g3 z; omega⟩

/-! ### the four words -/
inductive W4 where
  | put | take | keep | turn
def W4.f : W4 → Bool → Bool → Bool
  | .put => f_either
  | .take => f_alone
  | .keep => f_both
  | .turn => f_unlike
def W4.deed : W4 → List Str2 → Deed
  | .put => .put
  | .take => .take
  | .keep => .keep
  | .turn => .turn
def W4.word : W4 → Str
  | .put => "put"
  | .take => "take"
  | .keep => "keep"
  | .turn => "turn"
theorem W4.dDeed (w : W4) (ss : List Str2) : dD (w.deed ss) = .tup [.str w.word, ssD ss] := by cases w <;> rfl
theorem W4.len (w : W4) (ss : List Str2) : lenD (w.deed ss) = ss.length := by cases w <;> rfl
theorem W4.spots (w : W4) (acc : List Int) (ss : List Str2) : spotsS acc (w.deed ss) = acc ++ ends ss := by cases w <;> rfl
theorem W4.has (w : W4) (r r2 : KRow) (n : Int) : (mergeR w.f r r2).has n = inD [.put r.strs, w.deed r2.strs] n := by
  rw [mergeR_has]
  show _ = inD ([.put r.strs] ++ [w.deed r2.strs]) n
  rw [inD_snoc]
  have e : ∀ n, inD [.put r.strs] n = r.has n := fun n => by
    show inD ([] ++ [.put r.strs]) n = _
    rw [inD_snoc]
    show (inD [] n || owns r.strs n) = _
    rw [owns_strs]
    rfl
  cases w <;> (simp only [W4.deed, behind, back, W4.f]; rw [e, owns_strs]; rfl)
theorem strL_ends : ∀ (ts : List Int) (o : Bool) (f : Option Int) (k : Int), k ∈ ends (strL o f ts) → k ∈ ts ∨ (o = true ∧ f = some k)
  | [], true, f, k, h => by
    cases f with
    | none => simp [strL, ends] at h
    | some x =>
      simp [strL, ends] at h
      exact .inr ⟨rfl, by rw [h]⟩
  | [], false, f, k, h => by simp [strL, ends] at h
  | t :: ts, true, f, k, h => by
    have e : k = t ∨ f = some k ∨ k ∈ ends (strL false (some t) ts) := by
      unfold strL ends at h
      unfold ends
      cases f with
      | none =>
        simp only [List.filterMap_cons, List.map_cons, List.mem_append, List.mem_cons] at h ⊢
        rcases h with h | h | h
        · exact .inr (.inr (.inl h))
        · exact .inl (by omega)
        · exact .inr (.inr (.inr h))
      | some x =>
        simp only [List.filterMap_cons, List.map_cons, List.mem_append, List.mem_cons] at h ⊢
        rcases h with (h | h) | h | h
        · exact .inr (.inl (by rw [h]))
        · exact .inr (.inr (.inl h))
        · exact .inl (by omega)
        · exact .inr (.inr (.inr h))
    rcases e with e | e | e
    · exact .inl (by rw [e]; exact List.mem_cons_self)
    · exact .inr ⟨rfl, e⟩
    · rcases strL_ends ts false (some t) k e with z | ⟨z, _⟩
      · exact .inl (List.mem_cons_of_mem _ z)
      · cases z
  | t :: ts, false, f, k, h => by
    rcases strL_ends ts true (some t) k h with z | ⟨_, z⟩
    · exact .inl (List.mem_cons_of_mem _ z)
    · exact .inl (by cases z; exact List.mem_cons_self)
theorem ends_strs {r : KRow} {k : Int} (h : k ∈ ends r.strs) : k ∈ r.ts := by
  rcases strL_ends r.ts r.b none k h with z | ⟨_, z⟩
  · exact z
  · cases z
theorem ends_len (ss : List Str2) : (ends ss).length ≤ 2 * ss.length := by
  have l1 : (ss.filterMap (·.1)).length ≤ ss.length := List.length_filterMap_le _ _
  have l2 : (ss.filterMap (·.2)).length ≤ ss.length := List.length_filterMap_le _ _
  unfold ends
  rw [List.length_append, List.length_map]
  omega

/-! ### what stands through the deeds -/
structure Szs (n : Nat) (d : List Deed) : Prop where
  each : ∀ x ∈ d, lenD x ≤ 5000
  many : d.length ≤ n + 2
  sp : (spots d).length ≤ 20000 + 2 * n
theorem Szs.mono {n : Nat} {d : List Deed} (h : Szs n d) : Szs (n + 1) d := ⟨h.each, by have := h.many; omega, by have := h.sp; omega⟩
structure Inv4 (n : Nat) (r0 r1 : KRow) (d0 d1 : List Deed) : Prop where
  h0 : ∀ m, r0.has m = inD d0 m
  h1 : ∀ m, r1.has m = inD d1 m
  big : ∃ A B U : List Int, (∀ k ∈ spots d0, k ∈ A) ∧ (∀ k ∈ spots d1, k ∈ B) ∧ (∀ k ∈ spots d0, k ∈ U) ∧ (∀ k ∈ spots d1, k ∈ U) ∧ Bd3 n A.length B.length U.length
  c0 : Szs n d0
  c1 : Szs n d1
theorem Szs.nil : Szs 0 [] := ⟨(fun _ h => nomatch h), Nat.zero_le _, Nat.zero_le _⟩
theorem Inv4.nil : Inv4 0 ⟨false, [], .nil⟩ ⟨false, [], .nil⟩ [] [] :=
  ⟨fun _ => rfl, fun _ => rfl, ⟨[], [], [], (fun _ h => nomatch h), (fun _ h => nomatch h), (fun _ h => nomatch h), (fun _ h => nomatch h), Bd3.zero⟩, .nil, .nil⟩
theorem Inv4.swap {n : Nat} {r0 r1 : KRow} {d0 d1 : List Deed} (hn : n < 31) (h : Inv4 n r0 r1 d0 d1) : Inv4 n r1 r0 d1 d0 := by
  obtain ⟨A, B, U, a1, a2, a3, a4, a5⟩ := h.big
  exact ⟨h.h1, h.h0, ⟨B, A, U, a2, a1, a4, a3, a5.swap hn⟩, h.c1, h.c0⟩
theorem sub_row {r : KRow} {d : List Deed} (h : ∀ m, r.has m = inD d m) : ∀ t ∈ r.ts, t ∈ spots d := fun t ht => by
  have := (mem_turn (b := r.b) r.up).mp ht
  refine inD_spot ?_
  rw [← h, ← h]
  exact this
theorem row_len {r : KRow} {U : List Int} (h : ∀ t ∈ r.ts, t ∈ U) : r.ts.length ≤ U.length := nodup_few (r.up.imp fun a => Int.ne_of_lt a) h
theorem Inv4.tlen {n : Nat} {r0 r1 : KRow} {d0 d1 : List Deed} (h : Inv4 n r0 r1 d0 d1) (hn : n < 31) : r0.ts.length ≤ 3770 := by
  obtain ⟨A, B, U, a1, a2, a3, a4, a5⟩ := h.big
  have := row_len fun t ht => a1 t (sub_row h.h0 t ht)
  have := (a5.few hn).1
  omega
theorem Inv4.fit {n : Nat} {r0 r1 : KRow} {d0 d1 : List Deed} (h : Inv4 n r0 r1 d0 d1) (hn : n < 31) : Fit d0 := by
  obtain ⟨A, B, U, a1, a2, a3, a4, a5⟩ := h.big
  have h1 := (a5.few hn).1
  have h2 := h.c0.many
  have h3 := h.c0.sp
  exact ⟨by omega, fun d hd => Nat.le_trans (h.c0.each d hd) (by decide), by omega, A, a1, by omega⟩
theorem Inv4.few {n : Nat} {r0 r1 : KRow} {d0 d1 : List Deed} (h : Inv4 n r0 r1 d0 d1) (hn : n < 30) : Few r0 r1 := by
  obtain ⟨A, B, U, a1, a2, a3, a4, a5⟩ := h.big
  have h1 := (a5.few (by omega)).2.2 hn
  exact ⟨U, fun k hk => a3 k (sub_row h.h0 k hk), fun k hk => a4 k (sub_row h.h1 k hk), by omega⟩
theorem Inv4.self {n : Nat} {r0 r1 : KRow} {d0 d1 : List Deed} (h : Inv4 n r0 r1 d0 d1) (hn : n < 31) : Few r0 r0 := by
  have := h.tlen hn
  exact ⟨r0.ts, fun _ h => h, fun _ h => h, by omega⟩
theorem strs_le (r : KRow) : r.strs.length ≤ r.ts.length + 1 := strL_len r.ts r.b none
theorem szs_two {n : Nat} {r r2 : KRow} {w : W4} (h1 : r.ts.length ≤ 3770) (h2 : r2.ts.length ≤ 3770) : Szs n [.put r.strs, w.deed r2.strs] := by
  have l1 := strs_le r
  have l2 := strs_le r2
  refine ⟨fun x hx => ?_, by simp, ?_⟩
  · simp only [List.mem_cons, List.not_mem_nil, or_false] at hx
    rcases hx with rfl | rfl
    · show r.strs.length ≤ _; omega
    · rw [W4.len]; omega
  · show (spotsS (spotsS [] (.put r.strs)) (w.deed r2.strs)).length ≤ _
    rw [W4.spots]
    show (([] ++ ends r.strs) ++ ends r2.strs).length ≤ _
    have := ends_len r.strs
    have := ends_len r2.strs
    simp only [List.nil_append, List.length_append]
    omega
theorem spots_two {r r2 : KRow} {w : W4} {k : Int} (h : k ∈ spots [.put r.strs, w.deed r2.strs]) : k ∈ r.ts ∨ k ∈ r2.ts := by
  have h' : k ∈ spotsS (spotsS [] (.put r.strs)) (w.deed r2.strs) := h
  rw [W4.spots] at h'
  have h2 : k ∈ ([] ++ ends r.strs) ++ ends r2.strs := h'
  rw [List.nil_append, List.mem_append] at h2
  exact h2.imp ends_strs ends_strs
/-- the one gains, loses, meets, parts the other one -/
theorem Inv4.join {n : Nat} {r0 r1 : KRow} {d0 d1 : List Deed} (h : Inv4 n r0 r1 d0 d1) (hn : n < 30) (w : W4) : Inv4 (n + 1) (mergeR w.f r0 r1) r1 [.put r0.strs, w.deed r1.strs] d1 := by
  obtain ⟨A, B, U, a1, a2, a3, a4, a5⟩ := h.big
  have t1 := (h.swap (by omega)).tlen (by omega)
  refine ⟨W4.has w r0 r1, h.h1, ⟨U, B, U, fun k hk => ?_, a2, fun k hk => ?_, a4, a5.join hn (Nat.le_refl _)⟩, szs_two (h.tlen (by omega)) t1, h.c1.mono⟩
  · exact (spots_two hk).elim (fun z => a3 k (sub_row h.h0 k z)) fun z => a4 k (sub_row h.h1 k z)
  · exact (spots_two hk).elim (fun z => a3 k (sub_row h.h0 k z)) fun z => a4 k (sub_row h.h1 k z)
theorem Inv4.alone {n : Nat} {r0 r1 : KRow} {d0 d1 : List Deed} (h : Inv4 n r0 r1 d0 d1) (hn : n < 30) (w : W4) : Inv4 (n + 1) (mergeR w.f r0 r0) r1 [.put r0.strs, w.deed r0.strs] d1 := by
  obtain ⟨A, B, U, a1, a2, a3, a4, a5⟩ := h.big
  have t0 := h.tlen (by omega)
  have s0 := row_len fun t ht => a3 t (sub_row h.h0 t ht)
  refine ⟨W4.has w r0 r0, h.h1, ⟨r0.ts, B, U, fun k hk => (spots_two hk).elim id id, a2, fun k hk => a3 k (sub_row h.h0 k ((spots_two hk).elim id id)), a4, a5.join hn s0⟩, szs_two t0 t0, h.c1.mono⟩
theorem szs_snoc {n : Nat} {d : List Deed} {x : Deed} (h : Szs n d) (hx : lenD x ≤ 1) : Szs (n + 1) (d ++ [x]) := by
  refine ⟨fun y hy => ?_, ?_, ?_⟩
  · rcases List.mem_append.mp hy with z | z
    · exact h.each y z
    · have : y = x := by simpa using z
      rw [this]; omega
  · rw [List.length_append]; simp only [List.length_singleton]; have := h.many; omega
  · rw [spots_snoc]
    have := spotsS_one (acc := spots d) hx
    have := h.sp
    omega
/-- a deed of the one alone -/
theorem Inv4.step {n : Nat} {r0 r1 : KRow} {d0 d1 : List Deed} (h : Inv4 n r0 r1 d0 d1) (hn : n < 30) {d : Deed} (hd : okDeed d) : ∃ r', Step r0 d r' ∧ Inv4 (n + 1) r' r1 (d0 ++ [d]) d1 := by
  obtain ⟨A, B, U, a1, a2, a3, a4, a5⟩ := h.big
  have t0 := h.tlen (by omega)
  have lt : ∀ s : Str2, (turnsS s).length ≤ 2 := fun s => by
    obtain ⟨a, c⟩ := s
    cases a <;> cases c <;> simp [turnsS]
  have eE : ∀ (s : Str2) (k : Int), k ∈ ends [s] → k ∈ turnsS s := fun s k hk => by
    obtain ⟨a, c⟩ := s
    cases a <;> cases c <;> simp [ends, turnsS] at hk ⊢
    · omega
    · exact hk
    · rcases hk with rfl | rfl
      · exact .inl rfl
      · exact .inr (by omega)
  have fw : ∀ (s : Str2) (hs : okS s = true), Few r0 (sRow s hs) := fun s hs => by
    have := (a5.few (by omega)).1
    have := lt s
    exact ⟨A ++ turnsS s, fun k hk => List.mem_append.mpr (.inl (a1 k (sub_row h.h0 k hk))), fun k hk => List.mem_append.mpr (.inr hk), by rw [List.length_append]; omega⟩
  have one : ∀ (w : W4) (s : Str2) (hs : okS s = true), Inv4 (n + 1) (mergeR w.f r0 (sRow s hs)) r1 (d0 ++ [w.deed [s]]) d1 := fun w s hs => by
    have l2 := lt s
    refine ⟨fun m => ?_, h.h1, ⟨A ++ turnsS s, B, U ++ turnsS s, fun k hk => ?_, a2, fun k hk => ?_, fun k hk => List.mem_append.mpr (.inl (a4 k hk)), ?_⟩, szs_snoc h.c0 (by rw [W4.len]; exact Nat.le_refl _), h.c1.mono⟩
    · rw [mergeR_has, inD_snoc, sRow_has, h.h0]
      cases w <;> (simp only [W4.deed, behind, back, W4.f]; rw [owns_one]; rfl)
    · rw [spots_snoc, W4.spots] at hk
      exact List.mem_append.mpr ((List.mem_append.mp hk).imp (a1 k) (eE s k))
    · rw [spots_snoc, W4.spots] at hk
      exact List.mem_append.mpr ((List.mem_append.mp hk).imp (a3 k) (eE s k))
    · obtain ⟨t, ht, g1, g2, g3⟩ := a5.add hn
      exact ⟨t, ht, by rw [List.length_append]; omega, g2, by rw [List.length_append]; omega⟩
  have mv : ∀ {r' : KRow} {x : Deed} (g : Int → Int), (∀ acc, spotsS acc x = acc.map g) → lenD x ≤ 1 → (∀ m, r'.has m = inD (d0 ++ [x]) m) → Inv4 (n + 1) r' r1 (d0 ++ [x]) d1 := fun {r' x} g hg hx hh => by
    refine ⟨hh, h.h1, ⟨A.map g, B, A.map g ++ B, fun k hk => ?_, a2, fun k hk => ?_, fun k hk => List.mem_append.mpr (.inr (a2 k hk)), ?_⟩, szs_snoc h.c0 hx, h.c1.mono⟩
    · rw [spots_snoc, hg] at hk
      obtain ⟨z, hz, rfl⟩ := List.mem_map.mp hk
      exact List.mem_map.mpr ⟨z, a1 z hz, rfl⟩
    · rw [spots_snoc, hg] at hk
      obtain ⟨z, hz, rfl⟩ := List.mem_map.mp hk
      exact List.mem_append.mpr (.inl (List.mem_map.mpr ⟨z, a1 z hz, rfl⟩))
    · have := a5.far hn
      rwa [List.length_append, List.length_map]
  match d, hd with
  | .put [s], hd => exact ⟨_, .put r0 s hd.1 (fw s hd.1), one .put s hd.1⟩
  | .take [s], hd => exact ⟨_, .take r0 s hd.1 (fw s hd.1), one .take s hd.1⟩
  | .keep [s], hd => exact ⟨_, .keep r0 s hd.1 (fw s hd.1), one .keep s hd.1⟩
  | .turn [s], hd => exact ⟨_, .turn r0 s hd.1 (fw s hd.1), one .turn s hd.1⟩
  | .move k, _ => exact ⟨_, .move r0 k (by omega), mv (fun z => z + k) (fun _ => rfl) (Nat.zero_le _) fun m => by rw [KRow.moved_has, inD_snoc, h.h0]; rfl⟩
  | .mirror, _ => exact ⟨_, .mirror r0 (by omega), mv (fun z => 1 - z) (fun _ => rfl) (Nat.zero_le _) fun m => by rw [KRow.mirrored_has, inD_snoc, h.h0]; rfl⟩
  | .put [], hd => exact hd.elim
  | .put (_ :: _ :: _), hd => exact hd.elim
  | .take [], hd => exact hd.elim
  | .take (_ :: _ :: _), hd => exact hd.elim
  | .keep [], hd => exact hd.elim
  | .keep (_ :: _ :: _), hd => exact hd.elim
  | .turn [], hd => exact hd.elim
  | .turn (_ :: _ :: _), hd => exact hd.elim
end L2.SK
namespace L2.DL
open PySem PySem.Spec PyProof.Rows L2.SK
def dm_tog : DM := fun b ts ds T _ => ∃ (r r2 : KRow) (w : W4), b = r.b ∧ ts = r.ts ∧ ds = [kpD r2, .str w.word] ∧ Few r r2 ∧ T (mergeR w.f r r2).b (mergeR w.f r r2).ts (.bl true)
def dm_togS : DMA := fun a b ts ds T _ => ∃ (r : KRow) (w : W4), b = r.b ∧ ts = r.ts ∧ ds = [.adr a, .str w.word] ∧ Few r r ∧ T (mergeR w.f r r).b (mergeR w.f r r).ts (.bl true)
def dm_gainS (f : Bool → Bool → Bool) : DMA := fun a b ts ds T _ => ∃ r : KRow, b = r.b ∧ ts = r.ts ∧ ds = [.adr a] ∧ Few r r ∧ T (mergeR f r r).b (mergeR f r r).ts .non
def df_due : DFp := fun ds P => ∃ dds, ds = [dsD dds] ∧ Fit dds ∧ P ((due dds).map sD)
theorem free_non : D.non.free := by simp [D.free]
theorem strs_len4 {r : KRow} (h : r.ts.length ≤ 4000) : r.strs.length ≤ 1000000 := by
  have := strs_le r
  omega
theorem isW4 {d : D} (h : d ∈ [D.str "put", D.str "take", D.str "turn", D.str "keep", D.str "turn"]) : ∃ w : W4, d = .str w.word := by
  simp only [List.mem_cons, List.not_mem_nil, or_false] at h
  rcases h with rfl | rfl | rfl | rfl | rfl
  · exact ⟨.put, rfl⟩
  · exact ⟨.take, rfl⟩
  · exact ⟨.turn, rfl⟩
  · exact ⟨.keep, rfl⟩
  · exact ⟨.turn, rfl⟩
theorem two_dD (w : W4) (ss tt : List Str2) : [D.tup [D.str "put", D.lst (ss.map sD)], D.tup [D.str w.word, D.lst (tt.map sD)]] = List.map dD [.put ss, w.deed tt] := by
  rw [List.map_cons, List.map_cons, W4.dDeed]
  rfl
abbrev env4 (cs : List Int) (a b p0 p1 q0 q1 : Addr) (r0 r1 : KRow) (d0 d1 : List Deed) (u3 u4 u5 u6 u7 u8 u9 u10 u11 u12 u13 : Option DV) : Env :=
  [some (.v (.scr cs)), some (.v (.adr a)), some (.v (.adr b)), u3, u4, u5, u6, u7, u8, u9, u10, u11, u12, u13, some (.ls a [.adr p0, .adr p1]), some (.ls b [.adr q0, .adr q1]),
    some (.kst p0 r0.b r0.ts), some (.kst p1 r1.b r1.ts), some (.ls q0 (d0.map dD)), some (.ls q1 (d1.map dD))]
end L2.DL
/-! # Texts: rules of methods, numbers and stretches as they are written -/
namespace L2.DL
open PySem PySem.Spec PyProof.Rows L2.SK TL
section
variable {X : Cx} {C : Addr} {E : XK} {pos apos : Pos} {o e : Expr}
/-- a method of a text with one argument -/
abbrev DM1 := Str → D → (D → Prop) → Prop
def AbM (K : PySem.W.Frag) (C : Addr) (r : V → List V → Hp → VK → Prop) (f : DM1) : Prop := ∀ (O : List Addr) (H : Hp) (a : Str) (y : V) (dy : D) (P : D → Prop) (Q : VK), Al O H → Rep K C (wo H O) dy y → f a dy P →
  (∀ v d H', Same H H' → Rep K C (wo H' O) d v → P d → Q v H') → r (.str a) [y] H Q
def dM1 (f : DM1) (p q : DE) : DE := fun ρ P R => p ρ (fun x => match x with
  | .str a => q ρ (fun y => f a y P) R
  | _ => False) R
theorem pd_m1 {id : String} {name : Str} {r : V → List V → Hp → VK → Prop} {f : DM1} {p q : DE} (slot : Slot "str" name id) (ty : typeOf (.builtin id) = pure (.type "method_descriptor")) (rule : MtR X id r) (ab : AbM X.K C r f) (ho : PE X o (lift X.K C E p)) (he : PE X e (lift X.K C E q))
    (hs : starEach [e] X.env = [(false, eval e X.env)] := by rfl) (hbase : attributeBase o name X.env (eval o X.env) = eval o X.env := by rfl) (hline : (apos.endLine == pos.line) = true := by rfl) :
    PE X (.Call (.Attribute o name apos) [e] [] pos) (lift X.K C E (dM1 f p q)) := (pe_m1 slot ty rule ho he hs hbase hline).wk fun σ H Q h => by
  obtain ⟨B, O0, O, ρ, P, R, k, h, hP, hR⟩ := h
  refine ⟨B, O0, O, ρ, _, R, k, h, fun x d H1 s1 r1 h1 => ?_, hR⟩
  cases d with
  | str a =>
    have ex : x = V.str a := r1
    subst ex
    exact ⟨⟨a, rfl⟩, B, O0, O, ρ, _, R, k.ext s1, h1, fun y dy H2 s2 r2 h2 => ab O H2 a y dy P Q ((k.al.mono s1).mono s2) r2 h2 fun v d H3 s3 r3 p => hP v d H3 ((s1.trans s2).trans s3) r3 p, fun c H' s' z => hR c H' (s1.trans s') z⟩
  | _ => exact h1.elim
def fSplit : DM1 := fun a y P => match y with
  | .str b => (b.length == 0) = false ∧ a.length + 2 ≤ sizeLine ∧ P (.lst ((Txt.split a b).map .str))
  | _ => False
def fPartn : DM1 := fun a y P => match y with
  | .str b => (b.length == 0) = false ∧ a.length ≤ sizeLine ∧ P (.tup [.str (Txt.partition a b).1, .str (Txt.partition a b).2.1, .str (Txt.partition a b).2.2])
  | _ => False
def fStarts : DM1 := fun a y P => match y with
  | .str b => P (.bl (Txt.startswith a b))
  | _ => False
def fJoin : DM1 := fun a y P => match y with
  | .lst ds => ∃ ys : List Str, ds = ys.map .str ∧ (ys.map (·.length)).sum + ys.length * a.length ≤ 16777216 ∧ P (.str (Txt.join a ys))
  | _ => False
theorem ab_split : AbM X.K C (fun x xs H Q => ∃ a b, x = .str a ∧ xs = [.str b] ∧ (b.length == 0) = false ∧ a.length + 2 ≤ sizeLine ∧ rNewStrs (Txt.split a b) H Q) fSplit := by
  intro O H a y dy P Q al r q k
  unfold fSplit at q
  split at q
  · have ey : y = _ := r
    subst ey
    exact ⟨_, _, rfl, rfl, q.1, q.2.1, fun p hp => k _ _ _ (Same.new hp) (rep_new_lst hp al (RepL.strs _ _)) q.2.2⟩
  · exact q.elim
theorem ab_partn : AbM X.K C (fun x xs H Q => ∃ a b, x = .str a ∧ xs = [.str b] ∧ (b.length == 0) = false ∧ a.length ≤ sizeLine ∧
    ∀ p, H p = none → Q (.ref p) (upd H p (.tup [.str (Txt.partition a b).1, .str (Txt.partition a b).2.1, .str (Txt.partition a b).2.2]))) fPartn := by
  intro O H a y dy P Q al r q k
  unfold fPartn at q
  split at q
  · have ey : y = _ := r
    subst ey
    exact ⟨_, _, rfl, rfl, q.1, q.2.1, fun p hp => k _ _ _ (Same.new hp) (rep_new_tup hp al (RepL.strs _ [_, _, _])) q.2.2⟩
  · exact q.elim
theorem ab_starts : AbM X.K C (fun x xs H Q => ∃ a b, x = .str a ∧ xs = [.str b] ∧ Q (.bl (Txt.startswith a b)) H) fStarts := by
  intro O H a y dy P Q al r q k
  unfold fStarts at q
  split at q
  · have ey : y = _ := r
    subst ey
    exact ⟨_, _, rfl, rfl, k _ (.bl _) H (Same.refl H) rfl q⟩
  · exact q.elim
theorem ab_join : AbM X.K C (fun x xs H Q => ∃ a p, ∃ ys : List Str, x = .str a ∧ xs = [.ref p] ∧ (SqL X.K H p (ys.map V.str) ∨ SqT X.K H p (ys.map V.str)) ∧
    (ys.map (·.length)).sum + ys.length * a.length ≤ 16777216 ∧ Q (.str (Txt.join a ys)) H) fJoin := by
  intro O H a y dy P Q al r q k
  unfold fJoin at q
  split at q
  · obtain ⟨ys, rfl, q1, q2⟩ := q
    obtain ⟨p, vs, rfl, e1, e2⟩ := r
    rw [RepL.of_strs e2] at e1
    exact ⟨a, p, ys, rfl, rfl, .inl (SqL.of (wo_some e1)), q1, k _ (.str _) H (Same.refl H) rfl q2⟩
  · exact q.elim
theorem pd_split {p q : DE} (ho : PE X o (lift X.K C E p)) (he : PE X e (lift X.K C E q)) (hs : starEach [e] X.env = [(false, eval e X.env)] := by rfl) (hbase : attributeBase o "split" X.env (eval o X.env) = eval o X.env := by rfl) (hline : (apos.endLine == pos.line) = true := by rfl) :
    PE X (.Call (.Attribute o "split" apos) [e] [] pos) (lift X.K C E (dM1 fSplit p q)) := pd_m1 F.slot_str_split F.type_str_split mt_split ab_split ho he hs hbase hline
theorem pd_partition {p q : DE} (ho : PE X o (lift X.K C E p)) (he : PE X e (lift X.K C E q)) (hs : starEach [e] X.env = [(false, eval e X.env)] := by rfl) (hbase : attributeBase o "partition" X.env (eval o X.env) = eval o X.env := by rfl) (hline : (apos.endLine == pos.line) = true := by rfl) :
    PE X (.Call (.Attribute o "partition" apos) [e] [] pos) (lift X.K C E (dM1 fPartn p q)) := pd_m1 F.slot_str_partition F.type_str_partition mt_partition ab_partn ho he hs hbase hline
theorem pd_startswith {p q : DE} (ho : PE X o (lift X.K C E p)) (he : PE X e (lift X.K C E q)) (hs : starEach [e] X.env = [(false, eval e X.env)] := by rfl) (hbase : attributeBase o "startswith" X.env (eval o X.env) = eval o X.env := by rfl) (hline : (apos.endLine == pos.line) = true := by rfl) :
    PE X (.Call (.Attribute o "startswith" apos) [e] [] pos) (lift X.K C E (dM1 fStarts p q)) := pd_m1 F.slot_str_startswith F.type_str_startswith mt_startswith ab_starts ho he hs hbase hline
theorem pd_join {p q : DE} (ho : PE X o (lift X.K C E p)) (he : PE X e (lift X.K C E q)) (hs : starEach [e] X.env = [(false, eval e X.env)] := by rfl) (hbase : attributeBase o "join" X.env (eval o X.env) = eval o X.env := by rfl) (hline : (apos.endLine == pos.line) = true := by rfl) :
    PE X (.Call (.Attribute o "join" apos) [e] [] pos) (lift X.K C E (dM1 fJoin p q)) := pd_m1 F.slot_str_join F.type_str_join mt_join ab_join ho he hs hbase hline
/-- int(text) -/
def dIntS : DB
  | [.str a], P => ∃ n, intText? a = some n ∧ a.length ≤ 640 ∧ P (.int n)
  | _, _ => False
theorem ab_intS {K : PySem.W.Frag} : AbC K C (fun xs H Q => ∃ a n, xs = [.str a] ∧ PySem.intText? a = some n ∧ a.length ≤ 640 ∧ Q (.int n) H) dIntS := by
  intro O H vs ds P Q al r q k
  unfold dIntS at q
  split at q
  · obtain ⟨v, _, rfl, rfl, rfl⟩ := r
    obtain ⟨n, h1, h2, h3⟩ := q
    exact ⟨_, n, rfl, h1, h2, k _ (.int n) H (Same.refl H) rfl h3⟩
  · exact q.elim
theorem pd_intS {a : Expr} {es : List Expr} {q : DA} {p : Pos} (nb : X.mg "int" = none) (ha : PA X (a :: es) (liftA X.K C E q)) (hg : Gl X "int" := by rfl) (he : starEach (a :: es) X.env = (false, eval a X.env) :: starEach es X.env := by rfl) (hpl : (backTo pos (starEach es X.env)).any (·.1) = false := by rfl) : PE X (.Call (.Name "int" p) (a :: es) [] pos) (lift X.K C E (dBi dIntS q)) :=
  pd_bt call_int_str ab_intS hg nb bt_int ha (by decide) (by decide) he hpl
/-- a text that the module names -/
def GlS (mg : Str → Option Value) (x s : Str) : Prop := ∃ u, mg x = some u ∧ RelV (.str s) u
theorem pd_globS {x s : Str} (h : GlS X.mg x s) (hg : Gl X x := by rfl) (hd : (x == ("__debug__" : Str)) = false := by decide) : PE X (.Name x pos) (lift X.K C E (dC (.str s))) := by
  obtain ⟨u, h1, h2⟩ := h
  exact (pe_glob hg h1 h2 hd).wk (lift_c (d := .str s) (v := .str s) fun _ => rfl)
/-- Keeper() as a value -/
def dNewD : DE := fun _ P _ => P (.kp false [])
theorem pd_new {n : Nat} {p p2 : Pos} (T : Kn X.prog X.w X.K X.mg X.base C n) (hr : Room (n + 1) X.A) (hx' : Passes (L2.CX X.prog X.w) X E) (hg : Gl X "Keeper" := by rfl) (hdb : (("Keeper" : Str) == ("__debug__" : Str)) = false := by decide) :
    PE X (.Call (.Name "Keeper" p) [] [] p2) (lift X.K C E dNewD) := by
  obtain ⟨f, fd, ps, M, F, hb⟩ := T.ex
  refine (pe_make0 M F hr hg T.g hb .nil hx' hdb).wk fun σ H Q q => ?_
  obtain ⟨B, O0, O, ρ, P, R, k, q, hP, hR⟩ := q
  intro y dx hy hdx ne
  refine ⟨y, dx, rfl, upd_same, fun l H' hl s' h1 h2 => ⟨rfl, ?_⟩⟩
  have ly : l ≠ y := fun z => by rw [z, upd_same] at hl; cases hl
  have hl0 : H l = none := by
    have n2 : l ≠ dx := fun z => by rw [z, upd_ne ne, upd_same] at hl; cases hl
    rw [upd_ne ly, upd_ne n2] at hl
    exact hl
  have s0 : Same H H' := fun b o e => s' b o (wo_of (by
    have n1 : b ≠ y := ne_of_none e hy
    have n2 : b ≠ dx := ne_of_none e hdx
    rw [upd_ne n1, upd_ne n2]
    exact e) (by simpa using ne_of_none e hy))
  exact hP (.ref y) (.kp false []) H' s0 ⟨y, dx, l, rfl, wo_of h1 (k.al.new hy), wo_of h2 (k.al.new hl0)⟩ q
end
/-- a def that makes a Keeper, its result as a value -/
theorem Fn.fc {P : Program} {w : World} {K : PySem.W.Frag} {mg : Str → Option Value} {base : Heap} {C : Addr} {k : Nat} {m : Str} {t : DNp} (h : Fn P w K mg base C k m t) : Fc P w K mg base C k m (fun ds P _ => t ds (fun b ts => P (.kp b ts))) := by
  obtain ⟨f, fd, ps, F, hm, hk, hb⟩ := h.ex
  refine ⟨f, fd, ps, F.imp fun vs H Q E q => ?_, hm, hk, hb⟩
  obtain ⟨O, ds, P, R, al, r, q, hP, _⟩ := q
  exact ⟨O, ds, _, al, r, q, fun y dx l b ts H' s hy h1 h2 p => hP _ (.kp b ts) H' s ⟨y, dx, l, rfl, wo_of h1 (al.new hy), wo_sub H' (fun c hc => List.mem_cons_of_mem _ hc) _ _ h2⟩ p⟩
end L2.DL

/-! ## numbers and stretches as they are written -/
namespace L2.SK
open L2.DL PySem TL
def mk (l : List Nat) : Str := ⟨l.toArray⟩
theorem tl_mk' (l : List Nat) : tl (mk l) = l := rfl
theorem mk_tl' (x : Str) : mk (tl x) = x := mk_tl x
theorem mk_inj {l m : List Nat} (h : mk l = mk m) : l = m := by
  have := congrArg tl h
  exact this
theorem mk_app (l m : List Nat) : mk l ++ mk m = mk (l ++ m) := ext_tl (by rw [tl_append]; rfl)
theorem mk_len (l : List Nat) : (mk l).length = l.length := len_tl (mk l)
def iL (i : Int) : List Nat := if 0 ≤ i then numL i.toNat else 45 :: numL (-i).toNat
theorem tl_int (i : Int) : tl (Str.ofString (toString i)) = iL i := by
  unfold iL
  cases i with
  | ofNat n =>
    rw [if_pos (show (0 : Int) ≤ Int.ofNat n from Int.natCast_nonneg n)]
    exact tl_num n
  | negSucc n =>
    rw [if_neg (by omega)]
    have e : (-(Int.negSucc n)).toNat = n + 1 := by omega
    rw [e, ← tl_num (n + 1), tl_ofString, tl_ofString]
    have h : toString (Int.negSucc n) = "-" ++ toString (((n + 1 : Nat) : Int)) := rfl
    rw [h, String.toList_append, List.map_append]
    rfl
theorem str_int (i : Int) : (Str.ofString (toString i)) = mk (iL i) := ext_tl (tl_int i)
/-- not too great to be written -/
def Sm (i : Int) : Prop := i.natAbs < 10 ^ 570
def SmO (o : Option Int) : Prop := ∀ z, o = some z → Sm z
theorem Sm.log {i : Int} (h : Sm i) : i.natAbs.log2 < 1920 := by
  unfold Sm at h
  have h2 : (10 ^ 570 : Nat) < 2 ^ 1894 := by decide +kernel
  by_cases z : i.natAbs = 0
  · rw [z]; decide
  · have : i.natAbs.log2 < 1894 := (Nat.log2_lt z).mpr (by omega)
    omega
theorem iL_len {i : Int} (h : Sm i) : (iL i).length ≤ 571 := by
  unfold Sm at h
  unfold iL
  split
  · have := numL_len (n := i.toNat) (k := 570) (by decide) (by omega)
    omega
  · rw [List.length_cons]
    have := numL_len (n := (-i).toNat) (k := 570) (by decide) (by omega)
    omega
theorem iL_ne (i : Int) : iL i ≠ [] := by
  unfold iL
  split
  · exact numL_ne _
  · simp
/-- the signs of a number: a minus, figures -/
theorem iL_signs {i : Int} {c : Nat} (h : c ∈ iL i) : c = 45 ∨ (48 ≤ c ∧ c ≤ 57) := by
  unfold iL at h
  split at h
  · exact .inr (numL_digits _ c h)
  · rcases List.mem_cons.mp h with e | h
    · exact .inl e
    · exact .inr (numL_digits _ c h)
theorem iL_free {i : Int} {s : Nat} (h : s = 32 ∨ s = 46) : s ∉ iL i := fun z => by
  have := iL_signs z
  omega
theorem iL_inj {i j : Int} (h : iL i = iL j) : i = j := by
  unfold iL at h
  by_cases a : 0 ≤ i <;> by_cases b : 0 ≤ j
  · rw [if_pos a, if_pos b] at h
    have := numL_inj h
    omega
  · rw [if_pos a, if_neg b] at h
    have := numL_digits i.toNat 45 (by rw [h]; exact List.mem_cons_self)
    omega
  · rw [if_neg a, if_pos b] at h
    have := numL_digits j.toNat 45 (by rw [← h]; exact List.mem_cons_self)
    omega
  · rw [if_neg a, if_neg b] at h
    have := numL_inj (List.cons.inj h).2
    omega
def oL : Option Int → List Nat
  | none => []
  | some i => iL i
theorem oL_nil {o : Option Int} : oL o = [] ↔ o = none := by
  cases o with
  | none => simp [oL]
  | some i => simp [oL, iL_ne]
theorem oL_free {o : Option Int} {s : Nat} (h : s = 32 ∨ s = 46) : s ∉ oL o := by
  cases o with
  | none => simp [oL]
  | some i => exact iL_free h
theorem oL_len {o : Option Int} (h : SmO o) : (oL o).length ≤ 571 := by
  cases o with
  | none => exact Nat.zero_le _
  | some i => exact iL_len (h i rfl)
/-- a stretch as it is written -/
def sL (s : Str2) : List Nat := if s.1 = s.2 ∧ s.1 ≠ none then oL s.1 else oL s.1 ++ [46, 46] ++ oL s.2
theorem sL_free {s : Str2} : 32 ∉ sL s := by
  unfold sL
  split
  · exact oL_free (.inl rfl)
  · intro h
    rcases List.mem_append.mp h with h | h
    · rcases List.mem_append.mp h with h | h
      · exact oL_free (.inl rfl) h
      · simp at h
    · exact oL_free (.inl rfl) h
theorem sL_len {s : Str2} (h1 : SmO s.1) (h2 : SmO s.2) : (sL s).length ≤ 1144 := by
  have a := oL_len h1
  have b := oL_len h2
  unfold sL
  split
  · omega
  · simp only [List.length_append, List.length_cons, List.length_nil]
    omega
theorem sL_ne (s : Str2) : sL s ≠ [] := by
  unfold sL
  split
  · rename_i h
    rw [ne_eq, oL_nil]
    exact h.2
  · simp
/-- stretches as they are written -/
def rL (ss : List Str2) : List Nat := joinL [32] (ss.map sL)
theorem rL_nil {ss : List Str2} : rL ss = [] ↔ ss = [] := by
  constructor
  · intro h
    match ss, h with
    | [], _ => rfl
    | [s], h => exact absurd h (sL_ne s)
    | s :: t :: r, h =>
      have : sL s ++ ([32] ++ joinL [32] (sL t :: r.map sL)) = [] := h
      simp at this
  · rintro rfl
    rfl
theorem join_words (ss : List Str2) : Txt.join " " (ss.map fun s => mk (sL s)) = mk (rL ss) := ext_tl (by
  rw [join_eq, tl_join, List.map_map]
  rfl)
theorem split_words {ss : List Str2} (h : ss ≠ []) : Txt.split (mk (rL ss)) " " = ss.map fun s => mk (sL s) := by
  rw [← join_words]
  refine split_join (s := 32) (S := []) rfl (by decide +kernel) (by simpa using h) fun p hp => ?_
  obtain ⟨s, _, rfl⟩ := List.mem_map.mp hp
  exact sL_free
theorem rL_len {ss : List Str2} (h : ∀ s ∈ ss, SmO s.1 ∧ SmO s.2) : (rL ss).length ≤ 1145 * ss.length := by
  unfold rL
  induction ss with
  | nil => exact Nat.le_refl _
  | cons s ss ih =>
    have a := sL_len (h s List.mem_cons_self).1 (h s List.mem_cons_self).2
    have b := ih fun t ht => h t (List.mem_cons_of_mem _ ht)
    cases ss with
    | nil =>
      show (sL s).length ≤ _
      rw [List.length_singleton]
      omega
    | cons t r =>
      show (sL s ++ ([32] ++ joinL [32] ((t :: r).map sL))).length ≤ _
      rw [List.length_append, List.length_append, List.length_singleton]
      simp only [List.length_cons] at b ⊢
      omega
theorem words_sum {ss : List Str2} (h : ∀ s ∈ ss, SmO s.1 ∧ SmO s.2) : ((ss.map fun s => mk (sL s)).map (·.length)).sum ≤ 1144 * ss.length := by
  induction ss with
  | nil => exact Nat.le_refl _
  | cons s ss ih =>
    have a := sL_len (h s List.mem_cons_self).1 (h s List.mem_cons_self).2
    have b := ih fun t ht => h t (List.mem_cons_of_mem _ ht)
    rw [List.map_cons, List.map_cons, List.sum_cons, List.length_cons, mk_len]
    omega
/-- a number that is written so -/
theorem int_read (i : Int) (h : (iL i).length ≤ 640) : intText? (mk (iL i)) = some i := by
  unfold iL at h ⊢
  by_cases a : 0 ≤ i
  · rw [if_pos a] at h ⊢
    rw [intText_digits (x := mk (numL i.toNat)) (numL_digits _) (numL_ne _) (by rw [mk_len]; omega)]
    show some ((NumText.digitsVal (numL i.toNat) : Nat) : Int) = _
    rw [numL_val]
    congr 1
    omega
  · rw [if_neg a] at h ⊢
    rw [intText_neg (x := mk (45 :: numL (-i).toNat)) (cs := numL (-i).toNat) rfl (numL_digits _) (numL_ne _) (by rw [mk_len]; omega), numL_val]
    congr 1
    omega
/-- the figures of a word -/
def figs (l : List Nat) : List Nat := if l.head? = some 45 then l.drop 1 else l
theorem numL_head : ∀ n : Nat, (numL n).head? = some 48 → n = 0 := fun n => by
  induction n using Nat.strongRecOn with
  | _ n ih =>
    intro h
    by_cases c : n < 10
    · rw [numL_lt c] at h
      have : 48 + n = 48 := by simpa using h
      omega
    · rw [numL_step (by omega), List.head?_append] at h
      cases e : (numL (n / 10)).head? with
      | none => exact absurd (List.head?_eq_none_iff.mp e) (numL_ne _)
      | some d =>
        rw [e] at h
        have hd : d = 48 := by simpa using h
        have := ih (n / 10) (by omega) (by rw [e, hd])
        omega
theorem figs_iL (i : Int) : figs (iL i) ≠ [] ∧ NumText.AllDigits (figs (iL i)) ∧ ((figs (iL i)).head? = some 48 → iL i = [48]) := by
  unfold iL
  by_cases a : 0 ≤ i
  · rw [if_pos a]
    have e : figs (numL i.toNat) = numL i.toNat := by
      unfold figs
      rw [if_neg]
      intro h
      have := numL_digits i.toNat 45 (List.mem_of_head? h)
      omega
    rw [e]
    refine ⟨numL_ne _, numL_digits _, fun h => ?_⟩
    rw [numL_head _ h]
    rfl
  · rw [if_neg a]
    have e : figs (45 :: numL (-i).toNat) = numL (-i).toNat := rfl
    rw [e]
    refine ⟨numL_ne _, numL_digits _, fun h => ?_⟩
    have := numL_head _ h
    omega
/-- figures without a nought ahead are a number -/
theorem num_of : ∀ (k : Nat) (f : List Nat), f.length = k → f ≠ [] → NumText.AllDigits f → (f.head? = some 48 → f = [48]) → ∃ n : Nat, f = numL n ∧ (n = 0 → f = [48])
  | 0, f, h, hn, _, _ => absurd (List.length_eq_zero_iff.mp h) hn
  | k + 1, f, h, hn, hd, h0 => by
    have ef := (List.dropLast_concat_getLast hn).symm
    have dl : 48 ≤ f.getLast hn ∧ f.getLast hn ≤ 57 := hd _ (List.getLast_mem hn)
    generalize f.getLast hn = c at ef dl
    generalize hg : f.dropLast = g at ef
    cases g with
    | nil =>
      refine ⟨c - 48, ?_, fun z => ?_⟩
      · rw [numL_lt (by omega), ef, show 48 + (c - 48) = c by omega]
        rfl
      · rw [ef, show c = 48 by omega]
        rfl
    | cons d g' =>
      have hd48 : d ≠ 48 := fun z => by
        have := h0 (by rw [ef, z]; rfl)
        rw [this] at ef
        have := congrArg List.length ef
        simp at this
      obtain ⟨n, e1, e2⟩ := num_of k (d :: g') (by
        have := congrArg List.length ef
        simp only [List.length_append, List.length_cons, List.length_nil] at this ⊢
        omega) (by simp) (fun x hx => hd x (by rw [ef]; exact List.mem_append.mpr (.inl hx))) (fun z => absurd (by simpa using z) hd48)
      have n0 : n ≠ 0 := fun z => hd48 (by
        have := e2 z
        exact (List.cons.inj this).1)
      refine ⟨n * 10 + (c - 48), ?_, fun z => by omega⟩
      rw [numL_step (by omega), show (n * 10 + (c - 48)) / 10 = n by omega, show (n * 10 + (c - 48)) % 10 = c - 48 by omega, ← e1, show 48 + (c - 48) = c by omega]
      exact ef
theorem num_figs {l : List Nat} (h1 : figs l ≠ []) (h2 : NumText.AllDigits (figs l)) (h3 : (figs l).head? = some 48 → l = [48]) : ∃ i, l = iL i := by
  have h3' : (figs l).head? = some 48 → figs l = [48] := fun z => by
    rw [h3 z]
    rfl
  obtain ⟨n, e1, e2⟩ := num_of _ (figs l) rfl h1 h2 h3'
  unfold figs at e1 e2 h3
  by_cases c : l.head? = some 45
  · rw [if_pos c] at e1 e2 h3
    have el : l = 45 :: l.drop 1 := by
      cases l with
      | nil => cases c
      | cons x r =>
        have : x = 45 := by simpa using c
        rw [this]
        rfl
    have n0 : n ≠ 0 := fun z => by
      have := e2 z
      have := h3 (by rw [this]; rfl)
      rw [this] at c
      cases c
    refine ⟨-(n : Int), ?_⟩
    unfold iL
    rw [if_neg (by omega), el, e1, show (-(-(n : Int))).toNat = n by omega]
  · rw [if_neg c] at e1
    refine ⟨(n : Int), ?_⟩
    unfold iL
    rw [if_pos (by omega), e1]
    try rfl
end L2.SK
/-! # A new Keeper as an expression; a def that returns a new Keeper with a value -/
namespace L2.DL
open PySem PySem.Spec PyProof.Rows L2.SK TL
section
variable {X : Cx} {C : Addr} {E : XK} {pos : Pos} {a e : Expr}
/-- f(e, ..), a new Keeper in the store -/
def dNewF (t : DNp) (q : DA) : DEM := fun ρ P R => q ρ (fun ds => t ds (fun b ts => ∃ j : Nat, ∀ y, P (.adr y) (ρ.set j (some (.kst y b ts))))) (fun c => R c ρ)
theorem pm_fN {p : Pos} {x : Str} {n : Nat} {es : List Expr} {t : DNp} {q : DA} (F : Fn X.prog X.w X.K X.mg X.base C n x t) (hr : Room n X.A) (hg : Gl X x)
    (hx : Passes (L2.CX X.prog X.w) X E) (ha : PA X (a :: es) (liftA X.K C E q)) (hs : starEach (a :: es) X.env = (false, eval a X.env) :: starEach es X.env := by rfl)
    (hdb : (x == ("__debug__" : Str)) = false := by decide) (hpl : (backTo pos (starEach es X.env)).any (·.1) = false := by rfl) :
    PE X (.Call (.Name x p) (a :: es) [] pos) (liftM X.K C E (dNewF t q)) := by
  obtain ⟨f, fd, ps, G, hm, hk, hb⟩ := F.ex
  refine (pe_call G hr hg hm hk hb .nil hx ha hdb hs hpl).wk fun σ H Q h => ?_
  obtain ⟨B, O0, O, ρ, P, R, k, h, hP, hR⟩ := h
  refine ⟨B, O0, O, ρ, _, _, k, h, fun vs ds H1 s1 r1 h1 => ?_, fun c H' s' z => hR c H' σ ρ O (k.ext s') z⟩
  have k1 := k.ext s1
  show spN X.K C t (vs ++ []) H1 Q E
  rw [List.append_nil]
  refine ⟨O, ds, _, k1.al, r1, h1, fun y dx l b ts H' s hy g1 g2 p => ?_⟩
  obtain ⟨j, p⟩ := p
  exact hP _ (.adr y) H' _ _ (k1.newK j s hy g1 g2) rfl (p y)
/-! ### return f(..), e: a new Keeper, and a value -/
abbrev DNT := Env → (Bool → List Int → D → Prop) → Prop
def liftNT (K : PySem.W.Frag) (C : Addr) (E : XK) (p : DNT) : TS := fun T σ H => ∃ B O0 O ρ RO, Ok K C B O0 O H σ ρ ∧ p ρ RO ∧
  ∀ tp y dx l b ts d v H', Same B H' → B y = none → H' y = some (.ins C dx (kf b l)) → wo H' (y :: O0) l = some (.lst (ts.map V.int)) → Rep K C (wo H' (y :: O0)) d v → wo H' (y :: O0) tp = some (.tup [.ref y, v]) → RO b ts d → T.rt (.ref tp) H'
def dSeqNT (p : DS) (q : DNT) : DNT := fun ρ RO => p ρ (fun ρ' => q ρ' RO) (fun _ => False) (fun _ => False)
def dRetNT (p : DEM) (q : DE) : DNT := fun ρ RO => p ρ (fun x ρ' => q ρ' (fun d => ∃ (j : Nat) (y : Addr) (b : Bool) (ts : List Int), x = .adr y ∧ ρ'[j]? = some (some (.kst y b ts)) ∧ RO b ts d) (fun _ => False)) (fun _ _ => False)
theorem st_cons {st : Stmt} {rest : List Stmt} {p : DS} {q : DNT} (h1 : PS X st (liftS X.K C E p)) (h2 : PSs X rest (liftNT X.K C E q)) : PSs X (st :: rest) (liftNT X.K C E (dSeqNT p q)) := (pss_cons h1 h2).wk fun T σ H q => by
  obtain ⟨B, O0, O, ρ, RO, k, q, hR⟩ := q
  exact ⟨B, O0, O, ρ, _, _, _, k, q, fun σ' H' ρ' O' k' n' => ⟨B, O0, O', ρ', RO, k', n', hR⟩, fun v d H' s' r z => z.elim, fun c H' s' z => z.elim⟩
theorem st_ret {p : DEM} {q : DE} {x1} {tpos : Pos} (ha : PE X a (liftM X.K C E p)) (hb : PE X e (lift X.K C E q)) (hs : starEach [a, e] X.env = (false, eval a X.env) :: starEach [e] X.env := by rfl) (hs2 : starEach [e] X.env = (false, eval e X.env) :: starEach [] X.env := by rfl) :
    PSs X [.Return (some (.Tuple [a, e] x1 tpos)) pos] (liftNT X.K C E (dRetNT p q)) := (pss_one (ps_ret (pe_tup (pa_cons ha (pa_cons hb pa_nil hs2) hs)))).wk fun T σ H q => by
  obtain ⟨B, O0, O, ρ, RO, k, q, hR⟩ := q
  refine ⟨B, O0, O, ρ, _, _, k, q, fun v1 d1 H1 ρ1 O1 k1 r1 q1 => ⟨B, O0, O1, ρ1, _, _, k1, q1, fun v2 d2 H2 s2 r2 q2 => ⟨by show 2 ≤ sizeLine; decide, fun p hp => ?_⟩, fun c H' s' z => z.elim⟩, fun c H' σ' ρ' O' k' z => z.elim⟩
  obtain ⟨j, y, b, ts, rfl, hj, q3⟩ := q2
  have k2 := k1.ext s2
  have ex : v1 = V.ref y := r1
  subst ex
  obtain ⟨h1, h2, dx, l, h3, h4⟩ := k2.st.at_ j y b ts hj
  have s3 : Same H2 (upd H2 p (.tup [.ref y, v2])) := Same.new hp
  have sw : Same (wo H2 O1) (wo (upd H2 p (.tup [.ref y, v2])) (y :: O0)) := (wo_same O1 s3).trans (wo_sub _ fun c hc => by
    rcases List.mem_cons.mp hc with rfl | hc
    · exact h1
    · exact k2.sub0 c hc)
  have hpO : p ∉ y :: O0 := fun z => by
    rcases List.mem_cons.mp z with z | z
    · rw [z, h3] at hp; cases hp
    · exact k2.al.new hp (k2.sub0 p z)
  exact hR p y dx l b ts d2 v2 _ (k2.base.trans s3) h2 (s3 _ _ h3) (sw _ _ h4) (Rep.mono sw d2 r2) (wo_of upd_same hpO) q3
abbrev DNTp := List D → (Bool → List Int → D → Prop) → Prop
def spNT (K : PySem.W.Frag) (C : Addr) (t : DNTp) : Sp := fun vs H Q _ => ∃ O ds P, Al O H ∧ RepL K C (wo H O) ds vs ∧ t ds P ∧
  ∀ tp y dx l b ts d v H', Same H H' → H y = none → H' y = some (.ins C dx (kf b l)) → wo H' (y :: O) l = some (.lst (ts.map V.int)) → Rep K C (wo H' (y :: O)) d v → wo H' (y :: O) tp = some (.tup [.ref y, v]) → P b ts d → Q (.ref tp) H'
end
section
variable {P : Program} {w : World} {K : PySem.W.Frag} {mg : Str → Option Value} {base : Heap} {C : Addr}
theorem fnNT {x qual : Str} {st : Stmt} {f : Addr} {fd : FuncData} {N ps : List Str} {k : Nat} {t : DNTp} {p : DNT} (F : Fun K x qual st f fd) (S : FnScope N ps (defScope st))
    (body : ∀ (cdv : Value) (A : Around) (outer : List PySem.Env) (s : Shared) (H : Hp) (E : XK), Room k (A.deeper (envOfC qual (defScope st) s.heap.objs.size f cdv)) → PSs (cxD P w K mg base N qual (defScope st) f cdv A outer s H E) (defBody st) (liftNT K C E p))
    (h : ∀ (ds : List D) (T : Bool → List Int → D → Prop), t ds T → ds.length = ps.length ∧ p (startE N ds) T) : FnOk P w K mg base (L2.CX P w) (k + 1) f fd ps (spNT K C t) := by
  refine F.okX S (fun vs H Q E q => ?_) (fun cdv A outer s H vs Q E hr q => ⟨_, body cdv A outer s H E hr, ?_⟩)
  · obtain ⟨O, ds, T, al, r, q, _⟩ := q
    rw [RepL.length r]
    exact (h ds T q).1
  · obtain ⟨O, ds, T, al, r, q, hT⟩ := q
    exact ⟨H, O, O, startE N ds, _, start_ok al r N, (h ds T q).2, hT⟩
structure FnT (P : Program) (w : World) (K : PySem.W.Frag) (mg : Str → Option Value) (base : Heap) (C : Addr) (k : Nat) (name : Str) (t : DNTp) : Prop where
  ex : ∃ (f : Addr) (fd : FuncData) (ps : List Str), FnOk P w K mg base (L2.CX P w) k f fd ps (spNT K C t) ∧ mg name = some (.ref f) ∧ PySem.W.keepIn K (.ref f) = true ∧ Binds K fd ps []
end
section
variable {X : Cx} {C : Addr} {E : XK} {pos : Pos} {a e : Expr}
/-- x, y = f(e, ..): a new Keeper, and a value -/
def dAsgNT (j : Nat) (t : DNTp) (q : DA) (g : DG) : DS := fun ρ N _ Z => q ρ (fun ds => t ds (fun b ts d => ∀ y, g (.tup [.adr y, d]) (ρ.set j (some (.kst y b ts))) N)) Z
theorem sd_asgNT {j n : Nat} {tg : Expr} {f : Str} {t : DNTp} {q : DA} {es : List Expr} {fpos cpos : Pos} {js : List Nat} {g : DG} (M : FnT X.prog X.w X.K X.mg X.base C n f t) (hr : Room n X.A) (hx' : Passes (L2.CX X.prog X.w) X E) (hg : Gl X f) (ha : PA X (a :: es) (liftA X.K C E q)) (htg : PG X tg (liftG X.K C js g))
    (hs : swapsWithSole [tg] (.Call (.Name f fpos) (a :: es) [] cpos) pos.line X.env = pure false := by rfl) (hw : swappedStores [tg] (.Call (.Name f fpos) (a :: es) [] cpos) X.env = pure none := by rfl) (h1 : (assignEach [tg] X.env).map (·.2) = [assign tg X.env] := by rfl)
    (hdb : (f == ("__debug__" : Str)) = false := by decide) (he : starEach (a :: es) X.env = (false, eval a X.env) :: starEach es X.env := by rfl) (hpl : (backTo cpos (starEach es X.env)).any (·.1) = false := by rfl) :
    PS X (.Assign [tg] (.Call (.Name f fpos) (a :: es) [] cpos) pos) (liftS X.K C E (dAsgNT j t q g)) := by
  obtain ⟨fa, fd, ps, F, hm, hk, hb⟩ := M.ex
  refine (ps_asg (pe_call F hr hg hm hk hb .nil hx' ha hdb he hpl) htg hs hw h1).wk fun T' σ H q => ?_
  obtain ⟨B, O0, O, ρ, N, R, Z, k, q, hN, hR, hZ⟩ := q
  refine ⟨B, O0, O, ρ, _, _, k, q, fun vs ds H1 s1 r1 q1 => ?_, fun c H' s' z => hZ c H' (k.base.trans s') z⟩
  have k1 := k.ext s1
  show spNT X.K C t (vs ++ []) H1 _ E
  rw [List.append_nil]
  refine ⟨O, ds, _, k1.al, r1, q1, fun tp y dx l b ts d v H' s hy g1 g2 g3 g4 p => ?_⟩
  have k2 := k1.newK j s hy g1 g2
  exact ⟨B, O0, y :: O, _, .tup [.adr y, d], N, k2, ⟨tp, [.ref y, v], rfl, g4, .ref y, [v], rfl, rfl, v, [], rfl, g3, rfl⟩, p y, fun σ' ρ' k' _ n => hN σ' H' ρ' _ k' n⟩
end
end L2.DL
/-! # What the texts' defs promise -/
namespace L2.SK
open L2.DL PySem TL
theorem strL_ok : ∀ (ts : List Int) (o : Bool) (f : Option Int), Up ts → (∀ a, o = true → f = some a → ∀ t ∈ ts, a < t) → ∀ s ∈ strL o f ts, okS s = true
  | [], true, f, _, _, s, hs => by
    have : s = (f, none) := by simpa [strL] using hs
    rw [this]
    cases f <;> rfl
  | [], false, _, _, _, s, hs => by simp [strL] at hs
  | t :: ts, true, f, hu, hf, s, hs => by
    have hu' := List.pairwise_cons.mp hu
    rcases List.mem_cons.mp hs with e | hs
    · rw [e]
      cases f with
      | none => rfl
      | some a =>
        have := hf a rfl rfl t List.mem_cons_self
        show decide (a ≤ t - 1) = true
        exact decide_eq_true (by omega)
    · exact strL_ok ts false (some t) hu'.2 (fun _ z => nomatch z) s hs
  | t :: ts, false, f, hu, hf, s, hs => by
    have hu' := List.pairwise_cons.mp hu
    exact strL_ok ts true (some t) hu'.2 (fun a _ e u hu => by cases e; exact hu'.1 u hu) s hs
theorem strs_ok (r : KRow) : ∀ s ∈ r.strs, okS s = true := strL_ok r.ts r.b none r.up fun _ _ z => nomatch z
theorem strs_end {r : KRow} {s : Str2} (hs : s ∈ r.strs) : (∀ z, s.1 = some z → z ∈ r.ts) ∧ ∀ z, s.2 = some z → z + 1 ∈ r.ts := by
  constructor
  · intro z e
    exact ends_strs (by unfold ends; exact List.mem_append.mpr (.inl (List.mem_filterMap.mpr ⟨s, hs, e⟩)))
  · intro z e
    exact ends_strs (by unfold ends; exact List.mem_append.mpr (.inr (List.mem_map.mpr ⟨z, List.mem_filterMap.mpr ⟨s, hs, e⟩, rfl⟩)))
theorem owns_snoc (ss : List Str2) (s : Str2) (n : Int) : owns (ss ++ [s]) n = (owns ss n || lies s n) := by
  unfold owns
  rw [List.any_append]
  simp
theorem inD_puts : ∀ (rs : List Str2) (n : Int), inD (rs.reverse.map fun s => Deed.put [s]) n = owns rs.reverse n
  | [], _ => rfl
  | s :: rs, n => by
    rw [List.reverse_cons, List.map_append]
    show inD (_ ++ [Deed.put [s]]) n = _
    rw [inD_snoc, owns_snoc, ← inD_puts rs n]
    show (inD _ n || owns [s] n) = _
    rw [owns_one]
/-- what is put, stretch by stretch -/
theorem puts_row {r r' : KRow} (h : Inv1 r' (r.strs.map fun s => Deed.put [s])) : r' = r := KRow.ext' fun n => by
  rw [h.has]
  have := inD_puts r.strs.reverse n
  rw [List.reverse_reverse] at this
  rw [this, owns_strs]
/-- the numbers stay small enough -/
theorem spots_bd : ∀ (rs : List Deed), (∀ d ∈ rs, okDeed d) → ∀ k ∈ spots rs.reverse, k.natAbs ≤ rs.length * (10 ^ 480 + 200)
  | [], _, k, h => by cases h
  | d :: rs, hd, k, h => by
    have ih := spots_bd rs fun e he => hd e (List.mem_cons_of_mem _ he)
    have h0 := hd d List.mem_cons_self
    rw [List.reverse_cons, spots_snoc] at h
    rw [List.length_cons, Nat.add_mul, Nat.one_mul]
    have one : ∀ s : Str2, BdO s.1 → BdO s.2 → k ∈ spots rs.reverse ++ ends [s] → k.natAbs ≤ rs.length * (10 ^ 480 + 200) + (10 ^ 480 + 200) := fun s b1 b2 hk => by
      rcases List.mem_append.mp hk with z | z
      · have := ih k z
        omega
      · unfold ends at z
        rcases List.mem_append.mp z with z | z
        · obtain ⟨t, ht, e⟩ := List.mem_filterMap.mp z
          have : t = s := by simpa using ht
          subst this
          have := b1 k e
          unfold Bd at this
          omega
        · obtain ⟨y, hy, rfl⟩ := List.mem_map.mp z
          obtain ⟨t, ht, e⟩ := List.mem_filterMap.mp hy
          have : t = s := by simpa using ht
          subst this
          have := b2 y e
          unfold Bd at this
          omega
    match d, h0, h with
    | .put [s], h0, h => exact one s h0.2.1 h0.2.2 h
    | .take [s], h0, h => exact one s h0.2.1 h0.2.2 h
    | .keep [s], h0, h => exact one s h0.2.1 h0.2.2 h
    | .turn [s], h0, h => exact one s h0.2.1 h0.2.2 h
    | .move j, h0, h =>
      obtain ⟨y, hy, rfl⟩ := List.mem_map.mp h
      have := ih y hy
      have b : Bd j := h0
      unfold Bd at b
      omega
    | .mirror, h0, h =>
      obtain ⟨y, hy, rfl⟩ := List.mem_map.mp h
      have := ih y hy
      omega
    | .put [], h0, _ => exact h0.elim
    | .put (_ :: _ :: _), h0, _ => exact h0.elim
    | .take [], h0, _ => exact h0.elim
    | .take (_ :: _ :: _), h0, _ => exact h0.elim
    | .keep [], h0, _ => exact h0.elim
    | .keep (_ :: _ :: _), h0, _ => exact h0.elim
    | .turn [], h0, _ => exact h0.elim
    | .turn (_ :: _ :: _), h0, _ => exact h0.elim
/-- all ends can be written -/
def SmS (ss : List Str2) : Prop := ∀ s ∈ ss, SmO s.1 ∧ SmO s.2
theorem sm_of {z : Int} {k : Nat} (h : z.natAbs ≤ k * (10 ^ 480 + 200) + 1) (hk : k ≤ 1000) : Sm z := by
  unfold Sm
  have h1 : k * (10 ^ 480 + 200) ≤ 1000 * (10 ^ 480 + 200) := Nat.mul_le_mul_right _ hk
  have h2 : 1000 * (10 ^ 480 + 200) + 1 < 10 ^ 570 := by decide +kernel
  omega
theorem _root_.L2.DL.Inv1.sm {r : KRow} {dds : List Deed} (h : Inv1 r dds) (hd : ∀ d ∈ dds, okDeed d) (hl : dds.length ≤ 1000) : SmS r.strs := fun s hs => by
  obtain ⟨h1, h2⟩ := strs_end hs
  have b : ∀ t ∈ r.ts, t.natAbs ≤ dds.length * (10 ^ 480 + 200) := fun t ht => by
    have := spots_bd dds.reverse (fun d hd' => hd d (List.mem_reverse.mp hd')) t
    rw [List.reverse_reverse, List.length_reverse] at this
    exact this (h.sub t ht)
  constructor
  · intro z e
    have := b z (h1 z e)
    exact sm_of (k := dds.length) (by omega) hl
  · intro z e
    have := b (z + 1) (h2 z e)
    exact sm_of (k := dds.length) (by omega) hl
theorem starts_minus (t : Str) : Txt.startswith t "-" = decide ((tl t).head? = some 45) := by
  unfold Txt.startswith
  rw [PySem.StrLaws.subAt_eq]
  have e1 : tl ("-" : Str) = [45] := by decide +kernel
  have e2 : ("-" : Str).length = 1 := by decide +kernel
  rw [show ("-" : Str).cps.toList = [45] from e1, e2, List.drop_zero]
  have hl := len_tl t
  show _ = decide ((t.cps.toList).head? = some 45)
  have hl' : t.length = t.cps.toList.length := hl
  cases h : t.cps.toList with
  | nil =>
    rw [h] at hl'
    rw [hl']
    rfl
  | cons c r =>
    rw [h, List.length_cons] at hl'
    have : (0 + 1 ≤ t.length) := by omega
    rw [decide_eq_true this, Bool.true_and]
    show ([c] == [45]) = decide (some c = some 45)
    by_cases z : c = 45
    · rw [z]; rfl
    · rw [decide_eq_false (fun q => z (by simpa using q))]
      simpa using z
theorem cut_1 (t : Str) : cutS t (some 1) none = mk ((tl t).drop 1) := by
  unfold cutS mk
  have hl : t.length = t.cps.toList.length := len_tl t
  have e1 : HT.sIx t.length 0 (some 1) = min 1 t.length := by
    unfold HT.sIx
    simp
    try omega
  rw [HT.sIx_none, e1, hl]
  congr 2
  show (t.cps.toList.drop (min 1 t.cps.toList.length)).take _ = _
  by_cases z : 1 ≤ t.cps.toList.length
  · rw [Nat.min_eq_left z, List.take_of_length_le (by rw [List.length_drop]; omega)]
  · have : t.cps.toList = [] := List.length_eq_zero_iff.mp (by omega)
    rw [show tl t = [] from this, this]
    rfl
end L2.SK
namespace L2.DL
open PySem PySem.Spec PyProof.Rows L2.SK TL
def dp_endtext : DP := fun ds P _ => ∃ o, ds = [oi o] ∧ SmO o ∧ P (.str (mk (oL o)))
def dp_stext : DP := fun ds P _ => ∃ s, ds = [sD s] ∧ SmO s.1 ∧ SmO s.2 ∧ P (.str (mk (sL s)))
def dp_text : DP := fun ds P _ => ∃ r : KRow, ds = [kpD r] ∧ r.ts.length ≤ 3000 ∧ SmS r.strs ∧ P (.str (mk (rL r.strs)))
def dp_numin (bt : Addr) : DP := fun ds P R => ∃ t : Str, ds = [.str t] ∧ t.length ≤ 640 ∧ (∀ i, tl t = iL i → P (.int i)) ∧ ((∀ i, tl t ≠ iL i) → R bt)
def dp_strin : DP := fun ds P _ => ∃ s, ds = [.str (mk (sL s))] ∧ SmO s.1 ∧ SmO s.2 ∧ okS s = true ∧ P (sD s)
def dn_keeper_of : DNp := fun ds P => ∃ r : KRow, ds = [.str (mk (rL r.strs))] ∧ r.strs.length ≤ 1000 ∧ r.ts.length ≤ 2000 ∧ SmS r.strs ∧ P r.b r.ts
def dp_ltext : DP := fun ds P _ => ∃ ss, ds = [ssD ss] ∧ ss.length ≤ 3000 ∧ SmS ss ∧ P (.str (mk (rL ss)))
def dn_made : DNp := fun ds P => ∃ dds : List Deed, ds = [dsD dds] ∧ dds.length ≤ 1000 ∧ (∀ d ∈ dds, okDeed d) ∧ ∀ r : KRow, Inv1 r dds → P r.b r.ts
def dt_keeper : DNTp := fun ds P => ∃ (ns : List Int) (m : Nat), ds = [.scr ns, .int m] ∧ m ≤ 1000 ∧ ∀ (r : KRow) (dds : List Deed), Inv1 r dds → (∀ d ∈ dds, okDeed d) → dds.length ≤ m → P r.b r.ts (ssD r.strs)
theorem eqD_str (a b : Str) : eqD (.str a) (.str b) = decide (a = b) := by
  simp [eqD, D.toPy, PyData.eqv, Bool.beq_eq_decide_eq]
end L2.DL
namespace L2.SK
open L2.DL PySem TL
theorem dots : (Str.ofString "..") = mk [46, 46] := ext_tl (by decide +kernel)
theorem empt : (Str.ofString "") = mk [] := ext_tl (by decide +kernel)
theorem mk_eq {l m : List Nat} : (mk l = mk m) = (l = m) := propext ⟨mk_inj, fun h => by rw [h]⟩
theorem fig_mem (c : Nat) : c ∈ (Str.ofString "0123456789").cps.toList ↔ 48 ≤ c ∧ c ≤ 57 := by
  have e : (Str.ofString "0123456789").cps.toList = [48, 49, 50, 51, 52, 53, 54, 55, 56, 57] := by decide +kernel
  rw [e]
  simp only [List.mem_cons, List.not_mem_nil, or_false]
  omega
theorem sign_0 (c : Nat) : ({ cps := #[c] } : Str) = Str.ofString "0" ↔ c = 48 := by
  have e : tl (Str.ofString "0") = [48] := by decide +kernel
  constructor
  · intro h
    have h1 : tl ({ cps := #[c] } : Str) = [48] := by rw [h]; exact e
    have h2 : [c] = [48] := h1
    exact (List.cons.inj h2).1
  · rintro rfl
    exact ext_tl (by rw [e])
theorem str_0 : (Str.ofString "0") = mk (iL 0) := ext_tl (by decide +kernel)
theorem sL_one (a : Int) : sL (some a, some a) = iL a := if_pos ⟨rfl, by simp⟩
theorem sL_two {s : Str2} (h : ¬ (s.1 = s.2 ∧ s.1 ≠ none)) : sL s = oL s.1 ++ [46, 46] ++ oL s.2 := if_neg h
theorem part_one (a : Int) : Txt.partition (mk (iL a)) (Str.ofString "..") = (mk (iL a), Str.empty, Str.empty) :=
  partition_none (s := 46) (S := [46]) (by decide +kernel) (iL_free (.inr rfl))
theorem part_two (o p : Option Int) : Txt.partition (mk (oL o ++ [46, 46] ++ oL p)) (Str.ofString "..") = (mk (oL o), Str.ofString "..", mk (oL p)) := by
  rw [show mk (oL o ++ [46, 46] ++ oL p) = mk (oL o) ++ Str.ofString ".." ++ mk (oL p) by rw [dots, mk_app, mk_app]]
  exact partition_app (s := 46) (S := [46]) (by decide +kernel) (oL_free (o := o) (.inr rfl))
end L2.SK
namespace L2.DL
open PySem PySem.Spec PyProof.Rows L2.SK TL
theorem numin_good {bt : Addr} {i : Int} {P : D → Prop} {R : Addr → Prop} (h : Sm i) (q : P (.int i)) : dp_numin bt [.str (mk (iL i))] P R :=
  ⟨_, rfl, by rw [mk_len]; have := iL_len h; omega, fun j hj => by
    have := iL_inj hj
    rw [← this]
    exact q, fun z => absurd rfl (z i)⟩
end L2.DL
namespace L2.DL
open PySem PySem.Spec PyProof.Rows L2.SK TL
/-- a stretch as the law keeps it while it writes -/
def iD (s : Str2) : D := if s.1 = s.2 ∧ s.1 ≠ none then .str (mk (sL s)) else .lst [.str (mk (oL s.1)), .str (mk (oL s.2))]
theorem iD_one {s : Str2} (h : s.1 = s.2 ∧ s.1 ≠ none) : iD s = .str (mk (sL s)) := if_pos h
theorem iD_two {s : Str2} (h : ¬ (s.1 = s.2 ∧ s.1 ≠ none)) : iD s = .lst [.str (mk (oL s.1)), .str (mk (oL s.2))] := if_neg h
theorem free_str (s : Str) : (D.str s).free := by simp [D.free]
end L2.DL
namespace L2.SK
open L2.DL PySem TL
def rowT : KRow := ⟨true, [], .nil⟩
def rowF : KRow := ⟨false, [], .nil⟩
theorem okAll : okS (none, none) = true := rfl
theorem put_all (r : KRow) : mergeR f_either r (sRow (none, none) okAll) = rowT := KRow.ext' fun n => by
  rw [mergeR_has, sRow_has]
  show (r.has n || lies (none, none) n) = true
  cases r.has n <;> rfl
theorem few_all (r : KRow) (h : r.ts.length + 1 < 4096) : Few r (sRow (none, none) okAll) := ⟨r.ts, fun _ h => h, (fun _ h => nomatch h), h⟩
theorem strs_T : rowT.strs = [(none, none)] := rfl
theorem strs_F : rowF.strs = [] := rfl
theorem text_T : Str.ofString ".." = mk (rL rowT.strs) := ext_tl (by decide +kernel)
theorem text_F : Str.ofString "" = mk (rL rowF.strs) := ext_tl (by decide +kernel)
theorem sm_T : SmS rowT.strs := fun s hs => by
  have : s = (none, none) := by simpa [strs_T] using hs
  subst this
  exact ⟨(fun _ h => nomatch h), (fun _ h => nomatch h)⟩
theorem sm_F : SmS rowF.strs := fun s hs => by simp [strs_F] at hs
theorem turn_len (r : KRow) : (mergeR f_unlike r (sRow (none, none) okAll)).ts.length ≤ r.ts.length := row_len fun t ht => by
  rcases merge_sub ht with z | z
  · exact z
  · cases z
end L2.SK
/-! # Keepers in the store handed to defs as values; a def that changes two; slices by a step -/
namespace L2.DL
open PySem PySem.Spec PyProof.Rows L2.SK TL
/-! ### Keepers in the store, as values for the while of a call -/
def LendL (ρ : Env) : List D → List D → List Addr → Prop
  | [], es, os => es = [] ∧ os = []
  | d :: ds, es, os => ∃ e es' os', es = e :: es' ∧ LendL ρ ds es' os' ∧ ((d = e ∧ os = os') ∨ ∃ (j : Nat) (p : Addr) (b : Bool) (ts : List Int), d = .adr p ∧ ρ[j]? = some (some (.kst p b ts)) ∧ e = .kp b ts ∧ os = p :: os')
def lessL (O os : List Addr) : List Addr := O.filter fun a => decide (a ∉ os)
theorem lessL_sub {O os : List Addr} {a : Addr} (h : a ∈ lessL O os) : a ∈ O := (List.mem_filter.mp h).1
theorem lessL_no {O os : List Addr} {a : Addr} (h : a ∈ os) : a ∉ lessL O os := fun z => by simpa [h] using (List.mem_filter.mp z).2
theorem lessL_mem {O os : List Addr} {a : Addr} (h : a ∈ O) (n : a ∉ os) : a ∈ lessL O os := List.mem_filter.mpr ⟨h, decide_eq_true n⟩
section
variable {K : PySem.W.Frag} {C : Addr} {B H H' : Hp} {O0 O : List Addr} {σ : St} {ρ : Env}
theorem LendL.at (k : Ok K C B O0 O H σ ρ) : ∀ {ds es : List D} {os : List Addr}, LendL ρ ds es os → ∀ a ∈ os, ∃ dx b l, H a = some (.ins C dx (kf b l))
  | [], es, os, h, a, ha => by
    obtain ⟨_, rfl⟩ := h
    cases ha
  | d :: ds, es, os, h, a, ha => by
    obtain ⟨e, es', os', rfl, h', h⟩ := h
    rcases h with ⟨rfl, rfl⟩ | ⟨j, p, b, ts, rfl, hj, rfl, rfl⟩
    · exact LendL.at k h' a ha
    · rcases List.mem_cons.mp ha with rfl | ha
      · obtain ⟨_, _, dx, l, h1, _⟩ := k.st.at_ j a b ts hj
        exact ⟨dx, b, l, h1⟩
      · exact LendL.at k h' a ha
theorem LendL.rep (k : Ok K C B O0 O H σ ρ) (os0 : List Addr) : ∀ {ds es : List D} {os : List Addr} {vs : List V}, LendL ρ ds es os → (∀ a ∈ os, a ∈ os0) → RepL K C (wo H O) ds vs → RepL K C (wo H (lessL O os0)) es vs
  | [], es, os, vs, h, _, r => by
    obtain ⟨rfl, _⟩ := h
    exact r
  | d :: ds, es, os, vs, h, hs, r => by
    obtain ⟨e, es', os', rfl, h', h⟩ := h
    obtain ⟨v, vs', rfl, r1, r2⟩ := r
    have sw : Same (wo H O) (wo H (lessL O os0)) := wo_sub H fun a ha => lessL_sub ha
    rcases h with ⟨rfl, rfl⟩ | ⟨j, p, b, ts, rfl, hj, rfl, rfl⟩
    · exact ⟨v, vs', rfl, Rep.mono sw d r1, LendL.rep k os0 h' hs r2⟩
    · obtain ⟨_, _, dx, l, h1, h2⟩ := k.st.at_ j p b ts hj
      have ev : v = V.ref p := r1
      subst ev
      exact ⟨.ref p, vs', rfl, ⟨p, dx, l, rfl, wo_of h1 (lessL_no (hs p List.mem_cons_self)), sw _ _ h2⟩, LendL.rep k os0 h' (fun a ha => hs a (List.mem_cons_of_mem _ ha)) r2⟩
/-- what is no Keeper leans on none of the lent ones -/
theorem lent_same {os : List Addr} (hi : ∀ a ∈ os, ∃ dx b l, H' a = some (.ins C dx (kf b l))) : ∀ a o, wo H' (lessL O os) a = some o → (∀ c dx fs, o ≠ .ins c dx fs) → wo H' O a = some o := fun a o e n => wo_of (wo_some e) fun z => by
  by_cases q : a ∈ os
  · obtain ⟨dx, b, l, hh⟩ := hi a q
    have := wo_some e
    rw [hh] at this
    exact n _ _ _ (Option.some.inj this).symm
  · unfold wo at e
    rw [if_pos (lessL_mem z q)] at e
    cases e
theorem lent_list {os : List Addr} {y l : Addr} {xs : List V} (hi : ∀ a ∈ os, ∃ dx b l, H' a = some (.ins C dx (kf b l))) (h : wo H' (y :: lessL O os) l = some (.lst xs)) : wo H' (y :: O) l = some (.lst xs) := wo_of (wo_some h) fun z => by
  by_cases q : l ∈ os
  · obtain ⟨dx, b, l', hh⟩ := hi l q
    have := wo_some h
    rw [hh] at this
    cases this
  · unfold wo at h
    rw [if_pos (by
      rcases List.mem_cons.mp z with z | z
      · exact z ▸ List.mem_cons_self
      · exact List.mem_cons_of_mem _ (lessL_mem z q))] at h
    cases h
end
section
variable {X : Cx} {C : Addr} {E : XK} {pos : Pos} {a e o : Expr}
/-- f(..), some arguments Keepers in the store -/
def dCallS (t : DP) (q : DA) : DE := fun ρ P R => q ρ (fun ds => ∃ es os, LendL ρ ds es os ∧ t es (fun d => d.free ∧ P d) R) R
theorem pd_fnS {p : Pos} {k : Nat} {x : Str} {es : List Expr} {t : DP} {q : DA} (F : Fc X.prog X.w X.K X.mg X.base C k x t) (hr : Room k X.A) (hg : Gl X x) (hx : Passes (L2.CX X.prog X.w) X E) (ha : PA X (a :: es) (liftA X.K C E q))
    (hdb : (x == ("__debug__" : Str)) = false := by decide) (he : starEach (a :: es) X.env = (false, eval a X.env) :: starEach es X.env := by rfl) (hpl : (backTo pos (starEach es X.env)).any (·.1) = false := by rfl) :
    PE X (.Call (.Name x p) (a :: es) [] pos) (lift X.K C E (dCallS t q)) := by
  obtain ⟨f, fd, ps, G, hm, hk, hb⟩ := F.ex
  refine (pe_call G hr hg hm hk hb .nil hx ha hdb he hpl).wk fun σ H Q h => ?_
  obtain ⟨B, O0, O, ρ, P, R, k, h, hP, hR⟩ := h
  refine ⟨B, O0, O, ρ, _, R, k, h, fun vs ds H1 s1 r1 h1 => ?_, hR⟩
  obtain ⟨es', os, hL, h1⟩ := h1
  have k1 := k.ext s1
  show spD X.K C t (vs ++ []) H1 Q E
  rw [List.append_nil]
  refine ⟨lessL O os, es', _, R, fun c hc => k1.al c (lessL_sub hc), hL.rep k1 os (fun _ h => h) r1, h1, fun v d H' s' r p => hP v d H' (s1.trans s') (Rep.over (lent_same (C := C) fun c hc => ?_) d p.1 r) p.2, fun c H' s' z => hR c H' (s1.trans s') z⟩
  obtain ⟨dx, b, l, e⟩ := hL.at k1 c hc
  exact ⟨dx, b, l, s' _ _ e⟩
/-- f(..), a new Keeper as a value; some arguments Keepers in the store -/
def dCallNS (t : DNp) (q : DA) : DE := fun ρ P R => q ρ (fun ds => ∃ es os, LendL ρ ds es os ∧ t es (fun b ts => P (.kp b ts))) R
theorem pd_fnNS {p : Pos} {k : Nat} {x : Str} {es : List Expr} {t : DNp} {q : DA} (F : Fn X.prog X.w X.K X.mg X.base C k x t) (hr : Room k X.A) (hg : Gl X x) (hx : Passes (L2.CX X.prog X.w) X E) (ha : PA X (a :: es) (liftA X.K C E q))
    (hdb : (x == ("__debug__" : Str)) = false := by decide) (he : starEach (a :: es) X.env = (false, eval a X.env) :: starEach es X.env := by rfl) (hpl : (backTo pos (starEach es X.env)).any (·.1) = false := by rfl) :
    PE X (.Call (.Name x p) (a :: es) [] pos) (lift X.K C E (dCallNS t q)) := by
  obtain ⟨f, fd, ps, G, hm, hk, hb⟩ := F.ex
  refine (pe_call G hr hg hm hk hb .nil hx ha hdb he hpl).wk fun σ H Q h => ?_
  obtain ⟨B, O0, O, ρ, P, R, k, h, hP, hR⟩ := h
  refine ⟨B, O0, O, ρ, _, R, k, h, fun vs ds H1 s1 r1 h1 => ?_, hR⟩
  obtain ⟨es', os, hL, h1⟩ := h1
  have k1 := k.ext s1
  show spN X.K C t (vs ++ []) H1 Q E
  rw [List.append_nil]
  refine ⟨lessL O os, es', _, fun c hc => k1.al c (lessL_sub hc), hL.rep k1 os (fun _ h => h) r1, h1, fun y dx l b ts H' s' hy g1 g2 p => ?_⟩
  have g3 := lent_list (O := O) (fun c hc => by
    obtain ⟨dx, b, l, e⟩ := hL.at k1 c hc
    exact ⟨dx, b, l, s' _ _ e⟩) g2
  exact hP (.ref y) (.kp b ts) H' (s1.trans s') ⟨y, dx, l, rfl, wo_of g1 (k1.al.new hy), wo_sub H' (fun c hc => List.mem_cons_of_mem _ hc) _ _ g3⟩ p
/-- x = f(..), a new Keeper in the store; some arguments Keepers in the store -/
def dSetNS (i j : Nat) (t : DNp) (q : DA) : DS := fun ρ N _ Z => q ρ (fun ds => ∃ es os, LendL ρ ds es os ∧ t es (fun b ts => ∀ y, N ((ρ.set i (some (.v (.adr y)))).set j (some (.kst y b ts))))) Z
theorem sd_setNS {i j n : Nat} {x f : Str} {t : DNp} {q : DA} {es : List Expr} {fpos cpos pos' : Pos} (M : Fn X.prog X.w X.K X.mg X.base C n f t) (hr : Room n X.A) (hx' : Passes (L2.CX X.prog X.w) X E) (hN : X.N.Nodup) (hi : X.N[i]? = some x) (hx : Loc X.env.scope x) (hg : Gl X f) (ha : PA X (a :: es) (liftA X.K C E q))
    (hs : swapsWith (.Call (.Name f fpos) (a :: es) [] cpos) (some (.Name x pos')) pos.line X.env = pure false := by rfl) (hf : X.fn x = true ∨ X.env.scope.names.lookup x = some .local := by first | exact .inl rfl | exact .inr rfl | assumption)
    (hdb : (f == ("__debug__" : Str)) = false := by decide) (he : starEach (a :: es) X.env = (false, eval a X.env) :: starEach es X.env := by rfl) (hpl : (backTo cpos (starEach es X.env)).any (·.1) = false := by rfl) :
    PS X (.Assign [.Name x pos'] (.Call (.Name f fpos) (a :: es) [] cpos) pos) (liftS X.K C E (dSetNS i j t q)) := by
  obtain ⟨fa, fd, ps, F, hm, hk, hb⟩ := M.ex
  refine (ps_set hN hi hx (pe_call F hr hg hm hk hb .nil hx' ha hdb he hpl) hs hf).wk fun T' σ H q => ?_
  obtain ⟨B, O0, O, ρ, N, R, Z, k, q, hN, hR, hZ⟩ := q
  refine ⟨B, O0, O, ρ, _, _, k, q, fun vs ds H1 s1 r1 q1 => ?_, fun c H' s' z => hZ c H' (k.base.trans s') z⟩
  obtain ⟨es', os, hL, h1⟩ := q1
  have k1 := k.ext s1
  show spN X.K C t (vs ++ []) H1 _ E
  rw [List.append_nil]
  refine ⟨lessL O os, es', _, fun c hc => k1.al c (lessL_sub hc), hL.rep k1 os (fun _ h => h) r1, h1, fun y dx l b ts H' s' hy g1 g2 p => ?_⟩
  have g3 := lent_list (O := O) (fun c hc => by
    obtain ⟨dx, b, l, e⟩ := hL.at k1 c hc
    exact ⟨dx, b, l, s' _ _ e⟩) g2
  exact hN _ H' _ _ (k1.setN s' hy g1 g3) (p y)
/-- a promise that forgets the address -/
theorem Mm.mmA {P : Program} {w : World} {K : PySem.W.Frag} {mg : Str → Option Value} {base : Heap} {C : Addr} {k : Nat} {m : Str} {t : DM} (h : Mm P w K mg base C k m t) : MmA P w K mg base C k m (fun _ => t) := by
  obtain ⟨f, fd, ps, F, hm, hb⟩ := h.ex
  exact ⟨f, fd, ps, F.imp fun vs H Q E ⟨_, _, _, q⟩ => q, hm, hb⟩
def dMutM0A (t : DMA) (e : DE) : DEM := fun ρ P R => e ρ (fun x => recvX ρ x ∧ mutA t [] P R ρ x) (fun c => R c ρ)
theorem pm_m0XA {apos : Pos} {m : Str} {n : Nat} {t : DMA} {pe : DE} (T : Kp X.K X.mg C) (M : MmA X.prog X.w X.K X.mg X.base C n m t) (hr : Room n X.A) (hx : Passes (L2.CX X.prog X.w) X E)
    (ho : PE X o (lift X.K C E pe)) (hm1 : ¬ m = "begins" := by decide) (hm2 : ¬ m = "turns" := by decide) {pl : Sem Bool}
    (ht : eval (.Call (.Attribute o m apos) [] [] pos) X.env = (do
      let ov ← eval o X.env
      standAt apos.atName
      let (f, first) ← holding [ov] (getMethod ov m pl)
      callWith pos f first (backTo pos (starEach [] X.env)) (backToKw pos (keywordEach [] X.env))) := by rfl) :
    PE X (.Call (.Attribute o m apos) [] [] pos) (liftM X.K C E (dMutM0A t pe)) := by
  obtain ⟨f, fd, ps, F, hm, hb⟩ := M.ex
  refine (pe_meth0 ho T.cl hm F hr hb .nil hx ht).wk fun σ H Q h => ?_
  obtain ⟨B, O0, O, ρ, P, R, k, h, hP, hR⟩ := h
  refine ⟨B, O0, O, ρ, _, _, k, h, fun x d H1 s1 r1 h1 => ?_, fun c H' s' z => hR c H' σ ρ O (k.ext s') z⟩
  have k1 := k.ext s1
  obtain ⟨⟨j, hrec⟩, h1⟩ := h1
  obtain ⟨p, dx, b, l, rfl, e1⟩ := recv_at k1 r1 hrec
  refine ⟨p, dx, _, rfl, e1, kf_no b l hm1 hm2, ?_⟩
  show spMA X.K C t [V.ref p] H1 Q E
  exact mut_callA (vs := []) (ds := []) k1 r1 rfl h1 hP hR
/-- name.append(e), e a thing that comes into the store -/
def dAppM (i : Nat) (p : DEM) : DS := fun ρ N _ Z => ∃ ds, ρ[i]? = some (some (.own ds)) ∧ p ρ (fun d ρ' => ρ'[i]? = some (some (.own ds)) ∧ ds.length < sizeLine ∧ N (ρ'.set i (some (.own (ds ++ [d]))))) (fun c _ => Z c)
theorem sd_appM {i : Nat} {x : Str} {p : DEM} {np apos cpos : Pos} (hv : PE X (.Name x np) (tVar i)) (he : PE X e (liftM X.K C E p))
    (hw : ∀ (t : TE), PE X e t → PE X (.Call (.Attribute (.Name x np) "append" apos) [e] [] cpos) (tBM X.K "list" rAppend (tVar i) (tCons t tNil)))
    (hs : swapsWith (.Call (.Attribute (.Name x np) "append" apos) [e] [] cpos) none pos.line X.env = pure false := by rfl) : PS X (.Expr (.Call (.Attribute (.Name x np) "append" apos) [e] [] cpos) pos) (liftS X.K C E (dAppM i p)) := (ps_expr (hw _ he) hs).wk fun D σ H q => by
  obtain ⟨B, O0, O, ρ, N, R, Z, k, ⟨ds, ho, q⟩, hN, hR, hZ⟩ := q
  show ∃ v, σ[i]? = some (some v) ∧ (tyV X.K "list" v H ∧ liftM X.K C E p σ H fun y H1 => tNil σ H1 fun ys H2 => rAppend v (y :: ys) H2 fun _ H3 => D.nx σ H3)
  obtain ⟨a, vs, e1, e2, e3, e4, e5⟩ := k.own i ds ho
  refine ⟨.ref a, e1, .inl ⟨rfl, vs, SqL.of e4⟩, B, O0, O, ρ, _, _, k, q, fun v d H' ρ' O' k' r p => ?_, fun c H' σ' ρ' O' k' z => hZ c H' k'.base z⟩
  obtain ⟨a', vs', g1, g2, g3, g4, g5⟩ := k'.own i ds p.1
  rw [e1] at g1
  have ea : a = a' := by simpa using g1
  subst ea
  refine ⟨a, vs', v, rfl, rfl, g4, by rw [RepL.length g5]; exact p.2.1, ?_⟩
  exact hN σ _ _ O' (k'.grow p.1 e1 g4 r) p.2.2
end
/-! ### a def that changes two Keepers and returns a flat thing -/
abbrev DK2 := Bool → List Int → Bool → List Int → List D → (D → Prop) → Prop
def spK2 (K : PySem.W.Frag) (C : Addr) (t : DK2) : Sp := fun vs H Q E => ∃ O p q vs' ds b ts b2 ts2 dx l dx2 l2 P, vs = .ref p :: .ref q :: vs' ∧ p ≠ q ∧ p ∈ O ∧ q ∈ O ∧ Al O H ∧ RepL K C (wo H O) ds vs' ∧ H p = some (.ins C dx (kf b l)) ∧ wo H O l = some (.lst (ts.map V.int)) ∧ H q = some (.ins C dx2 (kf b2 l2)) ∧ wo H O l2 = some (.lst (ts2.map V.int)) ∧
  t b ts b2 ts2 ds P ∧ ∀ v d H', Same (wo H [p, q]) H' → flatD d = true → Rep K C H' d v → P d → Q v H'
section
variable {P : Program} {w : World} {K : PySem.W.Frag} {mg : Str → Option Value} {base : Heap} {C : Addr}
def startK2 (N : List Str) (j j2 : Nat) (p q : Addr) (b : Bool) (ts : List Int) (b2 : Bool) (ts2 : List Int) (ds : List D) : Env := ((startE N (.adr p :: .adr q :: ds)).set j (some (.kst p b ts))).set j2 (some (.kst q b2 ts2))
theorem startK2_ok {H : Hp} {O : List Addr} {p q l dx l2 dx2 : Addr} {b b2 : Bool} {ts ts2 : List Int} {ds : List D} {vs : List V} (pq : p ≠ q) (hp : p ∈ O) (hq : q ∈ O) (al : Al O H) (r : RepL K C (wo H O) ds vs) (h1 : H p = some (.ins C dx (kf b l))) (h2 : wo H O l = some (.lst (ts.map V.int))) (g1 : H q = some (.ins C dx2 (kf b2 l2))) (g2 : wo H O l2 = some (.lst (ts2.map V.int))) (N : List Str) (j j2 : Nat) :
    Ok K C (wo H [p, q]) [] [p, q] H (start N (.ref p :: .ref q :: vs)) (startK2 N j j2 p q b ts b2 ts2 ds) := by
  have sO : Same (wo H O) (wo H [p, q]) := wo_sub H fun a ha => by
    simp only [List.mem_cons, List.not_mem_nil, or_false] at ha
    rcases ha with rfl | rfl <;> assumption
  have al2 : Al [p, q] H := fun a ha => by
    simp only [List.mem_cons, List.not_mem_nil, or_false] at ha
    rcases ha with rfl | rfl
    · rw [h1]; intro z; cases z
    · rw [g1]; intro z; cases z
  have k := start_ok (K := K) (C := C) (ds := .adr p :: .adr q :: ds) (vs := .ref p :: .ref q :: vs) al2 ⟨.ref p, _, rfl, rfl, .ref q, vs, rfl, rfl, RepL.mono sO ds r⟩ N
  have bn : ∀ a, a ∈ [p, q] → wo H [p, q] a = none := fun a ha => by unfold wo; rw [if_pos ha]
  have k1 : Ok K C (wo H [p, q]) [] [p, q] H (start N (.ref p :: .ref q :: vs)) (startE N (.adr p :: .adr q :: ds)) := by
    refine ⟨wo_le H _, Al.nil _, al2, (fun _ h => nomatch h), fun a ha _ => bn a ha, k.len, k.val, fun i es e => ?_, k.uniq, ⟨fun i q c cs e => absurd e startE_kst, fun i i' q b1 b2 t1 t2 e1 e2 => absurd e1 startE_kst⟩, k.ls.to (fun _ _ _ e => e) (fun _ _ _ _ _ _ h => h) (fun _ _ _ _ _ _ _ e => e) (Same.refl _) (fun a h _ => bn a h) k.ls.no, k.tb.to (fun _ _ _ e => e) (fun _ _ _ h => h) (SameX.refl _) (fun a h _ => bn a h)⟩
    obtain ⟨q, ws, e1, e2, e3, e4, e5⟩ := k.own i es e
    exact ⟨q, ws, e1, e2, bn q e2, e4, e5⟩
  have k2 := k1.tell j (p := p) (by simp) (bn p (by simp)) h1 (sO _ _ h2) fun i b' ts' e => absurd e startE_kst
  refine k2.tell j2 (p := q) (by simp) (bn q (by simp)) g1 (sO _ _ g2) fun i b' ts' e => ?_
  by_cases hj : j = i
  · subst hj
    by_cases hl : j < (startE N (.adr p :: .adr q :: ds)).length
    · rw [List.getElem?_set_self hl] at e
      have : p = q := by
        have := Option.some.inj (Option.some.inj e)
        cases this
        rfl
      exact absurd this pq
    · rw [List.getElem?_eq_none (by rw [List.length_set]; omega)] at e
      cases e
  · rw [List.getElem?_set_ne hj] at e
    exact absurd e startE_kst
theorem fnK2 {x qual : Str} {st : Stmt} {f : Addr} {fd : FuncData} {N ps : List Str} {k : Nat} {t : DK2} {p : DS} (j j2 : Nat) (F : Fun K x qual st f fd) (S : FnScope N ps (defScope st))
    (body : ∀ (cdv : Value) (A : Around) (outer : List PySem.Env) (s : Shared) (H : Hp) (E : XK), Room k (A.deeper (envOfC qual (defScope st) s.heap.objs.size f cdv)) → PSs (cxD P w K mg base N qual (defScope st) f cdv A outer s H E) (defBody st) (liftS K C E p))
    (h : ∀ (a a2 : Addr) (b : Bool) (ts : List Int) (b2 : Bool) (ts2 : List Int) (ds : List D) (T : D → Prop), t b ts b2 ts2 ds T → ds.length + 2 = ps.length ∧ p (startK2 N j j2 a a2 b ts b2 ts2 ds) (fun _ => T .non) (fun d => flatD d = true ∧ T d) (fun _ => False)) : FnOk P w K mg base (L2.CX P w) (k + 1) f fd ps (spK2 K C t) := by
  refine F.okX S (fun vs H Q E q => ?_) (fun cdv A outer s H vs Q E hr q => ⟨_, body cdv A outer s H E hr, ?_⟩)
  · obtain ⟨O, p', q', vs', ds, b, ts, b2, ts2, dx, l, dx2, l2, T, rfl, pq, hp, hq, al, r, h1, h2, g1, g2, q, _⟩ := q
    rw [List.length_cons, List.length_cons, RepL.length r]
    exact (h p' q' b ts b2 ts2 ds T q).1
  · obtain ⟨O, p', q', vs', ds, b, ts, b2, ts2, dx, l, dx2, l2, T, rfl, pq, hp, hq, al, r, h1, h2, g1, g2, q, hT⟩ := q
    exact ⟨wo H [p', q'], [], [p', q'], _, _, _, _, startK2_ok pq hp hq al r h1 h2 g1 g2 N j j2, (h p' q' b ts b2 ts2 ds T q).2, fun σ' H' ρ' O' k' n => hT .non .non H' k'.base rfl rfl n, fun v d H' s' r p => hT v d H' s' p.1 (rep_flat p.1 r) p.2, fun c H' s' z => z.elim⟩
structure FK2 (P : Program) (w : World) (K : PySem.W.Frag) (mg : Str → Option Value) (base : Heap) (C : Addr) (k : Nat) (name : Str) (t : DK2) : Prop where
  ex : ∃ (f : Addr) (fd : FuncData) (ps : List Str), FnOk P w K mg base (L2.CX P w) k f fd ps (spK2 K C t) ∧ mg name = some (.ref f) ∧ PySem.W.keepIn K (.ref f) = true ∧ Binds K fd ps []
end
section
variable {X : Cx} {C : Addr} {E : XK} {pos : Pos} {a e o : Expr}
/-- return f(x, y, ..), x and y two Keepers in the store that change -/
def dRetK2 (t : DK2) (p1 p2 : DE) (q : DA) : DS := fun ρ _ R Z => p1 ρ (fun x => p2 ρ (fun y => q ρ (fun ds => ∃ (i j : Nat) (p q' : Addr) (b : Bool) (ts : List Int) (b2 : Bool) (ts2 : List Int), x = .adr p ∧ y = .adr q' ∧ i ≠ j ∧ ρ[i]? = some (some (.kst p b ts)) ∧ ρ[j]? = some (some (.kst q' b2 ts2)) ∧ t b ts b2 ts2 ds R) Z) Z) Z
theorem sd_retK2 {p : Pos} {x : Str} {n : Nat} {e2 : Expr} {es : List Expr} {t : DK2} {p1 p2 : DE} {q : DA} {cpos : Pos} (F : FK2 X.prog X.w X.K X.mg X.base C n x t) (hr : Room n X.A) (hg : Gl X x)
    (hx : Passes (L2.CX X.prog X.w) X E) (he : PE X a (lift X.K C E p1)) (he2 : PE X e2 (lift X.K C E p2)) (ha : PA X es (liftA X.K C E q)) (hs : starEach (a :: e2 :: es) X.env = (false, eval a X.env) :: starEach (e2 :: es) X.env := by rfl) (hs2 : starEach (e2 :: es) X.env = (false, eval e2 X.env) :: starEach es X.env := by rfl)
    (hdb : (x == ("__debug__" : Str)) = false := by decide) (hpl : (backTo cpos (starEach (e2 :: es) X.env)).any (·.1) = false := by rfl) :
    PS X (.Return (some (.Call (.Name x p) (a :: e2 :: es) [] cpos)) pos) (liftS X.K C E (dRetK2 t p1 p2 q)) := by
  obtain ⟨f, fd, ps, G, hm, hk, hb⟩ := F.ex
  refine (ps_ret (pe_call G hr hg hm hk hb .nil hx (pa_cons he (pa_cons he2 ha hs2) hs) hdb hs hpl)).wk fun T σ H q => ?_
  obtain ⟨B, O0, O, ρ, N, R, Z, k, h, hN, hR, hZ⟩ := q
  refine ⟨B, O0, O, ρ, _, Z, k, h, fun x d H1 s1 r1 h1 => ⟨B, O0, O, ρ, _, Z, k.ext s1, h1, fun y d2 H2 s2 r2 h2 => ⟨B, O0, O, ρ, _, Z, (k.ext s1).ext s2, h2, fun vs ds H3 s3 r3 h3 => ?_, fun c H' s' z => hZ c H' (((k.ext s1).ext s2).ext s').base z⟩, fun c H' s' z => hZ c H' ((k.ext s1).ext s').base z⟩, fun c H' s' z => hZ c H' (k.ext s').base z⟩
  obtain ⟨i, j, p', q', b, ts, b2, ts2, rfl, rfl, ij, hi, hj, h4⟩ := h3
  have k3 := ((k.ext s1).ext s2).ext s3
  have ex : x = V.ref p' := r1
  have ey : y = V.ref q' := r2
  subst ex ey
  have pq : p' ≠ q' := fun z => by
    subst z
    exact ij (k3.st.one i j p' b b2 ts ts2 hi hj)
  obtain ⟨a1, a2, dx, l, a3, a4⟩ := k3.st.at_ i p' b ts hi
  obtain ⟨c1, c2, dx2, l2, c3, c4⟩ := k3.st.at_ j q' b2 ts2 hj
  show spK2 X.K C t ((V.ref p' :: V.ref q' :: vs) ++ []) H3 _ E
  rw [List.append_nil]
  refine ⟨O, p', q', vs, ds, b, ts, b2, ts2, dx, l, dx2, l2, _, rfl, pq, a1, c1, k3.al, r3, a3, a4, c3, c4, h4, fun v d H' s' fl r p => ?_⟩
  refine hR v d H' (fun c o hc => ?_) (rep_flat fl r) p
  refine s' _ _ (wo_of (k3.base c o hc) ?_)
  simp only [List.mem_cons, List.not_mem_nil, or_false, not_or]
  exact ⟨(fun z => by rw [z, a2] at hc; cases hc), (fun z => by rw [z, c2] at hc; cases hc)⟩
/-! ### a slice of the script by a step -/
theorem vals_at : ∀ {vs : List V} {us : List Value}, Vals vs us → ∀ {i : Nat} {u : Value}, us[i]? = some u → ∃ v ∈ vs, RelV v u
  | _, _, .nil, i, u, e => by simp at e
  | _, u0 :: _, .cons r _, 0, u, e => by
    have : u0 = u := by simpa using e
    subst this
    exact ⟨_, List.mem_cons_self, r⟩
  | _, _, .cons _ t, i + 1, u, e => by
    obtain ⟨v, hv, r⟩ := vals_at t (i := i) (u := u) (by simpa using e)
    exact ⟨v, List.mem_cons_of_mem _ hv, r⟩
theorem pick_ints {ns : List Int} {its : List Value} (r : Vals (ns.map V.int) its) (lo hi st : Option Int) : ∃ ns' : List Int, ns'.length ≤ ns.length ∧ Vals (ns'.map V.int) (slicePick its.toArray lo hi st).toList := by
  have key : ∀ l : List Nat, ∃ ns' : List Int, Vals (ns'.map V.int) (l.filterMap (its.toArray[·]?)) := fun l => by
    induction l with
    | nil => exact ⟨[], .nil⟩
    | cons i l ih =>
      obtain ⟨ns', h⟩ := ih
      rw [List.filterMap_cons]
      cases e : its.toArray[i]? with
      | none => exact ⟨ns', h⟩
      | some u =>
        have e' : its[i]? = some u := by rw [← List.getElem?_toArray]; exact e
        have : ∃ n : Int, RelV (.int n) u := by
          clear e h
          obtain ⟨v, hv, r⟩ := vals_at r e'
          obtain ⟨n, _, rfl⟩ := List.mem_map.mp hv
          exact ⟨n, r⟩
        obtain ⟨n, hn⟩ := this
        exact ⟨n :: ns', .cons hn h⟩
  obtain ⟨ns', h⟩ := key (sliceRange (sliceBounds lo hi st its.toArray.size).1 (sliceBounds lo hi st its.toArray.size).2.1 (sliceBounds lo hi st its.toArray.size).2.2)
  refine ⟨ns', ?_, ?_⟩
  · have h' : Vals (ns'.map V.int) (slicePick its.toArray lo hi st).toList := h
    have l1 := h'.length
    have l2 := r.length
    have l3 := slicePick_size_le its.toArray lo hi st
    have l4 : (slicePick its.toArray lo hi st).toList.length = (slicePick its.toArray lo hi st).size := Array.length_toList
    have l5 : its.toArray.size = its.length := List.size_toArray
    rw [List.length_map] at l1 l2
    omega
  · exact h
def tSl3 (K : PySem.W.Frag) (te tl th ts : TE) : TE := fun σ H Q => te σ H fun x H1 => tl σ H1 fun l H2 => th σ H2 fun u H3 => ts σ H3 fun k H4 => ∃ (a : Addr) (ns : List Int) (i j s : Int), x = .ref a ∧ l = .int i ∧ u = .int j ∧ k = .int s ∧ s ≠ 0 ∧ SqL K H4 a (ns.map V.int) ∧ ∀ ns' : List Int, ns'.length ≤ ns.length → ∀ p, H4 p = none → Q (.ref p) (upd H4 p (.lst (ns'.map V.int)))
theorem pe_sl3 {e lo hi st : Expr} {te tl th ts : TE} {p3 : Pos} (he : PE X e te) (hl : PE X lo tl) (hh : PE X hi th) (hs : PE X st ts) (htl : ∀ (v p : Value), ∃ ops, subscripted (.Slice (some lo) (some hi) (some st) p3) false v p = operate ops (getItem v p) := by exact fun _ _ => ⟨_, by with_unfolding_all rfl⟩) : PE X (.Subscript e (.Slice (some lo) (some hi) (some st) p3) pos) (tSl3 X.K te tl th ts) := by
  refine ⟨fun pins s σ H Q I h => ?_⟩
  refine Subscript_ (thn (he.run pins s σ H _ I h) fun v s1 ⟨x, H1, I1, r1, q1⟩ => ?_)
  have part : ∀ {e : Expr} {t : TE} {s1 : Shared} {H1 : Hp} {Q1 : VK}, PE X e t → Inv X pins σ H1 s1 → t σ H1 Q1 → wpAny (model X.prog X.w) X.A (evalPart (some e) X.env) (EP X pins σ Q1) X.xe s1 := fun he I q => by
    rw [evalPart_some]
    exact he.run pins _ σ _ _ I q
  refine wpAny_Slice (thn (part hl I1 q1) fun vl s2 ⟨l, H2, I2, rl, q2⟩ => ?_)
  refine thn (part hh I2 q2) fun vu s3 ⟨u, H3, I3, ru, q3⟩ => ?_
  refine thn (part hs I3 q3) fun vs s4 ⟨k, H4, I4, rk, q4⟩ => ?_
  obtain ⟨a, ns, i, j, st', rfl, rfl, rfl, rfl, s0, hx, q⟩ := q4
  obtain ⟨t1, rfl⟩ := rl
  obtain ⟨t2, rfl⟩ := ru
  obtain ⟨t3, rfl⟩ := rk
  cases r1
  have I5 : Inv X pins σ H4 { s4 with heap := s4.heap.push { cls := .type "slice", data := .fields #[.int i t1, .int j t2, .int st' t3] } } := I4.kept (t' := s4.toks) fun b ob q => Heap.get?_push_of_some _ q
  obtain ⟨its, r, ht, hz⟩ := I5.list hx
  have hlen := r.length
  show wpAny (model X.prog X.w) X.A (subscriptTail e (.Slice (some lo) (some hi) (some st) p3) (.ref a) (.ref s4.heap.objs.size)) (EP X pins σ Q) X.xe { s4 with heap := s4.heap.push { cls := .type "slice", data := .fields #[.int i t1, .int j t2, .int st' t3] } }
  obtain ⟨ops, hops⟩ := htl (.ref a) (.ref s4.heap.objs.size)
  refine tail_any (ops := ops) ht.isList.typeIs (PySem.slot_list_getitem.lookup) ?_ hops
  refine wpAny_getItem_list_slice ht.isList (Heap.IsSliceOf.new _ (.int i t1) (.int j t2) (.int st' t3)) (.int i t1) (.int j t2) (.int st' t3) (fun z => s0 (Option.some.inj z)) ?_ (by rw [List.size_toArray]; omega)
  obtain ⟨ns', hl', hv⟩ := pick_ints r (some i) (some j) (some st')
  refine ⟨.ref _, _, I5.laid (t' := s4.toks) (o := .lst (ns'.map V.int)) (fun b ob q => Heap.get?_push_of_some _ q) (Nat.le_refl _) ?_, rfl, q ns' hl' _ (I5.hok.fresh (Nat.le_refl _))⟩
  exact ⟨by rw [List.length_map] at hz ⊢; omega, _, 0, hv, Heap.get?_push_size _ rfl⟩
def dSl3 (p l h s : DE) : DE := fun ρ P R => p ρ (fun d => l ρ (fun dl => h ρ (fun dh => s ρ (fun ds => ∃ (ns : List Int) (i j k : Int), d = .scr ns ∧ dl = .int i ∧ dh = .int j ∧ ds = .int k ∧ k ≠ 0 ∧ ∀ ns' : List Int, ns'.length ≤ ns.length → P (.lst (ns'.map .int))) R) R) R) R
theorem pd_sl3 {e lo hi st : Expr} {p l h s : DE} {p3 : Pos} (he : PE X e (lift X.K C E p)) (hl : PE X lo (lift X.K C E l)) (hh : PE X hi (lift X.K C E h)) (hs : PE X st (lift X.K C E s)) (htl : ∀ (v p : Value), ∃ ops, subscripted (.Slice (some lo) (some hi) (some st) p3) false v p = operate ops (getItem v p) := by exact fun _ _ => ⟨_, by with_unfolding_all rfl⟩) :
    PE X (.Subscript e (.Slice (some lo) (some hi) (some st) p3) pos) (lift X.K C E (dSl3 p l h s)) := (pe_sl3 he hl hh hs htl).wk fun σ H Q q => by
  obtain ⟨B, O0, O, ρ, P, R, k, q, hP, hR⟩ := q
  refine ⟨B, O0, O, ρ, _, R, k, q, fun x d H1 s1 r1 q1 => ⟨B, O0, O, ρ, _, R, k.ext s1, q1, fun y d2 H2 s2 r2 q2 => ⟨B, O0, O, ρ, _, R, (k.ext s1).ext s2, q2, fun z d3 H3 s3 r3 q3 => ⟨B, O0, O, ρ, _, R, ((k.ext s1).ext s2).ext s3, q3, fun u d4 H4 s4 r4 q4 => ?_, fun c H' s' z => hR c H' (((s1.trans s2).trans s3).trans s') z⟩, fun c H' s' z => hR c H' ((s1.trans s2).trans s') z⟩, fun c H' s' z => hR c H' (s1.trans s') z⟩, hR⟩
  obtain ⟨ns, i, j, m, rfl, rfl, rfl, rfl, m0, q⟩ := q4
  have s24 := (s2.trans s3).trans s4
  obtain ⟨a, rfl, e1⟩ := r1
  have k4 := (((k.ext s1).ext s2).ext s3).ext s4
  refine ⟨a, ns, i, j, m, rfl, r2, r3, r4, m0, s24.seq ((wo_le H1 O).seq e1), fun ns' hl p hp => ?_⟩
  exact hP _ _ _ ((s1.trans s24).trans (Same.new hp)) (rep_new_lst hp k4.al (RepL.ints _ ns')) (q ns' hl)
end
end L2.DL
/-! # try .. except X as n: y = n (the exception kept) -/
namespace L2
open PySem PySem.Spec PyProof.Rows
section
variable {X : Cx} {pz : List (Addr × Obj)} {σ : St} {H : Hp} {s : Shared}
theorem Inv.unsuiteK {a : Addr} {q : Addr × Obj} {pn' : List (Addr × Obj)} (I : Inv (X.suite a (q :: (X.pn ++ pz))) pn' σ H s) (ok : X.Ok) : Inv X (q :: pz) σ H s :=
  ⟨ok, I.os, I.bare, I.base, I.loc, I.cell, I.free, I.freeC, fun p hp => I.pin p (List.mem_append_left _ (by
    rcases List.mem_append.mp hp with h | h
    · exact List.mem_cons_of_mem _ (List.mem_append_left _ h)
    · rcases List.mem_cons.mp h with h | h
      · rw [h]; exact List.mem_cons_self
      · exact List.mem_cons_of_mem _ (List.mem_append_right _ h))), I.hok, I.len⟩
/-- the kept exception is tracked from now on -/
theorem Inv.trackX {a C0 : Addr} {ob : Obj} {vv : Array Value} (I : Inv X ((a, ob) :: pz) σ H s) (hz : Zc (.ref C0) none ob) (hd : ob.data = .fields vv) (a0 : X.s_0.heap.get? a = none) (np : ∀ p ∈ X.pn ++ pz, p.1 ≠ a) : Inv X pz σ (upd H a (DL.ExT C0 a)) s := by
  obtain ⟨ha, hn, aL, aF, nc⟩ := I.pin (a, ob) (List.mem_append_right _ List.mem_cons_self)
  dsimp only at ha hn aL aF nc
  have same_ : ∀ b, b ≠ a → upd H a (DL.ExT C0 a) b = H b := fun b hb => upd_ne hb
  have far0 : ∀ b o, X.s_0.heap.get? b = some o → b ≠ a := fun b o e z => by
    rw [z, a0] at e
    cases e
  have farS : ∀ b u, H b = some u → b ≠ a := fun b u e z => by
    rw [z, hn] at e
    cases e
  refine ⟨I.ok, I.os, I.bare, ⟨I.base.keep, I.base.slot, fun b o e n hx => by rw [same_ b (far0 b o e)]; exact I.base.free b o e n hx, I.base.there, fun b xs e => ?_, fun b o xs e => ?_, fun b ps e => ?_⟩, I.loc, I.cell, ?_, fun x c e => ?_, fun p hp => ?_, fun b u e => ?_, I.len⟩
  · have q := I.base.tups b xs e
    rw [same_ b (farS b _ q)]
    exact q
  · have q := I.base.frzs b o xs e
    rw [same_ b (farS b _ q)]
    exact q
  · obtain ⟨m, q⟩ := I.base.tbls b ps e
    exact ⟨m, by rw [same_ b (farS b _ q)]; exact q⟩
  · rw [same_ _ aL.symm]
    exact I.free
  · have hc := I.freeC x c e
    rw [same_ c]
    · exact hc
    · intro z
      obtain ⟨v, o, ho, hd'⟩ := I.cell x c e
      rw [z, ha] at ho
      cases ho
      exact nc v hd'
  · obtain ⟨e1, e2, e3⟩ := I.pin p (by
      rcases List.mem_append.mp hp with h | h
      · exact List.mem_append_left _ h
      · exact List.mem_append_right _ (List.mem_cons_of_mem _ h))
    exact ⟨e1, by rw [same_ _ (np p hp)]; exact e2, e3⟩
  · by_cases hb : b = a
    · subst hb
      rw [upd_same] at e
      cases e
      exact ⟨⟨ob, vv, ha, hz, hd⟩, ⟨ob, ha⟩, fun _ _ ⟨o, v, q, r⟩ k => ⟨o, v, k o q, r⟩⟩
    · rw [same_ b hb] at e
      exact (I.hok b u e).stay (fun c v _ q => q) (fun c q => by rw [same_ c (farS c _ q)]; exact q) fun c xs q => by rw [same_ c (farS c _ q)]; exact q
end
/-- what the clause 'except x as n: y = n' wishes of an exception of the body: slot i is n's, slot j y's -/
def wKept (X : Cx) (c : Value) (i j : Nat) (Wout : WX) (D : Ends) : WX := fun cls d σ H =>
  ∃ b, PySem.W.exmOne X.K cls c = some b ∧ (b = true → ∃ C0, cls = .ref C0 ∧ d = none ∧ ∀ a, H a = none → σ.length = X.N.length → D.nx (((σ.set i (some (.ref a))).set j (some (.ref a))).set i none) (upd H a (DL.ExT C0 a))) ∧ (b = false → Wout cls d σ H)
section
variable {X : Cx} {x n y : Str} {c : Value} {i j : Nat} {body : List Stmt} {np pos pos' p1 p2 p3 : Pos} {tb : WX → TS} {Wout : WX}
theorem ps_try_kept (hs : X.stack = X.env :: X.outer) (hf : X.env.frame = some X.env.locals) (nd : X.N.Nodup) (hi : X.N[i]? = some n) (kn : X.env.kindOf n = some .local) (hj : X.N[j]? = some y) (ky : X.env.kindOf y = some .local) (hc : Names X x c) (tk : Takes X Wout)
    (noex : X.ex = []) (hd : (n == ("__debug__" : Str)) = false) (dn2 : (n == ("__classdict__" : Str)) = false) (swp : ∀ a pn, swapsWith (.Name n p2) (some (.Name y p1)) p3.line (X.suite a pn).env = pure false)
    (hb : ∀ (W : WX) (pn : List (Addr × Obj)) (xe : Value → Shared → Prop), Takes (X.tr pn xe) W → PassesOwn (model X.prog X.w) X.A X.env xe → PSs (X.tr pn xe) body (tb W)) :
    PS X (.Try body [.ExceptHandler (some (.Name x np)) (some n) [.Assign [.Name y p1] (.Name n p2) p3] pos'] [] [] pos) (fun D σ H => tb (wKept X c i j Wout D) D σ H) := by
  refine ⟨fun pz s σ H D I h => ?_⟩
  have ok := I.ok
  have frs_ : X.A.frames = some (X.env :: X.outer) := by rw [ok.frames, hs]
  have locn : Loc X.env.scope n := .inl kn
  refine wpAny_Try_except ?_
  refine wpAny_mono ((hb (wKept X c i j Wout D) (X.pn ++ pz) (fun e s₁ => wpAny (model X.prog X.w) X.A (noteFrame e X.env) (fun _ s₂ => wpAny (model X.prog X.w) X.A (setFlight e none) (fun _ s₃ =>
    wpAny (model X.prog X.w) X.A (handleBy e X.env [.ExceptHandler (some (.Name x np)) (some n) [.Assign [.Name y p1] (.Name n p2) p3] pos']) (SP X pz D) X.xe s₃) X.xe s₂) X.xe s₁) (fun u s' exc_ => ?_) PassesOwn.looking).run [] s σ H D (I.toTry _) h) (fun f s1 post => ?_) (fun e s1 qe => qe)
  · -- the catch
    obtain ⟨a, B, sJ, pins', σ', H', cls, d, rfl, Jt, nbb, uw, sk, nA, oS, agr, b, hbb, yes_, no_⟩ := exc_
    have Jn : Inv X pz σ' H' sJ := Jt.ofTry ok
    have sk2 : Sky B (X.env :: X.outer) a (Zc cls d) X.env.locals s'.heap := by rw [← hs]; exact sk
    have bn : B.get? a = none := by
      rcases sk2 with ⟨_, hn, _⟩ | ff1 | gh0
      · exact hn
      · exact ff1.2.1
      · exact gh0.2.1
    show wpAny (model X.prog X.w) X.A (noteFrame (.ref a) X.env) _ _ _
    refine Sky.land Zc.steady frs_ hf sk2 fun ga fa ua => ?_
    have Ja : Inv X pz σ' H' { s' with heap := ga } := Jn.landed nbb fa.1 (uw.trans ua) oS agr
    obtain ⟨ea, va, qa, za, da⟩ := fa.there
    have frNo : ∀ {h : Heap} {o : Obj} {vv : Array Value}, h.FunFrames B (X.env :: X.outer) → h.get? a = some o → o.data = .fields vv → a ∉ frs (X.env :: X.outer) := fun {h o vv} ff e dd mm => by
      obtain ⟨_, o', e', hnf⟩ := ff.mem mm
      rw [e] at e'; cases e'
      exact hnf _ dd
    have noFr := frNo fa.2.2.1 qa da
    have aI : sJ.heap.get? a = none := by
      cases q : sJ.heap.get? a with
      | none => rfl
      | some o =>
        have := nbb a o q (by rw [hs]; exact noFr)
        rw [bn] at this
        cases this
    have aL : a ≠ X.env.locals := fun z => noFr (List.mem_filterMap.mpr ⟨X.env, List.mem_cons_self, by rw [hf, z]⟩)
    have aF : a ∉ X.fs := fun mm => by
      obtain ⟨e, qe, q⟩ := List.mem_filterMap.mp mm
      exact noFr (List.mem_filterMap.mpr ⟨e, List.mem_cons_of_mem _ qe, q⟩)
    have a0 : X.s_0.heap.get? a = none := by
      cases q : X.s_0.heap.get? a with
      | none => rfl
      | some o =>
        have hx : a ∉ X.ex := by rw [noex]; simp
        obtain ⟨o', e⟩ := Jn.base.there a o q hx
        rw [aI] at e
        cases e
    have Sa := Ja.suite qa da nA aL aF
    refine wpAny_handleBy_cons (codeAny_handlers_test ?_) (by intro q; cases q)
    have lookT : PySem.W.Looks (model X.prog X.w) ga (typeOf (.ref a)) cls := fun A Q E s k q => wpAny_typeOf_ref (k _ _ qa) (by rw [za.1]; exact q)
    have lookM := PySem.W.exm_one (M := model X.prog X.w) (Ja.kIn) lookT hbb
    have tst : ∀ {Q : Value → Shared → Prop} {E : Value → Shared → Prop}, Q c { s' with heap := ga } → wpAny (model X.prog X.w) (X.A.mark (some (.ref a))) (eval (.Name x np) X.env) Q E { s' with heap := ga } := fun {Q E} q => by
      obtain ⟨hg, dbg, mm | ⟨mm, hv, hnn⟩⟩ := hc
      · exact ld_glob (X := X.suite a ((a, ea) :: (X.pn ++ pz))) Sa hg mm q dbg
      · exact ld_blt (X := X.suite a ((a, ea) :: (X.pn ++ pz))) Sa hg mm hv q hnn dbg
    refine tst (lookM.here ?_)
    cases b with
    | true =>
      refine codeAny_handlers_suite_as (HandSPX.lands_againZ fa fun gb fb ub => ?_)
      have Jb : Inv X pz σ' H' { s' with heap := gb } := Jn.landed nbb fb.1 ((uw.trans ua).trans ub) oS agr
      obtain ⟨eb, vb, qb, zb, db⟩ := fb.there
      have Sb := Jb.suite qb db nA aL aF
      refine store_ok (X := X.suite a ((a, eb) :: (X.pn ++ pz))) (v := .ref a) Sb nd hi locn rfl (fun s5 Sc => ?_) (.inr kn)
      obtain ⟨C0, rfl, rfl, goes⟩ := yes_ rfl
      have lti : i < σ'.length := by rw [Jn.len]; exact (List.getElem?_eq_some_iff.mp hi).1
      have st : PSs (X.suite a ((a, eb) :: (X.pn ++ pz))) [.Assign [.Name y p1] (.Name n p2) p3] _ := pss_one (ps_set (X := X.suite a ((a, eb) :: (X.pn ++ pz))) nd hj (.inl ky) (pe_var (X := X.suite a ((a, eb) :: (X.pn ++ pz))) (pos := p2) hi (.inl kn) hd dn2) (swp a _) (.inr ky))
      refine wpAny_mono (st.run [] s5 _ H' { nx := fun σ6 H6 => σ6 = (σ'.set i (some (.ref a))).set j (some (.ref a)) ∧ H6 = H', rt := fun _ _ => False } Sc ⟨.ref a, List.getElem?_set_self lti, rfl, rfl⟩) (fun f s6 post => ?_) (fun _ _ z => False.elim z)
      have np : ∀ p ∈ X.pn ++ pz, p.1 ≠ a := fun p hp z => by
        obtain ⟨e, _⟩ := Jn.pin p hp
        rw [z, aI] at e
        cases e
      cases f with
      | next =>
        obtain ⟨σ6, H6, Sd, rfl, rfl⟩ := post
        refine gone_ok (Sd.unsuiteK ok) nd hi kn fun s7 Jc => ?_
        have p7 := (Jc.pin (a, eb) (List.mem_append_right _ List.mem_cons_self)).1
        exact ⟨_, _, Jc.trackX zb db a0 np, goes a nA Jn.len⟩
      | brk =>
        obtain ⟨_, _, _, z⟩ := post
        exact z.elim
      | cont =>
        obtain ⟨_, _, _, z⟩ := post
        exact z.elim
      | ret u =>
        obtain ⟨_, _, _, _, _, z⟩ := post
        exact z.elim
    | false =>
      show wpAny _ X.A (handleBy (.ref a) X.env []) _ _ _
      refine wpAny_handleBy_nil ?_
      obtain ⟨k1, k2, k3, ob, vv, T, oT, ts', qe, hz, hd', h1, hr⟩ := id fa
      unfold PySem.passOn
      refine wpAny_bind (wpAny_field qe hd' h1 ?_)
      rw [if_neg (show ¬ ((Value.ref T == Value.none) = true) from by simp)]
      have fini : wpAny (model X.prog X.w) X.A (setFlight (.ref a) X.env.frame) (fun _ s4 => wpAny (model X.prog X.w) X.A (throw (.ref a) : Sem Flow) (SP X pz D) X.xe s4) X.xe { s' with heap := ga } := by
        rw [hf]
        refine HandSPX.setFlight_upZ fa fun gb gh ub => wpAny_throw (tk _ _ ?_)
        exact ⟨a, B, sJ, pz, σ', H', cls, d, rfl, Jn, nbb, (uw.trans ua).trans ub, .inr (.inr (by rw [hs]; exact gh)), nA, oS, agr, no_ rfl⟩
      first
        | exact wpAny_bind (wpAny_pure (wpAny_bind fini))
        | exact wpAny_bind fini
  · cases f with
    | next =>
      obtain ⟨σ', H', Jt, q⟩ := post
      exact wpAny_execs_nil ⟨σ', H', Jt.ofTry ok, q⟩
    | brk =>
      obtain ⟨σ', H', Jt, q⟩ := post
      exact ⟨σ', H', Jt.ofTry ok, q⟩
    | cont =>
      obtain ⟨σ', H', Jt, q⟩ := post
      exact ⟨σ', H', Jt.ofTry ok, q⟩
    | ret u =>
      obtain ⟨v, σ', H', Jt, r, q⟩ := post
      exact ⟨v, σ', H', Jt.ofTry ok, r, q⟩
end
end L2
/-! # A lambda without parameters handed to a def: all but one table stays -/
namespace L2.DL
open PySem PySem.Spec PyProof.Rows LamX

/-- all but the table at tP stays -/
def ExtP (tP : Addr) (G G' : Hp) : Prop := ∀ b u, b ≠ tP → G b = some u → G' b = some u
theorem ExtP.rfl' (tP : Addr) (G : Hp) : ExtP tP G G := fun _ _ _ e => e
theorem ExtP.trans {tP : Addr} {G G1 G2 : Hp} (a : ExtP tP G G1) (b : ExtP tP G1 G2) : ExtP tP G G2 := fun c u n e => b c u n (a c u n e)
section
variable {X : Cx} {pn : List (Addr × Obj)} {τ : L2.St} {G : Hp} {t : Shared}
theorem lam_own {cM tP : Addr} {prs : Arguments} {lb : Expr} {sc : Scope} {lp : Pos} {nm : Str} {E Q : Value → Shared → Prop} (J : Inv X pn τ G t) (B : TabB X.base X.mg cM tP) (hcd : X.env.code = .ref cM) (hnm : nm = X.env.qual ++ "<lambda>")
    (hS : TabS G tP nm) (hdf : defaultsOf prs X.env = ([], [])) (hcl : ∀ y ∈ sc.names, y.2 = .free → ∃ c, X.env.cells.lookup y.1 = some c)
    (k : ∀ (f c1 : Addr) (pm ctv : Value) (G1 : Hp) (t1 : Shared), Inv X pn τ G1 t1 → ExtP tP G G1 → TabS G1 tP nm →
      t1.heap.get? f = some (PySem.W.kla_obj "<lambda>" nm prs lb sc (cloFrom X.env.cells sc.names []) pm c1 ctv) → G1 f = none → f ∉ frs X.stack → G1 c1 = some (CodeO c1 nm) → Q (.ref f) t1) :
    wpAny (model X.prog X.w) X.A (eval (.Lambda prs lb sc lp) X.env) Q E t := by
  subst hnm
  obtain ⟨tb, eP, tok, tcd⟩ := hS
  have bat := B.bm.keeps J.bk
  have eP' : t.heap.get? tP = some { cls := .none, data := .fields tb } := J.hok tP _ eP
  have outside : ∀ f, t.heap.objs.size ≤ f → f ∉ frs X.stack := fun f le hm => by
    rcases List.mem_cons.mp (J.stkSub _ hm) with z | z
    · exact absurd (Nat.lt_of_lt_of_le J.lt (by rw [← z]; exact le)) (Nat.lt_irrefl _)
    · exact J.nofs le z
  refine PySem.W.kla_eval hdf ?_
  generalize hlook : codeAmong lp tb.toList = look
  cases look with
  | some cv =>
    obtain ⟨c1, rfl, ec⟩ := tcd lp cv hlook
    refine PySem.W.kla_makeFunctionHit (P := tP) (c := cM) (mg := X.mg) (ps := tb) (closure_ok hcl) J.ok.glob (J.mod.glob.keeps J.bk) hcd (B.code.keeps J.bk) eP' tok hlook bat fun ctv g1 tk ke le => ?_
    exact k g1.objs.size c1 ((X.mg "__name__").getD .none) ctv G _ (J.kept fun b o e => Heap.get?_push_of_some _ (ke b o e)) (ExtP.rfl' tP G) ⟨tb, eP, tok, tcd⟩ (Heap.get?_push_size _ rfl) (J.hok.fresh le) (outside _ le) ec
  | none =>
    refine PySem.W.kla_makeFunction (P := tP) (c := cM) (mg := X.mg) (ps := tb) (closure_ok hcl) J.ok.glob (J.mod.glob.keeps J.bk) hcd (B.code.keeps J.bk) eP' tok hlook B.gP bat fun c1 ctv g1 tk ke ge lt rec_ etb => ?_
    obtain ⟨c2, oc, vs, tt, z, eoc, edc, evs⟩ := rec_
    cases z
    have fresh1 : G c1 = none := J.hok.fresh ge
    obtain ⟨G1, hG1⟩ : ∃ G1 : Hp, G1 = upd (upd G tP (.tbl (tb ++ #[rawInt lp.line, rawInt lp.col, .ref c1]))) c1 (CodeO c1 (X.env.qual ++ "<lambda>")) := ⟨_, rfl⟩
    have J1 := inv_table (more := #[rawInt lp.line, rawInt lp.col, .ref c1]) (t' := tk) (h' := g1.push (PySem.W.kla_obj "<lambda>" (X.env.qual ++ "<lambda>") prs lb sc (cloFrom X.env.cells sc.names []) ((X.mg "__name__").getD .none) c1 ctv)) J eP
      (fun b o n e => Heap.get?_push_of_some _ (ke b o n e)) (Heap.get?_push_of_some _ etb) ge ⟨oc, vs, tt, Heap.get?_push_of_some _ eoc, edc, evs⟩
    rw [← hG1] at J1
    have ext : ExtP tP G G1 := fun b u n e => by rw [hG1, upd_ne (ne_of_none e fresh1), upd_ne n]; exact e
    have atC : G1 c1 = some (CodeO c1 (X.env.qual ++ "<lambda>")) := by rw [hG1, upd_same]
    have notP : ∀ c0 nm0, G c0 = some (CodeO c0 nm0) → c0 ≠ tP := fun c0 nm0 e z => by
      rw [z, eP] at e
      exact codeO_ne _ (Option.some.inj e).symm
    have tab1 : TabS G1 tP (X.env.qual ++ "<lambda>") := by
      have el : (tb ++ #[rawInt lp.line, rawInt lp.col, .ref c1]).toList = tb.toList ++ [rawInt lp.line, rawInt lp.col, .ref c1] := by simp
      refine ⟨_, by rw [hG1, upd_ne (ne_of_none eP fresh1), upd_same], by rw [el]; exact PySem.TriplesOk_snoc _ _ _ _ tok, fun p2 cv hcv => ?_⟩
      rw [el] at hcv
      rcases among_app tb.toList tok hcv with old | new
      · obtain ⟨c0, h1, h2⟩ := tcd p2 cv old
        exact ⟨c0, h1, ext _ _ (notP _ _ h2) h2⟩
      · exact ⟨c1, new, atC⟩
    have size : t.heap.objs.size ≤ g1.objs.size := by omega
    refine k g1.objs.size c1 ((X.mg "__name__").getD .none) ctv G1 _ J1 ext tab1 (Heap.get?_push_size _ rfl) ?_ (outside _ size) atC
    rw [hG1, upd_ne (Nat.ne_of_gt lt), upd_ne (Nat.ne_of_gt (Nat.lt_of_lt_of_le (Heap.lt_size eP') size))]
    exact J.hok.fresh size
/-- x(lambda: lb): the reading -/
def tLamP (tP : Addr) (nm : Str) (TT : (XK → Hp → VK → Prop) → Hp → VK → Prop) (t : XK → TE) : TE := fun τ G Q => TabS G tP nm ∧ ∀ G1, ExtP tP G G1 → TabS G1 tP nm → TT (fun E G' Q' => t E τ G' Q') G1 Q
theorem pe_lamP {TT : (XK → Hp → VK → Prop) → Hp → VK → Prop} {x a nm : Str} {g cM tP : Addr} {k : Nat} {st : Stmt} {fd : FuncData} {Ng : List Str} {prs : Arguments} {lb : Expr} {sc : Scope} {t : XK → TE} {p lp pos : Pos}
    (Fg : Fun X.K x x st g fd) (Sg : FnScope Ng [a] (defScope st)) (hb : L2.Binds X.K fd [a] []) (hg : Gl X x) (hm : X.mg x = some (.ref g)) (h0 : Ng[0]? = some a) (hva : Vis (defScope st) a) (hG : ∀ cdg : Value, GivesTo X Ng x (defScope st) g cdg (defBody st) a (X.env.qual ++ "<lambda>") TT)
    (B : TabB X.base X.mg cM tP) (hcd : X.env.code = .ref cM) (hnm : nm = X.env.qual ++ "<lambda>") (hr : Room (k + 2) X.A) (L : LamS X.env.scope sc) (hdf : defaultsOf prs X.env = ([], []))
    (hbind : ∀ (q : Str) (cl : List (Str × Addr)) (pm cv ctv : Value), bindArgs (PySem.W.kla_fn "<lambda>" q prs lb sc cl pm cv ctv) ⟨[], []⟩ = pure [])
    (hlb : ∀ (A : Around) (outer : List PySem.Env) (s : Shared) (H : Hp) (E : XK) (f c1 : Addr), Room k (A.deeper (lamEnv X sc s.heap.objs.size f c1)) → PE (lamCx X A outer s H E sc f c1) lb (t E))
    (hdb : (x == ("__debug__" : Str)) = false := by decide) (hda : (a == ("__debug__" : Str)) = false := by decide) (hcda : (a == ("__classdict__" : Str)) = false := by decide) :
    PE X (.Call (.Name x p) [.Lambda prs lb sc lp] [] pos) (tLamP tP nm TT t) := by
  subst hnm
  refine ⟨fun pn s τ G Q J ⟨hT, hq⟩ => wpAny_Call_Name_kw (ld_glob J hg hm ?_ hdb)⟩
  refine PySem.W.callWith_K (h₀ := X.base) J.ok.mod.kin Fg.kp ?_ (by rfl) (by rfl)
  obtain ⟨oc, od, kV, doc, pm, an, cdg, ct, osl, rfl, lkg, hcg⟩ := Fg.ex
  show wpAny _ _ (spliced ((false, eval (.Lambda prs lb sc lp) X.env) :: backTo pos (starEach [] X.env))) _ _ s
  refine Calls.spliced_cons (lam_own J B hcd rfl hT hdf (L.has J.ok) fun f c1 pm1 ctv G1 s1 J1 ext T1 ef nf outf ec => Calls.spliced_nil ⟨J1.kIn, ?_⟩)
  have run : codeAny (model X.prog X.w) X.A (.call (.ref g) ⟨[.ref f], []⟩) (CR C8.CX0 X.stack X.prog X.w G1 s1 Q C8.E0) s1 := by
    refine run_ofS (ps := [a]) (N := Ng) (vs := [.ref f]) (us := [.ref f]) lkg hcg Sg hr J1.env0 (hb s1 [.ref f] J1.kIn rfl) (.cons rfl .nil) rfl fun hr1 => ?_
    obtain ⟨t2, ht2, hq2⟩ := hG cdg f c1 s1 G1 Q (fun E G' Q' => t E τ G' Q') (fun W pn xe E p1 p2 tk hW => pe_act (i := 0) J1 L ef nf outf (hbind _ _ _ _ _) tk hW hr1 (fun A outer s H hr2 => hlb A outer s H E f c1 hr2) h0 hva hda hcda) ec (hq G1 ext T1)
    exact ⟨t2, ht2.nox, hq2⟩
  refine wpAny_call (codeAny_mono run fun r s2 fin => ?_)
  match r, fin with
  | .error e, fin => exact (show False from fin).elim
  | .ok (.ret u), fin => exact J1.after fin
  | .ok .next, fin => exact False.elim fin
  | .ok .brk, fin => exact False.elim fin
  | .ok .cont, fin => exact False.elim fin
end
/-! ### the def that keeps the refusal -/
/-- kept = None / try: a() / except X as e: kept = e / return kept -/
def TKept (K : PySem.W.Frag) (KE : Addr) : (XK → Hp → VK → Prop) → Hp → VK → Prop := fun tl G Q =>
  tl (fun cls d G' => ∃ C0, cls = .ref C0 ∧ d = none ∧ PySem.W.exmOne K cls (.ref KE) = some true ∧ ∀ b, G' b = none → Q (.ref b) (upd G' b (ExT C0 b))) G fun _ G' => Q .non G'
theorem kept_gives {X : Cx} {Ng : List Str} {x a y n xe q : Str} {sg : Scope} {g KE : Addr} {cdg : Value} {jn : Nat} {p1 p2 p3 p4 p5 p6 p7 p8 p9 q1 q2 q3 q4 q5 : Pos} (hNd : Ng.Nodup) (h1 : Ng[1]? = some y) (h2 : Ng[2]? = some n) (hl : Ng.length = 3) (hy : sg.names.lookup y = some .local) (hn : sg.names.lookup n = some .local)
    (hge : sg.names.lookup xe = some .globalImplicit) (hme : X.mg xe = some (.ref KE)) (hde : (xe == ("__debug__" : Str)) = false := by decide) (hdy : (y == ("__debug__" : Str)) = false := by decide) (hcy : (y == ("__classdict__" : Str)) = false := by decide) (hdn : (n == ("__debug__" : Str)) = false := by decide) (hcn : (n == ("__classdict__" : Str)) = false := by decide) :
    GivesTo X Ng x sg g cdg [.Assign [.Name y q1] (.Constant .none jn q2) q3, .Try [.Expr (.Call (.Name a p1) [] [] p2) p3] [.ExceptHandler (some (.Name xe p4)) (some n) [.Assign [.Name y p5] (.Name n p6) p7] p8] [] [] p9, .Return (some (.Name y q4)) q5] a q (TKept X.K KE) := by
  intro f c1 s G Q tl act hc h
  have st : L2.start Ng [V.ref f] = [some (.ref f), none, none] := by
    unfold L2.start
    rw [hl]
    rfl
  refine ⟨_, pss_cons (ps_set (X := (cxOf C8.CX0 X.prog X.w X.K X.mg X.base Ng x sg g cdg X.A X.stack s G C8.E0).nox) hNd h1 (.inl hy) pe_non (by rfl) (.inr hy)) (pss_cons (ps_try_kept (X := (cxOf C8.CX0 X.prog X.w X.K X.mg X.base Ng x sg g cdg X.A X.stack s G C8.E0).nox) (i := 2) (j := 1) (c := .ref KE)
      (tb := fun W D σ H => ∃ Ech : XK, (∀ cls d σ' H', Ech cls d H' → W cls d σ' H') ∧ σ[0]? = some (some (.ref f)) ∧ H c1 = some (CodeO c1 q) ∧ tl Ech H fun _ H' => D.nx σ H')
      rfl rfl hNd h2 hn h1 hy ⟨hge, hde, .inl hme⟩ takes0 rfl hdn hcn (fun _ _ => rfl) (fun W pn xe tk _ => ?_)) (pss_one (ps_ret (pe_var (i := 1) h1 (.inl hy) hdy hcy)))), ?_⟩
  · refine ⟨fun pins s2 τ G2 D I ⟨Ech, hW, e0, ec, q⟩ => ?_⟩
    have pe := pss_one (ps_expr (pos := p3) (act W pn xe Ech p1 p2 tk hW) (by rfl))
    exact pe.run pins s2 τ G2 D I ⟨e0, ec, q⟩
  · have e : (fun (_ : V) (H' : Hp) => ∃ v, ((L2.start Ng [V.ref f]).set 1 (some V.non))[1]? = some (some v) ∧ Q v H') = fun _ G' => Q .non G' := by
      funext _ H'
      rw [st]
      exact propext ⟨fun ⟨v, e1, e2⟩ => by
        have e3 : V.non = v := Option.some.inj (Option.some.inj e1)
        rw [e3]
        exact e2, fun z => ⟨.non, rfl, z⟩⟩
    have h' := h
    unfold TKept at h'
    rw [← e] at h'
    refine ⟨_, fun cls d σ' H' ⟨C0, e1, e2, e3, e4⟩ => ⟨true, e3, fun _ => ⟨C0, e1, e2, fun b eb el => ?_⟩, fun z => nomatch z⟩, by rw [st]; rfl, hc, h'⟩
    have el' : σ'.length = 3 := el.trans hl
    refine ⟨.ref b, ?_, e4 b eb⟩
    rw [List.getElem?_set_ne (by decide), List.getElem?_set_self (by rw [List.length_set, el']; decide)]
end L2.DL
/-! # Refusals kept as data: lambdas handed to the def that keeps them; isinstance of a refusal; defs that change a table of code objects -/
namespace L2.DL
open PySem PySem.Spec PyProof.Rows LamX
section
variable {K : PySem.W.Frag} {C : Addr} {B H H' : Hp} {O0 O : List Addr} {σ : St} {ρ : Env}
theorem Ok.extP (k : Ok K C B O0 O H σ ρ) {j : Nat} {tP : Addr} {nm : Str} (hj : ρ[j]? = some (some (.tb tP nm))) (x : ExtP tP H H') (t1 : TabS H' tP nm) : Ok K C B O0 O H' σ ρ := by
  obtain ⟨hO, hB, ps, hP, _⟩ := k.tb.at_ j tP nm hj
  have ne : ∀ {b u}, H b = some u → (∀ ps, u ≠ .tbl ps) → b ≠ tP := fun {b u} e n z => by
    rw [z, hP] at e
    exact n ps (Option.some.inj e).symm
  have sw : Same (wo H O) (wo H' O) := fun b u e => by
    have nO : b ∉ O := fun z => by
      unfold wo at e
      rw [if_pos z] at e
      cases e
    exact wo_of (x b u (fun z => nO (z ▸ hO)) (wo_some e)) nO
  refine ⟨fun b u e => x b u (fun z => by rw [z, hB] at e; cases e) (k.base b u e), k.al0, fun a ha => ?_, k.sub0, k.new, k.len, fun i d e => ?_, fun i es e => ?_, k.uniq, k.st.to (fun _ _ _ _ e => e) (fun _ _ _ h _ => h) (fun a dx fs _ _ e _ => x a _ (ne e fun _ z => nomatch z) e) sw (fun _ _ h => h),
    k.ls.to (fun _ _ _ e => e) (fun _ _ _ _ _ _ h => h) (fun _ a _ _ _ _ _ e => x a _ (ne e fun _ z => nomatch z) e) sw (fun _ _ h => h) k.ls.no, ⟨fun i p q e => ?_, k.tb.one⟩⟩
  · by_cases z : a = tP
    · obtain ⟨ps', e, _⟩ := id t1
      rw [z, e]
      intro z
      cases z
    · cases e : H a with
      | none => exact absurd e (k.al a ha)
      | some u => rw [x a u z e]; intro z; cases z
  · obtain ⟨y, e1, e2⟩ := k.val i d e
    exact ⟨y, e1, Rep.mono sw d e2⟩
  · obtain ⟨q, ws, e1, e2, e3, e4, e5⟩ := k.own i es e
    exact ⟨q, ws, e1, e2, e3, x q _ (ne e4 fun _ z => nomatch z) e4, RepL.mono sw es e5⟩
  · obtain ⟨h1, h2, h3⟩ := k.tb.at_ i p q e
    refine ⟨h1, h2, ?_⟩
    by_cases z : p = tP
    · subst z
      rw [k.tb.one i j p q nm e hj]
      exact t1
    · obtain ⟨ps', a1, a2, a3⟩ := h3
      refine ⟨ps', x p _ z a1, a2, fun pos cv hc => ?_⟩
      obtain ⟨c, g1, g2⟩ := a3 pos cv hc
      exact ⟨c, g1, x c _ (ne g2 fun ps => codeO_ne ps) g2⟩
end
/-! ### the def that keeps a refusal, called with a lambda -/
structure Kd (K : PySem.W.Frag) (mg : Str → Option Value) (KE : Addr) (x : Str) : Prop where
  ex : ∃ (st : Stmt) (g : Addr) (fd : FuncData) (Ng : List Str) (a : Str), Fun K x x st g fd ∧ FnScope Ng [a] (defScope st) ∧ L2.Binds K fd [a] [] ∧ mg x = some (.ref g) ∧ Ng[0]? = some a ∧ Vis (defScope st) a ∧ (a == ("__debug__" : Str)) = false ∧ (a == ("__classdict__" : Str)) = false ∧
    ∀ (X : Cx) (cdg : Value) (q : Str), X.K = K → X.mg = mg → GivesTo X Ng x (defScope st) g cdg (defBody st) a q (TKept K KE)
def dKept (K : PySem.W.Frag) (tP KE : Addr) (nm : Str) (pb : DE) : DEM := fun ρ P _ => (∃ j : Nat, ρ[j]? = some (some (.tb tP nm))) ∧ pb ρ (fun _ => P .non ρ) (fun c => PySem.W.exmOne K (.ref c) (.ref KE) = some true ∧ P (.exc c) ρ)
theorem pxLam {X : Cx} {A : Around} {outer : List PySem.Env} {s : Shared} {H : Hp} {E : XK} {sc : Scope} {f c1 : Addr} : Passes (L2.CX X.prog X.w) (lamCx X A outer s H E sc f c1) E := passes_call (takes_of rfl rfl rfl rfl) fun _ _ _ _ h => h
theorem pm_kept0 {X : Cx} {C KE cM tP : Addr} {E : XK} {x nm : Str} {k : Nat} {prs : Arguments} {lb : Expr} {sc : Scope} {pb : DE} {p lp pos : Pos} (D : Kd X.K X.mg KE x) (hg : Gl X x) (TB : TabB X.base X.mg cM tP) (hcd : X.env.code = .ref cM) (hr : Room (k + 2) X.A) (hnm : nm = X.env.qual ++ "<lambda>") (L : LamS X.env.scope sc)
    (hlb : ∀ (A : Around) (outer : List PySem.Env) (s : Shared) (H : Hp) (E : XK) (f c1 : Addr), Room k (A.deeper (lamEnv X sc s.heap.objs.size f c1)) → Passes (L2.CX X.prog X.w) (lamCx X A outer s H E sc f c1) E → PE (lamCx X A outer s H E sc f c1) lb (lift X.K C E pb))
    (hdf : defaultsOf prs X.env = ([], []) := by rfl) (hbind : ∀ (q : Str) (cl : List (Str × Addr)) (pm cv ctv : Value), bindArgs (PySem.W.kla_fn "<lambda>" q prs lb sc cl pm cv ctv) ⟨[], []⟩ = pure [] := by intros; rfl) (hdb : (x == ("__debug__" : Str)) = false := by decide) :
    PE X (.Call (.Name x p) [.Lambda prs lb sc lp] [] pos) (liftM X.K C E (dKept X.K tP KE nm pb)) := by
  obtain ⟨st, g, fd, Ng, a, Fg, Sg, hb, hm, h0, hva, hda, hcda, G⟩ := D.ex
  refine (pe_lamP (t := fun E => lift X.K C E pb) Fg Sg hb hg hm h0 hva (fun cdg => G X cdg _ rfl rfl) TB hcd hnm hr L hdf hbind (fun A outer s H E f c1 hr => hlb A outer s H E f c1 hr pxLam) hdb hda hcda).wk fun σ H Q q => ?_
  obtain ⟨B, O0, O, ρ, P, R, k, ⟨⟨j, hj⟩, q⟩, hP, hR⟩ := q
  obtain ⟨_, _, hT⟩ := k.tb.at_ j tP nm hj
  refine ⟨hT, fun G1 ext T1 => ?_⟩
  have k1 := k.extP hj ext T1
  refine ⟨B, O0, O, ρ, _, _, k1, q, fun v d H' s' r p => hP .non .non H' ρ O (k1.ext s') rfl p, fun c H' s' ⟨he, p⟩ => ⟨c, rfl, rfl, he, fun b hb => ?_⟩⟩
  have k2 := k1.ext s'
  exact hP (.ref b) (.exc c) _ ρ O (k2.ext (Same.new hb)) ⟨b, rfl, wo_of upd_same (k2.al.new hb)⟩ p
theorem pm_kept {K : PySem.W.Frag} {X : Cx} {C KE cM tP : Addr} {E : XK} {x nm : Str} {k : Nat} {prs : Arguments} {lb : Expr} {sc : Scope} {pb : DE} {p lp pos : Pos} (hK : X.K = K) (D : Kd K X.mg KE x) (hg : Gl X x) (TB : TabB X.base X.mg cM tP) (hcd : X.env.code = .ref cM) (hr : Room (k + 2) X.A) (hnm : nm = X.env.qual ++ "<lambda>") (L : LamS X.env.scope sc)
    (hlb : ∀ (A : Around) (outer : List PySem.Env) (s : Shared) (H : Hp) (E : XK) (f c1 : Addr), Room k (A.deeper (lamEnv X sc s.heap.objs.size f c1)) → Passes (L2.CX X.prog X.w) (lamCx X A outer s H E sc f c1) E → PE (lamCx X A outer s H E sc f c1) lb (lift X.K C E pb))
    (hdf : defaultsOf prs X.env = ([], []) := by rfl) (hbind : ∀ (q : Str) (cl : List (Str × Addr)) (pm cv ctv : Value), bindArgs (PySem.W.kla_fn "<lambda>" q prs lb sc cl pm cv ctv) ⟨[], []⟩ = pure [] := by intros; rfl) (hdb : (x == ("__debug__" : Str)) = false := by decide) :
    PE X (.Call (.Name x p) [.Lambda prs lb sc lp] [] pos) (liftM X.K C E (dKept K tP KE nm pb)) := by
  subst hK
  exact pm_kept0 D hg TB hcd hr hnm L hlb hdf hbind hdb
/-! ### isinstance of a refusal -/
def rIsX (K : PySem.W.Frag) (C0 : Addr) : List V → Hp → VK → Prop := fun xs H Q => ∃ (a : Addr) (c : V) (cv : Value) (b : Bool), xs = [.ref a, c] ∧ H a = some (ExT C0 a) ∧ (∀ u, RelV c u → u = cv) ∧ PySem.W.kitOne K (.ref C0) cv = some b ∧ Q (.bl b) H
theorem call_isX {X : Cx} {C0 : Addr} (Y : ExcC X.K C0) : CallR X (.builtin "isinstance") (rIsX X.K C0) := by
  rintro pins s σ H xs us Q I (_ | ⟨r1, _ | ⟨r2, _ | _⟩⟩) ⟨a, c, cv, b, e, ha, hc, hk, q⟩
  all_goals first | cases e | skip
  obtain rfl := r1
  obtain rfl := hc _ r2
  obtain ⟨⟨oe, vs, eo, ⟨z1, z2⟩, ed⟩, _, _⟩ := I.hok a _ ha
  have J : PySem.W.InstAt s.heap a oe C0 none := by
    obtain ⟨oc, od, oda, osl⟩ := oe
    dsimp only at z1 z2 ed
    subst z1 z2 ed
    exact ⟨eo, rfl, rfl, trivial⟩
  exact PySem.W.kia_one (PySem.W.handS_kitx_exc Y.hg Y.hk Y.hs Y.hd Y.ha Y.hn Y.ht Y.hm) I.kIn J hk (fun z => nomatch z) fun tk => ⟨.bl b, H, I.kept (t' := tk) fun _ _ z => z, rfl, q⟩
def kitD (K : PySem.W.Frag) (c : Addr) : D → Option Bool
  | .adr a => PySem.W.kitOne K (.ref c) (.ref a)
  | .ty n => PySem.W.kitOne K (.ref c) (.type n)
  | _ => none
def dIsE (K : PySem.W.Frag) (p q : DE) : DE := fun ρ P R => p ρ (fun x => q ρ (fun y => ∃ c b, x = .exc c ∧ ExcC K c ∧ kitD K c y = some b ∧ P (.bl b)) R) R
theorem kitD_rel {K : PySem.W.Frag} {C c : Addr} {H : Hp} {y : D} {v : V} {b : Bool} (h : kitD K c y = some b) (r : Rep K C H y v) : ∃ cv, (∀ u, RelV v u → u = cv) ∧ PySem.W.kitOne K (.ref c) cv = some b := by
  cases y with
  | adr a =>
    obtain rfl : v = .ref a := r
    exact ⟨.ref a, fun u e => e, h⟩
  | ty n =>
    obtain rfl : v = .ty n := r
    exact ⟨.type n, fun u e => e, h⟩
  | _ => cases h
theorem pd_isE0 {X : Cx} {C : Addr} {E : XK} {a b : Expr} {p q : DE} {np pos : Pos} (nb : X.mg "isinstance" = none) (ha : PE X a (lift X.K C E p)) (hb : PE X b (lift X.K C E q)) (hg : Gl X "isinstance" := by rfl) (hs1 : starEach [a, b] X.env = (false, eval a X.env) :: starEach [b] X.env := by rfl) (hs2 : starEach [b] X.env = (false, eval b X.env) :: starEach [] X.env := by rfl) (hpl : (backTo pos (starEach [b] X.env)).any (·.1) = false := by rfl) :
    PE X (.Call (.Name "isinstance" np) [a, b] [] pos) (lift X.K C E (dIsE X.K p q)) := by
  have any : CallR X (.builtin "isinstance") (fun xs H Q => ∃ C0, ExcC X.K C0 ∧ rIsX X.K C0 xs H Q) := fun pins s σ H xs us Q I r ⟨C0, Y, h⟩ => call_isX Y pins s σ H xs us Q I r h
  refine (pe_callB any hg nb bt_isinstance (pa_cons ha (pa_cons hb pa_nil hs2) hs1) (by decide) (by decide) hs1 hpl).wk fun σ H Q h => ?_
  obtain ⟨B, O0, O, ρ, P, R, k, h, hP, hR⟩ := h
  refine ⟨B, O0, O, ρ, _, R, k, h, fun x dx H1 s1 r1 h1 => ⟨B, O0, O, ρ, _, R, k.ext s1, h1, fun y dy H2 s2 r2 h2 => ?_, fun c H' s' z => hR c H' (s1.trans s') z⟩, hR⟩
  obtain ⟨c, t, rfl, Y, hk, h3⟩ := h2
  obtain ⟨a', rfl, e1⟩ := r1
  obtain ⟨cv, hcv, hk2⟩ := kitD_rel hk r2
  exact ⟨c, Y, a', y, cv, t, rfl, s2 _ _ (wo_some e1), hcv, hk2, hP (.bl t) (.bl t) H2 (s1.trans s2) rfl h3⟩
/-- the same, the facts' own name ahead -/
theorem pd_isE {K : PySem.W.Frag} {X : Cx} {C : Addr} {E : XK} {a b : Expr} {p q : DE} {np pos : Pos} (hK : X.K = K) (nb : X.mg "isinstance" = none) (ha : PE X a (lift X.K C E p)) (hb : PE X b (lift X.K C E q)) (hg : Gl X "isinstance" := by rfl) (hs1 : starEach [a, b] X.env = (false, eval a X.env) :: starEach [b] X.env := by rfl) (hs2 : starEach [b] X.env = (false, eval b X.env) :: starEach [] X.env := by rfl) (hpl : (backTo pos (starEach [b] X.env)).any (·.1) = false := by rfl) :
    PE X (.Call (.Name "isinstance" np) [a, b] [] pos) (lift X.K C E (dIsE K p q)) := by
  subst hK
  exact pd_isE0 nb ha hb hg hs1 hs2 hpl
/-! ### stateful things among the others -/
section
variable {X : Cx} {C : Addr} {E : XK} {a b : Expr} {pos : Pos}
/-- f(e), e stateful, f a def that changes nothing -/
def dCallM (t : DP) (p : DEM) : DEM := fun ρ P R => p ρ (fun d ρ' => t [d] (fun r => P r ρ') (fun c => R c ρ')) R
theorem pm_callM {k : Nat} {x : Str} {t : DP} {p : DEM} {np : Pos} (F : Fc X.prog X.w X.K X.mg X.base C k x t) (hr : Room k X.A) (hg : Gl X x) (hx : Passes (L2.CX X.prog X.w) X E) (ha : PE X a (liftM X.K C E p))
    (hdb : (x == ("__debug__" : Str)) = false := by decide) (he : starEach [a] X.env = (false, eval a X.env) :: starEach [] X.env := by rfl) (hpl : (backTo pos (starEach [] X.env)).any (·.1) = false := by rfl) :
    PE X (.Call (.Name x np) [a] [] pos) (liftM X.K C E (dCallM t p)) := by
  obtain ⟨f, fd, ps, G, hm, hk, hb⟩ := F.ex
  refine (pe_call G hr hg hm hk hb .nil hx (pa_cons ha pa_nil he) hdb he hpl).wk fun σ H Q h => ?_
  obtain ⟨B, O0, O, ρ, P, R, k, h, hP, hR⟩ := h
  refine ⟨B, O0, O, ρ, _, _, k, h, fun v d H' ρ' O' k' r q => ?_, hR⟩
  show spD X.K C t [v] H' Q E
  exact ⟨O', [d], _, _, k'.al, ⟨v, [], rfl, r, rfl⟩, q, fun w e H2 s2 r2 p2 => hP w e H2 ρ' O' (k'.ext s2) r2 p2, fun c H2 s2 z => hR c H2 σ ρ' O' (k'.ext s2) z⟩
/-- an operation of a stateful thing with another one -/
def dBinM (f : D2) (p : DEM) (q : DE) : DEM := fun ρ P R => p ρ (fun x ρ' => q ρ' (fun y => f x y fun d => P d ρ') (fun c => R c ρ')) R
theorem pm_cmpM {op : CmpOp} {r : R2} {f : D2} (ho : OpR X (compareOp op) r) (ab : AbR X.K C r f) {p : DEM} {q : DE} (ha : PE X a (liftM X.K C E p)) (hb : PE X b (lift X.K C E q)) (hm : behindInMarks op b = false) : PE X (.Compare a [op] [b] pos) (liftM X.K C E (dBinM f p q)) :=
  (pe_cmpR ho ha hb hm).wk fun σ H Q h => by
    obtain ⟨B, O0, O, ρ, P, R, k, h, hP, hR⟩ := h
    refine ⟨B, O0, O, ρ, _, _, k, h, fun x dx H1 ρ1 O1 k1 r1 q1 => ⟨B, O0, O1, ρ1, _, _, k1, q1, fun y dy H2 s2 r2 q2 => ?_, fun c H' s' z => hR c H' σ ρ1 O1 (k1.ext s') z⟩, hR⟩
    exact ab O1 H2 x y dx dy _ Q ((k1.ext s2).al) (Rep.mono (wo_same O1 s2) dx r1) r2 q2 fun v d H' s' r p => hP v d H' ρ1 O1 ((k1.ext s2).ext s') r p
theorem qm_cmpM {op : CmpOp} {r : R2} {f : D2} (ho : OpR X (compareOp op) r) (ab : AbR X.K C r f) {p : DEM} {q : DE} (ha : PE X a (liftM X.K C E p)) (hb : PE X b (lift X.K C E q)) (hm : behindInMarks op b = false) : PT X (.Compare a [op] [b] pos) (liftTM X.K C E (dTruM (dBinM f p q))) :=
  (pt_cmpR ho ha hb hm).wk fun σ H Q h => by
    obtain ⟨B, O0, O, ρ, P, R, k, h, hP, hR⟩ := h
    refine ⟨B, O0, O, ρ, _, _, k, h, fun x dx H1 ρ1 O1 k1 r1 q1 => ⟨B, O0, O1, ρ1, _, _, k1, q1, fun y dy H2 s2 r2 q2 => ?_, fun c H' s' z => hR c H' σ ρ1 O1 (k1.ext s') z⟩, hR⟩
    refine ab O1 H2 x y dx dy _ _ ((k1.ext s2).al) (Rep.mono (wo_same O1 s2) dx r1) r2 q2 fun v d H' s' r p => ?_
    cases d with
    | bl t => exact ⟨t, r, hP t H' ρ1 O1 ((k1.ext s2).ext s') p⟩
    | _ => exact p.elim
/-- name = [e], e stateful -/
def dOwnM (i : Nat) (p : DEM) : DS := fun ρ N _ Z => p ρ (fun d ρ' => N (ρ'.set i (some (.own [d])))) (fun c _ => Z c)
theorem sd_ownM {i : Nat} {x : Str} {p : DEM} {pos' lpos : Pos} (hN : X.N.Nodup) (hi : X.N[i]? = some x) (hx : Loc X.env.scope x) (he : PE X a (liftM X.K C E p)) (hs : swapsWith (.List [a] lpos) (some (.Name x pos')) pos.line X.env = pure false := by rfl) (hf : X.fn x = true ∨ X.env.scope.names.lookup x = some .local := by first | exact .inl rfl | exact .inr rfl | assumption)
    (hst : starEach [a] X.env = (false, eval a X.env) :: starEach [] X.env := by rfl) :
    PS X (.Assign [.Name x pos'] (.List [a] lpos) pos) (liftS X.K C E (dOwnM i p)) := (ps_set hN hi hx (pe_lst (pa_cons he pa_nil hst)) hs hf).wk fun D σ H q => by
  obtain ⟨B, O0, O, ρ, N, R, Z, k, q, hN, hR, hZ⟩ := q
  refine ⟨B, O0, O, ρ, _, _, k, q, fun v d H' ρ' O' k' r p => ?_, fun c H' σ' ρ' O' k' z => hZ c H' k'.base z⟩
  exact ⟨by show 1 ≤ sizeLine; rw [sizeLine_eq]; omega, fun l hl => hN (σ.set i (some (.ref l))) _ _ (l :: O') (k'.setOwn hl (RepL.one r)) p⟩
end
/-! ### a def that changes a table of code objects, and returns a flat thing -/
structure FunC (K : PySem.W.Frag) (x qual : Str) (st : Stmt) (f : Addr) (fd : FuncData) (c : Addr) : Prop where
  ex : ∃ (oc : Value) (od : Option Addr) (kV doc pm : Value) (an : Option Addr) (ct : Value) (osl : Array (Option Value)), fd = PySem.W.fnOf x qual (defArgs st) (defBody st) (defScope st) .none kV doc pm an (.ref c) ct ∧ K.lookup f = some ⟨oc, od, .func fd, osl⟩ ∧ PySem.W.codeIn K (.ref c) qual = true
theorem funC_mk {K : PySem.W.Frag} {x qual : Str} {st : Stmt} {f c : Addr} {oc : Value} {od an : Option Addr} {osl : Array (Option Value)} {kV doc pm ct : Value} (l : K.lookup f = some ⟨oc, od, .func (PySem.W.fnOf x qual (defArgs st) (defBody st) (defScope st) .none kV doc pm an (.ref c) ct), osl⟩)
    (h : PySem.W.codeIn K (.ref c) qual = true) : FunC K x qual st f (PySem.W.fnOf x qual (defArgs st) (defBody st) (defScope st) .none kV doc pm an (.ref c) ct) c := ⟨⟨oc, od, kV, doc, pm, an, ct, osl, rfl, l, h⟩⟩
abbrev DBp := List D → (D → Prop) → Prop
def spB (K : PySem.W.Frag) (C tP : Addr) (nm : Str) (t : DBp) : Sp := fun vs H Q _ => ∃ O ds P, tP ∈ O ∧ Al O H ∧ RepL K C (wo H O) ds vs ∧ TabS H tP nm ∧ t ds P ∧ ∀ v d H', ExtP tP H H' → TabS H' tP nm → flatD d = true → Rep K C H' d v → P d → Q v H'
def startB (N : List Str) (j : Nat) (tP : Addr) (nm : Str) (ds : List D) : Env := (startE N ds).set j (some (.tb tP nm))
section
variable {K : PySem.W.Frag} {C : Addr} {B H H' : Hp} {O0 O : List Addr} {σ : St} {ρ : Env}
/-- a slot comes to tell of a table of code objects -/
theorem Ok.tellB (k : Ok K C B O0 O H σ ρ) (j : Nat) {tP : Addr} {nm : Str} (hp : tP ∈ O) (hb : B tP = none) (ht : TabS H tP nm) (hn : ∀ (i : Nat) (q : Str), ρ[i]? ≠ some (some (.tb tP q))) : Ok K C B O0 O H σ (ρ.set j (some (.tb tP nm))) := by
  have old : ∀ {i : Nat} {x : DV}, (ρ.set j (some (.tb tP nm)))[i]? = some (some x) → x = .tb tP nm ∨ ρ[i]? = some (some x) := fun {i x} e => by
    by_cases h : j = i
    · subst h
      by_cases hl : j < ρ.length
      · rw [List.getElem?_set_self hl] at e
        exact .inl (Option.some.inj (Option.some.inj e)).symm
      · rw [List.getElem?_eq_none (by rw [List.length_set]; omega)] at e
        cases e
    · rw [List.getElem?_set_ne h] at e
      exact .inr e
  have own : ∀ {i : Nat} {ds : List D}, (ρ.set j (some (.tb tP nm)))[i]? = some (some (.own ds)) → ρ[i]? = some (some (.own ds)) := fun {i ds} e => (old e).elim (fun z => nomatch z) id
  refine ⟨k.base, k.al0, k.al, k.sub0, k.new, by rw [List.length_set]; exact k.len, fun i d e => ?_, fun i ds e => k.own i ds (own e), fun a a' ds es e1 e2 e3 => k.uniq a a' ds es (own e1) (own e2) e3, k.st.to (set_kst fun _ _ _ h => by cases h) (fun _ _ _ h _ => h) (fun _ _ _ _ _ e _ => e) (Same.refl _) (fun _ _ h => h),
    k.ls.to (set_ls fun _ _ h => by cases h) (fun _ _ _ _ _ _ h => h) (fun _ _ _ _ _ _ _ e => e) (Same.refl _) (fun _ _ h => h) fun a b' q ds' es e e' => k.ls.no a b' q ds' es e (own e'), ⟨fun i p q e => ?_, fun i i' p q q' e e' => ?_⟩⟩
  · rcases old e with z | e
    · cases z
    · exact k.val i d e
  · rcases old e with z | e
    · cases z
      exact ⟨hp, hb, ht⟩
    · exact k.tb.at_ i p q e
  · rcases old e with z | e
    · cases z
      rcases old e' with z | e'
      · cases z
        rfl
      · exact absurd e' (hn _ _)
    · rcases old e' with z | e'
      · cases z
        exact absurd e (hn _ _)
      · exact k.tb.one i i' p q q' e e'
end
section
variable {P : Program} {w : World} {K : PySem.W.Frag} {mg : Str → Option Value} {base : Heap} {C cM tP : Addr} {nm : Str}
theorem startE_v {N : List Str} {ds : List D} {i : Nat} {x : DV} (e : (startE N ds)[i]? = some (some x)) : ∃ d, x = .v d := by
  unfold startE at e
  rw [List.getElem?_append] at e
  split at e
  · rw [List.getElem?_map] at e
    cases h : ds[i]? with
    | none => rw [h] at e; cases e
    | some d =>
      rw [h] at e
      exact ⟨d, by simpa using e.symm⟩
  · rw [List.getElem?_replicate] at e
    split at e
    · simp at e
    · cases e
theorem startB_ok {H : Hp} {O : List Addr} {ds : List D} {vs : List V} (hp : tP ∈ O) (al : Al O H) (r : RepL K C (wo H O) ds vs) (ht : TabS H tP nm) (N : List Str) (j : Nat) : Ok K C (wo H [tP]) (less1 O tP) O H (start N vs) (startB N j tP nm ds) := by
  have k := start_ok al r N
  have hb : wo H [tP] tP = none := by unfold wo; rw [if_pos (by simp)]
  have nov : ∀ {i : Nat} {x : DV}, (startE N ds)[i]? = some (some x) → (∀ d, x ≠ .v d) → False := fun e n => by
    obtain ⟨d, z⟩ := startE_v e
    exact n d z
  have k1 : Ok K C (wo H [tP]) (less1 O tP) O H (start N vs) (startE N ds) := by
    refine ⟨wo_le H _, fun a ha e => ?_, al, fun a ha => less1_sub ha, fun a ha n => ?_, k.len, k.val, fun i es e => (nov e fun d z => nomatch z).elim, k.uniq, ⟨fun i q c cs e => (nov e fun d z => nomatch z).elim, fun i i' q b1 b2 t1 t2 e1 e2 => (nov e1 fun d z => nomatch z).elim⟩,
      ⟨fun i q c e => (nov e fun d z => nomatch z).elim, fun i i' q a1 a2 e e' => (nov e fun d z => nomatch z).elim, fun i i' q a1 a2 e e' => (nov e fun d z => nomatch z).elim⟩, ⟨fun i p q e => (nov e fun d z => nomatch z).elim, fun i i' p q q' e e' => (nov e fun d z => nomatch z).elim⟩⟩
    · have n : a ≠ tP := fun z => less1_ne (z ▸ ha)
      unfold wo at e
      rw [if_neg (by simpa using n)] at e
      exact al a (less1_sub ha) e
    · by_cases z : a = tP
      · rw [z]; exact hb
      · exact absurd (less1_mem ha z) n
  exact k1.tellB j hp hb ht fun i q e => nov e fun d z => nomatch z
theorem base_ext {H H' : Hp} {tP : Addr} (s : Same (wo H [tP]) H') : ExtP tP H H' := fun b u n e => s b u (wo_of e (by simpa using n))
theorem fnB {x qual : Str} {st : Stmt} {f : Addr} {fd : FuncData} {N ps : List Str} {k : Nat} {t : DBp} {p : DSM} (j : Nat) (F : FunC K x qual st f fd cM) (S : FnScope N ps (defScope st))
    (body : ∀ (A : Around) (outer : List PySem.Env) (s : Shared) (H : Hp) (E : XK), Room k (A.deeper (envOfC qual (defScope st) s.heap.objs.size f (.ref cM))) → PSs (cxD P w K mg base N qual (defScope st) f (.ref cM) A outer s H E) (defBody st) (liftSM K C E p))
    (h : ∀ (ds : List D) (T : D → Prop), t ds T → ds.length = ps.length ∧ p (startB N j tP nm ds) (fun _ => False) (fun d ρ' => ρ'[j]? = some (some (.tb tP nm)) ∧ flatD d = true ∧ T d) (fun _ _ => False)) : FnOk P w K mg base (L2.CX P w) (k + 1) f fd ps (spB K C tP nm t) := by
  obtain ⟨oc, od, kV, doc, pm, an, ct, osl, rfl, lk, hcd⟩ := F.ex
  refine fn_of lk hcd S (fun vs H Q E q => ?_) fun A outer s H vs Q E hr q => ⟨_, body A outer s H E hr, ?_⟩
  · obtain ⟨O, ds, T, hp, al, r, ht, q, _⟩ := q
    rw [RepL.length r]
    exact (h ds T q).1
  · obtain ⟨O, ds, T, hp, al, r, ht, q, hT⟩ := q
    refine ⟨_, _, O, _, _, _, _, startB_ok hp al r ht N j, (h ds T q).2, fun _ _ _ _ _ z => z.elim, fun v d H' σ' ρ' O' k' r n => ?_, fun _ _ _ _ _ _ z => z.elim⟩
    obtain ⟨_, _, t1⟩ := k'.tb.at_ j tP nm n.1
    exact hT v d H' (base_ext k'.base) t1 n.2.1 (rep_flat n.2.1 r) n.2.2
/-- the law, itself a maker of lambdas, or a caller of one -/
def spLB (K : PySem.W.Frag) (C tP : Addr) (nm : Str) (t : DBp) : Sp := fun vs H Q _ => ∃ O ds P, tP ∈ O ∧ Al O H ∧ RepL K C (wo H O) ds vs ∧ TabS H tP nm ∧ t ds P ∧ ∀ v d H', Rep K C H' d v → P d → Q v H'
theorem fnLC {x qual : Str} {st : Stmt} {f : Addr} {fd : FuncData} {N ps : List Str} {k : Nat} {t : DBp} {p : DS} (j : Nat) (F : FunC K x qual st f fd cM) (S : FnScope N ps (defScope st))
    (body : ∀ (A : Around) (outer : List PySem.Env) (s : Shared) (H : Hp) (E : XK), Room k (A.deeper (envOfC qual (defScope st) s.heap.objs.size f (.ref cM))) → PSs (cxD P w K mg base N qual (defScope st) f (.ref cM) A outer s H E) (defBody st) (liftS K C E p))
    (h : ∀ (ds : List D) (T : D → Prop), t ds T → ds.length = ps.length ∧ p (startB N j tP nm ds) (fun _ => False) T (fun _ => False)) : FnOk P w K mg base (L2.CX P w) (k + 1) f fd ps (spLB K C tP nm t) := by
  obtain ⟨oc, od, kV, doc, pm, an, ct, osl, rfl, lk, hcd⟩ := F.ex
  refine fn_of lk hcd S (fun vs H Q E q => ?_) fun A outer s H vs Q E hr q => ⟨_, body A outer s H E hr, ?_⟩
  · obtain ⟨O, ds, T, hp, al, r, ht, q, _⟩ := q
    rw [RepL.length r]
    exact (h ds T q).1
  · obtain ⟨O, ds, T, hp, al, r, ht, q, hT⟩ := q
    exact ⟨_, _, O, _, _, _, _, startB_ok hp al r ht N j, (h ds T q).2, fun _ _ _ _ _ z => z.elim, fun v d H' _ r n => hT v d H' (Rep.mono (wo_le H' _) d r) n, fun _ _ _ z => z.elim⟩
theorem fnL {x qual : Str} {st : Stmt} {f : Addr} {fd : FuncData} {N ps : List Str} {k : Nat} {t : DBp} {p : DS} (j : Nat) (F : Fun K x qual st f fd) (S : FnScope N ps (defScope st))
    (body : ∀ (cdv : Value) (A : Around) (outer : List PySem.Env) (s : Shared) (H : Hp) (E : XK), Room k (A.deeper (envOfC qual (defScope st) s.heap.objs.size f cdv)) → PSs (cxD P w K mg base N qual (defScope st) f cdv A outer s H E) (defBody st) (liftS K C E p))
    (h : ∀ (ds : List D) (T : D → Prop), t ds T → ds.length = ps.length ∧ p (startB N j tP nm ds) (fun _ => False) T (fun _ => False)) : FnOk P w K mg base (L2.CX P w) (k + 1) f fd ps (spLB K C tP nm t) := by
  refine F.okX S (fun vs H Q E q => ?_) (fun cdv A outer s H vs Q E hr q => ⟨_, body cdv A outer s H E hr, ?_⟩)
  · obtain ⟨O, ds, T, hp, al, r, ht, q, _⟩ := q
    rw [RepL.length r]
    exact (h ds T q).1
  · obtain ⟨O, ds, T, hp, al, r, ht, q, hT⟩ := q
    exact ⟨_, _, O, _, _, _, _, startB_ok hp al r ht N j, (h ds T q).2, fun _ _ _ _ _ z => z.elim, fun v d H' _ r n => hT v d H' (Rep.mono (wo_le H' _) d r) n, fun _ _ _ z => z.elim⟩
structure Fb (P : Program) (w : World) (K : PySem.W.Frag) (mg : Str → Option Value) (base : Heap) (C tP : Addr) (nm : Str) (k : Nat) (name : Str) (t : DBp) : Prop where
  ex : ∃ (f : Addr) (fd : FuncData) (ps : List Str), FnOk P w K mg base (L2.CX P w) k f fd ps (spB K C tP nm t) ∧ mg name = some (.ref f) ∧ PySem.W.keepIn K (.ref f) = true ∧ Binds K fd ps []
end
/-- f(..), f a def that changes the table -/
def dCallB (tP : Addr) (nm : Str) (t : DBp) (q : DA) : DEM := fun ρ P R => q ρ (fun ds => (∃ j : Nat, ρ[j]? = some (some (.tb tP nm))) ∧ ∃ es os, LendL ρ ds es os ∧ t es (fun d => P d ρ)) (fun c => R c ρ)
theorem pm_fB {X : Cx} {C tP : Addr} {E : XK} {nm : Str} {a : Expr} {es : List Expr} {p pos : Pos} {k : Nat} {x : Str} {t : DBp} {q : DA} (F : Fb X.prog X.w X.K X.mg X.base C tP nm k x t) (hr : Room k X.A) (hg : Gl X x) (hx : Passes (L2.CX X.prog X.w) X E) (ha : PA X (a :: es) (liftA X.K C E q))
    (hdb : (x == ("__debug__" : Str)) = false := by decide) (he : starEach (a :: es) X.env = (false, eval a X.env) :: starEach es X.env := by rfl) (hpl : (backTo pos (starEach es X.env)).any (·.1) = false := by rfl) :
    PE X (.Call (.Name x p) (a :: es) [] pos) (liftM X.K C E (dCallB tP nm t q)) := by
  obtain ⟨f, fd, ps, G, hm, hk, hb⟩ := F.ex
  refine (pe_call G hr hg hm hk hb .nil hx ha hdb he hpl).wk fun σ H Q h => ?_
  obtain ⟨B, O0, O, ρ, P, R, k, h, hP, hR⟩ := h
  refine ⟨B, O0, O, ρ, _, _, k, h, fun vs ds H1 s1 r1 h1 => ?_, fun c H' s' z => hR c H' σ ρ O (k.ext s') z⟩
  obtain ⟨⟨j, hj⟩, es', os, hL, h1⟩ := h1
  have k1 := k.ext s1
  obtain ⟨hp, hpB, hT⟩ := k1.tb.at_ j tP nm hj
  show spB X.K C tP nm t (vs ++ []) H1 Q E
  rw [List.append_nil]
  have hn : tP ∉ os := fun z => by
    obtain ⟨dx, b, l, e⟩ := hL.at k1 tP z
    obtain ⟨ps', e', _⟩ := hT
    rw [e'] at e
    cases e
  refine ⟨lessL O os, es', _, lessL_mem hp hn, fun c hc => k1.al c (lessL_sub hc), hL.rep k1 os (fun _ h => h) r1, hT, h1, fun v d H' x1 t1 fl r p => ?_⟩
  exact hP v d H' ρ O (k1.extP hj x1 t1) (rep_flat fl r) p
end L2.DL
/-! # The refusals' classes, the words for them; the end of a law with a table -/
namespace L2.DL
open PySem PySem.Spec PyProof.Rows LamX
inductive Kc where
  | num | str | kee | tex | such
deriving DecidableEq
def eaOf (bn bs bk bt ns : Addr) : Kc → Addr
  | .num => bn | .str => bs | .kee => bk | .tex => bt | .such => ns
def wd : Kc → Str
  | .num => "number" | .str => "stretch" | .kee => "keeper" | .tex => "text" | .such => "such"
structure Ecs (K : PySem.W.Frag) (mg : Str → Option Value) (KE : Addr) (ea : Kc → Addr) : Prop where
  num : mg "BadNumber" = some (.ref (ea .num))
  str : mg "BadStretch" = some (.ref (ea .str))
  kee : mg "BadKeeper" = some (.ref (ea .kee))
  tex : mg "BadText" = some (.ref (ea .tex))
  such : mg "NoSuch" = some (.ref (ea .such))
  ve : mg "ValueError" = none
  exc : ∀ k, ExcC K (ea k)
  kit : ∀ k k', PySem.W.kitOne K (.ref (ea k)) (.ref (ea k')) = some (decide (k = k'))
  val : ∀ k, PySem.W.kitOne K (.ref (ea k)) (.type "ValueError") = some true
  exm : ∀ k, PySem.W.exmOne K (.ref (ea k)) (.ref KE) = some true
theorem bt_ValueError : bootBuiltins "ValueError" = some (.type "ValueError") := by decide +kernel
/-- what the words' def promises -/
def dp_word (ea : Kc → Addr) : DP := fun ds P _ => (ds = [.non] ∧ P (.lst [.str "done"])) ∨ ∃ k, ds = [.exc (ea k)] ∧ P (.lst [.str (wd k)])
/-- isinstance of a refusal, by kind -/
theorem isE_k {K : PySem.W.Frag} {mg : Str → Option Value} {KE : Addr} {ea : Kc → Addr} (EC : Ecs K mg KE ea) {k k' : Kc} {P : D → Prop} (h : P (.bl (decide (k = k')))) : ∃ c b, D.exc (ea k) = .exc c ∧ ExcC K c ∧ kitD K c (.adr (ea k')) = some b ∧ P (.bl b) := ⟨_, _, rfl, EC.exc k, EC.kit k k', h⟩
theorem isE_v {K : PySem.W.Frag} {mg : Str → Option Value} {KE : Addr} {ea : Kc → Addr} (EC : Ecs K mg KE ea) {k : Kc} {P : D → Prop} (h : P (.bl true)) : ∃ c b, D.exc (ea k) = .exc c ∧ ExcC K c ∧ kitD K c (.ty "ValueError") = some b ∧ P (.bl b) := ⟨_, _, rfl, EC.exc k, EC.val k, h⟩
section
variable {X : Cx} {C : Addr} {E : XK}
/-- from here on the list in slot i is a value -/
def dFrzM (i : Nat) (p : DSM) : DSM := fun ρ N R Z => ∃ ds, ρ[i]? = some (some (.own ds)) ∧ p (ρ.set i (some (.v (.lst ds)))) N R Z
theorem sm_frz {st : List Stmt} {p : DSM} (i : Nat) (h : PSs X st (liftSM X.K C E p)) : PSs X st (liftSM X.K C E (dFrzM i p)) := h.wk fun T σ H q => by
  obtain ⟨B, O0, O, ρ, N, R, Z, k, ⟨ds, e, q⟩, r⟩ := q
  obtain ⟨O', k'⟩ := k.freeze e
  exact ⟨B, O0, O', _, N, R, Z, k', q, r⟩
end
def lamQ (q : Str) : Str := (q ++ ".<locals>.") ++ "<lambda>"
theorem atI_3 {α : Type} (x y z u : α) (xs : List α) : atI (x :: y :: z :: u :: xs) 3 = some u := atI_nat (i := 3) rfl
theorem lend_nil {ρ : Env} : LendL ρ [] [] [] := ⟨rfl, rfl⟩
theorem lend_val {ρ : Env} {d : D} {ds es : List D} {os : List Addr} (h : LendL ρ ds es os) : LendL ρ (d :: ds) (d :: es) os := ⟨d, es, os, rfl, h, .inl ⟨rfl, rfl⟩⟩
theorem lend_kp {ρ : Env} {p : Addr} {b : Bool} {ts : List Int} {ds es : List D} {os : List Addr} (j : Nat) (hj : ρ[j]? = some (some (.kst p b ts))) (h : LendL ρ ds es os) : LendL ρ (.adr p :: ds) (.kp b ts :: es) (p :: os) := ⟨.kp b ts, es, os, rfl, h, .inr ⟨j, p, b, ts, rfl, hj, rfl, rfl⟩⟩
theorem okE_wd (k : Kc) : okE (.lst [.str (wd k)]) := by
  cases k <;> (unfold okE; decide +kernel)
theorem okE_done : okE (.lst [.str "done"]) := by
  unfold okE
  decide +kernel
theorem free_int (i : Int) : (D.int i).free := by simp [D.free]
/-- what is looked up of one class of refusals -/
structure Xf (K : PySem.W.Frag) (v KE : Addr) : Prop where
  hg : PySem.W.findIn K (.ref v) "__getattribute__" = some (some (.builtin "BaseException.__getattribute__"))
  hk : PySem.W.findIn K (.ref v) "__getattr__" = some none
  hs : PySem.W.subIn K (.ref v) (.type "BaseException") = some true
  hd : PySem.W.hasDictIn K v = true
  ha : PySem.W.findIn K (.ref v) "__class__" = some (some (.builtin "object.__class__"))
  hm : PySem.W.mroIn K v (.type "object") = some true
  cls : PySem.W.isClsIn K v = true
  ty : PySem.W.typeIn K (.ref v) = some (.type "type")
  val : PySem.W.subIn K (.ref v) (.type "ValueError") = some true
  ke : PySem.W.subIn K (.ref v) (.ref KE) = some true
  self : PySem.W.subIn K (.ref v) (.ref v) = some true
theorem kit_of {K : PySem.W.Frag} {v v' KE : Addr} {b : Bool} (x : Xf K v KE) (y : Xf K v' KE) (h : PySem.W.subIn K (.ref v) (.ref v') = some b) : PySem.W.kitOne K (.ref v) (.ref v') = some b := by
  unfold PySem.W.kitOne
  by_cases e : (Value.ref v == Value.ref v') = true
  · have z : v = v' := Value.ref.inj (beq_iff_eq.mp e)
    subst z
    rw [if_pos e, ← h, x.self]
  · rw [if_neg e]
    exact kitCls_sub y.cls y.ty h
theorem kit_val {K : PySem.W.Frag} {v KE : Addr} (x : Xf K v KE) : PySem.W.kitOne K (.ref v) (.type "ValueError") = some true := by
  unfold PySem.W.kitOne
  rw [if_neg (by intro z; exact nomatch (beq_iff_eq.mp z : Value.ref v = Value.type "ValueError"))]
  show (if PySem.W.kitMeta "ValueError" = true then _ else none) = _
  rw [if_pos (by decide +kernel)]
  exact x.val
structure KEf (K : PySem.W.Frag) (KE : Addr) : Prop where
  h1 : PySem.W.subIn K (.ref KE) (.type "BaseException") = some true
  hd : PySem.W.hasDictIn K KE = true
  ty : PySem.W.typeIn K (.ref KE) = some (.type "type")
theorem ecs_mk {K : PySem.W.Frag} {mg : Str → Option Value} {KE bn bs bk bt ns : Addr} (hn : PySem.W.specialIn K (.builtin "object.__class__") "__get__" = some (some (.builtin "getset_descriptor.__get__"))) (ht : PySem.W.takesIn K (.builtin "object.__class__") = some true) (k : KEf K KE)
    (xn : Xf K bn KE) (xs : Xf K bs KE) (xk : Xf K bk KE) (xt : Xf K bt KE) (xu : Xf K ns KE) (gn : mg "BadNumber" = some (.ref bn)) (gs : mg "BadStretch" = some (.ref bs)) (gk : mg "BadKeeper" = some (.ref bk)) (gt : mg "BadText" = some (.ref bt)) (gu : mg "NoSuch" = some (.ref ns)) (ve : mg "ValueError" = none)
    (h : ∀ k k', PySem.W.subIn K (.ref (eaOf bn bs bk bt ns k)) (.ref (eaOf bn bs bk bt ns k')) = some (decide (k = k'))) : Ecs K mg KE (eaOf bn bs bk bt ns) := by
  have X : ∀ k, Xf K (eaOf bn bs bk bt ns k) KE := fun k => by
    cases k
    · exact xn
    · exact xs
    · exact xk
    · exact xt
    · exact xu
  exact ⟨gn, gs, gk, gt, gu, ve, fun k => ⟨(X k).hg, (X k).hk, (X k).hs, (X k).hd, (X k).ha, hn, ht, (X k).hm⟩, fun a b => kit_of (X a) (X b) (h a b), fun k => kit_val (X k), fun k' => PySem.W.exm_ref k.h1 k.hd k.ty (X k').ke⟩
section
variable {X : Cx} {C : Addr} {E : XK} {pos : Pos}
/-- a statement that isn't come to -/
def dNever : DS := fun _ _ _ _ => False
theorem sd_never {st : Stmt} : PS X st (liftS X.K C E dNever) := ⟨fun _ _ _ _ _ _ q => by
  obtain ⟨_, _, _, _, _, _, _, _, q, _⟩ := q
  exact q.elim⟩
/-- {} -/
theorem pd_dic0 : PE X (.Dict [] [] pos) (lift X.K C E (dC (.dic [] []))) := pe_dnewK.wk fun σ H Q q => by
  obtain ⟨B, O0, O, ρ, P, R, k, q, hP, hR⟩ := q
  exact fun p hp => hP (.ref p) (.dic [] []) _ (Same.new hp) ⟨p, [], rfl, wo_of upd_same (k.al.new hp), rfl, rfl⟩ q
end
/-! ### the end -/
def dp_lawB : DBp := fun ds P => ∃ ns : List Int, ds = [.scr ns] ∧ ns.length ≤ 63 ∧ P (.bl true)
theorem lawB_sp {K : PySem.W.Frag} {C tP a : Addr} {nm : Str} {H : Hp} {ns : List Int} (hT : H tP = some (.tbl #[])) (hS : SqL K H a (ns.map V.int)) (hl : ns.length ≤ 63) : spLB K C tP nm dp_lawB [.ref a] H (fun v _ => v = .bl true) fun _ _ _ => False := by
  refine ⟨[tP], [.scr ns], fun d => d = .bl true, by simp, fun b hb e => ?_, ⟨.ref a, [], rfl, ⟨a, rfl, ?_⟩, rfl⟩, TabS.nil hT, ⟨ns, rfl, hl, rfl⟩, fun v d H' r p => ?_⟩
  · have : b = tP := by simpa using hb
    rw [this, hT] at e
    cases e
  · rcases hS with (h | ⟨o, h⟩) | h
    · exact .inl (.inl (wo_of h (by
        intro z
        have : a = tP := by simpa using z
        rw [this, hT] at h
        cases h)))
    · exact .inl (.inr ⟨o, wo_of h (by
        intro z
        have : a = tP := by simpa using z
        rw [this, hT] at h
        cases h)⟩)
    · exact .inr h
  · subst p
    exact r
theorem lawAt_mk {l : PySem.W.OpenLaw} {w : World} {K : PySem.W.Frag} {k : Nat} {x nm : Str} {mg : Str → Option Value} {fa C cM tP : Addr} {h : Heap} {ec : Value} {dc : Option Addr} {vs : Array Value} {slc : Array (Option Value)} (KX : K.In h) (lc : K.lookup cM = some ⟨ec, dc, .fields vs, slc⟩) (h11 : vs[11]? = some (.ref tP)) (hT : h.get? tP = some { cls := .none, data := .fields #[] }) (nT : K.lookup tP = none) (hC : PySem.W.codeHdIn K cM tP = true)
    (F : ∃ fd : FuncData, (∀ (s : Shared) (u : Value), BindsTo s fd ⟨[u], []⟩ [(x, u)]) ∧ ∀ base : Heap, K.In base → base.Ns mainGlobals mg → TabB base mg cM tP → FnOk l.prog w K mg base (L2.CX l.prog w) k fa fd [x] (spLB K C tP nm dp_lawB)) :
    LawAtS l w K (L2.CX l.prog w) k 63 x mg fa h := by
  obtain ⟨fd, hb, hF⟩ := F
  refine ⟨fd, [(cM, tP)], _, fun p hp => ?_, fun p hp => ?_, fun p hp => ?_, hb, fun H a ns hl _ hcs hS => lawB_sp (hcs (cM, tP) (by simp)) hS hl, fun base h1 h2 h3 => hF base h1 h2 (h3 (cM, tP) (by simp))⟩
  all_goals
    obtain rfl : p = (cM, tP) := by simpa using hp
  · exact hT
  · exact nT
  · exact PySem.W.codeHd_of_K KX hC
end L2.DL
/-! # What is refused (promises) -/
namespace L2.DL
open PySem PySem.Spec PyProof.Rows L2.SK
def dp_bad1 (bs : Addr) : DP := fun ds _ R => ∃ (b : Bool) (ts : List Int) (d : D), ds = [.kp b ts, d] ∧ okThing d ∧ isStr d = false ∧ R bs
def dp_badn (bn : Addr) : DP := fun ds _ R => ∃ (b : Bool) (ts : List Int) (d : D), ds = [.kp b ts, d] ∧ (tyD d).isSome = true ∧ isNum d = false ∧ R bn
def dp_badk (bk : Addr) : DP := fun ds _ R => ∃ (b : Bool) (ts : List Int) (d : D), ds = [.kp b ts, d] ∧ (tyD d).isSome = true ∧ R bk
def dp_badt (bk : Addr) : DP := fun ds _ R => ∃ d : D, ds = [d] ∧ (tyD d).isSome = true ∧ R bk
def dp_bads : DP := fun ds P _ => ∃ (s : Str2) (m : Int), ds = [sD s, .int m] ∧ 0 ≤ m ∧ ∀ d, okThing d → isStr d = false → P d
def dB_refused9 : DBp := fun ds P => ∃ (r : KRow) (c k : Int), ds = [kpD r, .int c, .int k] ∧ r.ts.length ≤ 1000 ∧ P (.bl true)
theorem atI_mem {α : Type} {xs : List α} {i : Int} (h0 : 0 ≤ i) (h1 : i < xs.length) : ∃ d ∈ xs, atI xs i = some d := by
  have hn : i.toNat < xs.length := by omega
  have e := atI_nat (i := i.toNat) (List.getElem?_eq_getElem hn)
  rw [Int.toNat_of_nonneg h0] at e
  exact ⟨_, List.getElem_mem hn, e⟩
theorem oi_ty (o : Option Int) : (tyD (oi o)).isSome = true := by cases o <;> rfl
theorem cut_one (x y : D) : cutD [x, y] none (some 1) = [x] := by
  unfold cutD
  rw [HT.sIx_none]
  show List.take _ _ = _
  simp [HT.sIx]
theorem okT {ds : List D} (h : ∀ e ∈ ds, (tyD e).isSome = true) : okThing (.tup ds) := ⟨rfl, fun es z => by cases z; exact h⟩
theorem okO {d : D} (h : (tyD d).isSome = true) (n : ∀ ds, d ≠ .tup ds) : okThing d := ⟨h, fun es z => absurd z (n es)⟩
theorem bad_all {s : Str2} {d d1 : D} (hd : (tyD d).isSome = true) (hn : isEnd d = false) (h : d1 ∈ [D.lst [oi s.1, oi s.2], D.tup (cutD [oi s.1, oi s.2] none (some 1)), D.tup [oi s.1, oi s.2, D.int 0], D.tup [d, oi s.2], D.tup [oi s.1, d], D.tup [D.int 5, D.int 4], D.non, D.str (Str.ofString ".."), D.int 5, D.tup []]) : okThing d1 ∧ isStr d1 = false := by
  rw [cut_one] at h
  simp only [List.mem_cons, List.not_mem_nil, or_false] at h
  have o1 := oi_ty s.1
  have o2 := oi_ty s.2
  rcases h with rfl | rfl | rfl | rfl | rfl | rfl | rfl | rfl | rfl | rfl
  · exact ⟨okO rfl (fun _ z => nomatch z), rfl⟩
  · exact ⟨okT fun e he => by simp only [List.mem_cons, List.not_mem_nil, or_false] at he; rw [he]; exact o1, rfl⟩
  · exact ⟨okT fun e he => by
      simp only [List.mem_cons, List.not_mem_nil, or_false] at he
      rcases he with rfl | rfl | rfl
      · exact o1
      · exact o2
      · rfl, rfl⟩
  · exact ⟨okT fun e he => by
      simp only [List.mem_cons, List.not_mem_nil, or_false] at he
      rcases he with rfl | rfl
      · exact hd
      · exact o2, by show (isEnd d && _ && _) = false; rw [hn]; rfl⟩
  · exact ⟨okT fun e he => by
      simp only [List.mem_cons, List.not_mem_nil, or_false] at he
      rcases he with rfl | rfl
      · exact o1
      · exact hd, by show (isEnd (oi s.1) && isEnd d && _) = false; rw [hn, Bool.and_false]; rfl⟩
  · exact ⟨okT fun e he => by
      simp only [List.mem_cons, List.not_mem_nil, or_false] at he
      rcases he with rfl | rfl <;> rfl, rfl⟩
  · exact ⟨okO rfl (fun _ z => nomatch z), rfl⟩
  · exact ⟨okO rfl (fun _ z => nomatch z), rfl⟩
  · exact ⟨okO rfl (fun _ z => nomatch z), rfl⟩
  · exact ⟨okT fun e he => by simp at he, rfl⟩
/-! ### steps of a def that keeps refusals, the rest untouched -/
section
variable {K : PySem.W.Frag} {mg : Str → Option Value} {KE tP : Addr} {nm : Str} {ea : Kc → Addr} {ρ : Env} {N : Env → Prop} {R : D → Env → Prop} {Z : Addr → Env → Prop} {i : Nat} {pb : DE} {q : DSM}
theorem set_step {p : DE} (good : D → Prop) (hp : ∀ P' : D → Prop, (∀ d, good d → P' d) → p ρ P' (fun _ => False)) (hq : ∀ d, good d → q (ρ.set i (some (.v d))) N R Z) : dSeqM (dOfS (dSet i p)) q ρ N R Z := hp _ hq
theorem set_stepO {p : DE} {j : Nat} {x : Option DV} (hne : i ≠ j) (good : D → Prop) (hp : ∀ P' : D → Prop, (∀ d, good d → P' d) → p (ρ.set i x) P' (fun _ => False)) (hq : ∀ d, good d → q ((ρ.set j (some (.v d))).set i x) N R Z) : dSeqM (dOfS (dSet j p)) q (ρ.set i x) N R Z := hp _ fun d g => by
  have h := hq d g
  rw [List.set_comm _ _ hne.symm] at h
  exact h
theorem own_step (EC : Ecs K mg KE ea) (k : Kc) (hj : ∃ j : Nat, ρ[j]? = some (some (.tb tP nm))) (hpb : ∀ (P' : D → Prop) (R' : Addr → Prop), R' (ea k) → pb ρ P' R') (hq : q (ρ.set i (some (.own [.lst [.str (wd k)]]))) N R Z) : dSeqM (dOfS (dOwnM i (dCallM (dp_word ea) (dKept K tP KE nm pb)))) q ρ N R Z :=
  ⟨hj, hpb _ _ ⟨EC.exm k, .inr ⟨k, rfl, hq⟩⟩⟩
theorem app_step (EC : Ecs K mg KE ea) (k : Kc) {ds : List D} (hi : i < ρ.length) (hl : ds.length < 1000) (hj : ∃ j : Nat, (ρ.set i (some (.own ds)))[j]? = some (some (.tb tP nm))) (hpb : ∀ (P' : D → Prop) (R' : Addr → Prop), R' (ea k) → pb (ρ.set i (some (.own ds))) P' R') (hq : q (ρ.set i (some (.own (ds ++ [.lst [.str (wd k)]])))) N R Z) :
    dSeqM (dOfS (dAppM i (dCallM (dp_word ea) (dKept K tP KE nm pb)))) q (ρ.set i (some (.own ds))) N R Z :=
  ⟨ds, List.getElem?_set_self hi, hj, hpb _ _ ⟨EC.exm k, .inr ⟨k, rfl, List.getElem?_set_self hi, by rw [sizeLine_eq]; omega, by rw [List.set_set]; exact hq⟩⟩⟩
end
end L2.DL
/-! # max, min of a list of ints, with a default; x or y by truth -/
namespace L2.DL
open PySem PySem.Spec PyProof.Rows
/-- all but S and the walker's own stays -/
def KeepE (wr : List Addr) (S : Addr) (h h' : Heap) : Prop := ∀ b o, b ∉ wr → b ≠ S → h.get? b = some o → h'.get? b = some o
section
variable {prog : Program} {w : World} {A : Around} {R : Result → Shared → Prop} {I : Addr} {fp wr : List Addr} {n : Nat} {P : Nat → Value → Prop} {St : Nat → Heap → Prop}
theorem loop_max {W : Walks prog w A.in1 I fp wr n P St} (bt : Nat → Nat → Bool) (hc : CmpOf prog w A.in1 .Gt P bt) {S : Addr} (hS : S ∉ fp) {kw : List (Str × Value)} : ∀ (k j : Nat) (s : Shared) (vb : Value) (c : Nat), n - (j + 1) = k → j + 1 ≤ n → St (j + 1) s.heap → P (argBest bt j) vb → s.heap.get? S = some { cls := .type "list", dict := none, data := .seq #[vb, vb] c, slots := #[] } →
    (∀ v h' tk, P (argBest bt (n - 1)) v → KeepE wr S s.heap h' → R (.ok (.ret v)) { s with heap := h', toks := tk }) → codeAny (model prog w) A (.builtin "max.loop" ⟨[.ref I, .none, .ref S], kw⟩) R s
  | 0, j, s, vb, c, hk, hj, hst, hb, e, q => by
    have nw : S ∉ wr := fun h => hS (W.sub _ h)
    obtain rfl : n = j + 1 := by omega
    refine codeAny_builtin F.entry_max_loop (by
      rw [Around.under_plainId F.plain_max_loop _]
      show wpAny _ A.in1 (seqItems? (.ref S) >>= _) _ _ s
      refine wpAny_bind (wpAny_seqItems e rfl (by
        show wpAny _ A.in1 (tryCatch (pyNext (.ref I)) _ >>= _) _ _ s
        refine wpAny_bind (wpAny_tryCatch (W.done s _ _ hst fun h' tk hk' => ?_))
        have e' := hk' S _ nw e
        show wpAny _ A.in1 (updateSeq S (fun _ => #[]) >>= _) _ _ _
        exact wpAny_bind (wpAny_updateSeq e' rfl (wpAny_bind (wpAny_letGo (wpAny_pure (q vb _ tk hb fun b o n1 n2 e => (Heap.get?_update_other _ _ (Ne.symm n2)).trans (hk' b o n1 e)))))))))
  | k + 1, j, s, vb, c, hk, hj, hst, hb, e, q => by
    have nw : S ∉ wr := fun h => hS (W.sub _ h)
    have hlt : j + 1 < n := by omega
    have hn : (toString "max" ++ toString ".loop" : String) = "max.loop" := by decide
    refine codeAny_builtin F.entry_max_loop (by
      rw [Around.under_plainId F.plain_max_loop _]
      show wpAny _ A.in1 (seqItems? (.ref S) >>= _) _ _ s
      refine wpAny_bind (wpAny_seqItems e rfl (by
        show wpAny _ A.in1 (tryCatch (pyNext (.ref I)) _ >>= _) _ _ s
        refine wpAny_bind (wpAny_tryCatch (W.item (j + 1) s _ _ hlt hst fun v h' tk hP hst' hk' => ?_))
        have e' := hk' S _ nw e
        show wpAny _ A.in1 (tryCatch (holding [v, v] (richCompare .Gt v vb >>= _)) _ >>= _) _ _ _
        refine wpAny_bind (wpAny_tryCatch (wpAny_holding (wpAny_bind (hc (j + 1) (argBest bt j) v vb _ _ _ hP hb (wpAny_bind (wpAny_holding (wpAny_truthy_bool (wpAny_bind (wpAny_letGo (wpAny_pure ?_))))))))))
        cases hbt : bt (j + 1) (argBest bt j) with
        | true =>
          simp only [if_true]
          refine wpAny_bind (wpAny_updateSeq e' rfl (wpAny_bind (wpAny_letGo (by
            rw [hn]
            refine wpAny_pure ⟨plainId_quiet F.plain_max_loop _, loop_max (W := W) bt hc hS k (j + 1) _ v _ (by omega) hlt (W.frame _ _ _ hst' fun b hbf o e => (Heap.get?_update_other _ _ (fun h : S = b => hS (by rw [h]; exact hbf))).trans e) (by simp only [argBest, hbt, if_true]; exact hP) (Heap.get?_update_self _ e' rfl) fun v' h'' tk'' hP' hk'' => ?_⟩
            exact q v' h'' tk'' hP' fun b o n1 n2 e => hk'' b o n1 n2 ((Heap.get?_update_other _ _ (Ne.symm n2)).trans (hk' b o n1 e))))))
        | false =>
          simp only [Bool.false_eq_true, if_false]
          refine wpAny_bind (wpAny_letGo (by
            rw [hn]
            exact wpAny_pure ⟨plainId_quiet F.plain_max_loop _, loop_max (W := W) bt hc hS k (j + 1) _ vb c (by omega) hlt hst' (by simp only [argBest, hbt, Bool.false_eq_true, if_false]; exact hb) e' fun v' h'' tk'' hP' hk'' => q v' h'' tk'' hP' fun b o n1 n2 e => hk'' b o n1 n2 (hk' b o n1 e)⟩)))))
theorem loop_max0 {W : Walks prog w A.in1 I fp wr n P St} (bt : Nat → Nat → Bool) (hc : CmpOf prog w A.in1 .Gt P bt) {S : Addr} (hS : S ∉ fp) {d : Value} {s : Shared} {c : Nat} (hst : St 0 s.heap) (e : s.heap.get? S = some { cls := .type "list", dict := none, data := .seq #[] c, slots := #[] })
    (q0 : n = 0 → ∀ h' tk, KeepE wr S s.heap h' → R (.ok (.ret d)) { s with heap := h', toks := tk })
    (q : 0 < n → ∀ v h' tk, P (argBest bt (n - 1)) v → KeepE wr S s.heap h' → R (.ok (.ret v)) { s with heap := h', toks := tk }) : codeAny (model prog w) A (.builtin "max.loop" ⟨[.ref I, .none, .ref S], [(Str.ofString "default", d)]⟩) R s := by
  have nw : S ∉ wr := fun h => hS (W.sub _ h)
  have hn : (toString "max" ++ toString ".loop" : String) = "max.loop" := by decide
  refine codeAny_builtin F.entry_max_loop (by
    rw [Around.under_plainId F.plain_max_loop _]
    show wpAny _ A.in1 (seqItems? (.ref S) >>= _) _ _ s
    refine wpAny_bind (wpAny_seqItems e rfl (by
      show wpAny _ A.in1 (tryCatch (pyNext (.ref I)) _ >>= _) _ _ s
      cases n with
      | zero => exact wpAny_bind (wpAny_tryCatch (W.done s _ _ hst fun h' tk hk' => wpAny_bind (wpAny_rule (wpAny_pure (q0 rfl h' tk fun b o n1 _ e => hk' b o n1 e)))))
      | succ n =>
        refine wpAny_bind (wpAny_tryCatch (W.item 0 s _ _ (Nat.succ_pos n) hst fun v h' tk hP hst' hk' => ?_))
        have e' := hk' S _ nw e
        show wpAny _ A.in1 (updateSeq S (fun _ => #[v, v]) >>= _) _ _ _
        refine wpAny_bind (wpAny_updateSeq e' rfl (by
          rw [hn]
          refine wpAny_pure ⟨plainId_quiet F.plain_max_loop _, loop_max (W := W) bt hc hS _ 0 _ v _ rfl (Nat.succ_pos n) (W.frame _ _ _ hst' fun b hbf o e => (Heap.get?_update_other _ _ (fun h : S = b => hS (by rw [h]; exact hbf))).trans e) hP (Heap.get?_update_self _ e' rfl) fun v' h'' tk'' hP' hk'' => ?_⟩
          exact q (Nat.succ_pos n) v' h'' tk'' hP' fun b o n1 n2 e => hk'' b o n1 n2 ((Heap.get?_update_other _ _ (Ne.symm n2)).trans (hk' b o n1 e)))))))
theorem loop_min {W : Walks prog w A.in1 I fp wr n P St} (bt : Nat → Nat → Bool) (hc : CmpOf prog w A.in1 .Lt P bt) {S : Addr} (hS : S ∉ fp) {kw : List (Str × Value)} : ∀ (k j : Nat) (s : Shared) (vb : Value) (c : Nat), n - (j + 1) = k → j + 1 ≤ n → St (j + 1) s.heap → P (argBest bt j) vb → s.heap.get? S = some { cls := .type "list", dict := none, data := .seq #[vb, vb] c, slots := #[] } →
    (∀ v h' tk, P (argBest bt (n - 1)) v → KeepE wr S s.heap h' → R (.ok (.ret v)) { s with heap := h', toks := tk }) → codeAny (model prog w) A (.builtin "min.loop" ⟨[.ref I, .none, .ref S], kw⟩) R s
  | 0, j, s, vb, c, hk, hj, hst, hb, e, q => by
    have nw : S ∉ wr := fun h => hS (W.sub _ h)
    obtain rfl : n = j + 1 := by omega
    refine codeAny_builtin F.entry_min_loop (by
      rw [Around.under_plainId F.plain_min_loop _]
      show wpAny _ A.in1 (seqItems? (.ref S) >>= _) _ _ s
      refine wpAny_bind (wpAny_seqItems e rfl (by
        show wpAny _ A.in1 (tryCatch (pyNext (.ref I)) _ >>= _) _ _ s
        refine wpAny_bind (wpAny_tryCatch (W.done s _ _ hst fun h' tk hk' => ?_))
        have e' := hk' S _ nw e
        show wpAny _ A.in1 (updateSeq S (fun _ => #[]) >>= _) _ _ _
        exact wpAny_bind (wpAny_updateSeq e' rfl (wpAny_bind (wpAny_letGo (wpAny_pure (q vb _ tk hb fun b o n1 n2 e => (Heap.get?_update_other _ _ (Ne.symm n2)).trans (hk' b o n1 e)))))))))
  | k + 1, j, s, vb, c, hk, hj, hst, hb, e, q => by
    have nw : S ∉ wr := fun h => hS (W.sub _ h)
    have hlt : j + 1 < n := by omega
    have hn : (toString "min" ++ toString ".loop" : String) = "min.loop" := by decide
    refine codeAny_builtin F.entry_min_loop (by
      rw [Around.under_plainId F.plain_min_loop _]
      show wpAny _ A.in1 (seqItems? (.ref S) >>= _) _ _ s
      refine wpAny_bind (wpAny_seqItems e rfl (by
        show wpAny _ A.in1 (tryCatch (pyNext (.ref I)) _ >>= _) _ _ s
        refine wpAny_bind (wpAny_tryCatch (W.item (j + 1) s _ _ hlt hst fun v h' tk hP hst' hk' => ?_))
        have e' := hk' S _ nw e
        show wpAny _ A.in1 (tryCatch (holding [v, v] (richCompare .Lt v vb >>= _)) _ >>= _) _ _ _
        refine wpAny_bind (wpAny_tryCatch (wpAny_holding (wpAny_bind (hc (j + 1) (argBest bt j) v vb _ _ _ hP hb (wpAny_bind (wpAny_holding (wpAny_truthy_bool (wpAny_bind (wpAny_letGo (wpAny_pure ?_))))))))))
        cases hbt : bt (j + 1) (argBest bt j) with
        | true =>
          simp only [if_true]
          refine wpAny_bind (wpAny_updateSeq e' rfl (wpAny_bind (wpAny_letGo (by
            rw [hn]
            refine wpAny_pure ⟨plainId_quiet F.plain_min_loop _, loop_min (W := W) bt hc hS k (j + 1) _ v _ (by omega) hlt (W.frame _ _ _ hst' fun b hbf o e => (Heap.get?_update_other _ _ (fun h : S = b => hS (by rw [h]; exact hbf))).trans e) (by simp only [argBest, hbt, if_true]; exact hP) (Heap.get?_update_self _ e' rfl) fun v' h'' tk'' hP' hk'' => ?_⟩
            exact q v' h'' tk'' hP' fun b o n1 n2 e => hk'' b o n1 n2 ((Heap.get?_update_other _ _ (Ne.symm n2)).trans (hk' b o n1 e))))))
        | false =>
          simp only [Bool.false_eq_true, if_false]
          refine wpAny_bind (wpAny_letGo (by
            rw [hn]
            exact wpAny_pure ⟨plainId_quiet F.plain_min_loop _, loop_min (W := W) bt hc hS k (j + 1) _ vb c (by omega) hlt hst' (by simp only [argBest, hbt, Bool.false_eq_true, if_false]; exact hb) e' fun v' h'' tk'' hP' hk'' => q v' h'' tk'' hP' fun b o n1 n2 e => hk'' b o n1 n2 (hk' b o n1 e)⟩)))))
theorem loop_min0 {W : Walks prog w A.in1 I fp wr n P St} (bt : Nat → Nat → Bool) (hc : CmpOf prog w A.in1 .Lt P bt) {S : Addr} (hS : S ∉ fp) {d : Value} {s : Shared} {c : Nat} (hst : St 0 s.heap) (e : s.heap.get? S = some { cls := .type "list", dict := none, data := .seq #[] c, slots := #[] })
    (q0 : n = 0 → ∀ h' tk, KeepE wr S s.heap h' → R (.ok (.ret d)) { s with heap := h', toks := tk })
    (q : 0 < n → ∀ v h' tk, P (argBest bt (n - 1)) v → KeepE wr S s.heap h' → R (.ok (.ret v)) { s with heap := h', toks := tk }) : codeAny (model prog w) A (.builtin "min.loop" ⟨[.ref I, .none, .ref S], [(Str.ofString "default", d)]⟩) R s := by
  have nw : S ∉ wr := fun h => hS (W.sub _ h)
  have hn : (toString "min" ++ toString ".loop" : String) = "min.loop" := by decide
  refine codeAny_builtin F.entry_min_loop (by
    rw [Around.under_plainId F.plain_min_loop _]
    show wpAny _ A.in1 (seqItems? (.ref S) >>= _) _ _ s
    refine wpAny_bind (wpAny_seqItems e rfl (by
      show wpAny _ A.in1 (tryCatch (pyNext (.ref I)) _ >>= _) _ _ s
      cases n with
      | zero => exact wpAny_bind (wpAny_tryCatch (W.done s _ _ hst fun h' tk hk' => wpAny_bind (wpAny_rule (wpAny_pure (q0 rfl h' tk fun b o n1 _ e => hk' b o n1 e)))))
      | succ n =>
        refine wpAny_bind (wpAny_tryCatch (W.item 0 s _ _ (Nat.succ_pos n) hst fun v h' tk hP hst' hk' => ?_))
        have e' := hk' S _ nw e
        show wpAny _ A.in1 (updateSeq S (fun _ => #[v, v]) >>= _) _ _ _
        refine wpAny_bind (wpAny_updateSeq e' rfl (by
          rw [hn]
          refine wpAny_pure ⟨plainId_quiet F.plain_min_loop _, loop_min (W := W) bt hc hS _ 0 _ v _ rfl (Nat.succ_pos n) (W.frame _ _ _ hst' fun b hbf o e => (Heap.get?_update_other _ _ (fun h : S = b => hS (by rw [h]; exact hbf))).trans e) hP (Heap.get?_update_self _ e' rfl) fun v' h'' tk'' hP' hk'' => ?_⟩
          exact q (Nat.succ_pos n) v' h'' tk'' hP' fun b o n1 n2 e => hk'' b o n1 n2 ((Heap.get?_update_other _ _ (Ne.symm n2)).trans (hk' b o n1 e)))))))
end
section
variable {prog : Program} {w : World} {A : Around} {E : Value → Shared → Prop} {s : Shared}
theorem argsD_max (a v : Value) : argsOk "max" ⟨[a], [(Str.ofString "default", v)]⟩ := by unfold argsOk; kernel_rfl
theorem call_maxD {x d : Value} {Q : Value → Shared → Prop}
    (h : wpAny (model prog w) A.in1 (pyIter x) (fun it s₂ => ∃ I fp wr n P St bt, it = .ref I ∧ Walks prog w A.in1 I fp wr n P St ∧ St 0 s₂.heap ∧ (∀ b ∈ fp, b < s₂.heap.objs.size) ∧ CmpOf prog w A.in1 .Gt P bt ∧
      (n = 0 → ∀ h' tk, (∀ b o, b ∉ wr → s₂.heap.get? b = some o → h'.get? b = some o) → Q d { s₂ with heap := h', toks := tk }) ∧
      (0 < n → ∀ v h' tk, P (argBest bt (n - 1)) v → (∀ b o, b ∉ wr → s₂.heap.get? b = some o → h'.get? b = some o) → Q v { s₂ with heap := h', toks := tk })) E s) :
    wpAny (model prog w) A (call (.builtin "max") [x] [(Str.ofString "default", d)]) Q E s := by
  have hn : (toString "max" ++ toString ".loop" : String) = "max.loop" := by decide
  refine PyProof.Rows.kmk_tree F.kind_max F.plain_max F.entry_max (argsD_max _ _) (by
    show wpAny _ A.in1 (Builtin.Builtins.bindParams "max" ["key", "default"] 0 ⟨[], [(Str.ofString "default", d)]⟩ >>= _) _ _ s
    refine wpAny_bind (wpAny_of_eq (show Builtin.Builtins.bindParams "max" ["key", "default"] 0 ⟨[], [(Str.ofString "default", d)]⟩ = pure [none, some d] from rfl) (wpAny_bind (wpAny_pure (wpAny_bind (wpAny_mono h (fun it s₂ h₂ => ?_) fun _ _ e => e)))))
    obtain ⟨I, fp, wr, n, P, St, bt, rfl, W, hst, hfp, hc, q0, q⟩ := h₂
    refine wpAny_bind (wpAny_newObj_type (by
      have nf : s₂.heap.objs.size ∉ fp := fun hm => Nat.lt_irrefl _ (hfp _ hm)
      rw [hn]
      exact wpAny_pure ⟨plainId_quiet F.plain_max_loop _, loop_max0 (W := W) bt hc nf (W.frame _ _ _ hst fun b _ o e => Heap.get?_push_of_some _ e) (Heap.get?_push_size _ rfl)
        (fun z h' tk hk => q0 z h' tk fun b o n1 e => hk b o n1 (Nat.ne_of_lt (Heap.lt_size e)) (Heap.get?_push_of_some _ e))
        (fun z v h' tk hP hk => q z v h' tk hP fun b o n1 e => hk b o n1 (Nat.ne_of_lt (Heap.lt_size e)) (Heap.get?_push_of_some _ e))⟩)))
theorem max_ints {l : Addr} {xs : Array (Int × Tok)} {d : Value} {Q : Value → Shared → Prop} (hh : A.handled = none) (hl : s.heap.IsList l (intItems xs))
    (h0 : xs.size = 0 → ∀ h' tk, (∀ b o, s.heap.get? b = some o → h'.get? b = some o) → Q d { s with heap := h', toks := tk })
    (h : 0 < xs.size → ∀ v h' tk, (intItems xs)[argBest (fun i j => decide (numAt xs i > numAt xs j)) (xs.size - 1)]? = some v → (∀ b o, s.heap.get? b = some o → h'.get? b = some o) → Q v { s with heap := h', toks := tk }) :
    wpAny (model prog w) A (call (.builtin "max") [.ref l] [(Str.ofString "default", d)]) Q E s := by
  refine call_maxD (iter_intList hl fun s₂ e st hfp hlI => by
    subst e
    exact ⟨_, _, _, _, _, _, _, rfl, Walks.list (A := A.in1) hh _ l hlI (intItems xs), st, hfp, CmpOf.ints_gt (numAt xs) (fun _ _ => intItems_at), fun z h' tk hk => h0 (by simpa [intItems] using z) h' tk (old_kept hk), fun z v h' tk hP hk => h (by simpa [intItems] using z) v h' tk (by simpa [intItems] using hP) (old_kept hk)⟩)
theorem argsD_min (a v : Value) : argsOk "min" ⟨[a], [(Str.ofString "default", v)]⟩ := by unfold argsOk; kernel_rfl
theorem call_minD {x d : Value} {Q : Value → Shared → Prop}
    (h : wpAny (model prog w) A.in1 (pyIter x) (fun it s₂ => ∃ I fp wr n P St bt, it = .ref I ∧ Walks prog w A.in1 I fp wr n P St ∧ St 0 s₂.heap ∧ (∀ b ∈ fp, b < s₂.heap.objs.size) ∧ CmpOf prog w A.in1 .Lt P bt ∧
      (n = 0 → ∀ h' tk, (∀ b o, b ∉ wr → s₂.heap.get? b = some o → h'.get? b = some o) → Q d { s₂ with heap := h', toks := tk }) ∧
      (0 < n → ∀ v h' tk, P (argBest bt (n - 1)) v → (∀ b o, b ∉ wr → s₂.heap.get? b = some o → h'.get? b = some o) → Q v { s₂ with heap := h', toks := tk })) E s) :
    wpAny (model prog w) A (call (.builtin "min") [x] [(Str.ofString "default", d)]) Q E s := by
  have hn : (toString "min" ++ toString ".loop" : String) = "min.loop" := by decide
  refine PyProof.Rows.kmk_tree F.kind_min F.plain_min F.entry_min (argsD_min _ _) (by
    show wpAny _ A.in1 (Builtin.Builtins.bindParams "min" ["key", "default"] 0 ⟨[], [(Str.ofString "default", d)]⟩ >>= _) _ _ s
    refine wpAny_bind (wpAny_of_eq (show Builtin.Builtins.bindParams "min" ["key", "default"] 0 ⟨[], [(Str.ofString "default", d)]⟩ = pure [none, some d] from rfl) (wpAny_bind (wpAny_pure (wpAny_bind (wpAny_mono h (fun it s₂ h₂ => ?_) fun _ _ e => e)))))
    obtain ⟨I, fp, wr, n, P, St, bt, rfl, W, hst, hfp, hc, q0, q⟩ := h₂
    refine wpAny_bind (wpAny_newObj_type (by
      have nf : s₂.heap.objs.size ∉ fp := fun hm => Nat.lt_irrefl _ (hfp _ hm)
      rw [hn]
      exact wpAny_pure ⟨plainId_quiet F.plain_min_loop _, loop_min0 (W := W) bt hc nf (W.frame _ _ _ hst fun b _ o e => Heap.get?_push_of_some _ e) (Heap.get?_push_size _ rfl)
        (fun z h' tk hk => q0 z h' tk fun b o n1 e => hk b o n1 (Nat.ne_of_lt (Heap.lt_size e)) (Heap.get?_push_of_some _ e))
        (fun z v h' tk hP hk => q z v h' tk hP fun b o n1 e => hk b o n1 (Nat.ne_of_lt (Heap.lt_size e)) (Heap.get?_push_of_some _ e))⟩)))
theorem min_ints {l : Addr} {xs : Array (Int × Tok)} {d : Value} {Q : Value → Shared → Prop} (hh : A.handled = none) (hl : s.heap.IsList l (intItems xs))
    (h0 : xs.size = 0 → ∀ h' tk, (∀ b o, s.heap.get? b = some o → h'.get? b = some o) → Q d { s with heap := h', toks := tk })
    (h : 0 < xs.size → ∀ v h' tk, (intItems xs)[argBest (fun i j => decide (numAt xs i < numAt xs j)) (xs.size - 1)]? = some v → (∀ b o, s.heap.get? b = some o → h'.get? b = some o) → Q v { s with heap := h', toks := tk }) :
    wpAny (model prog w) A (call (.builtin "min") [.ref l] [(Str.ofString "default", d)]) Q E s := by
  refine call_minD (iter_intList hl fun s₂ e st hfp hlI => by
    subst e
    exact ⟨_, _, _, _, _, _, _, rfl, Walks.list (A := A.in1) hh _ l hlI (intItems xs), st, hfp, CmpOf.ints_lt (numAt xs) (fun _ _ => intItems_at), fun z h' tk hk => h0 (by simpa [intItems] using z) h' tk (old_kept hk), fun z v h' tk hP hk => h (by simpa [intItems] using z) v h' tk (by simpa [intItems] using hP) (old_kept hk)⟩)
end
section
variable {X : Cx} {C : Addr} {E : XK} {pos : Pos}
def rMaxD (K : PySem.W.Frag) : List V → List V → Hp → VK → Prop := fun vs zs H Q => ∃ (a : Addr) (ns : List Int), vs = [V.ref a] ∧ zs = [V.non] ∧ SqL K H a (ns.map V.int) ∧ (ns = [] → Q .non H) ∧ ∀ m ∈ ns, (∀ y ∈ ns, y ≤ m) → Q (.int m) H
theorem cr_maxD (hc : X.calm = true) : CallRK X (.builtin "max") [Str.ofString "default"] (rMaxD X.K) := by
  intro pins s σ H vs zs us ws Q I r rz h
  obtain ⟨a, ns, rfl, rfl, hs, q0, q⟩ := h
  obtain ⟨its, rv, hl, _⟩ := I.list hs
  rw [Vals.ref1 r]
  obtain ⟨w1, rfl, e1⟩ := vals1 rz
  obtain rfl : w1 = Value.none := e1
  have hi := rv.ints
  obtain ⟨xs, e⟩ := hi.allInts.items
  have hn : numsOf (intItems xs).toList = ns := by rw [← e]; exact hi.numsOf
  rw [nums_intItems] at hn
  subst hn
  have hl' := hl.isList
  rw [e] at hl'
  refine max_ints (I.ok.hd hc) hl' (fun z h' tk hk => ⟨.non, H, I.kept hk, rfl, q0 (by simpa using z)⟩) fun z v h' tk hv hk => ?_
  obtain ⟨t, rfl⟩ := intItems_at hv
  obtain ⟨h1, h2⟩ := argBest_gt (numAt xs) (xs.size - 1)
  refine ⟨.int _, H, I.kept hk, ⟨_, rfl⟩, q _ ?_ fun y hy => ?_⟩
  · have hb : argBest (fun i j => decide (numAt xs i > numAt xs j)) (xs.size - 1) < (xs.toList.map (·.1)).length := by simp only [List.length_map, Array.length_toList]; omega
    simpa only [← numAt_eq] using PySem.getD_mem hb
  · obtain ⟨j, hj, rfl⟩ := mem_getD hy
    have hj' : j ≤ xs.size - 1 := by
      simp only [List.length_map, Array.length_toList] at hj
      omega
    simpa only [← numAt_eq] using h2 j hj'
def dMaxd (p : DE) : DE := fun ρ P R => p ρ (fun d => ∃ ns : List Int, d = .lst (ns.map .int) ∧ (ns = [] → P .non) ∧ ∀ m ∈ ns, (∀ y ∈ ns, y ≤ m) → P (.int m)) R
theorem pd_maxd {a : Expr} {p : DE} {np kp cp : Pos} {jj} (nb : X.mg "max" = none) (ha : PE X a (lift X.K C E p)) (hc : X.calm = true := by rfl) (hg : Gl X "max" := by rfl) (he0 : starEach [a] X.env = (false, eval a X.env) :: starEach [] X.env := by rfl)
    (he : backTo pos (starEach [a] X.env) = (false, eval a X.env) :: backTo pos (starEach [] X.env) := by rfl) (hpl : (backTo pos (starEach [a] X.env)).any (·.1) = false := by rfl)
    (hall : (backToKw pos (keywordEach [⟨some "default", .Constant .none jj cp, kp⟩] X.env)).all (·.1.isSome) = true := by rfl) (hnone : (backToKw pos (keywordEach [⟨some "default", .Constant .none jj cp, kp⟩] X.env)).any (·.1.isNone) = false := by rfl) (hks : (backToKw pos (keywordEach [⟨some "default", .Constant .none jj cp, kp⟩] X.env)).filterMap (·.1) = [Str.ofString "default"] := by rfl) :
    PE X (.Call (.Name "max" np) [a] [⟨some "default", .Constant .none jj cp, kp⟩] pos) (lift X.K C E (dMaxd p)) :=
  (pe_callBK (cr_maxD hc) hg nb bt_max (pa_cons ha pa_nil he0) (pk_cons pe_non pk_nil) (by decide) (by decide) he hpl hall hnone hks).wk fun σ H Q q => by
    obtain ⟨B, O0, O, ρ, P, R, k, q, hP, hR⟩ := q
    refine ⟨B, O0, O, ρ, _, R, k, q, fun v d H' s' r p => ?_, hR⟩
    obtain ⟨ns, rfl, p0, p⟩ := p
    obtain ⟨a', ws, rfl, e1, e2⟩ := r
    have e := RepL.of_ints e2
    subst e
    exact ⟨a', ns, rfl, rfl, SqL.of (wo_some e1), fun z => hP .non .non H' s' rfl (p0 z), fun m hm hy => hP (.int m) (.int m) H' s' rfl (p m hm hy)⟩
def rMinD (K : PySem.W.Frag) : List V → List V → Hp → VK → Prop := fun vs zs H Q => ∃ (a : Addr) (ns : List Int), vs = [V.ref a] ∧ zs = [V.non] ∧ SqL K H a (ns.map V.int) ∧ (ns = [] → Q .non H) ∧ ∀ m ∈ ns, (∀ y ∈ ns, m ≤ y) → Q (.int m) H
theorem cr_minD (hc : X.calm = true) : CallRK X (.builtin "min") [Str.ofString "default"] (rMinD X.K) := by
  intro pins s σ H vs zs us ws Q I r rz h
  obtain ⟨a, ns, rfl, rfl, hs, q0, q⟩ := h
  obtain ⟨its, rv, hl, _⟩ := I.list hs
  rw [Vals.ref1 r]
  obtain ⟨w1, rfl, e1⟩ := vals1 rz
  obtain rfl : w1 = Value.none := e1
  have hi := rv.ints
  obtain ⟨xs, e⟩ := hi.allInts.items
  have hn : numsOf (intItems xs).toList = ns := by rw [← e]; exact hi.numsOf
  rw [nums_intItems] at hn
  subst hn
  have hl' := hl.isList
  rw [e] at hl'
  refine min_ints (I.ok.hd hc) hl' (fun z h' tk hk => ⟨.non, H, I.kept hk, rfl, q0 (by simpa using z)⟩) fun z v h' tk hv hk => ?_
  obtain ⟨t, rfl⟩ := intItems_at hv
  obtain ⟨h1, h2⟩ := argBest_lt (numAt xs) (xs.size - 1)
  refine ⟨.int _, H, I.kept hk, ⟨_, rfl⟩, q _ ?_ fun y hy => ?_⟩
  · have hb : argBest (fun i j => decide (numAt xs i < numAt xs j)) (xs.size - 1) < (xs.toList.map (·.1)).length := by simp only [List.length_map, Array.length_toList]; omega
    simpa only [← numAt_eq] using PySem.getD_mem hb
  · obtain ⟨j, hj, rfl⟩ := mem_getD hy
    have hj' : j ≤ xs.size - 1 := by
      simp only [List.length_map, Array.length_toList] at hj
      omega
    simpa only [← numAt_eq] using h2 j hj'
def dMind (p : DE) : DE := fun ρ P R => p ρ (fun d => ∃ ns : List Int, d = .lst (ns.map .int) ∧ (ns = [] → P .non) ∧ ∀ m ∈ ns, (∀ y ∈ ns, m ≤ y) → P (.int m)) R
theorem pd_mind {a : Expr} {p : DE} {np kp cp : Pos} {jj} (nb : X.mg "min" = none) (ha : PE X a (lift X.K C E p)) (hc : X.calm = true := by rfl) (hg : Gl X "min" := by rfl) (he0 : starEach [a] X.env = (false, eval a X.env) :: starEach [] X.env := by rfl)
    (he : backTo pos (starEach [a] X.env) = (false, eval a X.env) :: backTo pos (starEach [] X.env) := by rfl) (hpl : (backTo pos (starEach [a] X.env)).any (·.1) = false := by rfl)
    (hall : (backToKw pos (keywordEach [⟨some "default", .Constant .none jj cp, kp⟩] X.env)).all (·.1.isSome) = true := by rfl) (hnone : (backToKw pos (keywordEach [⟨some "default", .Constant .none jj cp, kp⟩] X.env)).any (·.1.isNone) = false := by rfl) (hks : (backToKw pos (keywordEach [⟨some "default", .Constant .none jj cp, kp⟩] X.env)).filterMap (·.1) = [Str.ofString "default"] := by rfl) :
    PE X (.Call (.Name "min" np) [a] [⟨some "default", .Constant .none jj cp, kp⟩] pos) (lift X.K C E (dMind p)) :=
  (pe_callBK (cr_minD hc) hg nb bt_min (pa_cons ha pa_nil he0) (pk_cons pe_non pk_nil) (by decide) (by decide) he hpl hall hnone hks).wk fun σ H Q q => by
    obtain ⟨B, O0, O, ρ, P, R, k, q, hP, hR⟩ := q
    refine ⟨B, O0, O, ρ, _, R, k, q, fun v d H' s' r p => ?_, hR⟩
    obtain ⟨ns, rfl, p0, p⟩ := p
    obtain ⟨a', ws, rfl, e1, e2⟩ := r
    have e := RepL.of_ints e2
    subst e
    exact ⟨a', ns, rfl, rfl, SqL.of (wo_some e1), fun z => hP .non .non H' s' rfl (p0 z), fun m hm hy => hP (.int m) (.int m) H' s' rfl (p m hm hy)⟩
/-- the truth of a thing -/
def truD : D → Option Bool
  | .non => some false
  | .bl b => some b
  | .int i => some (i != 0)
  | .str y => some ((y.length : Int) != 0)
  | .lst ds => some (!ds.isEmpty)
  | .tup ds => some (!ds.isEmpty)
  | .dic ks _ => some (!ks.isEmpty)
  | _ => none
theorem emp_len {α β : Type} {xs : List α} {ys : List β} (h : xs.length = ys.length) : (!ys.isEmpty) = !xs.isEmpty := by
  cases xs <;> cases ys <;> first | rfl | cases h
theorem truV_of {K : PySem.W.Frag} {H : Hp} {O : List Addr} {d : D} {v : V} {c : Bool} (hc : truD d = some c) (hl : ∀ s, d = .str s → s.length ≤ sizeLine) (r : Rep K C (wo H O) d v) : TruV K v H c := by
  cases d with
  | non => cases hc; obtain rfl : v = .non := r; rfl
  | bl b => cases hc; obtain rfl : v = .bl _ := r; rfl
  | int i => cases hc; obtain rfl : v = .int i := r; rfl
  | str y => cases hc; obtain rfl : v = .str y := r; exact ⟨hl y rfl, rfl⟩
  | lst ds =>
    cases hc
    obtain ⟨a, ws, rfl, e1, e2⟩ := r
    exact .inl ⟨ws, SqL.of (wo_some e1), emp_len (RepL.length e2)⟩
  | tup ds =>
    cases hc
    obtain ⟨a, ws, rfl, e1, e2⟩ := r
    exact .inr (.inl ⟨ws, SqT.of (wo_some e1), emp_len (RepL.length e2)⟩)
  | dic ks ds =>
    cases hc
    obtain ⟨a, ws, rfl, e1, e2, e3⟩ := r
    refine .inr (.inr ⟨_, wo_some e1, ?_⟩)
    have := RepL.length e2
    cases ks <;> cases ws <;> first | rfl | (simp at e3 this; omega)
  | _ => cases hc
def dOrT (pa pb : DE) : DE := fun ρ P R => pa ρ (fun d => ∃ k, truD d = some k ∧ (∀ s, d = .str s → s.length ≤ sizeLine) ∧ if k = true then P d else pb ρ P R) R
theorem pd_orT {a b : Expr} {rest : List Expr} {pa pb : DE} (ha : PE X a (lift X.K C E pa)) (hb : PE X (.BoolOp .Or (b :: rest) pos) (lift X.K C E pb)) : PE X (.BoolOp .Or (a :: b :: rest) pos) (lift X.K C E (dOrT pa pb)) :=
  (pe_orT ha hb).wk fun σ H Q q => by
    obtain ⟨B, O0, O, ρ, P, R, k, q, hP, hR⟩ := q
    refine ⟨B, O0, O, ρ, _, R, k, q, fun v d H' s' r p => ?_, hR⟩
    obtain ⟨c, hc, hl, p⟩ := p
    refine ⟨c, truV_of hc hl r, ?_⟩
    cases c with
    | true =>
      simp only [if_true] at p ⊢
      exact hP v d H' s' r p
    | false =>
      simp only [Bool.false_eq_true, if_false] at p ⊢
      exact ⟨B, O0, O, ρ, P, R, k.ext s', p, fun v d H2 s2 r p => hP v d H2 (s'.trans s2) r p, fun c H2 s2 z => hR c H2 (s'.trans s2) z⟩
end
end L2.DL
/-! # Questions about stretches -/
namespace L2.SK
def laterO : Option Int → Option Int → Option Int
  | none, b => b
  | a, none => a
  | some a, some b => some (max a b)
def soonerO : Option Int → Option Int → Option Int
  | none, b => b
  | a, none => a
  | some a, some b => some (min a b)
def shar (s t : Str2) : Str2 := (laterO s.1 t.1, soonerO s.2 t.2)
theorem laterO_comm (a b : Option Int) : laterO a b = laterO b a := by
  cases a <;> cases b <;> simp [laterO, Int.max_comm]
theorem soonerO_comm (a b : Option Int) : soonerO a b = soonerO b a := by
  cases a <;> cases b <;> simp [soonerO, Int.min_comm]
theorem shar_comm (s t : Str2) : shar s t = shar t s := by
  unfold shar
  rw [laterO_comm, soonerO_comm]
theorem shar_self (s : Str2) : shar s s = s := by
  obtain ⟨a, b⟩ := s
  cases a <;> cases b <;> simp [shar, laterO, soonerO]
end L2.SK
namespace L2.DL
open PySem PySem.Spec PyProof.Rows L2.SK
theorem isStr_inv {d : D} (h : isStr d = true) : ∃ s, d = sD s ∧ okS s = true := by
  cases d with
  | tup ds =>
    match ds, h with
    | [a, b], h =>
      have h' : (isEnd a && isEnd b && leD a b) = true := h
      simp only [Bool.and_eq_true] at h'
      obtain ⟨⟨h1, h2⟩, h3⟩ := h'
      cases a <;> cases b <;> first | (cases h1; done) | (cases h2; done) | skip
      · exact ⟨(none, none), rfl, rfl⟩
      · exact ⟨(none, some _), rfl, rfl⟩
      · exact ⟨(some _, none), rfl, rfl⟩
      · exact ⟨(some _, some _), rfl, h3⟩
  | _ => cases h
theorem isNum_inv {d : D} (h : isNum d = true) : ∃ i, d = .int i := by
  cases d <;> first | (cases h; done) | exact ⟨_, rfl⟩
def sizeD (s : Str2) : D := match s with
  | (some a, some b) => .int (b - a + 1)
  | _ => .non
def sharD (s t : Str2) : D := if okS (shar s t) = true then sD (shar s t) else .non
def dp_hasnum (bs bn : Addr) : DP := fun ds P R => ∃ d n, ds = [d, n] ∧ okThing d ∧ (tyD n).isSome = true ∧ (isStr d = false → R bs) ∧ (isStr d = true → isNum n = false → R bn) ∧ ∀ s i, d = sD s → okS s = true → n = .int i → P (.bl (lies s i))
def dp_size (bs : Addr) : DP := fun ds P R => ∃ d, ds = [d] ∧ okThing d ∧ (isStr d = false → R bs) ∧ ∀ s, d = sD s → okS s = true → P (sizeD s)
def dp_later : DP := fun ds P _ => ∃ a b, ds = [oi a, oi b] ∧ P (oi (laterO a b))
def dp_sooner : DP := fun ds P _ => ∃ a b, ds = [oi a, oi b] ∧ P (oi (soonerO a b))
def dp_shared (bs : Addr) : DP := fun ds P R => ∃ d e, ds = [d, e] ∧ okThing d ∧ okThing e ∧ (isStr d = false → R bs) ∧ (isStr d = true → isStr e = false → R bs) ∧ ∀ s t, d = sD s → e = sD t → okS s = true → okS t = true → P (sharD s t)
def dp_lshared : DP := fun ds P _ => ∃ s t, ds = [sD s, sD t] ∧ P (sharD s t)
def dp_lgood1 : DP := fun ds P _ => ∃ s t n, ds = [sD s, sD t, .int n] ∧ okS s = true ∧ okS t = true ∧ P (.bl true)
def dB_refused1 : DBp := fun ds P => ∃ (s : Str2) (n m : Int), ds = [sD s, .int n, .int m] ∧ okS s = true ∧ 0 ≤ m ∧ P (.bl true)
theorem str_no {s : Str2} {p : Prop} (hs : okS s = true) (e : isStr (sD s) = false) : p := by
  rw [isStr_sD, hs] at e
  cases e
section
variable {s t : Str2} {n : Int} {P : D → Prop} {R : Addr → Prop} {bs bn : Addr}
theorem hasnum_ok (hs : okS s = true) (h : P (.bl (lies s n))) : dp_hasnum bs bn [sD s, .int n] P R :=
  ⟨_, _, rfl, okThing_sD s, rfl, fun e => str_no hs e, (fun _ e => nomatch e), fun s' i e _ e2 => by
    cases e2
    rw [← sD_inj e]
    exact h⟩
theorem size_ok (hs : okS s = true) (h : P (sizeD s)) : dp_size bs [sD s] P R :=
  ⟨_, rfl, okThing_sD s, fun e => str_no hs e, fun s' e _ => by
    rw [← sD_inj e]
    exact h⟩
theorem shared_ok (hs : okS s = true) (ht : okS t = true) (h : P (sharD s t)) : dp_shared bs [sD s, sD t] P R :=
  ⟨_, _, rfl, okThing_sD s, okThing_sD t, fun e => str_no hs e, fun _ e => str_no ht e, fun s' t' e e2 _ _ => by
    rw [← sD_inj e, ← sD_inj e2]
    exact h⟩
theorem isstr_ok (hs : okS s = true) (h : P (.bl true)) : dp_is_stretch [sD s] P R := ⟨_, rfl, okThing_sD s, by rw [isStr_sD, hs]; exact h⟩
theorem eqD_same (s : Str2) : eqD (sD s) (sD s) = true := by rw [eqD_sD, decide_eq_true rfl]
theorem sharD_comm (s t : Str2) : sharD s t = sharD t s := by
  unfold sharD
  rw [shar_comm]
theorem sharD_self (hs : okS s = true) : sharD s s = sD s := by
  unfold sharD
  rw [shar_self, if_pos hs]
theorem sharD_cases (s t : Str2) : sharD s t = .non ∨ ∃ u, sharD s t = sD u := by
  unfold sharD
  split
  · exact .inr ⟨_, rfl⟩
  · exact .inl rfl
end
section
variable {K : PySem.W.Frag} {mg : Str → Option Value} {KE tP : Addr} {nm : Str} {ea : Kc → Addr} {ρ : Env} {N : Env → Prop} {R : D → Env → Prop} {Z : Addr → Env → Prop} {i : Nat} {pb : DE} {q : DSM}
/-- a call that goes well -/
theorem app_done {ds : List D} (hi : i < ρ.length) (hl : ds.length < 1000) (hj : ∃ j : Nat, (ρ.set i (some (.own ds)))[j]? = some (some (.tb tP nm))) (hpb : ∀ (P' : D → Prop) (R' : Addr → Prop), (∀ d, P' d) → pb (ρ.set i (some (.own ds))) P' R') (hq : q (ρ.set i (some (.own (ds ++ [.lst [.str "done"]])))) N R Z) :
    dSeqM (dOfS (dAppM i (dCallM (dp_word ea) (dKept K tP KE nm pb)))) q (ρ.set i (some (.own ds))) N R Z :=
  ⟨ds, List.getElem?_set_self hi, hj, hpb _ _ fun d => .inl ⟨rfl, List.getElem?_set_self hi, by rw [sizeLine_eq]; omega, by rw [List.set_set]; exact hq⟩⟩
end
theorem lc_some {ρ : Env} {k : List D → Prop} (h : 3 < ρ.length) (a c : Option Int) (q : k (([a, c].filterMap id).map .int)) : lcD (gdName 3) (dTru (dBin dIsNot (dVar 3) (dC D.non))) (dVar 3) ρ k [oi a, oi c] [] := by
  cases a <;> cases c <;> (simp [lcD, gdName, dTru, dBin, dIsNot, dVar, dC, oi, D.isN, h]; exact q)
theorem maxd_of {i : Nat} {ρ : Env} {P : D → Prop} {R : Addr → Prop} {a c : Option Int} (h : ρ[i]? = some (some (.v (.lst (([a, c].filterMap id).map .int))))) (q : P (oi (laterO a c))) : dMaxd (dVar i) ρ P R := by
  unfold dMaxd dVar
  rw [h]
  refine ⟨_, rfl, fun z => ?_, fun m hm hy => ?_⟩
  · cases a <;> cases c <;> first | exact q | (simp at z)
  · cases a <;> cases c <;> simp at hm hy
    · subst hm; exact q
    · subst hm; exact q
    · rename_i x y
      have e : m = max x y := by rcases hm with rfl | rfl <;> omega
      rw [e]
      exact q
theorem mind_of {i : Nat} {ρ : Env} {P : D → Prop} {R : Addr → Prop} {a c : Option Int} (h : ρ[i]? = some (some (.v (.lst (([a, c].filterMap id).map .int))))) (q : P (oi (soonerO a c))) : dMind (dVar i) ρ P R := by
  unfold dMind dVar
  rw [h]
  refine ⟨_, rfl, fun z => ?_, fun m hm hy => ?_⟩
  · cases a <;> cases c <;> first | exact q | (simp at z)
  · cases a <;> cases c <;> simp at hm hy
    · subst hm; exact q
    · subst hm; exact q
    · rename_i x y
      have e : m = min x y := by rcases hm with rfl | rfl <;> omega
      rw [e]
      exact q
theorem shar_end {u v : Option Int} {T : D → Prop} (q : T (if okS (u, v) = true then sD (u, v) else .non)) : if (!(oi u).isN) = true then
    if (!(oi v).isN) = true then
      match oi v, oi u, fun d =>
        match d with
        | D.bl b => if b = true then T D.non else T (D.tup [oi u, oi v])
        | x => False with
      | D.int i, D.int j, P => P (D.bl (decide (i < j)))
      | x, x_1, x_2 => False
    else T (D.tup [oi u, oi v])
  else T (D.tup [oi u, oi v]) := by
  cases u with
  | none => exact q
  | some x =>
    cases v with
    | none => exact q
    | some y =>
      simp only [oi, D.isN, Bool.not_false, if_true]
      by_cases h : x ≤ y
      · rw [if_pos (by simpa [okS] using h)] at q
        rw [decide_eq_false (by omega), if_neg (by decide)]
        exact q
      · rw [if_neg (by simpa [okS] using h)] at q
        rw [decide_eq_true (by omega), if_pos rfl]
        exact q
/-! what is no stretch -/
theorem okT' {ds : List D} (h : ∀ e ∈ ds, (tyD e).isSome = true) : okThing (.tup ds) := ⟨rfl, fun es z => by cases z; exact h⟩
/-- an odd thing: no end of a stretch, or None -/
def Odd1 (d : D) : Prop := (tyD d).isSome = true ∧ isNum d = false ∧ truD d ≠ none ∧ (∀ s, d = .str s → s.length ≤ sizeLine) ∧ (truD d = some true → isEnd d = false)
theorem odd1_of {d : D} (h : d ∈ [D.bl true, D.non, D.str (Str.ofString "1"), D.lst [D.int 1], D.tup [D.int 1], D.dic [] [], D.bl false]) : Odd1 d := by
  simp only [List.mem_cons, List.not_mem_nil, or_false] at h
  rcases h with rfl | rfl | rfl | rfl | rfl | rfl | rfl
  · exact ⟨rfl, rfl, nofun, nofun, fun _ => rfl⟩
  · exact ⟨rfl, rfl, nofun, nofun, nofun⟩
  · exact ⟨rfl, rfl, nofun, fun s e => by cases e; rw [sizeLine_eq]; decide +kernel, fun _ => rfl⟩
  · exact ⟨rfl, rfl, nofun, nofun, fun _ => rfl⟩
  · exact ⟨rfl, rfl, nofun, nofun, fun _ => rfl⟩
  · exact ⟨rfl, rfl, nofun, nofun, nofun⟩
  · exact ⟨rfl, rfl, nofun, nofun, nofun⟩
theorem bad6 {s : Str2} {d e : D} (hd : (tyD d).isSome = true) (hn : isEnd d = false) (he : (tyD e).isSome = true) (hm : isEnd e = false) : ∀ w ∈ [D.lst [oi s.1, oi s.2], D.tup (cutD [oi s.1, oi s.2] none (some 1)), D.tup [oi s.1, oi s.2, D.int 0], D.tup [d, oi s.2], D.tup [oi s.1, e], D.tup [D.int 5, D.int 4]], okThing w ∧ isStr w = false := by
  intro w h
  simp only [List.mem_cons, List.not_mem_nil, or_false] at h
  rcases h with h | h | h | h | h | h
  · exact bad_all (s := s) hd hn (by rw [h]; simp only [List.mem_cons, true_or, or_true])
  · exact bad_all (s := s) hd hn (by rw [h]; simp only [List.mem_cons, true_or, or_true])
  · exact bad_all (s := s) hd hn (by rw [h]; simp only [List.mem_cons, true_or, or_true])
  · exact bad_all (s := s) hd hn (by rw [h]; simp only [List.mem_cons, true_or, or_true])
  · exact bad_all (s := s) he hm (by rw [h]; simp only [List.mem_cons, true_or, or_true])
  · exact bad_all (s := s) hd hn (by rw [h]; simp only [List.mem_cons, true_or, or_true])
theorem bad5 {w : D} (h : w ∈ [D.non, D.str (Str.ofString ".."), D.int 5, D.tup [], D.tup [D.int (10 ^ 60), D.int (0 - 10 ^ 60)]]) : okThing w ∧ isStr w = false := by
  simp only [List.mem_cons, List.not_mem_nil, or_false] at h
  rcases h with rfl | rfl | rfl | rfl | rfl
  · exact ⟨okO rfl nofun, rfl⟩
  · exact ⟨okO rfl nofun, rfl⟩
  · exact ⟨okO rfl nofun, rfl⟩
  · exact ⟨okT' nofun, rfl⟩
  · exact ⟨okT' fun e he => by
      simp only [List.mem_cons, List.not_mem_nil, or_false] at he
      rcases he with rfl | rfl <;> rfl, by decide +kernel⟩
section
variable {s : Str2} {d n : D} {P : D → Prop} {R : Addr → Prop} {bs bn : Addr}
theorem no_sD {p : Prop} (hd : isStr d = false) (e : d = sD s) (ho : okS s = true) : p := by
  rw [e, isStr_sD, ho] at hd
  cases hd
theorem no_bl {p : Prop} (hd : isStr d = false) (e : isStr d = true) : p := by
  rw [hd] at e
  cases e
theorem hasnum_bad1 (hd : okThing d ∧ isStr d = false) (hn : (tyD n).isSome = true) (h : R bs) : dp_hasnum bs bn [d, n] P R :=
  ⟨_, _, rfl, hd.1, hn, fun _ => h, fun e _ => no_bl hd.2 e, fun _ _ e ho _ => no_sD hd.2 e ho⟩
theorem hasnum_bad2 (hs : okS s = true) (hn : (tyD n).isSome = true) (hm : isNum n = false) (h : R bn) : dp_hasnum bs bn [sD s, n] P R :=
  ⟨_, _, rfl, okThing_sD s, hn, fun e => str_no hs e, fun _ _ => h, fun _ _ _ _ e => by rw [e] at hm; cases hm⟩
theorem size_bad (hd : okThing d ∧ isStr d = false) (h : R bs) : dp_size bs [d] P R := ⟨_, rfl, hd.1, fun _ => h, fun _ e ho => no_sD hd.2 e ho⟩
theorem shared_bad1 (hd : okThing d ∧ isStr d = false) (h : R bs) : dp_shared bs [d, sD s] P R :=
  ⟨_, _, rfl, hd.1, okThing_sD s, fun _ => h, fun e _ => no_bl hd.2 e, fun _ _ e _ ho _ => no_sD hd.2 e ho⟩
theorem shared_bad2 (hs : okS s = true) (hd : okThing d ∧ isStr d = false) (h : R bs) : dp_shared bs [sD s, d] P R :=
  ⟨_, _, rfl, okThing_sD s, hd.1, fun e => str_no hs e, fun _ _ => h, fun _ _ _ e _ ho => no_sD hd.2 e ho⟩
end
end L2.DL
namespace L2.DL
open PySem PySem.Spec PyProof.Rows L2.SK TL LamX
local macro_rules | `(tactic| walk_at "dl") => `(tactic| simp only [dSeq, dSet, dBin, dMod, dAdd, dSub, dMul, dFdiv, dPow, dVar, dC, dRet, dRetN, dNext, dDrop, dIfS, dFrz, dOwn, dApp, dRaise, dTru, dAnd, dOr, dNot, dAndV, dOrV, dNotV, dIf, dNil, dCons, dTup, Int.reduceToNat, Int.reduceLT, Int.reduceLE, cpw_a, cpw_b, cpw_c, cpw_d, dp_mixed_eq, dp_number_eq, dp_lies_eq, dLst, dCall, dBi, dCmpI, dEq, dNe, dIs, dIsNot, isN_non, isN_int, isN_bl, isN_str, isN_lst, isN_tup, isN_oi, dIn, dNotIn, dIx, dSl, dNoPart, dPart, dCut, dBack, dNeg, dLen, dIsi, dInt, dStr, dSum, dMin2, dMax2, dAbs, dAll, dSorted, dList, dBegins, dTurns, dMeth, dMeth0, D.isKp, dDisp, dPairs, dGetD, keyD, valD, dIter, dEnum, dZip, dRev, dFor, dLc, dYes, gdName, gdTup, gdLst, gdSet, dAsg, dPar, dSSet, dCallL, dDict, dInD, dLend, dLendT, dFrzK, dOf, dOfT, dIsN, dNotN, dIfM, dTruM, dNotM, dOrM, dAndM, mutQ, recv, dMut, dMutM, dNextM, dSeqM, dSetM, dDropM, dRetM, dIfSM, dOfS, dIn', startM, stAt, dSB, dST, dSetB, dSetT, dSetBT, dNewK, dLendO, dClear, dRng, dSeqR, dRetO, dSetF, dStep, dSeqN, dRetK, dIxS, dMethX, dIsX, dNewE, dLsE, dNilM, dConsM, dLsM, dSetIx, dAppX, dCopyL, dCopyK, dMutX, dLendXT, dLendX, dForZ, dSetFX, dSetNm, dSetNf, dOrE, dOrS, dMutXA, mutA, recvX, dMutMXA, dMutXX, dCallXL, dFrzR, dRetAdd, dM1, fSplit, fPartn, fStarts, fJoin, dIntS, dNewD, dNewF, dSeqNT, dRetNT, dAsgNT, dCallS, dCallNS, dSetNS, dMutM0A, dAppM, startK2, dRetK2, dSl3, dKept, dIsE, dCallM, dBinM, dOwnM, dFrzM, dCallB, startB, dNever, eqD_str, dIsK, wipeD, dsD, ssD, insD, rowD, kpD, dD, sD, startE, List.map_cons, List.map_nil, List.length_cons, List.length_nil, List.length_append, List.length_replicate, Nat.reduceAdd, Nat.reduceSub, List.replicate_succ, List.replicate_zero, List.cons_append, List.nil_append, List.append_nil, List.getElem?_cons_zero, List.getElem?_cons_succ, List.set_cons_zero, List.set_cons_succ, if_true, if_false, Bool.false_eq_true, Bool.not_true, Bool.not_false, true_and, and_true, dec_tt, dec_ff, oi_none, oi_some, atI_0, atI_1, atI_2, atI_3, env10, env4, Option.some.injEq, exists_eq_left', exists_eq_left, sizeLine_eq, Nat.reduceLeDiff, Nat.reduceLT, Nat.zero_le, Option.isNone_none, Option.isNone_some, eqD_int, eqD_bl, Bool.false_or, Bool.true_or, Bool.and_true, Bool.and_false, Bool.true_and, Bool.false_and, Bool.or_true, Bool.or_false, decide_true, decide_false, sq_put_take, sq_put_keep, sq_put_turn, sq_put_move, sq_put_mirror, sq_take_put, sq_take_keep, sq_take_turn, sq_take_move, sq_take_mirror, sq_keep_put, sq_keep_take, sq_keep_turn, sq_keep_move, sq_keep_mirror, sq_turn_put, sq_turn_take, sq_turn_keep, sq_turn_move, sq_turn_mirror, sq_move_put, sq_move_take, sq_move_keep, sq_move_turn, sq_move_mirror, sq_mirror_put, sq_mirror_take, sq_mirror_keep, sq_mirror_turn, sq_mirror_move])

def topS (i : Nat) : Stmt := PySem.Challenge.pw_stretchkeeper_k01_stretches.main.body.getD i (.Pass ⟨0, 0, 0, 0⟩)
section
variable {P : Program} {w : World} {K : PySem.W.Frag} {mg : Str → Option Value} {base : Heap} {C : Addr}
abbrev s__law_lies : Stmt := topS 22
theorem sc__law_lies : FnScope ["_law_stretch_here", "_law_number_here"] ["_law_stretch_here", "_law_number_here"] (defScope s__law_lies) := ⟨rfl, rfl, rfl, by decide +kernel, rfl, by decide +kernel, by decide +kernel⟩

theorem ok__law_lies {f : Addr} {fd : FuncData} (F : Fun K "_law_lies" "_law_lies" s__law_lies f fd) (nb : Nb mg)  : FnOk P w K mg base (L2.CX P w) 1 f fd ["_law_stretch_here", "_law_number_here"] (spD K C dp_lies) := by
  refine fnD F sc__law_lies (fun cdv A outer s H E hr =>
    (sd_cons (sd_if (PW.pt (wd_and (qd_cmp or_isnot ab_isnot (pd_ix (pd 0) pd_int (fun _ _ => rfl)) pd_non (nomark _)) (wd_and1 (qd_cmp op_lt (ab_cmpI _) (pd 1) (pd_ix (pd 0) pd_int (fun _ _ => rfl)) (nomark _))))) (sd_one (sd_ret pd_bl)) sd_nil)
  (sd_one (sd_ret (pd_or (pd_cmp or_is ab_is (pd_ix (pd 0) pd_int (fun _ _ => rfl)) pd_non (nomark _)) (pd_one (pd_cmp op_le (ab_cmpI _) (pd 1) (pd_ix (pd 0) pd_int (fun _ _ => rfl)) (nomark _)))))))) (fun ds T R q => ?_)
  obtain ⟨⟨a, b⟩, n, rfl, q⟩ := q
  refine ⟨rfl, ?_⟩
  cases a with
  | none => cases b <;> (walk_at "dl"; exact q)
  | some a =>
    have e : decide (a ≤ n) = !decide (n < a) := by by_cases c : n < a <;> simp [c] <;> omega
    unfold lies at q
    simp only [e] at q
    cases b <;> (walk_at "dl"; cases c : decide (n < a) <;> (simp only [c, Bool.not_true, Bool.not_false, Bool.false_and, Bool.true_and, if_true, if_false, Bool.false_eq_true] at q ⊢; exact q))

abbrev s__law_shared : Stmt := topS 25
theorem sc__law_shared : FnScope ["_law_one", "_law_other", "_law_firsts", "_law_end", "_law_lasts", "_law_first", "_law_last"] ["_law_one", "_law_other"] (defScope s__law_shared) := ⟨rfl, rfl, rfl, by decide +kernel, rfl, by decide +kernel, by decide +kernel⟩

theorem ok__law_shared {f : Addr} {fd : FuncData} (F : Fun K "_law_shared" "_law_shared" s__law_shared f fd) (nb : Nb mg)  : FnOk P w K mg base (L2.CX P w) 1 f fd ["_law_one", "_law_other"] (spD K C dp_lshared) := by
  refine fnD F sc__law_shared (fun cdv A outer s H E hr =>
    (sd_cons (sd_setLc (i := 2) rfl sc__law_shared.nd rfl rfl (sw_true rfl rfl rfl (by decide +kernel)) (id_of (pd_tup (ad_cons (pd_ix (pd 0) pd_int (fun _ _ => rfl)) (ad_cons (pd_ix (pd 1) pd_int (fun _ _ => rfl)) ad_nil)))) (blkOk_by (own := [("_law_end", 3)]) (N := ["_law_one", "_law_other", "_law_firsts", "_law_end", "_law_lasts", "_law_first", "_law_last"]) (sc := defScope s__law_shared) (by decide +kernel)) (fun _ _ _ _ _ => (gd_name (i := 3) sc__law_shared.nd rfl (by first | exact .inl rfl | exact .inr rfl))) (fun _ _ _ _ _ => (ts_one (qd_cmp or_isnot ab_isnot (pd 3) pd_non (nomark _)))) (fun _ _ _ _ _ => (pd 3)))
  (sd_cons (sd_setLc (i := 4) rfl sc__law_shared.nd rfl rfl (sw_true rfl rfl rfl (by decide +kernel)) (id_of (pd_tup (ad_cons (pd_ix (pd 0) pd_int (fun _ _ => rfl)) (ad_cons (pd_ix (pd 1) pd_int (fun _ _ => rfl)) ad_nil)))) (blkOk_by (own := [("_law_end", 3)]) (N := ["_law_one", "_law_other", "_law_firsts", "_law_end", "_law_lasts", "_law_first", "_law_last"]) (sc := defScope s__law_shared) (by decide +kernel)) (fun _ _ _ _ _ => (gd_name (i := 3) sc__law_shared.nd rfl (by first | exact .inl rfl | exact .inr rfl))) (fun _ _ _ _ _ => (ts_one (qd_cmp or_isnot ab_isnot (pd 3) pd_non (nomark _)))) (fun _ _ _ _ _ => (pd 3)))
  (sd_cons (sd_set (i := 5) sc__law_shared.nd rfl (by first | exact .inl rfl | exact .inr rfl) (pd_maxd nb.max (pd 2)) (hf := (by first | exact .inl rfl | exact .inr rfl)))
  (sd_cons (sd_set (i := 6) sc__law_shared.nd rfl (by first | exact .inl rfl | exact .inr rfl) (pd_mind nb.min (pd 4)) (hf := (by first | exact .inl rfl | exact .inr rfl)))
  (sd_cons (sd_if (PW.pt (wd_and (qd_cmp or_isnot ab_isnot (pd 5) pd_non (nomark _)) (wd_and (qd_cmp or_isnot ab_isnot (pd 6) pd_non (nomark _)) (wd_and1 (qd_cmp op_lt (ab_cmpI _) (pd 6) (pd 5) (nomark _)))))) (sd_one (sd_ret pd_non)) sd_nil)
  (sd_one (sd_ret (pd_tup (ad_cons (pd 5) (ad_cons (pd 6) ad_nil))))))))))) (fun ds T R q => ?_)
  obtain ⟨⟨a, b⟩, ⟨c, d⟩, rfl, q⟩ := q
  refine ⟨rfl, ?_⟩
  walk_at "dl"
  refine lc_some (by simp) a c ?_
  refine lc_some (by simp) b d (maxd_of (by exact rfl) (mind_of (by exact rfl) ?_))
  unfold sharD at q
  rw [show shar (a, b) (c, d) = (laterO a c, soonerO b d) from rfl] at q
  generalize laterO a c = u at q
  generalize soonerO b d = v at q
  exact shar_end q

abbrev s_is_number : Stmt := topS 8
theorem sc_is_number : FnScope ["thing"] ["thing"] (defScope s_is_number) := ⟨rfl, rfl, rfl, by decide +kernel, rfl, by decide +kernel, by decide +kernel⟩

theorem ok_is_number {f : Addr} {fd : FuncData} (F : Fun K "is_number" "is_number" s_is_number f fd) (nb : Nb mg)  : FnOk P w K mg base (L2.CX P w) 1 f fd ["thing"] (spD K C dp_is_number) := by
  refine fnD F sc_is_number (fun cdv A outer s H E hr =>
    (sd_one (sd_ret (pd_and (pd_isi nb.isinstance (ad_cons (pd 0) (ad_cons (pd_cls rfl nb.int bt_int) ad_nil))) (pd_one (pd_not (pd_isi nb.isinstance (ad_cons (pd 0) (ad_cons (pd_cls rfl nb.bool bt_bool) ad_nil))))))))) (fun ds T R q => ?_)
  obtain ⟨d, rfl, h, q⟩ := q
  refine ⟨rfl, ?_⟩
  walk_at "dl"
  obtain ⟨t, ht⟩ := Option.isSome_iff_exists.mp h
  refine ⟨t, ht, by decide, ?_⟩
  cases d <;> first | (cases ht; done) | (cases ht; first | exact q | exact ⟨_, rfl, by decide, q⟩)

abbrev s_need_number : Stmt := topS 9
theorem sc_need_number : FnScope ["thing"] ["thing"] (defScope s_need_number) := ⟨rfl, rfl, rfl, by decide +kernel, rfl, by decide +kernel, by decide +kernel⟩

theorem ok_need_number {f : Addr} {fd : FuncData} (F : Fun K "need_number" "need_number" s_need_number f fd) (nb : Nb mg) {bn : Addr} (ex_BadNumber : Exn K mg "BadNumber" bn) (h_is_number : Fc P w K mg base C 1 "is_number" dp_is_number) : FnOk P w K mg base (L2.CX P w) 2 f fd ["thing"] (spD K C (dp_need_number bn)) := by
  refine fnD F sc_need_number (fun cdv A outer s H E hr =>
    (sd_one (sd_if (qd_not (qd_val (pd_fn h_is_number (hr.mono (by decide)) rfl px (ad_cons (pd 0) ad_nil)))) (sd_one (sd_raise rfl tkD (pmk_exc ex_BadNumber rfl))) sd_nil))) (fun ds T R q => ?_)
  obtain ⟨d, rfl, h, q1, q2⟩ := q
  refine ⟨rfl, ?_⟩
  walk_at "dl"
  refine ⟨d, rfl, h, ?_⟩
  cases e : isNum d with
  | true => exact q1 e
  | false => exact q2 e

abbrev s_is_stretch : Stmt := topS 10
theorem sc_is_stretch : FnScope ["thing", "first", "last"] ["thing"] (defScope s_is_stretch) := ⟨rfl, rfl, rfl, by decide +kernel, rfl, by decide +kernel, by decide +kernel⟩

theorem ok_is_stretch {f : Addr} {fd : FuncData} (F : Fun K "is_stretch" "is_stretch" s_is_stretch f fd) (nb : Nb mg)  (h_is_number : Fc P w K mg base C 1 "is_number" dp_is_number) : FnOk P w K mg base (L2.CX P w) 2 f fd ["thing"] (spD K C dp_is_stretch) := by
  refine fnD F sc_is_stretch (fun cdv A outer s H E hr =>
    (sd_cons (sd_if (PW.pt (wd_or (qd_not (qd_val (pd_isi nb.isinstance (ad_cons (pd 0) (ad_cons (pd_cls rfl nb.tuple bt_tuple) ad_nil))))) (wd_or1 (qd_cmp (or_ne hr.units) ab_ne (pd_len nb.len (ad_cons (pd 0) ad_nil)) pd_int (nomark _))))) (sd_one (sd_ret pd_bl)) sd_nil)
  (sd_cons (sd_asg (pd 0) (gd_tup rfl sc_is_stretch.nd (.cons (i := 1) rfl (by first | exact .inl rfl | exact .inr rfl) (by first | exact .inl rfl | exact .inr rfl) (.cons (i := 2) rfl (by first | exact .inl rfl | exact .inr rfl) (by first | exact .inl rfl | exact .inr rfl) .nil))))
  (sd_cons (sd_if (PW.pt (wd_or (PW.pt (wd_and (qd_cmp or_isnot ab_isnot (pd 1) pd_non (nomark _)) (wd_and1 (qd_not (qd_val (pd_fn h_is_number (hr.mono (by decide)) rfl px (ad_cons (pd 1) ad_nil))))))) (wd_or1 (PW.pt (wd_and (qd_cmp or_isnot ab_isnot (pd 2) pd_non (nomark _)) (wd_and1 (qd_not (qd_val (pd_fn h_is_number (hr.mono (by decide)) rfl px (ad_cons (pd 2) ad_nil)))))))))) (sd_one (sd_ret pd_bl)) sd_nil)
  (sd_one (sd_ret (pd_or (pd_cmp or_is ab_is (pd 1) pd_non (nomark _)) (pd_or (pd_cmp or_is ab_is (pd 2) pd_non (nomark _)) (pd_one (pd_cmp op_le (ab_cmpI _) (pd 1) (pd 2) (nomark _))))))))))) (fun ds T R q => ?_)
  obtain ⟨d, rfl, ⟨h, h2⟩, q⟩ := q
  refine ⟨rfl, ?_⟩
  cases d with
  | tup ds =>
    by_cases hl : ds.length = 2
    · obtain ⟨a, b, rfl⟩ : ∃ a b, ds = [a, b] := by
        match ds, hl with
        | [a, b], _ => exact ⟨a, b, rfl⟩
      have ha := h2 _ rfl a (by simp)
      have hb := h2 _ rfl b (by simp)
      walk_at "dl"
      refine ⟨_, rfl, by decide, ?_⟩
      rw [if_neg (by decide)]
      refine ⟨okE_int _, okE_int _, ?_⟩
      rw [dp_is_number_eq ha, dp_is_number_eq hb]
      rcases end_cases a with rfl | ⟨i, rfl⟩ | ⟨a1, a2⟩ <;> rcases end_cases b with rfl | ⟨j, rfl⟩ | ⟨b1, b2⟩
      all_goals (simp_all [isStr, isEnd_no, isEnd_non, isEnd_int, isN_non, isN_int, isNum_non, isNum_int, leD_nx, leD_in, leD_ii]; done)
    · walk_at "dl"
      refine ⟨_, rfl, by decide, ?_⟩
      rw [if_neg (by decide)]
      refine ⟨okE_int _, okE_int _, ?_⟩
      have e : ((ds.length : Int) = 2) = False := by simp; omega
      have q' : T (.bl false) := by
        match ds, hl, q with
        | [], _, q => exact q
        | [_], _, q => exact q
        | _ :: _ :: _ :: _, _, q => exact q
      simp only [e, decide_false, Bool.not_false, if_true]
      exact q'
  | _ => first | (cases h; done) | exact ⟨_, rfl, by decide, q⟩

abbrev s_need_stretch : Stmt := topS 11
theorem sc_need_stretch : FnScope ["thing"] ["thing"] (defScope s_need_stretch) := ⟨rfl, rfl, rfl, by decide +kernel, rfl, by decide +kernel, by decide +kernel⟩

theorem ok_need_stretch {f : Addr} {fd : FuncData} (F : Fun K "need_stretch" "need_stretch" s_need_stretch f fd) (nb : Nb mg) {bs : Addr} (ex_BadStretch : Exn K mg "BadStretch" bs) (h_is_stretch : Fc P w K mg base C 2 "is_stretch" dp_is_stretch) : FnOk P w K mg base (L2.CX P w) 3 f fd ["thing"] (spD K C (dp_need_stretch bs)) := by
  refine fnD F sc_need_stretch (fun cdv A outer s H E hr =>
    (sd_one (sd_if (qd_not (qd_val (pd_fn h_is_stretch (hr.mono (by decide)) rfl px (ad_cons (pd 0) ad_nil)))) (sd_one (sd_raise rfl tkD (pmk_exc ex_BadStretch rfl))) sd_nil))) (fun ds T R q => ?_)
  obtain ⟨d, rfl, h, q1, q2⟩ := q
  refine ⟨rfl, ?_⟩
  walk_at "dl"
  refine ⟨d, rfl, h, ?_⟩
  cases e : isStr d with
  | true => exact q1 e
  | false => exact q2 e

abbrev s_has_number : Stmt := topS 12
theorem sc_has_number : FnScope ["stretch", "number", "first", "last"] ["stretch", "number"] (defScope s_has_number) := ⟨rfl, rfl, rfl, by decide +kernel, rfl, by decide +kernel, by decide +kernel⟩

theorem ok_has_number {f : Addr} {fd : FuncData} (F : Fun K "has_number" "has_number" s_has_number f fd) (nb : Nb mg) {bs bn : Addr} (h_need_number : Fc P w K mg base C 2 "need_number" (dp_need_number bn)) (h_need_stretch : Fc P w K mg base C 3 "need_stretch" (dp_need_stretch bs)) : FnOk P w K mg base (L2.CX P w) 4 f fd ["stretch", "number"] (spD K C (dp_hasnum bs bn)) := by
  refine fnD F sc_has_number (fun cdv A outer s H E hr =>
    (sd_cons (sd_expr (pd_fn h_need_stretch (hr.mono (by decide)) rfl px (ad_cons (pd 0) ad_nil)))
  (sd_cons (sd_expr (pd_fn h_need_number (hr.mono (by decide)) rfl px (ad_cons (pd 1) ad_nil)))
  (sd_cons (sd_asg (pd 0) (gd_tup rfl sc_has_number.nd (.cons (i := 2) rfl (by first | exact .inl rfl | exact .inr rfl) (by first | exact .inl rfl | exact .inr rfl) (.cons (i := 3) rfl (by first | exact .inl rfl | exact .inr rfl) (by first | exact .inl rfl | exact .inr rfl) .nil))))
  (sd_one (sd_ret (pd_and (pd_or (pd_cmp or_is ab_is (pd 2) pd_non (nomark _)) (pd_one (pd_cmp op_le (ab_cmpI _) (pd 2) (pd 1) (nomark _)))) (pd_one (pd_or (pd_cmp or_is ab_is (pd 3) pd_non (nomark _)) (pd_one (pd_cmp op_le (ab_cmpI _) (pd 1) (pd 3) (nomark _)))))))))))) (fun ds T R q => ?_)
  obtain ⟨d, n, rfl, h1, h2, q1, q2, q3⟩ := q
  refine ⟨rfl, ?_⟩
  walk_at "dl"
  refine ⟨d, rfl, h1, fun hs => ?_, fun hs => q1 hs⟩
  refine ⟨n, rfl, h2, fun hn => ?_, fun hn => q2 hs hn⟩
  obtain ⟨s, rfl, ho⟩ := isStr_inv hs
  obtain ⟨i, rfl⟩ := isNum_inv hn
  have q := q3 s i rfl ho rfl
  obtain ⟨a, b⟩ := s
  cases a <;> cases b <;> walk_at "dl"
  · exact q
  · simpa [lies] using q
  · simp only [lies, Bool.and_true] at q
    split <;> simp_all
  · simp only [lies] at q
    split <;> simp_all

abbrev s_later : Stmt := topS 14
theorem sc_later : FnScope ["one", "other"] ["one", "other"] (defScope s_later) := ⟨rfl, rfl, rfl, by decide +kernel, rfl, by decide +kernel, by decide +kernel⟩

theorem ok_later {f : Addr} {fd : FuncData} (F : Fun K "later" "later" s_later f fd) (nb : Nb mg)  : FnOk P w K mg base (L2.CX P w) 1 f fd ["one", "other"] (spD K C dp_later) := by
  refine fnD F sc_later (fun cdv A outer s H E hr =>
    (sd_cons (sd_if (PW.pt (wd_or (qd_cmp or_is ab_is (pd 0) pd_non (nomark _)) (wd_or1 (qd_cmp or_is ab_is (pd 1) pd_non (nomark _))))) (sd_one (sd_ret (pd_if (qd_cmp or_is ab_is (pd 0) pd_non (nomark _)) (pd 1) (pd 0)))) sd_nil)
  (sd_one (sd_ret (pd_max2 nb.max (ad_cons (pd 0) (ad_cons (pd 1) ad_nil))))))) (fun ds T R q => ?_)
  obtain ⟨a, b, rfl, q⟩ := q
  refine ⟨rfl, ?_⟩
  cases a <;> cases b <;> (walk_at "dl"; exact q)

abbrev s_sooner : Stmt := topS 15
theorem sc_sooner : FnScope ["one", "other"] ["one", "other"] (defScope s_sooner) := ⟨rfl, rfl, rfl, by decide +kernel, rfl, by decide +kernel, by decide +kernel⟩

theorem ok_sooner {f : Addr} {fd : FuncData} (F : Fun K "sooner" "sooner" s_sooner f fd) (nb : Nb mg)  : FnOk P w K mg base (L2.CX P w) 1 f fd ["one", "other"] (spD K C dp_sooner) := by
  refine fnD F sc_sooner (fun cdv A outer s H E hr =>
    (sd_cons (sd_if (PW.pt (wd_or (qd_cmp or_is ab_is (pd 0) pd_non (nomark _)) (wd_or1 (qd_cmp or_is ab_is (pd 1) pd_non (nomark _))))) (sd_one (sd_ret (pd_if (qd_cmp or_is ab_is (pd 0) pd_non (nomark _)) (pd 1) (pd 0)))) sd_nil)
  (sd_one (sd_ret (pd_min2 nb.min (ad_cons (pd 0) (ad_cons (pd 1) ad_nil))))))) (fun ds T R q => ?_)
  obtain ⟨a, b, rfl, q⟩ := q
  refine ⟨rfl, ?_⟩
  cases a <;> cases b <;> (walk_at "dl"; exact q)

abbrev s_shared : Stmt := topS 16
theorem sc_shared : FnScope ["one", "other", "found"] ["one", "other"] (defScope s_shared) := ⟨rfl, rfl, rfl, by decide +kernel, rfl, by decide +kernel, by decide +kernel⟩

theorem ok_shared {f : Addr} {fd : FuncData} (F : Fun K "shared" "shared" s_shared f fd) (nb : Nb mg) {bs : Addr} (h_is_stretch : Fc P w K mg base C 2 "is_stretch" dp_is_stretch) (h_later : Fc P w K mg base C 1 "later" dp_later) (h_need_stretch : Fc P w K mg base C 3 "need_stretch" (dp_need_stretch bs)) (h_sooner : Fc P w K mg base C 1 "sooner" dp_sooner) : FnOk P w K mg base (L2.CX P w) 4 f fd ["one", "other"] (spD K C (dp_shared bs)) := by
  refine fnD F sc_shared (fun cdv A outer s H E hr =>
    (sd_cons (sd_expr (pd_fn h_need_stretch (hr.mono (by decide)) rfl px (ad_cons (pd 0) ad_nil)))
  (sd_cons (sd_expr (pd_fn h_need_stretch (hr.mono (by decide)) rfl px (ad_cons (pd 1) ad_nil)))
  (sd_cons (sd_set (i := 2) sc_shared.nd rfl (by first | exact .inl rfl | exact .inr rfl) (pd_tup (ad_cons (pd_fn h_later (hr.mono (by decide)) rfl px (ad_cons (pd_ix (pd 0) pd_int (fun _ _ => rfl)) (ad_cons (pd_ix (pd 1) pd_int (fun _ _ => rfl)) ad_nil))) (ad_cons (pd_fn h_sooner (hr.mono (by decide)) rfl px (ad_cons (pd_ix (pd 0) pd_int (fun _ _ => rfl)) (ad_cons (pd_ix (pd 1) pd_int (fun _ _ => rfl)) ad_nil))) ad_nil))) (hf := (by first | exact .inl rfl | exact .inr rfl)))
  (sd_one (sd_ret (pd_if (qd_val (pd_fn h_is_stretch (hr.mono (by decide)) rfl px (ad_cons (pd 2) ad_nil))) (pd 2) pd_non))))))) (fun ds T R q => ?_)
  obtain ⟨d, e, rfl, h1, h2, q1, q2, q3⟩ := q
  refine ⟨rfl, ?_⟩
  walk_at "dl"
  refine ⟨d, rfl, h1, fun hs => ?_, fun hs => q1 hs⟩
  refine ⟨e, rfl, h2, fun ht => ?_, fun ht => q2 hs ht⟩
  obtain ⟨s, rfl, ho⟩ := isStr_inv hs
  obtain ⟨t, rfl, hp⟩ := isStr_inv ht
  have q := q3 s t rfl rfl ho hp
  walk_at "dl"
  refine ⟨_, _, rfl, _, _, rfl, sD (shar s t), rfl, okThing_sD _, ?_⟩
  rw [isStr_sD]
  unfold sharD at q
  cases e : okS (shar s t) with
  | true =>
    rw [e, if_pos rfl] at q
    exact q
  | false =>
    rw [e, if_neg (by decide)] at q
    exact q

abbrev s_size_of : Stmt := topS 13
theorem sc_size_of : FnScope ["stretch", "first", "last"] ["stretch"] (defScope s_size_of) := ⟨rfl, rfl, rfl, by decide +kernel, rfl, by decide +kernel, by decide +kernel⟩

theorem ok_size_of {f : Addr} {fd : FuncData} (F : Fun K "size_of" "size_of" s_size_of f fd) (nb : Nb mg) {bs : Addr} (h_need_stretch : Fc P w K mg base C 3 "need_stretch" (dp_need_stretch bs)) : FnOk P w K mg base (L2.CX P w) 4 f fd ["stretch"] (spD K C (dp_size bs)) := by
  refine fnD F sc_size_of (fun cdv A outer s H E hr =>
    (sd_cons (sd_expr (pd_fn h_need_stretch (hr.mono (by decide)) rfl px (ad_cons (pd 0) ad_nil)))
  (sd_cons (sd_asg (pd 0) (gd_tup rfl sc_size_of.nd (.cons (i := 1) rfl (by first | exact .inl rfl | exact .inr rfl) (by first | exact .inl rfl | exact .inr rfl) (.cons (i := 2) rfl (by first | exact .inl rfl | exact .inr rfl) (by first | exact .inl rfl | exact .inr rfl) .nil))))
  (sd_cons (sd_if (PW.pt (wd_or (qd_cmp or_is ab_is (pd 1) pd_non (nomark _)) (wd_or1 (qd_cmp or_is ab_is (pd 2) pd_non (nomark _))))) (sd_one (sd_ret pd_non)) sd_nil)
  (sd_one (sd_ret (pd_op or_add ab_add (pd_op op_sub ab_sub (pd 2) (pd 1)) pd_int))))))) (fun ds T R q => ?_)
  obtain ⟨d, rfl, h1, q1, q2⟩ := q
  refine ⟨rfl, ?_⟩
  walk_at "dl"
  refine ⟨d, rfl, h1, fun hs => ?_, fun hs => q1 hs⟩
  obtain ⟨s, rfl, ho⟩ := isStr_inv hs
  have q := q2 s rfl ho
  obtain ⟨a, b⟩ := s
  cases a <;> cases b <;> (walk_at "dl"; exact q)

abbrev s__law_good : Stmt := topS 26
theorem sc__law_good : FnScope ["_law_one", "_law_other", "_law_number_here", "_law_told", "_law_due", "_law_found"] ["_law_one", "_law_other", "_law_number_here"] (defScope s__law_good) := ⟨rfl, rfl, rfl, by decide +kernel, rfl, by decide +kernel, by decide +kernel⟩

theorem ok__law_good {f : Addr} {fd : FuncData} (F : Fun K "_law_good" "_law_good" s__law_good f fd) (nb : Nb mg) {bs bn : Addr} (h__law_lies : Fc P w K mg base C 1 "_law_lies" dp_lies) (h__law_shared : Fc P w K mg base C 1 "_law_shared" dp_lshared) (h_has_number : Fc P w K mg base C 4 "has_number" (dp_hasnum bs bn)) (h_is_stretch : Fc P w K mg base C 2 "is_stretch" dp_is_stretch) (h_shared : Fc P w K mg base C 4 "shared" (dp_shared bs)) (h_size_of : Fc P w K mg base C 4 "size_of" (dp_size bs)) : FnOk P w K mg base (L2.CX P w) 5 f fd ["_law_one", "_law_other", "_law_number_here"] (spD K C dp_lgood1) := by
  refine fnD F sc__law_good (fun cdv A outer s H E hr =>
    (sd_cons (sd_set (i := 3) sc__law_good.nd rfl (by first | exact .inl rfl | exact .inr rfl) (pd_fn h_has_number (hr.mono (by decide)) rfl px (ad_cons (pd 0) (ad_cons (pd 2) ad_nil))) (hf := (by first | exact .inl rfl | exact .inr rfl)))
  (sd_cons (sd_if (PW.pt (wd_or (qd_cmp or_isnot ab_isnot (pd_fn h_is_stretch (hr.mono (by decide)) rfl px (ad_cons (pd 0) ad_nil)) pd_bl (nomark _)) (wd_or (qd_not (qd_val (pd_isi nb.isinstance (ad_cons (pd 3) (ad_cons (pd_cls rfl nb.bool bt_bool) ad_nil))))) (wd_or1 (qd_cmp (or_ne hr.units) ab_ne (pd 3) (pd_fn h__law_lies (hr.mono (by decide)) rfl px (ad_cons (pd 0) (ad_cons (pd 2) ad_nil))) (nomark _)))))) (sd_one (sd_ret pd_bl)) sd_nil)
  (sd_cons (sd_set (i := 4) sc__law_good.nd rfl (by first | exact .inl rfl | exact .inr rfl) (pd_if (qd_cmp (or_in (hu65 hr)) ab_in pd_non (pd 0) (by rfl)) pd_non (pd_op or_add ab_add (pd_op op_sub ab_sub (pd_ix (pd 0) pd_int (fun _ _ => rfl)) (pd_ix (pd 0) pd_int (fun _ _ => rfl))) pd_int)) (hf := (by first | exact .inl rfl | exact .inr rfl)))
  (sd_cons (sd_if (PW.pt (wd_or (qd_cmp (or_ne hr.units) ab_ne (pd_fn h_size_of (hr.mono (by decide)) rfl px (ad_cons (pd 0) ad_nil)) (pd 4) (nomark _)) (wd_or1 (qd_val (pd_isi nb.isinstance (ad_cons (pd_fn h_size_of (hr.mono (by decide)) rfl px (ad_cons (pd 0) ad_nil)) (ad_cons (pd_cls rfl nb.bool bt_bool) ad_nil))))))) (sd_one (sd_ret pd_bl)) sd_nil)
  (sd_cons (sd_set (i := 5) sc__law_good.nd rfl (by first | exact .inl rfl | exact .inr rfl) (pd_fn h_shared (hr.mono (by decide)) rfl px (ad_cons (pd 0) (ad_cons (pd 1) ad_nil))) (hf := (by first | exact .inl rfl | exact .inr rfl)))
  (sd_cons (sd_if (PW.pt (wd_or (qd_cmp (or_ne hr.units) ab_ne (pd 5) (pd_fn h__law_shared (hr.mono (by decide)) rfl px (ad_cons (pd 0) (ad_cons (pd 1) ad_nil))) (nomark _)) (wd_or1 (PW.pt (wd_and (qd_cmp or_isnot ab_isnot (pd 5) pd_non (nomark _)) (wd_and1 (qd_not (qd_val (pd_isi nb.isinstance (ad_cons (pd 5) (ad_cons (pd_cls rfl nb.tuple bt_tuple) ad_nil))))))))))) (sd_one (sd_ret pd_bl)) sd_nil)
  (sd_one (sd_ret (pd_and (pd_cmp (or_eq hr.units) ab_eq (pd_fn h_shared (hr.mono (by decide)) rfl px (ad_cons (pd 1) (ad_cons (pd 0) ad_nil))) (pd 5) (nomark _)) (pd_one (pd_cmp (or_eq hr.units) ab_eq (pd_fn h_shared (hr.mono (by decide)) rfl px (ad_cons (pd 0) (ad_cons (pd 0) ad_nil))) (pd 0) (nomark _))))))))))))) (fun ds T R q => ?_)
  obtain ⟨s, t, n, rfl, hs, ht, q⟩ := q
  refine ⟨rfl, ?_⟩
  walk_at "dl"
  refine hasnum_ok hs (isstr_ok hs ?_)
  walk_at "dl"
  refine ⟨_, rfl, by decide, ?_⟩
  rw [if_neg (by decide)]
  refine ⟨okE_bl _, okE_bl _, ?_⟩
  refine ⟨rfl, by obtain ⟨a, b⟩ := s; cases a <;> cases b <;> rfl, ?_⟩
  have hsh := sharD_cases s t
  obtain ⟨a, b⟩ := s
  cases a with
  | none =>
    rw [if_pos (by cases b <;> simp [oi, eqD_nn])]
    refine size_ok hs ?_
    refine ⟨okE_non, okE_non, ?_⟩
    rw [show sizeD (none, b) = .non from rfl, eqD_nn]
    walk_at "dl"
    refine size_ok hs ?_
    refine ⟨_, rfl, by decide, ?_⟩
    rw [if_neg (by decide)]
    refine shared_ok hs ht ⟨(none, b), t, rfl, ?_⟩
    rcases hsh with e | ⟨u, e⟩
    · rw [e]
      refine ⟨okE_non, okE_non, ?_⟩
      rw [eqD_nn]
      walk_at "dl"
      refine shared_ok ht hs ?_
      rw [sharD_comm, e]
      refine ⟨okE_non, okE_non, ?_⟩
      rw [eqD_nn]
      walk_at "dl"
      refine shared_ok hs hs ?_
      rw [sharD_self hs]
      have z : T (.bl (eqD (sD (none, b)) (sD (none, b)))) := by rw [eqD_same]; exact q
      exact ⟨okE_sD _, okE_sD (none, b), z⟩
    · rw [e]
      refine ⟨okE_sD _, okE_sD _, ?_⟩
      rw [eqD_sD, decide_eq_true rfl]
      walk_at "dl"
      refine ⟨_, rfl, by decide, ?_⟩
      rw [if_neg (by decide)]
      refine shared_ok ht hs ?_
      rw [sharD_comm, e]
      refine ⟨okE_sD _, okE_sD _, ?_⟩
      rw [show eqD (sD u) (D.tup [oi u.fst, oi u.snd]) = true from eqD_same u]
      walk_at "dl"
      refine shared_ok hs hs ?_
      rw [sharD_self hs]
      have z : T (.bl (eqD (sD (none, b)) (sD (none, b)))) := by rw [eqD_same]; exact q
      exact ⟨okE_sD _, okE_sD (none, b), z⟩
  | some a =>
    cases b with
    | none =>
      rw [if_pos (by simp [oi, eqD_nn])]
      refine size_ok hs ?_
      refine ⟨okE_non, okE_non, ?_⟩
      rw [show sizeD (some a, none) = .non from rfl, eqD_nn]
      walk_at "dl"
      refine size_ok hs ?_
      refine ⟨_, rfl, by decide, ?_⟩
      rw [if_neg (by decide)]
      refine shared_ok hs ht ⟨(some a, none), t, rfl, ?_⟩
      rcases hsh with e | ⟨u, e⟩
      · rw [e]
        refine ⟨okE_non, okE_non, ?_⟩
        rw [eqD_nn]
        walk_at "dl"
        refine shared_ok ht hs ?_
        rw [sharD_comm, e]
        refine ⟨okE_non, okE_non, ?_⟩
        rw [eqD_nn]
        walk_at "dl"
        refine shared_ok hs hs ?_
        rw [sharD_self hs]
        have z : T (.bl (eqD (sD (some a, none)) (sD (some a, none)))) := by rw [eqD_same]; exact q
        exact ⟨okE_sD _, okE_sD (some a, none), z⟩
      · rw [e]
        refine ⟨okE_sD _, okE_sD _, ?_⟩
        rw [eqD_sD, decide_eq_true rfl]
        walk_at "dl"
        refine ⟨_, rfl, by decide, ?_⟩
        rw [if_neg (by decide)]
        refine shared_ok ht hs ?_
        rw [sharD_comm, e]
        refine ⟨okE_sD _, okE_sD _, ?_⟩
        rw [show eqD (sD u) (D.tup [oi u.fst, oi u.snd]) = true from eqD_same u]
        walk_at "dl"
        refine shared_ok hs hs ?_
        rw [sharD_self hs]
        have z : T (.bl (eqD (sD (some a, none)) (sD (some a, none)))) := by rw [eqD_same]; exact q
        exact ⟨okE_sD _, okE_sD (some a, none), z⟩
    | some b =>
      rw [if_neg (by simp [oi, eqD, D.toPy, PyData.eqv])]
      walk_at "dl"
      refine size_ok hs ?_
      refine ⟨okE_int _, okE_int _, ?_⟩
      rw [show sizeD (some a, some b) = .int (b - a + 1) from rfl, eqD_int, decide_eq_true rfl]
      walk_at "dl"
      refine size_ok hs ?_
      refine ⟨_, rfl, by decide, ?_⟩
      rw [if_neg (by decide)]
      refine shared_ok hs ht ⟨(some a, some b), t, rfl, ?_⟩
      rcases hsh with e | ⟨u, e⟩
      · rw [e]
        refine ⟨okE_non, okE_non, ?_⟩
        rw [eqD_nn]
        walk_at "dl"
        refine shared_ok ht hs ?_
        rw [sharD_comm, e]
        refine ⟨okE_non, okE_non, ?_⟩
        rw [eqD_nn]
        walk_at "dl"
        refine shared_ok hs hs ?_
        rw [sharD_self hs]
        have z : T (.bl (eqD (sD (some a, some b)) (sD (some a, some b)))) := by rw [eqD_same]; exact q
        exact ⟨okE_sD _, okE_sD (some a, some b), z⟩
      · rw [e]
        refine ⟨okE_sD _, okE_sD _, ?_⟩
        rw [eqD_sD, decide_eq_true rfl]
        walk_at "dl"
        refine ⟨_, rfl, by decide, ?_⟩
        rw [if_neg (by decide)]
        refine shared_ok ht hs ?_
        rw [sharD_comm, e]
        refine ⟨okE_sD _, okE_sD _, ?_⟩
        rw [show eqD (sD u) (D.tup [oi u.fst, oi u.snd]) = true from eqD_same u]
        walk_at "dl"
        refine shared_ok hs hs ?_
        rw [sharD_self hs]
        have z : T (.bl (eqD (sD (some a, some b)) (sD (some a, some b)))) := by rw [eqD_same]; exact q
        exact ⟨okE_sD _, okE_sD (some a, some b), z⟩

abbrev s__law_mixed : Stmt := topS 18
theorem sc__law_mixed : FnScope ["_law_cell", "_law_k", "_law_number_here"] ["_law_cell", "_law_k"] (defScope s__law_mixed) := ⟨rfl, rfl, rfl, by decide +kernel, rfl, by decide +kernel, by decide +kernel⟩

theorem ok__law_mixed {f : Addr} {fd : FuncData} (F : Fun K "_law_mixed" "_law_mixed" s__law_mixed f fd) (nb : Nb mg)  : FnOk P w K mg base (L2.CX P w) 1 f fd ["_law_cell", "_law_k"] (spD K C dp_mixed) := by
  refine fnD F sc__law_mixed (fun cdv A outer s H E hr =>
    (sd_cons (sd_set (i := 2) sc__law_mixed.nd rfl (by first | exact .inl rfl | exact .inr rfl) (pd_op op_mod ab_mod (pd_op or_add ab_add (pd_op or_add ab_add (pd_op op_mod ab_mod (pd 0) pd_int) (pd_op or_mul ab_mul pd_int (pd 1))) pd_int) pd_int) (hf := (by first | exact .inl rfl | exact .inr rfl)))
  (sd_one (sd_ret (pd_op op_mod ab_mod (pd_op or_mul ab_mul (pd_op op_mod ab_mod (pd_op or_mul ab_mul (pd 2) (pd 2)) pd_int) (pd 2)) pd_int))))) (fun ds T R q => ?_)
  obtain ⟨c, k, rfl, q⟩ := q
  refine ⟨rfl, ?_⟩
  walk_at "dl"
  have a1 := Int.emod_nonneg (c % 1000000007 + 7919 * k + 11) (show (1000003 : Int) ≠ 0 by decide)
  have a2 := Int.emod_lt_of_pos (c % 1000000007 + 7919 * k + 11) (show (0 : Int) < 1000003 by decide)
  generalize (c % 1000000007 + 7919 * k + 11) % 1000003 = n at a1 a2
  have b1 := Int.emod_nonneg (n * n) (show (1000003 : Int) ≠ 0 by decide)
  have b2 := Int.emod_lt_of_pos (n * n) (show (0 : Int) < 1000003 by decide)
  exact ⟨mulL (by decide) (by decide), mulL (by omega) (by omega), mulL (by omega) (by omega), q _ (Int.emod_nonneg _ (by decide)) (Int.emod_lt_of_pos _ (by decide))⟩

abbrev s__law_number : Stmt := topS 20
theorem sc__law_number : FnScope ["_law_cell", "_law_k", "_law_number_here", "_law_wide", "_law_some", "_law_far"] ["_law_cell", "_law_k"] (defScope s__law_number) := ⟨rfl, rfl, rfl, by decide +kernel, rfl, by decide +kernel, by decide +kernel⟩

theorem ok__law_number {f : Addr} {fd : FuncData} (F : Fun K "_law_number" "_law_number" s__law_number f fd) (nb : Nb mg)  (h__law_mixed : Fc P w K mg base C 1 "_law_mixed" dp_mixed) : FnOk P w K mg base (L2.CX P w) 2 f fd ["_law_cell", "_law_k"] (spD K C dp_number) := by
  refine fnD F sc__law_number (fun cdv A outer s H E hr =>
    (sd_cons (sd_set (i := 2) sc__law_number.nd rfl (by first | exact .inl rfl | exact .inr rfl) (pd_fn h__law_mixed (hr.mono (by decide)) rfl px (ad_cons (pd 0) (ad_cons (pd 1) ad_nil))) (hf := (by first | exact .inl rfl | exact .inr rfl)))
  (sd_cons (sd_set (i := 3) sc__law_number.nd rfl (by first | exact .inl rfl | exact .inr rfl) (pd_op or_add ab_add (pd_op or_add ab_add (pd_op or_mul ab_mul (pd_op op_mod ab_mod (pd 0) (pd_op op_powI ab_pow pd_int pd_int)) (pd_op op_powI ab_pow pd_int pd_int)) (pd_op or_mul ab_mul (pd 2) pd_int)) (pd_fn h__law_mixed (hr.mono (by decide)) rfl px (ad_cons (pd 0) (ad_cons (pd_op or_add ab_add (pd 1) pd_int) ad_nil)))) (hf := (by first | exact .inl rfl | exact .inr rfl)))
  (sd_cons (sd_set (i := 4) sc__law_number.nd rfl (by first | exact .inl rfl | exact .inr rfl) (pd_lst (ad_cons (pd_op op_sub ab_sub (pd_op op_mod ab_mod (pd 2) pd_int) pd_int) (ad_cons (pd_op op_sub ab_sub (pd_op op_mod ab_mod (pd 2) pd_int) pd_int) (ad_cons (pd_op op_sub ab_sub (pd_op op_mod ab_mod (pd 2) pd_int) pd_int) (ad_cons (pd_op op_sub ab_sub (pd_op op_mod ab_mod (pd 3) (pd_op or_add ab_add (pd_op or_mul ab_mul pd_int (pd_op op_powI ab_pow pd_int pd_int)) pd_int)) (pd_op op_powI ab_pow pd_int pd_int)) (ad_cons (pd_op op_powI ab_pow pd_int pd_int) ad_nil)))))) (hf := (by first | exact .inl rfl | exact .inr rfl)))
  (sd_cons (sd_set (i := 5) sc__law_number.nd rfl (by first | exact .inl rfl | exact .inr rfl) (pd_op or_add ab_add (pd_op op_powI ab_pow (pd_op op_powI ab_pow pd_int pd_int) pd_int) (pd_op op_mod ab_mod (pd 2) pd_int)) (hf := (by first | exact .inl rfl | exact .inr rfl)))
  (sd_one (sd_ret (pd_ix (pd_op or_add ab_add (pd 4) (pd_lst (ad_cons (pd_op op_sub ab_sub pd_int (pd_op op_powI ab_pow pd_int pd_int)) (ad_cons (pd_op op_sub ab_sub (pd_op op_mod ab_mod (pd 2) pd_int) pd_int) (ad_cons (pd_ix (pd_lst (ad_cons (pd 5) (ad_cons (pd_op op_sub ab_sub pd_int (pd 5)) ad_nil))) (pd_op op_mod ab_mod (pd_op op_fdiv ab_fdiv (pd 2) pd_int) pd_int) (fun _ _ => rfl)) ad_nil))))) (pd_op op_mod ab_mod (pd_op op_fdiv ab_fdiv (pd 2) pd_int) pd_int) (fun _ _ => rfl))))))))) (fun ds T R q => ?_)
  obtain ⟨c, k, rfl, q⟩ := q
  refine ⟨rfl, ?_⟩
  walk_at "dl"
  intro z z0 z1
  refine ⟨by decide, law_mul1 c, mulL (by omega) (by omega), fun y y0 y1 => ?_⟩
  refine ⟨mulL (by decide) (by decide), by decide, at_mod (by decide) (by simp) fun d hd => at_mod (by decide) (by simp) fun e he => ?_⟩
  rw [pow_ok] at hd
  have a1 : (0 : Int) ≤ (c % 10 ^ 40 * 1000003 ^ 4 + z * 1000003 + y) % (2 * 10 ^ 60 + 1) := Int.emod_nonneg _ (by decide)
  have a2 : (c % 10 ^ 40 * 1000003 ^ 4 + z * 1000003 + y) % (2 * 10 ^ 60 + 1) < 2 * 10 ^ 60 + 1 := Int.emod_lt_of_pos _ (by decide)
  generalize (c % 10 ^ 40 * 1000003 ^ 4 + z * 1000003 + y) % (2 * 10 ^ 60 + 1) = x at a1 a2 he
  simp only [List.mem_cons, List.not_mem_nil, or_false] at hd he
  rcases hd with rfl | rfl <;> rcases he with rfl | rfl | rfl | rfl | rfl | rfl | rfl | rfl <;> exact q _ (by unfold Lim; omega)

abbrev s__law_kept : Stmt := topS 23
theorem sc__law_kept : FnScope ["_law_deed", "_law_kept_here", "_law_e"] ["_law_deed"] (defScope s__law_kept) := ⟨rfl, rfl, rfl, by decide +kernel, rfl, by decide +kernel, by decide +kernel⟩

theorem kd__law_kept {f KE : Addr} {fd : FuncData} (F : Fun K "_law_kept" "_law_kept" s__law_kept f fd) (hb : L2.Binds K fd ["_law_deed"] []) (hm : mg "_law_kept" = some (.ref f)) (he : mg "KeepError" = some (.ref KE)) : Kd K mg KE "_law_kept" :=
  ⟨s__law_kept, f, fd, ["_law_deed", "_law_kept_here", "_law_e"], "_law_deed", F, sc__law_kept, hb, hm, rfl, Or.inl rfl, by decide, by decide, fun X cdg q eK em => by
    subst eK
    subst em
    exact kept_gives (by decide +kernel) rfl rfl rfl rfl rfl rfl he⟩

abbrev s__law_word : Stmt := topS 24
theorem sc__law_word : FnScope ["_law_e", "_law_some", "_law_word_here", "_law_is_it"] ["_law_e"] (defScope s__law_word) := ⟨rfl, rfl, rfl, by decide +kernel, rfl, by decide +kernel, by decide +kernel⟩

theorem ok__law_word {f : Addr} {fd : FuncData} (F : Fun K "_law_word" "_law_word" s__law_word f fd) (nb : Nb mg) {KE : Addr} {ea : Kc → Addr} (EC : Ecs K mg KE ea) : FnOk P w K mg base (L2.CX P w) 1 f fd ["_law_e"] (spD K C (dp_word ea)) := by
  refine fnD F sc__law_word (fun cdv A outer s H E hr =>
    (sd_cons (sd_if (qd_cmp or_is ab_is (pd 0) pd_non (nomark _)) (sd_one (sd_ret (pd_lst (ad_cons pd_str ad_nil)))) sd_nil)
  (sd_cons (sd_set (i := 1) sc__law_word.nd rfl (by first | exact .inl rfl | exact .inr rfl) (pd_lst (ad_cons (pd_tup (ad_cons pd_str (ad_cons (pd_isE (K := K) rfl nb.isinstance (pd 0) (pd_glob rfl EC.num)) ad_nil))) (ad_cons (pd_tup (ad_cons pd_str (ad_cons (pd_isE (K := K) rfl nb.isinstance (pd 0) (pd_glob rfl EC.str)) ad_nil))) ad_nil))) (hf := (by first | exact .inl rfl | exact .inr rfl)))
  (sd_cons (sd_set (i := 1) sc__law_word.nd rfl (by first | exact .inl rfl | exact .inr rfl) (pd_op or_add ab_add (pd 1) (pd_lst (ad_cons (pd_tup (ad_cons pd_str (ad_cons (pd_isE (K := K) rfl nb.isinstance (pd 0) (pd_glob rfl EC.kee)) ad_nil))) (ad_cons (pd_tup (ad_cons pd_str (ad_cons (pd_isE (K := K) rfl nb.isinstance (pd 0) (pd_glob rfl EC.tex)) ad_nil))) ad_nil)))) (hf := (by first | exact .inl rfl | exact .inr rfl)))
  (sd_cons (sd_set (i := 1) sc__law_word.nd rfl (by first | exact .inl rfl | exact .inr rfl) (pd_op or_add ab_add (pd 1) (pd_lst (ad_cons (pd_tup (ad_cons pd_str (ad_cons (pd_isE (K := K) rfl nb.isinstance (pd 0) (pd_glob rfl EC.such)) ad_nil))) (ad_cons (pd_tup (ad_cons pd_str (ad_cons (pd_not (pd_isE (K := K) rfl nb.isinstance (pd 0) (pd_cls rfl EC.ve bt_ValueError))) ad_nil))) ad_nil)))) (hf := (by first | exact .inl rfl | exact .inr rfl)))
  (sd_one (sd_ret (pd_lc rfl sc__law_word.nd (id_of (pd 1)) (blkOk_by (own := [("_law_word_here", 2), ("_law_is_it", 3)]) (N := ["_law_e", "_law_some", "_law_word_here", "_law_is_it"]) (sc := defScope s__law_word) (by decide +kernel)) (fun _ _ _ _ _ => (gd_tup rfl sc__law_word.nd (.cons (i := 2) rfl (by first | exact .inl rfl | exact .inr rfl) (by first | exact .inl rfl | exact .inr rfl) (.cons (i := 3) rfl (by first | exact .inl rfl | exact .inr rfl) (by first | exact .inl rfl | exact .inr rfl) .nil)))) (fun _ _ _ _ _ => (ts_one (qd_val (pd 3)))) (fun _ _ _ _ _ => (pd 2)))))))))) (fun ds T R q => ?_)
  refine ⟨by rcases q with ⟨rfl, _⟩ | ⟨k, rfl, _⟩ <;> rfl, ?_⟩
  rcases q with ⟨rfl, q⟩ | ⟨k, rfl, q⟩
  · walk_at "dl"
    exact q
  · walk_at "dl"
    rw [if_neg (by simp [D.isN])]
    refine ⟨ea k, _, rfl, EC.exc k, EC.kit k .num, ea k, _, rfl, EC.exc k, EC.kit k .str, ea k, _, rfl, EC.exc k, EC.kit k .kee, ea k, _, rfl, EC.exc k, EC.kit k .tex, ea k, _, rfl, EC.exc k, EC.kit k .such, ea k, _, rfl, EC.exc k, EC.val k, ?_⟩
    cases k <;> (simp only [lcD]; walk_at "dl"; exact q)

abbrev s__law_refused : Stmt := topS 27
theorem sc__law_refused : FnScope ["_law_one", "_law_number_here", "_law_more", "_law_odd", "_law_wrong", "_law_thing", "_law_told", "0a"] ["_law_one", "_law_number_here", "_law_more"] (defScope s__law_refused) := ⟨rfl, rfl, rfl, by decide +kernel, rfl, by decide +kernel, by decide +kernel⟩

theorem ok__law_refused {f cM tP : Addr} {fd : FuncData} (F : FunC K "_law_refused" "_law_refused" s__law_refused f fd cM) (nb : Nb mg) (TB : TabB base mg cM tP) {KE : Addr} {ea : Kc → Addr} (KD : Kd K mg KE "_law_kept") (EC : Ecs K mg KE ea) (h__law_word : Fc P w K mg base C 1 "_law_word" (dp_word ea)) (h_has_number : Fc P w K mg base C 4 "has_number" (dp_hasnum (ea .str) (ea .num))) (h_is_stretch : Fc P w K mg base C 2 "is_stretch" dp_is_stretch) (h_shared : Fc P w K mg base C 4 "shared" (dp_shared (ea .str))) (h_size_of : Fc P w K mg base C 4 "size_of" (dp_size (ea .str))) : FnOk P w K mg base (L2.CX P w) 7 f fd ["_law_one", "_law_number_here", "_law_more"] (spB K C tP (lamQ "_law_refused") dB_refused1) := by
  refine fnB 7 F sc__law_refused (fun A outer s H E hr =>
    (sm_cons (sm_of (sd_set (i := 3) sc__law_refused.nd rfl (by first | exact .inl rfl | exact .inr rfl) (pd_ix (pd_lst (ad_cons pd_bl (ad_cons pd_non (ad_cons pd_str (ad_cons (pd_lst (ad_cons pd_int ad_nil)) (ad_cons (pd_tup (ad_cons pd_int ad_nil)) (ad_cons pd_dic0 (ad_cons pd_bl ad_nil)))))))) (pd_op op_mod ab_mod (pd 2) pd_int) (fun _ _ => rfl)) (hf := (by first | exact .inl rfl | exact .inr rfl))))
  (sm_cons (sm_of (sd_set (i := 4) sc__law_refused.nd rfl (by first | exact .inl rfl | exact .inr rfl) (pd_lst (ad_cons (pd_list nb.list (ad_cons (pd 0) ad_nil)) (ad_cons (pd_sl (pd 0) od_none (od_some pd_int)) (ad_cons (pd_op or_add ab_add (pd 0) (pd_tup (ad_cons pd_int ad_nil))) (ad_cons (pd_tup (ad_cons (pd_if (qd_cmp or_isnot ab_isnot (pd 3) pd_non (nomark _)) (pd 3) pd_str) (ad_cons (pd_ix (pd 0) pd_int (fun _ _ => rfl)) ad_nil))) (ad_cons (pd_tup (ad_cons (pd_ix (pd 0) pd_int (fun _ _ => rfl)) (ad_cons (pd_orT (pd 3) (pd_one pd_str)) ad_nil))) (ad_cons (pd_tup (ad_cons pd_int (ad_cons pd_int ad_nil))) ad_nil))))))) (hf := (by first | exact .inl rfl | exact .inr rfl))))
  (sm_cons (sm_of (sd_set (i := 5) sc__law_refused.nd rfl (by first | exact .inl rfl | exact .inr rfl) (pd_ix (pd_op or_add ab_add (pd 4) (pd_lst (ad_cons pd_non (ad_cons pd_str (ad_cons pd_int (ad_cons (pd_tup ad_nil) (ad_cons (pd_tup (ad_cons (pd_op op_powI ab_pow pd_int pd_int) (ad_cons (pd_op op_sub ab_sub pd_int (pd_op op_powI ab_pow pd_int pd_int)) ad_nil))) ad_nil))))))) (pd_op op_mod ab_mod (pd_op op_fdiv ab_fdiv (pd 2) pd_int) pd_int) (fun _ _ => rfl)) (hf := (by first | exact .inl rfl | exact .inr rfl))))
  (sm_cons (sm_of (sd_ownM (i := 6) sc__law_refused.nd rfl (by first | exact .inl rfl | exact .inr rfl) (pm_callM h__law_word (hr.mono (by decide)) rfl px (pm_kept (K := K) (nm := lamQ "_law_refused") (k := 4) rfl KD rfl TB rfl (hr.mono (by decide)) rfl (lamS_by (sc := defScope s__law_refused) (by decide +kernel)) (fun _ _ _ _ _ _ _ hr hx => (pd_fn h_has_number (hr.mono (by decide)) rfl hx (ad_cons (pd 5) (ad_cons (pd 3) ad_nil)))))) (hf := (by first | exact .inl rfl | exact .inr rfl))))
  (sm_cons (sm_of (sd_appM (i := 6) (pv 6) (pm_callM h__law_word (hr.mono (by decide)) rfl px (pm_kept (K := K) (nm := lamQ "_law_refused") (k := 4) rfl KD rfl TB rfl (hr.mono (by decide)) rfl (lamS_by (sc := defScope s__law_refused) (by decide +kernel)) (fun _ _ _ _ _ _ _ hr hx => (pd_fn h_size_of (hr.mono (by decide)) rfl hx (ad_cons (pd 5) ad_nil))))) (fun _ h => pe_bm PySem.F.plainAttrs_list PySem.F.slot_list_append PySem.F.type_list_append mt_append (pv 6) (pa_cons h pa_nil))))
  (sm_cons (sm_of (sd_appM (i := 6) (pv 6) (pm_callM h__law_word (hr.mono (by decide)) rfl px (pm_kept (K := K) (nm := lamQ "_law_refused") (k := 4) rfl KD rfl TB rfl (hr.mono (by decide)) rfl (lamS_by (sc := defScope s__law_refused) (by decide +kernel)) (fun _ _ _ _ _ _ _ hr hx => (pd_fn h_shared (hr.mono (by decide)) rfl hx (ad_cons (pd 5) (ad_cons (pd 0) ad_nil)))))) (fun _ h => pe_bm PySem.F.plainAttrs_list PySem.F.slot_list_append PySem.F.type_list_append mt_append (pv 6) (pa_cons h pa_nil))))
  (sm_cons (sm_of (sd_appM (i := 6) (pv 6) (pm_callM h__law_word (hr.mono (by decide)) rfl px (pm_kept (K := K) (nm := lamQ "_law_refused") (k := 4) rfl KD rfl TB rfl (hr.mono (by decide)) rfl (lamS_by (sc := defScope s__law_refused) (by decide +kernel)) (fun _ _ _ _ _ _ _ hr hx => (pd_fn h_shared (hr.mono (by decide)) rfl hx (ad_cons (pd 0) (ad_cons (pd 5) ad_nil)))))) (fun _ h => pe_bm PySem.F.plainAttrs_list PySem.F.slot_list_append PySem.F.type_list_append mt_append (pv 6) (pa_cons h pa_nil))))
  (sm_cons (sm_of (sd_appM (i := 6) (pv 6) (pm_callM h__law_word (hr.mono (by decide)) rfl px (pm_kept (K := K) (nm := lamQ "_law_refused") (k := 4) rfl KD rfl TB rfl (hr.mono (by decide)) rfl (lamS_by (sc := defScope s__law_refused) (by decide +kernel)) (fun _ _ _ _ _ _ _ hr hx => (pd_fn h_has_number (hr.mono (by decide)) rfl hx (ad_cons (pd 0) (ad_cons (pd 3) ad_nil)))))) (fun _ h => pe_bm PySem.F.plainAttrs_list PySem.F.slot_list_append PySem.F.type_list_append mt_append (pv 6) (pa_cons h pa_nil))))
  (sm_cons (sm_of (sd_appM (i := 6) (pv 6) (pm_callM h__law_word (hr.mono (by decide)) rfl px (pm_kept (K := K) (nm := lamQ "_law_refused") (k := 4) rfl KD rfl TB rfl (hr.mono (by decide)) rfl (lamS_by (sc := defScope s__law_refused) (by decide +kernel)) (fun _ _ _ _ _ _ _ hr hx => (pd_fn h_has_number (hr.mono (by decide)) rfl hx (ad_cons (pd 0) (ad_cons (pd 1) ad_nil)))))) (fun _ h => pe_bm PySem.F.plainAttrs_list PySem.F.slot_list_append PySem.F.type_list_append mt_append (pv 6) (pa_cons h pa_nil))))
  (sm_frz 6 (sm_one (sm_ret (pm_of (pd_and (pd_cmp or_is ab_is (pd_fn h_is_stretch (hr.mono (by decide)) rfl px (ad_cons (pd 5) ad_nil)) pd_bl (nomark _)) (pd_one (pd_cmp (or_eq hr.units) ab_eq (pd 6) (pd_op or_add ab_add (pd_op or_mul ab_mul (pd_lst (ad_cons (pd_lst (ad_cons pd_str ad_nil)) ad_nil)) pd_int) (pd_lst (ad_cons (pd_lst (ad_cons pd_str ad_nil)) (ad_cons (pd_lst (ad_cons pd_str ad_nil)) ad_nil)))) (nomark _)))))))))))))))))) (fun ds T q => ?_)
  obtain ⟨s, n, m, rfl, hs, hm, q⟩ := q
  refine ⟨rfl, ?_⟩
  refine set_step Odd1 (fun P' h => ?_) fun d3 hd3 => ?_
  · walk_at "dl"
    obtain ⟨d, hd, e⟩ := atI_mem (xs := [D.bl true, D.non, D.str (Str.ofString "1"), D.lst [D.int 1], D.tup [D.int 1], D.dic [] [], D.bl false]) (i := m % 7) (Int.emod_nonneg _ (by decide)) (Int.emod_lt_of_pos _ (by decide))
    exact ⟨d, e, h d (odd1_of hd)⟩
  refine set_step (fun d => ∃ ws : List D, d = .lst ws ∧ ws.length = 6 ∧ ∀ w ∈ ws, okThing w ∧ isStr w = false) (fun P' h => ?_) ?_
  · walk_at "dl"
    refine ⟨by simp [HT.sIx], by simp, by simp, ?_⟩
    obtain ⟨o1, o2, o3, o4, o5⟩ := hd3
    obtain ⟨b, hb⟩ := Option.ne_none_iff_exists'.mp o3
    have fin : ∀ x : D, (tyD x).isSome = true → isEnd x = false → dOrT (dVar 3) (dC (D.str (Str.ofString "a"))) [some (.v (.tup [oi s.1, oi s.2])), some (.v (.int n)), some (.v (.int m)), some (.v d3), none, none, none, some (.tb tP (lamQ (Str.ofString "_law_refused")))] (fun d => P' (.lst [.lst [oi s.1, oi s.2], .tup (cutD [oi s.1, oi s.2] none (some 1)), .tup [oi s.1, oi s.2, .int 0], .tup [x, oi s.2], .tup [oi s.1, d], .tup [.int 5, .int 4]])) (fun _ => False) := fun x h1 h2 => by
      refine ⟨b, hb, o4, ?_⟩
      cases b with
      | true =>
        rw [if_pos rfl]
        exact h _ ⟨_, rfl, rfl, bad6 h1 h2 o1 (o5 hb)⟩
      | false =>
        rw [if_neg (by decide)]
        exact h _ ⟨_, rfl, rfl, bad6 h1 h2 rfl rfl⟩
    cases e : d3.isN with
    | true =>
      rw [if_neg (by decide)]
      exact fin _ rfl rfl
    | false =>
      rw [if_pos (by decide)]
      exact fin d3 o1 (isEnd_no e o2)
  rintro _ ⟨ws, rfl, hwl, hw⟩
  refine set_step (fun d => okThing d ∧ isStr d = false) (fun P' h => ?_) fun d5 hd5 => ?_
  · walk_at "dl"
    obtain ⟨d, hd, e⟩ := atI_mem (xs := ws ++ [D.non, D.str (Str.ofString ".."), D.int 5, D.tup [], D.tup [D.int (10 ^ 60), D.int (0 - 10 ^ 60)]]) (i := m / 7 % 11) (Int.emod_nonneg _ (by decide)) (by rw [List.length_append, hwl]; exact Int.emod_lt_of_pos _ (by decide))
    refine ⟨by omega, d, e, h d ?_⟩
    rcases List.mem_append.mp hd with hd | hd
    · exact hw d hd
    · exact bad5 hd
  refine own_step EC .str ⟨7, rfl⟩ (fun P' R' h => hasnum_bad1 hd5 hd3.1 h) ?_
  refine app_step EC .str (by exact of_decide_eq_true rfl) (by exact of_decide_eq_true rfl) (by exact ⟨7, rfl⟩) (by intro P' R' h; exact size_bad hd5 h) ?_
  refine app_step EC .str (by exact of_decide_eq_true rfl) (by exact of_decide_eq_true rfl) (by exact ⟨7, rfl⟩) (by intro P' R' h; exact shared_bad1 hd5 h) ?_
  refine app_step EC .str (by exact of_decide_eq_true rfl) (by exact of_decide_eq_true rfl) (by exact ⟨7, rfl⟩) (by intro P' R' h; exact shared_bad2 hs hd5 h) ?_
  refine app_step EC .num (by exact of_decide_eq_true rfl) (by exact of_decide_eq_true rfl) (by exact ⟨7, rfl⟩) (by intro P' R' h; exact hasnum_bad2 hs hd3.1 hd3.2.1 h) ?_
  refine app_done (by exact of_decide_eq_true rfl) (by exact of_decide_eq_true rfl) (by exact ⟨7, rfl⟩) (by intro P' R' h; exact hasnum_ok hs (h _)) ?_
  walk_at "dl"
  refine ⟨_, rfl, d5, rfl, hd5.1, ?_⟩
  rw [hd5.2]
  walk_at "dl"
  refine ⟨by decide, by decide, by decide, by decide, by unfold okE; decide +kernel, by unfold okE; decide +kernel, rfl, ?_⟩
  rw [show eqD _ _ = true by decide +kernel]
  exact q

abbrev s__law_stretch : Stmt := topS 21
theorem sc__law_stretch : FnScope ["_law_cell", "_law_k", "_law_number_here", "_law_one", "_law_other", "_law_some"] ["_law_cell", "_law_k"] (defScope s__law_stretch) := ⟨rfl, rfl, rfl, by decide +kernel, rfl, by decide +kernel, by decide +kernel⟩

theorem ok__law_stretch {f : Addr} {fd : FuncData} (F : Fun K "_law_stretch" "_law_stretch" s__law_stretch f fd) (nb : Nb mg)  (h__law_mixed : Fc P w K mg base C 1 "_law_mixed" dp_mixed) (h__law_number : Fc P w K mg base C 2 "_law_number" dp_number) : FnOk P w K mg base (L2.CX P w) 3 f fd ["_law_cell", "_law_k"] (spD K C dp_stretch) := by
  refine fnD F sc__law_stretch (fun cdv A outer s H E hr =>
    (sd_cons (sd_set (i := 2) sc__law_stretch.nd rfl (by first | exact .inl rfl | exact .inr rfl) (pd_fn h__law_mixed (hr.mono (by decide)) rfl px (ad_cons (pd 0) (ad_cons (pd 1) ad_nil))) (hf := (by first | exact .inl rfl | exact .inr rfl)))
  (sd_cons (sd_asg (pd_sorted nb.sorted (ad_cons (pd_lst (ad_cons (pd_fn h__law_number (hr.mono (by decide)) rfl px (ad_cons (pd 0) (ad_cons (pd_op or_add ab_add (pd 1) pd_int) ad_nil))) (ad_cons (pd_fn h__law_number (hr.mono (by decide)) rfl px (ad_cons (pd 0) (ad_cons (pd_op or_add ab_add (pd 1) pd_int) ad_nil))) ad_nil))) ad_nil)) (gd_lst rfl sc__law_stretch.nd (.cons (i := 3) rfl (by first | exact .inl rfl | exact .inr rfl) (by first | exact .inl rfl | exact .inr rfl) (.cons (i := 4) rfl (by first | exact .inl rfl | exact .inr rfl) (by first | exact .inl rfl | exact .inr rfl) .nil))))
  (sd_cons (sd_set (i := 5) sc__law_stretch.nd rfl (by first | exact .inl rfl | exact .inr rfl) (pd_lst (ad_cons (pd_tup (ad_cons (pd 3) (ad_cons (pd 4) ad_nil))) (ad_cons (pd_tup (ad_cons (pd 3) (ad_cons (pd 3) ad_nil))) (ad_cons (pd_tup (ad_cons (pd 3) (ad_cons (pd_op or_add ab_add (pd 3) (pd_op op_mod ab_mod (pd_op op_fdiv ab_fdiv (pd 2) pd_int) pd_int)) ad_nil))) (ad_cons (pd_tup (ad_cons pd_non (ad_cons (pd 4) ad_nil))) (ad_cons (pd_tup (ad_cons (pd 3) (ad_cons pd_non ad_nil))) (ad_cons (pd_tup (ad_cons (pd 4) (ad_cons (pd_op or_add ab_add (pd 4) pd_int) ad_nil))) ad_nil))))))) (hf := (by first | exact .inl rfl | exact .inr rfl)))
  (sd_cons (sd_if (qd_cmp (or_eq hr.units) ab_eq (pd_op op_mod ab_mod (pd 2) pd_int) pd_int (nomark _)) (sd_one (sd_ret (pd_tup (ad_cons pd_non (ad_cons pd_non ad_nil))))) sd_nil)
  (sd_one (sd_ret (pd_ix (pd 5) (pd_op op_mod ab_mod (pd_op op_mod ab_mod (pd 2) pd_int) pd_int) (fun _ _ => rfl))))))))) (fun ds T R q => ?_)
  obtain ⟨c, k, rfl, q⟩ := q
  refine ⟨rfl, ?_⟩
  walk_at "dl"
  intro z z0 z1 x hx y hy
  refine ⟨[x, y], rfl, fun ns p hs => ?_⟩
  obtain ⟨a, b, rfl⟩ : ∃ a b, ns = [a, b] := by
    have := p.length_eq
    match ns, this with
    | [a, b], _ => exact ⟨a, b, rfl⟩
  have hab : a ≤ b := by simpa using hs
  have hl : ∀ m ∈ [a, b], Lim m := fun m hm => by
    have := p.mem_iff.mp hm
    simp only [List.mem_cons, List.not_mem_nil, or_false] at this
    rcases this with rfl | rfl <;> assumption
  have ha := hl a (by simp)
  have hb := hl b (by simp)
  walk_at "dl"
  have f1 : 0 ≤ z / 12 % 6 := Int.emod_nonneg _ (by decide)
  have f2 : z / 12 % 6 < 6 := Int.emod_lt_of_pos _ (by decide)
  generalize z / 12 % 6 = w6 at f1 f2
  refine ⟨okE_int _, okE_int _, ?_⟩
  split
  · exact q (none, none) rfl (fun _ h => nomatch h) (fun _ h => nomatch h)
  · refine at_mod (by decide) (by simp) fun d hd => ?_
    unfold Lim at ha hb
    simp only [List.mem_cons, List.not_mem_nil, or_false] at hd
    have go : ∀ s : Str2, okS s = true → LimO s.1 → (∀ z, s.2 = some z → -(10 ^ 480 + 10) ≤ z ∧ z ≤ 10 ^ 480 + 20) → T (.tup [oi s.1, oi s.2]) := q
    rcases hd with rfl | rfl | rfl | rfl | rfl | rfl
    · exact go (some a, some b) (by simpa [okS] using hab) (fun z h => by cases h; exact ha) (fun z h => by cases h; omega)
    · exact go (some a, some a) (by simp [okS]) (fun z h => by cases h; exact ha) (fun z h => by cases h; omega)
    · exact go (some a, some (a + w6)) (by simp [okS]; omega) (fun z h => by cases h; exact ha) (fun z h => by cases h; omega)
    · exact go (none, some b) rfl (fun z h => nomatch h) (fun z h => by cases h; omega)
    · exact go (some a, none) rfl (fun z h => by cases h; exact ha) (fun z h => nomatch h)
    · exact go (some b, some (b + 1)) (by simp [okS]; omega) (fun z h => by cases h; exact hb) (fun z h => by cases h; omega)

abbrev s_law : Stmt := topS 28
theorem sc_law : FnScope ["_law_script", "_law_k", "_law_cell", "_law_one", "_law_other", "_law_number_here", "_law_spots", "_law_end", "_law_spot", "0a"] ["_law_script"] (defScope s_law) := ⟨rfl, rfl, rfl, by decide +kernel, rfl, by decide +kernel, by decide +kernel⟩

theorem ok_law {f tP : Addr} {fd : FuncData} {nm : Str} (F : Fun K "law" "law" s_law f fd) (nb : Nb mg)  (h__law_good : Fc P w K mg base C 5 "_law_good" dp_lgood1) (h__law_mixed : Fc P w K mg base C 1 "_law_mixed" dp_mixed) (h__law_number : Fc P w K mg base C 2 "_law_number" dp_number) (hB__law_refused : Fb P w K mg base C tP nm 7 "_law_refused" dB_refused1) (h__law_stretch : Fc P w K mg base C 3 "_law_stretch" dp_stretch) : FnOk P w K mg base (L2.CX P w) 8 f fd ["_law_script"] (spLB K C tP nm dp_lawB) := by
  refine fnL 9 F sc_law (fun cdv A outer s H E hr =>
    (sd_cons (sd_for ownD rfl (id_enum rfl nb.enumerate (ad_cons (pd_op or_add ab_add (pd_lst (ad_cons pd_int ad_nil)) (pd_sl (pd 0) od_none (od_some pd_int))) ad_nil)) (gd_tup rfl sc_law.nd (.cons (i := 1) rfl (by first | exact .inl rfl | exact .inr rfl) (by first | exact .inl rfl | exact .inr rfl) (.cons (i := 2) rfl (by first | exact .inl rfl | exact .inr rfl) (by first | exact .inl rfl | exact .inr rfl) .nil)))
    (sd_cons (sd_par (i := 3) (j := 4) rfl sc_law.nd rfl rfl (by decide) rfl rfl (ad_cons (pd_fn h__law_stretch (hr.mono (by decide)) rfl px (ad_cons (pd 2) (ad_cons (pd 1) ad_nil))) (ad_cons (pd_fn h__law_stretch (hr.mono (by decide)) rfl px (ad_cons (pd 2) (ad_cons (pd_op or_add ab_add (pd 1) pd_int) ad_nil))) ad_nil)) (by rfl))
  (sd_cons (sd_set (i := 5) sc_law.nd rfl (by first | exact .inl rfl | exact .inr rfl) (pd_fn h__law_number (hr.mono (by decide)) rfl px (ad_cons (pd 2) (ad_cons (pd_op or_add ab_add (pd 1) pd_int) ad_nil))) (hf := (by first | exact .inl rfl | exact .inr rfl)))
  (sd_cons (sd_set (i := 6) sc_law.nd rfl (by first | exact .inl rfl | exact .inr rfl) (pd_lst (ad_cons (pd 5) ad_nil)) (hf := (by first | exact .inl rfl | exact .inr rfl)))
  (sd_cons (sd_for ownD rfl (id_of (pd 3)) (gd_name (i := 7) sc_law.nd rfl (by first | exact .inl rfl | exact .inr rfl))
    (sd_one (sd_if (qd_cmp or_isnot ab_isnot (pd 7) pd_non (nomark _)) (sd_one (sd_set (i := 6) sc_law.nd rfl (by first | exact .inl rfl | exact .inr rfl) (pd_op or_add ab_add (pd 6) (pd_lst (ad_cons (pd_op op_sub ab_sub (pd 7) pd_int) (ad_cons (pd 7) (ad_cons (pd_op or_add ab_add (pd 7) pd_int) ad_nil))))) (hf := (by first | exact .inl rfl | exact .inr rfl)))) sd_nil)))
  (sd_cons (sd_for ownD rfl (id_of (pd 6)) (gd_name (i := 8) sc_law.nd rfl (by first | exact .inl rfl | exact .inr rfl))
    (sd_one (sd_if (qd_not (qd_val (pd_fn h__law_good (hr.mono (by decide)) rfl px (ad_cons (pd 3) (ad_cons (pd 4) (ad_cons (pd 8) ad_nil)))))) (sd_one (sd_ret pd_bl)) sd_nil)))
  (sd_one (sd_in (sm_if (qm_not (qm_val (pm_fB hB__law_refused (hr.mono (by decide)) rfl px (ad_cons (pd 3) (ad_cons (pd 5) (ad_cons (pd_fn h__law_mixed (hr.mono (by decide)) rfl px (ad_cons (pd 2) (ad_cons (pd_op or_add ab_add (pd 1) pd_int) ad_nil))) ad_nil)))))) (sm_one (sm_ret (pm_of pd_bl))) sm_nil)))))))))
  (sd_one (sd_ret pd_bl)))) (fun ds T q => ?_)
  obtain ⟨cs, rfl, hn, q⟩ := q
  refine ⟨rfl, ?_⟩
  walk_at "dl"
  rw [show (60 : Int) = ((60 : Nat) : Int) from rfl, cut_take, show D.int 3 :: List.map D.int (cs.take 60) = (3 :: cs.take 60).map D.int from rfl, enum_map]
  refine ⟨by rw [List.length_map, List.length_take]; omega, ?_⟩
  refine forD_ind (enc := fun p : Int × Int => D.tup [.int p.1, .int p.2]) (fun rest ρ => ∃ (u1 u2 u3 u4 u5 u6 u7 u8 : Option DV), ρ = [some (.v (.scr cs)), u1, u2, u3, u4, u5, u6, u7, u8, some (.tb tP nm)]) ?_ ?_ _ _ ⟨_, _, _, _, _, _, _, _, rfl⟩
  · rintro ρ _
    exact q
  · rintro ⟨i, cell⟩ rest ρ k ⟨u1, u2, u3, u4, u5, u6, u7, u8, rfl⟩ hk
    walk_at "dl"
    refine ⟨cell, i, rfl, fun s hs _ _ => ⟨cell, i + 9, rfl, fun t ht _ _ => ?_⟩⟩
    walk_at "dl"
    intro n _
    refine forD_ind (enc := oi) (fun r2 ρ => ∃ (zs : List Int) (u7 : Option DV), ρ = [some (.v (.scr cs)), some (.v (.int i)), some (.v (.int cell)), some (.v (sD s)), some (.v (sD t)), some (.v (.int n)), some (.v (.lst (zs.map .int))), u7, u8, some (.tb tP nm)] ∧ zs.length + 3 * r2.length ≤ 100) ?_ ?_ [s.1, s.2] _ ⟨[n], _, rfl, by simp only [List.length_cons, List.length_nil]; omega⟩
    · rintro ρ ⟨zs, u7, rfl, h1⟩
      walk_at "dl"
      refine forD_ind (enc := D.int) (fun r3 ρ => ∃ (u8 : Option DV), ρ = [some (.v (.scr cs)), some (.v (.int i)), some (.v (.int cell)), some (.v (sD s)), some (.v (sD t)), some (.v (.int n)), some (.v (.lst (zs.map .int))), u7, u8, some (.tb tP nm)]) ?_ ?_ zs _ ⟨_, rfl⟩
      · rintro ρ ⟨u8, rfl⟩
        walk_at "dl"
        intro z z0 z1
        refine ⟨⟨9, rfl⟩, _, _, lend_val (lend_val (lend_val lend_nil)), s, n, z, rfl, hs, z0, ?_⟩
        exact hk _ ⟨_, _, _, _, _, _, _, _, rfl⟩
      · rintro z r3 ρ k3 ⟨u8, rfl⟩ hk3
        walk_at "dl"
        exact ⟨s, t, z, rfl, hs, ht, hk3 _ ⟨_, rfl⟩⟩
    · rintro o r2 ρ k2 ⟨zs, u7, rfl, h1⟩ hk2
      rw [List.length_cons] at h1
      cases o with
      | none =>
        walk_at "dl"
        exact hk2 _ ⟨zs, _, rfl, by omega⟩
      | some z =>
        walk_at "dl"
        refine ⟨by rw [List.length_map]; omega, hk2 _ ⟨zs ++ [z - 1, z, z + 1], _, by rw [List.map_append]; rfl, by rw [List.length_append]; simp only [List.length_cons, List.length_nil]; omega⟩⟩

end
theorem all_mk {l : PySem.W.OpenLaw} {w : World} {K : PySem.W.Frag} {h : Heap} {mg : Str → Option Value} {fa C tP : Addr} (X : K.In h) (G : h.Ns mainGlobals mg) (hfa : mg "law" = some (.ref fa))
    {cM : Addr}
    {f0 : Addr} {od0 an0 : Option Addr} {sl0 : Array (Option Value)} {oc0 kV0 dc0 pm0 cd0 ct0 : Value}
    {f1 : Addr} {od1 an1 : Option Addr} {sl1 : Array (Option Value)} {oc1 kV1 dc1 pm1 cd1 ct1 : Value}
    {f2 : Addr} {od2 an2 : Option Addr} {sl2 : Array (Option Value)} {oc2 kV2 dc2 pm2 cd2 ct2 : Value}
    {f3 : Addr} {od3 an3 : Option Addr} {sl3 : Array (Option Value)} {oc3 kV3 dc3 pm3 cd3 ct3 : Value}
    {f4 : Addr} {od4 an4 : Option Addr} {sl4 : Array (Option Value)} {oc4 kV4 dc4 pm4 cd4 ct4 : Value}
    {f5 : Addr} {od5 an5 : Option Addr} {sl5 : Array (Option Value)} {oc5 kV5 dc5 pm5 cd5 ct5 : Value}
    {f6 : Addr} {od6 an6 : Option Addr} {sl6 : Array (Option Value)} {oc6 kV6 dc6 pm6 cd6 ct6 : Value}
    {f7 : Addr} {od7 an7 : Option Addr} {sl7 : Array (Option Value)} {oc7 kV7 dc7 pm7 cd7 ct7 : Value}
    {f8 : Addr} {od8 an8 : Option Addr} {sl8 : Array (Option Value)} {oc8 kV8 dc8 pm8 cd8 ct8 : Value}
    {f9 : Addr} {od9 an9 : Option Addr} {sl9 : Array (Option Value)} {oc9 kV9 dc9 pm9 cd9 ct9 : Value}
    {f10 : Addr} {od10 an10 : Option Addr} {sl10 : Array (Option Value)} {oc10 kV10 dc10 pm10 cd10 ct10 : Value}
    {f11 : Addr} {od11 an11 : Option Addr} {sl11 : Array (Option Value)} {oc11 kV11 dc11 pm11 cd11 ct11 : Value}
    {f12 : Addr} {od12 an12 : Option Addr} {sl12 : Array (Option Value)} {oc12 kV12 dc12 pm12 cd12 ct12 : Value}
    {f13 : Addr} {od13 an13 : Option Addr} {sl13 : Array (Option Value)} {oc13 kV13 dc13 pm13 cd13 ct13 : Value}
    {f14 : Addr} {od14 an14 : Option Addr} {sl14 : Array (Option Value)} {oc14 kV14 dc14 pm14 cd14 ct14 : Value}
    {f15 : Addr} {od15 an15 : Option Addr} {sl15 : Array (Option Value)} {oc15 kV15 dc15 pm15 cd15 ct15 : Value}
    {f16 : Addr} {od16 an16 : Option Addr} {sl16 : Array (Option Value)} {oc16 kV16 dc16 pm16 ct16 : Value}
    {f17 : Addr} {od17 an17 : Option Addr} {sl17 : Array (Option Value)} {oc17 kV17 dc17 pm17 cd17 ct17 : Value}
    {f18 : Addr} {od18 an18 : Option Addr} {sl18 : Array (Option Value)} {oc18 kV18 dc18 pm18 cd18 ct18 : Value}
    {bn : Addr}
    {bs : Addr}
    {bk : Addr}
    {bt : Addr}
    {ns : Addr}
    {ke : Addr}
    (a0 : PySem.W.nsIn K mainGlobals "_law_lies" = some (some (.ref f0)))
    (l0 : K.lookup f0 = some ⟨oc0, od0, .func (PySem.W.fnOf "_law_lies" "_law_lies" (defArgs s__law_lies) (defBody s__law_lies) (defScope s__law_lies) .none kV0 dc0 pm0 an0 cd0 ct0), sl0⟩)
    (c0 : PySem.W.codeIn K cd0 "_law_lies" = true)
    (k0 : PySem.W.keepIn K (.ref f0) = true)
    (a1 : PySem.W.nsIn K mainGlobals "_law_shared" = some (some (.ref f1)))
    (l1 : K.lookup f1 = some ⟨oc1, od1, .func (PySem.W.fnOf "_law_shared" "_law_shared" (defArgs s__law_shared) (defBody s__law_shared) (defScope s__law_shared) .none kV1 dc1 pm1 an1 cd1 ct1), sl1⟩)
    (c1 : PySem.W.codeIn K cd1 "_law_shared" = true)
    (k1 : PySem.W.keepIn K (.ref f1) = true)
    (a2 : PySem.W.nsIn K mainGlobals "is_number" = some (some (.ref f2)))
    (l2 : K.lookup f2 = some ⟨oc2, od2, .func (PySem.W.fnOf "is_number" "is_number" (defArgs s_is_number) (defBody s_is_number) (defScope s_is_number) .none kV2 dc2 pm2 an2 cd2 ct2), sl2⟩)
    (c2 : PySem.W.codeIn K cd2 "is_number" = true)
    (k2 : PySem.W.keepIn K (.ref f2) = true)
    (a3 : PySem.W.nsIn K mainGlobals "need_number" = some (some (.ref f3)))
    (l3 : K.lookup f3 = some ⟨oc3, od3, .func (PySem.W.fnOf "need_number" "need_number" (defArgs s_need_number) (defBody s_need_number) (defScope s_need_number) .none kV3 dc3 pm3 an3 cd3 ct3), sl3⟩)
    (c3 : PySem.W.codeIn K cd3 "need_number" = true)
    (k3 : PySem.W.keepIn K (.ref f3) = true)
    (a4 : PySem.W.nsIn K mainGlobals "is_stretch" = some (some (.ref f4)))
    (l4 : K.lookup f4 = some ⟨oc4, od4, .func (PySem.W.fnOf "is_stretch" "is_stretch" (defArgs s_is_stretch) (defBody s_is_stretch) (defScope s_is_stretch) .none kV4 dc4 pm4 an4 cd4 ct4), sl4⟩)
    (c4 : PySem.W.codeIn K cd4 "is_stretch" = true)
    (k4 : PySem.W.keepIn K (.ref f4) = true)
    (a5 : PySem.W.nsIn K mainGlobals "need_stretch" = some (some (.ref f5)))
    (l5 : K.lookup f5 = some ⟨oc5, od5, .func (PySem.W.fnOf "need_stretch" "need_stretch" (defArgs s_need_stretch) (defBody s_need_stretch) (defScope s_need_stretch) .none kV5 dc5 pm5 an5 cd5 ct5), sl5⟩)
    (c5 : PySem.W.codeIn K cd5 "need_stretch" = true)
    (k5 : PySem.W.keepIn K (.ref f5) = true)
    (a6 : PySem.W.nsIn K mainGlobals "has_number" = some (some (.ref f6)))
    (l6 : K.lookup f6 = some ⟨oc6, od6, .func (PySem.W.fnOf "has_number" "has_number" (defArgs s_has_number) (defBody s_has_number) (defScope s_has_number) .none kV6 dc6 pm6 an6 cd6 ct6), sl6⟩)
    (c6 : PySem.W.codeIn K cd6 "has_number" = true)
    (k6 : PySem.W.keepIn K (.ref f6) = true)
    (a7 : PySem.W.nsIn K mainGlobals "later" = some (some (.ref f7)))
    (l7 : K.lookup f7 = some ⟨oc7, od7, .func (PySem.W.fnOf "later" "later" (defArgs s_later) (defBody s_later) (defScope s_later) .none kV7 dc7 pm7 an7 cd7 ct7), sl7⟩)
    (c7 : PySem.W.codeIn K cd7 "later" = true)
    (k7 : PySem.W.keepIn K (.ref f7) = true)
    (a8 : PySem.W.nsIn K mainGlobals "sooner" = some (some (.ref f8)))
    (l8 : K.lookup f8 = some ⟨oc8, od8, .func (PySem.W.fnOf "sooner" "sooner" (defArgs s_sooner) (defBody s_sooner) (defScope s_sooner) .none kV8 dc8 pm8 an8 cd8 ct8), sl8⟩)
    (c8 : PySem.W.codeIn K cd8 "sooner" = true)
    (k8 : PySem.W.keepIn K (.ref f8) = true)
    (a9 : PySem.W.nsIn K mainGlobals "shared" = some (some (.ref f9)))
    (l9 : K.lookup f9 = some ⟨oc9, od9, .func (PySem.W.fnOf "shared" "shared" (defArgs s_shared) (defBody s_shared) (defScope s_shared) .none kV9 dc9 pm9 an9 cd9 ct9), sl9⟩)
    (c9 : PySem.W.codeIn K cd9 "shared" = true)
    (k9 : PySem.W.keepIn K (.ref f9) = true)
    (a10 : PySem.W.nsIn K mainGlobals "size_of" = some (some (.ref f10)))
    (l10 : K.lookup f10 = some ⟨oc10, od10, .func (PySem.W.fnOf "size_of" "size_of" (defArgs s_size_of) (defBody s_size_of) (defScope s_size_of) .none kV10 dc10 pm10 an10 cd10 ct10), sl10⟩)
    (c10 : PySem.W.codeIn K cd10 "size_of" = true)
    (k10 : PySem.W.keepIn K (.ref f10) = true)
    (a11 : PySem.W.nsIn K mainGlobals "_law_good" = some (some (.ref f11)))
    (l11 : K.lookup f11 = some ⟨oc11, od11, .func (PySem.W.fnOf "_law_good" "_law_good" (defArgs s__law_good) (defBody s__law_good) (defScope s__law_good) .none kV11 dc11 pm11 an11 cd11 ct11), sl11⟩)
    (c11 : PySem.W.codeIn K cd11 "_law_good" = true)
    (k11 : PySem.W.keepIn K (.ref f11) = true)
    (a12 : PySem.W.nsIn K mainGlobals "_law_mixed" = some (some (.ref f12)))
    (l12 : K.lookup f12 = some ⟨oc12, od12, .func (PySem.W.fnOf "_law_mixed" "_law_mixed" (defArgs s__law_mixed) (defBody s__law_mixed) (defScope s__law_mixed) .none kV12 dc12 pm12 an12 cd12 ct12), sl12⟩)
    (c12 : PySem.W.codeIn K cd12 "_law_mixed" = true)
    (k12 : PySem.W.keepIn K (.ref f12) = true)
    (a13 : PySem.W.nsIn K mainGlobals "_law_number" = some (some (.ref f13)))
    (l13 : K.lookup f13 = some ⟨oc13, od13, .func (PySem.W.fnOf "_law_number" "_law_number" (defArgs s__law_number) (defBody s__law_number) (defScope s__law_number) .none kV13 dc13 pm13 an13 cd13 ct13), sl13⟩)
    (c13 : PySem.W.codeIn K cd13 "_law_number" = true)
    (k13 : PySem.W.keepIn K (.ref f13) = true)
    (a14 : PySem.W.nsIn K mainGlobals "_law_kept" = some (some (.ref f14)))
    (l14 : K.lookup f14 = some ⟨oc14, od14, .func (PySem.W.fnOf "_law_kept" "_law_kept" (defArgs s__law_kept) (defBody s__law_kept) (defScope s__law_kept) .none kV14 dc14 pm14 an14 cd14 ct14), sl14⟩)
    (c14 : PySem.W.codeIn K cd14 "_law_kept" = true)
    (k14 : PySem.W.keepIn K (.ref f14) = true)
    (a15 : PySem.W.nsIn K mainGlobals "_law_word" = some (some (.ref f15)))
    (l15 : K.lookup f15 = some ⟨oc15, od15, .func (PySem.W.fnOf "_law_word" "_law_word" (defArgs s__law_word) (defBody s__law_word) (defScope s__law_word) .none kV15 dc15 pm15 an15 cd15 ct15), sl15⟩)
    (c15 : PySem.W.codeIn K cd15 "_law_word" = true)
    (k15 : PySem.W.keepIn K (.ref f15) = true)
    (a16 : PySem.W.nsIn K mainGlobals "_law_refused" = some (some (.ref f16)))
    (l16 : K.lookup f16 = some ⟨oc16, od16, .func (PySem.W.fnOf "_law_refused" "_law_refused" (defArgs s__law_refused) (defBody s__law_refused) (defScope s__law_refused) .none kV16 dc16 pm16 an16 (.ref cM) ct16), sl16⟩)
    (c16 : PySem.W.codeIn K (.ref cM) "_law_refused" = true)
    (k16 : PySem.W.keepIn K (.ref f16) = true)
    (a17 : PySem.W.nsIn K mainGlobals "_law_stretch" = some (some (.ref f17)))
    (l17 : K.lookup f17 = some ⟨oc17, od17, .func (PySem.W.fnOf "_law_stretch" "_law_stretch" (defArgs s__law_stretch) (defBody s__law_stretch) (defScope s__law_stretch) .none kV17 dc17 pm17 an17 cd17 ct17), sl17⟩)
    (c17 : PySem.W.codeIn K cd17 "_law_stretch" = true)
    (k17 : PySem.W.keepIn K (.ref f17) = true)
    (a18 : PySem.W.nsIn K mainGlobals "law" = some (some (.ref f18)))
    (l18 : K.lookup f18 = some ⟨oc18, od18, .func (PySem.W.fnOf "law" "law" (defArgs s_law) (defBody s_law) (defScope s_law) .none kV18 dc18 pm18 an18 cd18 ct18), sl18⟩)
    (c18 : PySem.W.codeIn K cd18 "law" = true)
    (k18 : PySem.W.keepIn K (.ref f18) = true)
    (g_bn : PySem.W.nsIn K mainGlobals "BadNumber" = some (some (.ref bn)))
    (q_bn : PySem.W.excIn K bn [.type "ValueError", .type "Exception", .type "BaseException", .type "object"] "ValueError.__new__" = true)
    (k_bn : PySem.W.keepIn K (.ref bn) = true)
    (b_bn : PySem.W.subIn K (.ref bn) (.type "BaseException") = some true)
    (t_bn : PySem.W.typeIn K (.ref bn) = some (.type "type"))
    (g_bs : PySem.W.nsIn K mainGlobals "BadStretch" = some (some (.ref bs)))
    (q_bs : PySem.W.excIn K bs [.type "ValueError", .type "Exception", .type "BaseException", .type "object"] "ValueError.__new__" = true)
    (k_bs : PySem.W.keepIn K (.ref bs) = true)
    (b_bs : PySem.W.subIn K (.ref bs) (.type "BaseException") = some true)
    (t_bs : PySem.W.typeIn K (.ref bs) = some (.type "type"))
    (g_bk : PySem.W.nsIn K mainGlobals "BadKeeper" = some (some (.ref bk)))
    (b_bk : PySem.W.subIn K (.ref bk) (.type "BaseException") = some true)
    (t_bk : PySem.W.typeIn K (.ref bk) = some (.type "type"))
    (g_bt : PySem.W.nsIn K mainGlobals "BadText" = some (some (.ref bt)))
    (b_bt : PySem.W.subIn K (.ref bt) (.type "BaseException") = some true)
    (t_bt : PySem.W.typeIn K (.ref bt) = some (.type "type"))
    (g_ns : PySem.W.nsIn K mainGlobals "NoSuch" = some (some (.ref ns)))
    (b_ns : PySem.W.subIn K (.ref ns) (.type "BaseException") = some true)
    (t_ns : PySem.W.typeIn K (.ref ns) = some (.type "type"))
    (g_ke : PySem.W.nsIn K mainGlobals "KeepError" = some (some (.ref ke)))
    (n_ValueError : PySem.W.nsIn K mainGlobals "ValueError" = some none)
    (kb_ke : PySem.W.subIn K (.ref ke) (.type "BaseException") = some true)
    (kd_ke : PySem.W.hasDictIn K ke = true)
    (kt_ke : PySem.W.typeIn K (.ref ke) = some (.type "type"))
    (xe1 : PySem.W.specialIn K (.builtin "object.__class__") "__get__" = some (some (.builtin "getset_descriptor.__get__")))
    (xe2 : PySem.W.takesIn K (.builtin "object.__class__") = some true)
    (xg_bn : PySem.W.findIn K (.ref bn) "__getattribute__" = some (some (.builtin "BaseException.__getattribute__")))
    (xk_bn : PySem.W.findIn K (.ref bn) "__getattr__" = some none)
    (xd_bn : PySem.W.hasDictIn K bn = true)
    (xa_bn : PySem.W.findIn K (.ref bn) "__class__" = some (some (.builtin "object.__class__")))
    (xm_bn : PySem.W.mroIn K bn (.type "object") = some true)
    (xc_bn : PySem.W.isClsIn K bn = true)
    (xv_bn : PySem.W.subIn K (.ref bn) (.type "ValueError") = some true)
    (xK_bn : PySem.W.subIn K (.ref bn) (.ref ke) = some true)
    (xs_bn_bn : PySem.W.subIn K (.ref bn) (.ref bn) = some true)
    (xs_bn_bs : PySem.W.subIn K (.ref bn) (.ref bs) = some false)
    (xs_bn_bk : PySem.W.subIn K (.ref bn) (.ref bk) = some false)
    (xs_bn_bt : PySem.W.subIn K (.ref bn) (.ref bt) = some false)
    (xs_bn_ns : PySem.W.subIn K (.ref bn) (.ref ns) = some false)
    (xg_bs : PySem.W.findIn K (.ref bs) "__getattribute__" = some (some (.builtin "BaseException.__getattribute__")))
    (xk_bs : PySem.W.findIn K (.ref bs) "__getattr__" = some none)
    (xd_bs : PySem.W.hasDictIn K bs = true)
    (xa_bs : PySem.W.findIn K (.ref bs) "__class__" = some (some (.builtin "object.__class__")))
    (xm_bs : PySem.W.mroIn K bs (.type "object") = some true)
    (xc_bs : PySem.W.isClsIn K bs = true)
    (xv_bs : PySem.W.subIn K (.ref bs) (.type "ValueError") = some true)
    (xK_bs : PySem.W.subIn K (.ref bs) (.ref ke) = some true)
    (xs_bs_bn : PySem.W.subIn K (.ref bs) (.ref bn) = some false)
    (xs_bs_bs : PySem.W.subIn K (.ref bs) (.ref bs) = some true)
    (xs_bs_bk : PySem.W.subIn K (.ref bs) (.ref bk) = some false)
    (xs_bs_bt : PySem.W.subIn K (.ref bs) (.ref bt) = some false)
    (xs_bs_ns : PySem.W.subIn K (.ref bs) (.ref ns) = some false)
    (xg_bk : PySem.W.findIn K (.ref bk) "__getattribute__" = some (some (.builtin "BaseException.__getattribute__")))
    (xk_bk : PySem.W.findIn K (.ref bk) "__getattr__" = some none)
    (xd_bk : PySem.W.hasDictIn K bk = true)
    (xa_bk : PySem.W.findIn K (.ref bk) "__class__" = some (some (.builtin "object.__class__")))
    (xm_bk : PySem.W.mroIn K bk (.type "object") = some true)
    (xc_bk : PySem.W.isClsIn K bk = true)
    (xv_bk : PySem.W.subIn K (.ref bk) (.type "ValueError") = some true)
    (xK_bk : PySem.W.subIn K (.ref bk) (.ref ke) = some true)
    (xs_bk_bn : PySem.W.subIn K (.ref bk) (.ref bn) = some false)
    (xs_bk_bs : PySem.W.subIn K (.ref bk) (.ref bs) = some false)
    (xs_bk_bk : PySem.W.subIn K (.ref bk) (.ref bk) = some true)
    (xs_bk_bt : PySem.W.subIn K (.ref bk) (.ref bt) = some false)
    (xs_bk_ns : PySem.W.subIn K (.ref bk) (.ref ns) = some false)
    (xg_bt : PySem.W.findIn K (.ref bt) "__getattribute__" = some (some (.builtin "BaseException.__getattribute__")))
    (xk_bt : PySem.W.findIn K (.ref bt) "__getattr__" = some none)
    (xd_bt : PySem.W.hasDictIn K bt = true)
    (xa_bt : PySem.W.findIn K (.ref bt) "__class__" = some (some (.builtin "object.__class__")))
    (xm_bt : PySem.W.mroIn K bt (.type "object") = some true)
    (xc_bt : PySem.W.isClsIn K bt = true)
    (xv_bt : PySem.W.subIn K (.ref bt) (.type "ValueError") = some true)
    (xK_bt : PySem.W.subIn K (.ref bt) (.ref ke) = some true)
    (xs_bt_bn : PySem.W.subIn K (.ref bt) (.ref bn) = some false)
    (xs_bt_bs : PySem.W.subIn K (.ref bt) (.ref bs) = some false)
    (xs_bt_bk : PySem.W.subIn K (.ref bt) (.ref bk) = some false)
    (xs_bt_bt : PySem.W.subIn K (.ref bt) (.ref bt) = some true)
    (xs_bt_ns : PySem.W.subIn K (.ref bt) (.ref ns) = some false)
    (xg_ns : PySem.W.findIn K (.ref ns) "__getattribute__" = some (some (.builtin "BaseException.__getattribute__")))
    (xk_ns : PySem.W.findIn K (.ref ns) "__getattr__" = some none)
    (xd_ns : PySem.W.hasDictIn K ns = true)
    (xa_ns : PySem.W.findIn K (.ref ns) "__class__" = some (some (.builtin "object.__class__")))
    (xm_ns : PySem.W.mroIn K ns (.type "object") = some true)
    (xc_ns : PySem.W.isClsIn K ns = true)
    (xv_ns : PySem.W.subIn K (.ref ns) (.type "ValueError") = some true)
    (xK_ns : PySem.W.subIn K (.ref ns) (.ref ke) = some true)
    (xs_ns_bn : PySem.W.subIn K (.ref ns) (.ref bn) = some false)
    (xs_ns_bs : PySem.W.subIn K (.ref ns) (.ref bs) = some false)
    (xs_ns_bk : PySem.W.subIn K (.ref ns) (.ref bk) = some false)
    (xs_ns_bt : PySem.W.subIn K (.ref ns) (.ref bt) = some false)
    (xs_ns_ns : PySem.W.subIn K (.ref ns) (.ref ns) = some true)
    (n_len : PySem.W.nsIn K mainGlobals "len" = some none)
    (n_isinstance : PySem.W.nsIn K mainGlobals "isinstance" = some none)
    (n_int : PySem.W.nsIn K mainGlobals "int" = some none)
    (n_bool : PySem.W.nsIn K mainGlobals "bool" = some none)
    (n_tuple : PySem.W.nsIn K mainGlobals "tuple" = some none)
    (n_str : PySem.W.nsIn K mainGlobals "str" = some none)
    (n_list : PySem.W.nsIn K mainGlobals "list" = some none)
    (n_set : PySem.W.nsIn K mainGlobals "set" = some none)
    (n_dict : PySem.W.nsIn K mainGlobals "dict" = some none)
    (n_sorted : PySem.W.nsIn K mainGlobals "sorted" = some none)
    (n_sum : PySem.W.nsIn K mainGlobals "sum" = some none)
    (n_min : PySem.W.nsIn K mainGlobals "min" = some none)
    (n_max : PySem.W.nsIn K mainGlobals "max" = some none)
    (n_abs : PySem.W.nsIn K mainGlobals "abs" = some none)
    (n_all : PySem.W.nsIn K mainGlobals "all" = some none)
    (n_enumerate : PySem.W.nsIn K mainGlobals "enumerate" = some none)
    (n_zip : PySem.W.nsIn K mainGlobals "zip" = some none)
    (n_reversed : PySem.W.nsIn K mainGlobals "reversed" = some none)
    (n_range : PySem.W.nsIn K mainGlobals "range" = some none) :
    ∃ fd : FuncData, (∀ (s : Shared) (v : Value), BindsTo s fd ⟨[v], []⟩ [("_law_script", v)]) ∧ ∀ base : Heap, K.In base → base.Ns mainGlobals mg → TabB base mg cM tP → FnOk l.prog w K mg base (L2.CX l.prog w) 8 fa fd ["_law_script"] (spLB K C tP (lamQ "_law_refused") dp_lawB) := by
  have e := hfa.symm.trans (PySem.W.mg_of X G a18)
  cases e
  have X_bn : Xf K bn ke := ⟨xg_bn, xk_bn, b_bn, xd_bn, xa_bn, xm_bn, xc_bn, t_bn, xv_bn, xK_bn, xs_bn_bn⟩
  have X_bs : Xf K bs ke := ⟨xg_bs, xk_bs, b_bs, xd_bs, xa_bs, xm_bs, xc_bs, t_bs, xv_bs, xK_bs, xs_bs_bs⟩
  have X_bk : Xf K bk ke := ⟨xg_bk, xk_bk, b_bk, xd_bk, xa_bk, xm_bk, xc_bk, t_bk, xv_bk, xK_bk, xs_bk_bk⟩
  have X_bt : Xf K bt ke := ⟨xg_bt, xk_bt, b_bt, xd_bt, xa_bt, xm_bt, xc_bt, t_bt, xv_bt, xK_bt, xs_bt_bt⟩
  have X_ns : Xf K ns ke := ⟨xg_ns, xk_ns, b_ns, xd_ns, xa_ns, xm_ns, xc_ns, t_ns, xv_ns, xK_ns, xs_ns_ns⟩
  have EC : Ecs K mg ke (eaOf bn bs bk bt ns) := ecs_mk xe1 xe2 ⟨kb_ke, kd_ke, kt_ke⟩ X_bn X_bs X_bk X_bt X_ns (PySem.W.mg_of X G g_bn) (PySem.W.mg_of X G g_bs) (PySem.W.mg_of X G g_bk) (PySem.W.mg_of X G g_bt) (PySem.W.mg_of X G g_ns) (PySem.W.mg_none_of X G n_ValueError) (fun k k' => by
    cases k <;> cases k'
    · exact xs_bn_bn
    · exact xs_bn_bs
    · exact xs_bn_bk
    · exact xs_bn_bt
    · exact xs_bn_ns
    · exact xs_bs_bn
    · exact xs_bs_bs
    · exact xs_bs_bk
    · exact xs_bs_bt
    · exact xs_bs_ns
    · exact xs_bk_bn
    · exact xs_bk_bs
    · exact xs_bk_bk
    · exact xs_bk_bt
    · exact xs_bk_ns
    · exact xs_bt_bn
    · exact xs_bt_bs
    · exact xs_bt_bk
    · exact xs_bt_bt
    · exact xs_bt_ns
    · exact xs_ns_bn
    · exact xs_ns_bs
    · exact xs_ns_bk
    · exact xs_ns_bt
    · exact xs_ns_ns)
  have nb : Nb mg := ⟨PySem.W.mg_none_of X G n_len, PySem.W.mg_none_of X G n_isinstance, PySem.W.mg_none_of X G n_int, PySem.W.mg_none_of X G n_bool, PySem.W.mg_none_of X G n_tuple, PySem.W.mg_none_of X G n_str, PySem.W.mg_none_of X G n_list, PySem.W.mg_none_of X G n_set, PySem.W.mg_none_of X G n_dict, PySem.W.mg_none_of X G n_sorted, PySem.W.mg_none_of X G n_sum, PySem.W.mg_none_of X G n_min, PySem.W.mg_none_of X G n_max, PySem.W.mg_none_of X G n_abs, PySem.W.mg_none_of X G n_all, PySem.W.mg_none_of X G n_enumerate, PySem.W.mg_none_of X G n_zip, PySem.W.mg_none_of X G n_reversed, PySem.W.mg_none_of X G n_range⟩
  have ex_BadNumber : Exn K mg "BadNumber" bn := ⟨q_bn, PySem.W.mg_of X G g_bn, k_bn, b_bn, t_bn⟩
  have ex_BadStretch : Exn K mg "BadStretch" bs := ⟨q_bs, PySem.W.mg_of X G g_bs, k_bs, b_bs, t_bs⟩
  have F0 := fun_mk (st := s__law_lies) l0 c0 k0
  have b0 := F0.binds (ps := ["_law_stretch_here", "_law_number_here"]) fun _ _ _ _ _ _ us hl => match us, hl with | [_, _], _ => rfl
  have F1 := fun_mk (st := s__law_shared) l1 c1 k1
  have b1 := F1.binds (ps := ["_law_one", "_law_other"]) fun _ _ _ _ _ _ us hl => match us, hl with | [_, _], _ => rfl
  have F2 := fun_mk (st := s_is_number) l2 c2 k2
  have b2 := F2.binds (ps := ["thing"]) fun _ _ _ _ _ _ us hl => match us, hl with | [_], _ => rfl
  have F3 := fun_mk (st := s_need_number) l3 c3 k3
  have b3 := F3.binds (ps := ["thing"]) fun _ _ _ _ _ _ us hl => match us, hl with | [_], _ => rfl
  have F4 := fun_mk (st := s_is_stretch) l4 c4 k4
  have b4 := F4.binds (ps := ["thing"]) fun _ _ _ _ _ _ us hl => match us, hl with | [_], _ => rfl
  have F5 := fun_mk (st := s_need_stretch) l5 c5 k5
  have b5 := F5.binds (ps := ["thing"]) fun _ _ _ _ _ _ us hl => match us, hl with | [_], _ => rfl
  have F6 := fun_mk (st := s_has_number) l6 c6 k6
  have b6 := F6.binds (ps := ["stretch", "number"]) fun _ _ _ _ _ _ us hl => match us, hl with | [_, _], _ => rfl
  have F7 := fun_mk (st := s_later) l7 c7 k7
  have b7 := F7.binds (ps := ["one", "other"]) fun _ _ _ _ _ _ us hl => match us, hl with | [_, _], _ => rfl
  have F8 := fun_mk (st := s_sooner) l8 c8 k8
  have b8 := F8.binds (ps := ["one", "other"]) fun _ _ _ _ _ _ us hl => match us, hl with | [_, _], _ => rfl
  have F9 := fun_mk (st := s_shared) l9 c9 k9
  have b9 := F9.binds (ps := ["one", "other"]) fun _ _ _ _ _ _ us hl => match us, hl with | [_, _], _ => rfl
  have F10 := fun_mk (st := s_size_of) l10 c10 k10
  have b10 := F10.binds (ps := ["stretch"]) fun _ _ _ _ _ _ us hl => match us, hl with | [_], _ => rfl
  have F11 := fun_mk (st := s__law_good) l11 c11 k11
  have b11 := F11.binds (ps := ["_law_one", "_law_other", "_law_number_here"]) fun _ _ _ _ _ _ us hl => match us, hl with | [_, _, _], _ => rfl
  have F12 := fun_mk (st := s__law_mixed) l12 c12 k12
  have b12 := F12.binds (ps := ["_law_cell", "_law_k"]) fun _ _ _ _ _ _ us hl => match us, hl with | [_, _], _ => rfl
  have F13 := fun_mk (st := s__law_number) l13 c13 k13
  have b13 := F13.binds (ps := ["_law_cell", "_law_k"]) fun _ _ _ _ _ _ us hl => match us, hl with | [_, _], _ => rfl
  have F14 := fun_mk (st := s__law_kept) l14 c14 k14
  have b14 := F14.binds (ps := ["_law_deed"]) fun _ _ _ _ _ _ us hl => match us, hl with | [_], _ => rfl
  have F15 := fun_mk (st := s__law_word) l15 c15 k15
  have b15 := F15.binds (ps := ["_law_e"]) fun _ _ _ _ _ _ us hl => match us, hl with | [_], _ => rfl
  have F16 := fun_mk (st := s__law_refused) l16 c16 k16
  have b16 := F16.binds (ps := ["_law_one", "_law_number_here", "_law_more"]) fun _ _ _ _ _ _ us hl => match us, hl with | [_, _, _], _ => rfl
  have FC := funC_mk (st := s__law_refused) l16 c16
  have F17 := fun_mk (st := s__law_stretch) l17 c17 k17
  have b17 := F17.binds (ps := ["_law_cell", "_law_k"]) fun _ _ _ _ _ _ us hl => match us, hl with | [_, _], _ => rfl
  have F18 := fun_mk (st := s_law) l18 c18 k18
  have b18 := F18.binds (ps := ["_law_script"]) fun _ _ _ _ _ _ us hl => match us, hl with | [_], _ => rfl
  refine ⟨PySem.W.fnOf "law" "law" (defArgs s_law) (defBody s_law) (defScope s_law) .none kV18 dc18 pm18 an18 cd18 ct18, fun s v => .of_eq rfl, fun base _ _ TB => ?_⟩
  have H__law_lies : Fc l.prog w K mg base C 1 "_law_lies" dp_lies := ⟨⟨f0, _, _, ok__law_lies F0 nb, PySem.W.mg_of X G a0, k0, b0⟩⟩
  have H__law_shared : Fc l.prog w K mg base C 1 "_law_shared" dp_lshared := ⟨⟨f1, _, _, ok__law_shared F1 nb, PySem.W.mg_of X G a1, k1, b1⟩⟩
  have H_is_number : Fc l.prog w K mg base C 1 "is_number" dp_is_number := ⟨⟨f2, _, _, ok_is_number F2 nb, PySem.W.mg_of X G a2, k2, b2⟩⟩
  have H_need_number : Fc l.prog w K mg base C 2 "need_number" (dp_need_number bn) := ⟨⟨f3, _, _, ok_need_number F3 nb (ex_BadNumber := ex_BadNumber) (h_is_number := H_is_number), PySem.W.mg_of X G a3, k3, b3⟩⟩
  have H_is_stretch : Fc l.prog w K mg base C 2 "is_stretch" dp_is_stretch := ⟨⟨f4, _, _, ok_is_stretch F4 nb (h_is_number := H_is_number), PySem.W.mg_of X G a4, k4, b4⟩⟩
  have H_need_stretch : Fc l.prog w K mg base C 3 "need_stretch" (dp_need_stretch bs) := ⟨⟨f5, _, _, ok_need_stretch F5 nb (ex_BadStretch := ex_BadStretch) (h_is_stretch := H_is_stretch), PySem.W.mg_of X G a5, k5, b5⟩⟩
  have H_has_number : Fc l.prog w K mg base C 4 "has_number" (dp_hasnum bs bn) := ⟨⟨f6, _, _, ok_has_number F6 nb (h_need_number := H_need_number) (h_need_stretch := H_need_stretch), PySem.W.mg_of X G a6, k6, b6⟩⟩
  have H_later : Fc l.prog w K mg base C 1 "later" dp_later := ⟨⟨f7, _, _, ok_later F7 nb, PySem.W.mg_of X G a7, k7, b7⟩⟩
  have H_sooner : Fc l.prog w K mg base C 1 "sooner" dp_sooner := ⟨⟨f8, _, _, ok_sooner F8 nb, PySem.W.mg_of X G a8, k8, b8⟩⟩
  have H_shared : Fc l.prog w K mg base C 4 "shared" (dp_shared bs) := ⟨⟨f9, _, _, ok_shared F9 nb (h_is_stretch := H_is_stretch) (h_later := H_later) (h_need_stretch := H_need_stretch) (h_sooner := H_sooner), PySem.W.mg_of X G a9, k9, b9⟩⟩
  have H_size_of : Fc l.prog w K mg base C 4 "size_of" (dp_size bs) := ⟨⟨f10, _, _, ok_size_of F10 nb (h_need_stretch := H_need_stretch), PySem.W.mg_of X G a10, k10, b10⟩⟩
  have H__law_good : Fc l.prog w K mg base C 5 "_law_good" dp_lgood1 := ⟨⟨f11, _, _, ok__law_good F11 nb (h__law_lies := H__law_lies) (h__law_shared := H__law_shared) (h_has_number := H_has_number) (h_is_stretch := H_is_stretch) (h_shared := H_shared) (h_size_of := H_size_of), PySem.W.mg_of X G a11, k11, b11⟩⟩
  have H__law_mixed : Fc l.prog w K mg base C 1 "_law_mixed" dp_mixed := ⟨⟨f12, _, _, ok__law_mixed F12 nb, PySem.W.mg_of X G a12, k12, b12⟩⟩
  have H__law_number : Fc l.prog w K mg base C 2 "_law_number" dp_number := ⟨⟨f13, _, _, ok__law_number F13 nb (h__law_mixed := H__law_mixed), PySem.W.mg_of X G a13, k13, b13⟩⟩
  have KD := kd__law_kept F14 b14 (PySem.W.mg_of X G a14) (PySem.W.mg_of X G g_ke)
  have H__law_word : Fc l.prog w K mg base C 1 "_law_word" (dp_word (eaOf bn bs bk bt ns)) := ⟨⟨f15, _, _, ok__law_word F15 nb (EC := EC), PySem.W.mg_of X G a15, k15, b15⟩⟩
  have H__law_refused : Fb l.prog w K mg base C tP (lamQ "_law_refused") 7 "_law_refused" dB_refused1 := ⟨f16, _, _, ok__law_refused FC nb TB (KD := KD) (EC := EC) (h__law_word := H__law_word) (h_has_number := H_has_number) (h_is_stretch := H_is_stretch) (h_shared := H_shared) (h_size_of := H_size_of), PySem.W.mg_of X G a16, k16, b16⟩
  have H__law_stretch : Fc l.prog w K mg base C 3 "_law_stretch" dp_stretch := ⟨⟨f17, _, _, ok__law_stretch F17 nb (h__law_mixed := H__law_mixed) (h__law_number := H__law_number), PySem.W.mg_of X G a17, k17, b17⟩⟩
  exact ok_law F18 nb (h__law_good := H__law_good) (h__law_mixed := H__law_mixed) (h__law_number := H__law_number) (hB__law_refused := H__law_refused) (h__law_stretch := H__law_stretch)
theorem walk {l : PySem.W.OpenLaw} {q : Program} {loose : List Str} {XP : (Str → Option Value) → Heap → Prop} {YP : World → Heap → Prop} {d : DefRec} {K : Params → PySem.W.Frag} (hn : l.most = some 63) (hdf : d.params.defaults = [])
    (hY : ∀ (w : World) (h : Heap), YP w h → (K w.params).In h)
    (F : ∀ (w : World) (mg : Str → Option Value) (fa : Addr) (h : Heap), YP w h → (K w.params).In h → h.Ns mainGlobals mg → mg d.name = some (.ref fa) → LawAtS l w (K w.params) (L2.CX l.prog w) 8 63 "_law_script" mg fa h) :
    PySem.W.WalkO q loose XP YP l.row.toRowW d [] (fun f vs => PySem.call f vs) :=
  walk_ofTs (n := 63) (k := 8) (x := "_law_script") (CX := fun w => L2.CX l.prog w) hn (by rw [sizeLine_eq]; decide) hdf ⟨rfl, by decide, by decide⟩ hY F fun _ _ _ _ _ z => by
    obtain ⟨_, _, _, _, _, _, _, _, _, _, _, _, z⟩ := z
    exact z
end L2.DL
open PySem PySem.W PyProof.Rows
set_option maxRecDepth 100000 in
set_option maxHeartbeats 0 in
theorem PySem.Challenge.cw_stretchkeeper_k01_stretches_holds : PySem.Challenge.rw_stretchkeeper_k01_stretches.Holds := by
  w_on; o_law; k_head; (case hw => w_witness2)
  k_fill
  refine L2.DL.walk (l := PySem.Challenge.rw_stretchkeeper_k01_stretches) rfl rfl (fun w h Y => PySem.W.km_in_of Y) ?F
  case F =>
    intro w mg fa h Y KX G hmg
    refine' L2.DL.lawAt_mk KX ?lc ?h11 ?hT ?nT ?hC (L2.DL.all_mk (C := 0) KX G hmg ?a0 ?l0 ?c0 ?k0 ?a1 ?l1 ?c1 ?k1 ?a2 ?l2 ?c2 ?k2 ?a3 ?l3 ?c3 ?k3 ?a4 ?l4 ?c4 ?k4 ?a5 ?l5 ?c5 ?k5 ?a6 ?l6 ?c6 ?k6 ?a7 ?l7 ?c7 ?k7 ?a8 ?l8 ?c8 ?k8 ?a9 ?l9 ?c9 ?k9 ?a10 ?l10 ?c10 ?k10 ?a11 ?l11 ?c11 ?k11 ?a12 ?l12 ?c12 ?k12 ?a13 ?l13 ?c13 ?k13 ?a14 ?l14 ?c14 ?k14 ?a15 ?l15 ?c15 ?k15 ?a16 ?l16 ?c16 ?k16 ?a17 ?l17 ?c17 ?k17 ?a18 ?l18 ?c18 ?k18 ?g_bn ?q_bn ?k_bn ?b_bn ?t_bn ?g_bs ?q_bs ?k_bs ?b_bs ?t_bs ?g_bk ?b_bk ?t_bk ?g_bt ?b_bt ?t_bt ?g_ns ?b_ns ?t_ns ?g_ke ?n_ValueError ?kb_ke ?kd_ke ?kt_ke ?xe1 ?xe2 ?xg_bn ?xk_bn ?xd_bn ?xa_bn ?xm_bn ?xc_bn ?xv_bn ?xK_bn ?xs_bn_bn ?xs_bn_bs ?xs_bn_bk ?xs_bn_bt ?xs_bn_ns ?xg_bs ?xk_bs ?xd_bs ?xa_bs ?xm_bs ?xc_bs ?xv_bs ?xK_bs ?xs_bs_bn ?xs_bs_bs ?xs_bs_bk ?xs_bs_bt ?xs_bs_ns ?xg_bk ?xk_bk ?xd_bk ?xa_bk ?xm_bk ?xc_bk ?xv_bk ?xK_bk ?xs_bk_bn ?xs_bk_bs ?xs_bk_bk ?xs_bk_bt ?xs_bk_ns ?xg_bt ?xk_bt ?xd_bt ?xa_bt ?xm_bt ?xc_bt ?xv_bt ?xK_bt ?xs_bt_bn ?xs_bt_bs ?xs_bt_bk ?xs_bt_bt ?xs_bt_ns ?xg_ns ?xk_ns ?xd_ns ?xa_ns ?xm_ns ?xc_ns ?xv_ns ?xK_ns ?xs_ns_bn ?xs_ns_bs ?xs_ns_bk ?xs_ns_bt ?xs_ns_ns ?n_len ?n_isinstance ?n_int ?n_bool ?n_tuple ?n_str ?n_list ?n_set ?n_dict ?n_sorted ?n_sum ?n_min ?n_max ?n_abs ?n_all ?n_enumerate ?n_zip ?n_reversed ?n_range)
    (case a0 => k_is)
    (case l0 => k_is)
    (case c0 => k_is)
    (case k0 => k_is)
    (case a1 => k_is)
    (case l1 => k_is)
    (case c1 => k_is)
    (case k1 => k_is)
    (case a2 => k_is)
    (case l2 => k_is)
    (case c2 => k_is)
    (case k2 => k_is)
    (case a3 => k_is)
    (case l3 => k_is)
    (case c3 => k_is)
    (case k3 => k_is)
    (case a4 => k_is)
    (case l4 => k_is)
    (case c4 => k_is)
    (case k4 => k_is)
    (case a5 => k_is)
    (case l5 => k_is)
    (case c5 => k_is)
    (case k5 => k_is)
    (case a6 => k_is)
    (case l6 => k_is)
    (case c6 => k_is)
    (case k6 => k_is)
    (case a7 => k_is)
    (case l7 => k_is)
    (case c7 => k_is)
    (case k7 => k_is)
    (case a8 => k_is)
    (case l8 => k_is)
    (case c8 => k_is)
    (case k8 => k_is)
    (case a9 => k_is)
    (case l9 => k_is)
    (case c9 => k_is)
    (case k9 => k_is)
    (case a10 => k_is)
    (case l10 => k_is)
    (case c10 => k_is)
    (case k10 => k_is)
    (case a11 => k_is)
    (case l11 => k_is)
    (case c11 => k_is)
    (case k11 => k_is)
    (case a12 => k_is)
    (case l12 => k_is)
    (case c12 => k_is)
    (case k12 => k_is)
    (case a13 => k_is)
    (case l13 => k_is)
    (case c13 => k_is)
    (case k13 => k_is)
    (case a14 => k_is)
    (case l14 => k_is)
    (case c14 => k_is)
    (case k14 => k_is)
    (case a15 => k_is)
    (case l15 => k_is)
    (case c15 => k_is)
    (case k15 => k_is)
    (case a16 => k_is)
    (case l16 => k_is)
    (case c16 => k_is)
    (case k16 => k_is)
    (case a17 => k_is)
    (case l17 => k_is)
    (case c17 => k_is)
    (case k17 => k_is)
    (case a18 => k_is)
    (case l18 => k_is)
    (case c18 => k_is)
    (case k18 => k_is)
    (case g_bn => k_is)
    (case q_bn => k_exc)
    (case k_bn => k_is)
    (case b_bn => k_is)
    (case t_bn => k_is)
    (case g_bs => k_is)
    (case q_bs => k_exc)
    (case k_bs => k_is)
    (case b_bs => k_is)
    (case t_bs => k_is)
    (case g_bk => k_is)
    (case b_bk => k_is)
    (case t_bk => k_is)
    (case g_bt => k_is)
    (case b_bt => k_is)
    (case t_bt => k_is)
    (case g_ns => k_is)
    (case b_ns => k_is)
    (case t_ns => k_is)
    (case g_ke => k_is)
    (case n_ValueError => k_is)
    (case kb_ke => k_is)
    (case kd_ke => k_is)
    (case kt_ke => k_is)
    (case xe1 => k_is)
    (case xe2 => k_is)
    (case xg_bn => k_is)
    (case xk_bn => k_is)
    (case xd_bn => k_is)
    (case xa_bn => k_is)
    (case xm_bn => k_is)
    (case xc_bn => k_is)
    (case xv_bn => k_is)
    (case xK_bn => k_is)
    (case xs_bn_bn => k_is)
    (case xs_bn_bs => k_is)
    (case xs_bn_bk => k_is)
    (case xs_bn_bt => k_is)
    (case xs_bn_ns => k_is)
    (case xg_bs => k_is)
    (case xk_bs => k_is)
    (case xd_bs => k_is)
    (case xa_bs => k_is)
    (case xm_bs => k_is)
    (case xc_bs => k_is)
    (case xv_bs => k_is)
    (case xK_bs => k_is)
    (case xs_bs_bn => k_is)
    (case xs_bs_bs => k_is)
    (case xs_bs_bk => k_is)
    (case xs_bs_bt => k_is)
    (case xs_bs_ns => k_is)
    (case xg_bk => k_is)
    (case xk_bk => k_is)
    (case xd_bk => k_is)
    (case xa_bk => k_is)
    (case xm_bk => k_is)
    (case xc_bk => k_is)
    (case xv_bk => k_is)
    (case xK_bk => k_is)
    (case xs_bk_bn => k_is)
    (case xs_bk_bs => k_is)
    (case xs_bk_bk => k_is)
    (case xs_bk_bt => k_is)
    (case xs_bk_ns => k_is)
    (case xg_bt => k_is)
    (case xk_bt => k_is)
    (case xd_bt => k_is)
    (case xa_bt => k_is)
    (case xm_bt => k_is)
    (case xc_bt => k_is)
    (case xv_bt => k_is)
    (case xK_bt => k_is)
    (case xs_bt_bn => k_is)
    (case xs_bt_bs => k_is)
    (case xs_bt_bk => k_is)
    (case xs_bt_bt => k_is)
    (case xs_bt_ns => k_is)
    (case xg_ns => k_is)
    (case xk_ns => k_is)
    (case xd_ns => k_is)
    (case xa_ns => k_is)
    (case xm_ns => k_is)
    (case xc_ns => k_is)
    (case xv_ns => k_is)
    (case xK_ns => k_is)
    (case xs_ns_bn => k_is)
    (case xs_ns_bs => k_is)
    (case xs_ns_bk => k_is)
    (case xs_ns_bt => k_is)
    (case xs_ns_ns => k_is)
    (case n_len => k_is)
    (case n_isinstance => k_is)
    (case n_int => k_is)
    (case n_bool => k_is)
    (case n_tuple => k_is)
    (case n_str => k_is)
    (case n_list => k_is)
    (case n_set => k_is)
    (case n_dict => k_is)
    (case n_sorted => k_is)
    (case n_sum => k_is)
    (case n_min => k_is)
    (case n_max => k_is)
    (case n_abs => k_is)
    (case n_all => k_is)
    (case n_enumerate => k_is)
    (case n_zip => k_is)
    (case n_reversed => k_is)
    (case n_range => k_is)
    (case lc => k_is)
    (case h11 => exact rfl)
    (case hT => exact PySem.W.km_tabs_of Y _ (by k_mem))
    (case nT => kernel_rfl)
    (case hC => kernel_rfl)
#print axioms PySem.Challenge.cw_stretchkeeper_k01_stretches_holds
