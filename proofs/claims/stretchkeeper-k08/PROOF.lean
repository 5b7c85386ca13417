import PyProof.Rows.All
import Wide.All
import OpenK.AllK
import Wide.FinOn
import PyProof.EqAt
import PyProof.EqKinds
import PyProof.TupleCall
import HandS.ForMost
import HandS.ForExc
import HandS.Wide
import HandS.Flow
import HandS.IsInst
import HandS.Deep
import HandS.NoneIn
import HandS.Style
import HandS.CallLocal
import HandS.SortInts
import HandS.TupAny
import HandS.Lambda
import HandS.SetFor
import HandS.Strs
import HandS.Text
import HandS.ExcIs
import HandS.ExcValue
import HandS.EndTab
import HandS.Comp
import KE.KIntText
import HandS.StrMore
import PySem.Challenge.RW_stretchkeeper_k08_texts_refused
set_option Elab.async false
set_option linter.all false
set_option maxRecDepth 100000
set_option maxHeartbeats 4000000
/-! # The data layer: plain data D, what represents it in an abstract heap, and data-level readings of the hand layer's rules -/
namespace L2.DL
open PySem PySem.Spec PyProof.Rows

/-- plain data (kp: a Keeper's begins and turns; scr: the script as it was handed in; adr: a fixed object; ty: a built-in class) -/
inductive D where
  | non | bl (b : Bool) | int (i : Int) | str (s : Str)
  | lst (ds : List D) | tup (ds : List D) | dic (ks : List Key) (ds : List D)
  | kp (b : Bool) (ts : List Int) | scr (ns : List Int) | adr (a : Addr) | ty (n : String) | exc (c : Addr)

/-- a caught exception of the class c -/
def ExT (c a : Addr) : HO := .ext fun h => ∃ (oe : Obj) (vs : Array Value), h.get? a = some oe ∧ Zc (.ref c) none oe ∧ oe.data = .fields vs
/-- a Keeper's attributes -/
def kf (b : Bool) (l : Addr) : List (Str × V) := [("begins", .bl b), ("turns", .ref l)]

mutual
/-- v stands for d in H (C: the class Keeper) -/
def Rep (K : PySem.W.Frag) (C : Addr) (H : Hp) : D → V → Prop
  | .non, v => v = .non
  | .bl b, v => v = .bl b
  | .int i, v => v = .int i
  | .str s, v => v = .str s
  | .adr a, v => v = .ref a
  | .ty n, v => v = .ty n
  | .lst ds, v => ∃ a vs, v = .ref a ∧ H a = some (.lst vs) ∧ RepL K C H ds vs
  | .tup ds, v => ∃ a vs, v = .ref a ∧ H a = some (.tup vs) ∧ RepL K C H ds vs
  | .dic ks ds, v => ∃ a vs, v = .ref a ∧ H a = some (.dK (ks.zip vs)) ∧ RepL K C H ds vs ∧ ks.length = ds.length
  | .kp b ts, v => ∃ a dx l, v = .ref a ∧ H a = some (.ins C dx (kf b l)) ∧ H l = some (.lst (ts.map V.int))
  | .scr ns, v => ∃ a, v = .ref a ∧ SqL K H a (ns.map V.int)
  | .exc c, v => ∃ a, v = .ref a ∧ H a = some (ExT c a)
def RepL (K : PySem.W.Frag) (C : Addr) (H : Hp) : List D → List V → Prop
  | [], vs => vs = []
  | d :: ds, vs => ∃ v r, vs = v :: r ∧ Rep K C H d v ∧ RepL K C H ds r
end

section
variable {K : PySem.W.Frag} {C : Addr} {H H' : Hp}
mutual
theorem Rep.mono (s : Same H H') : ∀ (d : D) {v : V}, Rep K C H d v → Rep K C H' d v
  | .non, _, h => h
  | .bl _, _, h => h
  | .int _, _, h => h
  | .str _, _, h => h
  | .adr _, _, h => h
  | .ty _, _, h => h
  | .lst ds, v, h => by
    obtain ⟨a, vs, e, h1, h2⟩ := h
    exact ⟨a, vs, e, s _ _ h1, RepL.mono s ds h2⟩
  | .tup ds, v, h => by
    obtain ⟨a, vs, e, h1, h2⟩ := h
    exact ⟨a, vs, e, s _ _ h1, RepL.mono s ds h2⟩
  | .dic ks ds, v, h => by
    obtain ⟨a, vs, e, h1, h2, h3⟩ := h
    exact ⟨a, vs, e, s _ _ h1, RepL.mono s ds h2, h3⟩
  | .kp b ts, v, h => by
    obtain ⟨a, dx, l, e, h1, h2⟩ := h
    exact ⟨a, dx, l, e, s _ _ h1, s _ _ h2⟩
  | .scr ns, v, h => by
    obtain ⟨a, e, h1⟩ := h
    exact ⟨a, e, s.seq h1⟩
  | .exc c, v, h => by
    obtain ⟨a, e, h1⟩ := h
    exact ⟨a, e, s _ _ h1⟩
theorem RepL.mono (s : Same H H') : ∀ (ds : List D) {vs : List V}, RepL K C H ds vs → RepL K C H' ds vs
  | [], _, h => h
  | d :: ds, vs, h => by
    obtain ⟨v, r, e, h1, h2⟩ := h
    exact ⟨v, r, e, Rep.mono s d h1, RepL.mono s ds h2⟩
end
theorem RepL.length : ∀ {ds : List D} {vs : List V}, RepL K C H ds vs → vs.length = ds.length
  | [], _, h => by
    have e : _ = _ := h
    rw [e]
    rfl
  | d :: ds, vs, h => by
    obtain ⟨v, r, e, h1, h2⟩ := h
    rw [e, List.length_cons, List.length_cons, RepL.length h2]
theorem RepL.get : ∀ {ds : List D} {vs : List V} {i : Nat} {d : D}, RepL K C H ds vs → ds[i]? = some d → ∃ v, vs[i]? = some v ∧ Rep K C H d v
  | [], _, _, _, _, e => by simp at e
  | d :: ds, vs, 0, d', h, e => by
    obtain ⟨v, r, rfl, h1, h2⟩ := h
    have e' : d = d' := by simpa using e
    subst e'
    exact ⟨v, rfl, h1⟩
  | d :: ds, vs, i + 1, d', h, e => by
    obtain ⟨v, r, rfl, h1, h2⟩ := h
    obtain ⟨w, e1, e2⟩ := RepL.get (i := i) (d := d') h2 (by simpa using e)
    exact ⟨w, by simpa using e1, e2⟩
theorem RepL.get' : ∀ {ds : List D} {vs : List V} {i : Nat} {v : V}, RepL K C H ds vs → vs[i]? = some v → ∃ d, ds[i]? = some d ∧ Rep K C H d v
  | [], _, _, _, h, e => by
    have q : _ = _ := h
    subst q
    simp at e
  | d :: ds, vs, 0, v', h, e => by
    obtain ⟨v, r, rfl, h1, h2⟩ := h
    have e' : v = v' := by simpa using e
    subst e'
    exact ⟨d, rfl, h1⟩
  | d :: ds, vs, i + 1, v', h, e => by
    obtain ⟨v, r, rfl, h1, h2⟩ := h
    obtain ⟨w, e1, e2⟩ := RepL.get' (i := i) (v := v') h2 (by simpa using e)
    exact ⟨w, by simpa using e1, e2⟩
theorem RepL.append : ∀ {ds es : List D} {vs ws : List V}, RepL K C H ds vs → RepL K C H es ws → RepL K C H (ds ++ es) (vs ++ ws)
  | [], _, _, _, h, h' => by
    have e : _ = _ := h
    subst e
    exact h'
  | d :: ds, es, vs, ws, h, h' => by
    obtain ⟨v, r, rfl, h1, h2⟩ := h
    exact ⟨v, r ++ ws, rfl, h1, RepL.append h2 h'⟩
theorem RepL.one {d : D} {v : V} (h : Rep K C H d v) : RepL K C H [d] [v] := ⟨v, [], rfl, h, rfl⟩
theorem RepL.take : ∀ {ds : List D} {vs : List V} (n : Nat), RepL K C H ds vs → RepL K C H (ds.take n) (vs.take n)
  | _, _, 0, _ => rfl
  | [], _, n + 1, h => by
    have e : _ = _ := h
    subst e
    rfl
  | d :: ds, vs, n + 1, h => by
    obtain ⟨v, r, rfl, h1, h2⟩ := h
    exact ⟨v, r.take n, rfl, h1, RepL.take n h2⟩
theorem RepL.drop : ∀ {ds : List D} {vs : List V} (n : Nat), RepL K C H ds vs → RepL K C H (ds.drop n) (vs.drop n)
  | _, _, 0, h => h
  | [], _, n + 1, h => by
    have e : _ = _ := h
    subst e
    rfl
  | d :: ds, vs, n + 1, h => by
    obtain ⟨v, r, rfl, h1, h2⟩ := h
    exact RepL.drop n h2
theorem RepL.reverse : ∀ {ds : List D} {vs : List V}, RepL K C H ds vs → RepL K C H ds.reverse vs.reverse
  | [], _, h => by
    have e : _ = _ := h
    subst e
    rfl
  | d :: ds, vs, h => by
    obtain ⟨v, r, rfl, h1, h2⟩ := h
    rw [List.reverse_cons, List.reverse_cons]
    exact (RepL.reverse h2).append (RepL.one h1)
theorem RepL.ints (H : Hp) : ∀ (ns : List Int), RepL K C H (ns.map D.int) (ns.map V.int)
  | [] => rfl
  | n :: r => ⟨.int n, r.map V.int, rfl, rfl, RepL.ints H r⟩
theorem RepL.of_ints : ∀ {ns : List Int} {vs : List V}, RepL K C H (ns.map D.int) vs → vs = ns.map V.int
  | [], _, h => h
  | n :: r, vs, h => by
    obtain ⟨v, r', rfl, h1, h2⟩ := h
    have e : v = V.int n := h1
    rw [e, RepL.of_ints h2]
    rfl
theorem RepL.bools (H : Hp) : ∀ (ns : List Bool), RepL K C H (ns.map D.bl) (ns.map V.bl)
  | [] => rfl
  | n :: r => ⟨.bl n, r.map V.bl, rfl, rfl, RepL.bools H r⟩
theorem RepL.of_bools : ∀ {ns : List Bool} {vs : List V}, RepL K C H (ns.map D.bl) vs → vs = ns.map V.bl
  | [], _, h => h
  | n :: r, vs, h => by
    obtain ⟨v, r', rfl, h1, h2⟩ := h
    have e : v = V.bl n := h1
    rw [e, RepL.of_bools h2]
    rfl
theorem RepL.strs (H : Hp) : ∀ (ns : List Str), RepL K C H (ns.map D.str) (ns.map V.str)
  | [] => rfl
  | n :: r => ⟨.str n, r.map V.str, rfl, rfl, RepL.strs H r⟩
theorem RepL.of_strs : ∀ {ns : List Str} {vs : List V}, RepL K C H (ns.map D.str) vs → vs = ns.map V.str
  | [], _, h => h
  | n :: r, vs, h => by
    obtain ⟨v, r', rfl, h1, h2⟩ := h
    have e : v = V.str n := h1
    rw [e, RepL.of_strs h2]
    rfl
end

/-- the heap without some places -/
def wo (H : Hp) (O : List Addr) : Hp := fun a => if a ∈ O then none else H a
theorem wo_some {H : Hp} {O : List Addr} {a : Addr} {o : HO} (h : wo H O a = some o) : H a = some o := by
  unfold wo at h
  split at h
  · cases h
  · exact h
theorem wo_of {H : Hp} {O : List Addr} {a : Addr} {o : HO} (h : H a = some o) (n : a ∉ O) : wo H O a = some o := by
  unfold wo
  rw [if_neg n]
  exact h
theorem wo_same {H H' : Hp} (O : List Addr) (s : Same H H') : Same (wo H O) (wo H' O) := fun b o h => by
  have n : b ∉ O := fun z => by
    unfold wo at h
    rw [if_pos z] at h
    cases h
  exact wo_of (s _ _ (wo_some h)) n
theorem wo_le (H : Hp) (O : List Addr) : Same (wo H O) H := fun b o h => wo_some h
theorem wo_sub (H : Hp) {O O' : List Addr} (h : ∀ a ∈ O', a ∈ O) : Same (wo H O) (wo H O') := fun b o e => by
  have n : b ∉ O := fun z => by
    unfold wo at e
    rw [if_pos z] at e
    cases e
  exact wo_of (wo_some e) fun z => n (h b z)
theorem wo_nil (H : Hp) : Same H (wo H []) := fun b o h => wo_of h (by simp)
/-- all places of O are taken -/
def Al (O : List Addr) (H : Hp) : Prop := ∀ a ∈ O, H a ≠ none
theorem Al.mono {O : List Addr} {H H' : Hp} (h : Al O H) (s : Same H H') : Al O H' := fun a ha e => h a ha (s.free e)
theorem Al.nil (H : Hp) : Al [] H := fun _ h => by simp at h
theorem Al.new {O : List Addr} {H : Hp} (h : Al O H) {p : Addr} (e : H p = none) : p ∉ O := fun z => h p z e
theorem Same.new {H : Hp} {p : Addr} {o : HO} (h : H p = none) : Same H (upd H p o) := fun b u e => by
  rw [upd_ne (ne_of_none e h)]
  exact e

/-- a slot's content: a value, a list of the def's own that it still fills, or (in a slot of no name) what the Keeper at p, the list at p holds -/
inductive DV where
  | v (d : D) | own (ds : List D) | kst (p : Addr) (b : Bool) (ts : List Int) | ls (p : Addr) (ds : List D) | tb (p : Addr) (q : Str)
abbrev Env := List (Option DV)
abbrev DE := Env → (D → Prop) → (Addr → Prop) → Prop
abbrev DT := Env → (Bool → Prop) → (Addr → Prop) → Prop
abbrev DA := Env → (List D → Prop) → (Addr → Prop) → Prop
abbrev DS := Env → (Env → Prop) → (D → Prop) → (Addr → Prop) → Prop
abbrev DG := D → Env → (Env → Prop) → Prop
/-- the Keepers that ρ tells of: kept apart, each told of once -/
structure Stq (C : Addr) (B : Hp) (O : List Addr) (H : Hp) (ρ : Env) : Prop where
  at_ : ∀ (i : Nat) (p : Addr) (b : Bool) (ts : List Int), ρ[i]? = some (some (.kst p b ts)) → p ∈ O ∧ B p = none ∧ ∃ dx l, H p = some (.ins C dx (kf b l)) ∧ wo H O l = some (.lst (ts.map V.int))
  one : ∀ (i j : Nat) (p : Addr) (b b' : Bool) (ts ts' : List Int), ρ[i]? = some (some (.kst p b ts)) → ρ[j]? = some (some (.kst p b' ts')) → i = j
theorem Stq.to {C : Addr} {B B' H H' : Hp} {O O' : List Addr} {ρ ρ' : Env} (k : Stq C B O H ρ) (hρ : ∀ (j : Nat) (p : Addr) (b : Bool) (ts : List Int), ρ'[j]? = some (some (.kst p b ts)) → ρ[j]? = some (some (.kst p b ts)))
    (hO : ∀ a dx fs, a ∈ O → H a = some (.ins C dx fs) → a ∈ O') (hH : ∀ a dx fs, a ∈ O → B a = none → H a = some (.ins C dx fs) → (∃ (i : Nat) (b : Bool) (ts : List Int), ρ'[i]? = some (some (DV.kst a b ts))) → H' a = some (.ins C dx fs)) (hw : Same (wo H O) (wo H' O')) (hB : ∀ a, a ∈ O → B a = none → B' a = none) : Stq C B' O' H' ρ' where
  at_ := fun i p b ts e => by
    obtain ⟨h1, h2, dx, l, h3, h4⟩ := k.at_ i p b ts (hρ _ _ _ _ e)
    exact ⟨hO _ _ _ h1 h3, hB _ h1 h2, dx, l, hH _ _ _ h1 h2 h3 ⟨i, b, ts, e⟩, hw _ _ h4⟩
  one := fun i j p b b' ts ts' e e' => k.one i j p b b' ts ts' (hρ _ _ _ _ e) (hρ _ _ _ _ e')
/-- the lists that ρ tells of: kept apart, each told of once, none of them an own list of a slot -/
structure Lsq (K : PySem.W.Frag) (C : Addr) (B : Hp) (O : List Addr) (H : Hp) (σ : St) (ρ : Env) : Prop where
  at_ : ∀ (i : Nat) (p : Addr) (ds : List D), ρ[i]? = some (some (.ls p ds)) → p ∈ O ∧ B p = none ∧ ∃ vs, H p = some (.lst vs) ∧ RepL K C (wo H O) ds vs
  one : ∀ (i j : Nat) (p : Addr) (ds es : List D), ρ[i]? = some (some (.ls p ds)) → ρ[j]? = some (some (.ls p es)) → i = j
  no : ∀ (i j : Nat) (p : Addr) (ds es : List D), ρ[i]? = some (some (.ls p ds)) → ρ[j]? = some (some (.own es)) → σ[j]? ≠ some (some (.ref p))
theorem Lsq.to {K : PySem.W.Frag} {C : Addr} {B B' H H' : Hp} {O O' : List Addr} {σ σ' : St} {ρ ρ' : Env} (k : Lsq K C B O H σ ρ) (hρ : ∀ (j : Nat) (p : Addr) (ds : List D), ρ'[j]? = some (some (.ls p ds)) → ρ[j]? = some (some (.ls p ds)))
    (hO : ∀ (i : Nat) (p : Addr) (ds : List D) (vs : List V), ρ[i]? = some (some (.ls p ds)) → H p = some (.lst vs) → p ∈ O → p ∈ O') (hH : ∀ (i : Nat) (p : Addr) (ds : List D) (vs : List V), ρ[i]? = some (some (.ls p ds)) → p ∈ O → B p = none → H p = some (.lst vs) → H' p = some (.lst vs))
    (hw : Same (wo H O) (wo H' O')) (hB : ∀ a, a ∈ O → B a = none → B' a = none) (hn : ∀ (i j : Nat) (p : Addr) (ds es : List D), ρ[i]? = some (some (.ls p ds)) → ρ'[j]? = some (some (.own es)) → σ'[j]? ≠ some (some (.ref p))) : Lsq K C B' O' H' σ' ρ' where
  at_ := fun i p ds e => by
    have e' := hρ _ _ _ e
    obtain ⟨h1, h2, vs, h3, h4⟩ := k.at_ i p ds e'
    exact ⟨hO i p ds vs e' h3 h1, hB _ h1 h2, vs, hH i p ds vs e' h1 h2 h3, RepL.mono hw ds h4⟩
  one := fun i j p ds es e e' => k.one i j p ds es (hρ _ _ _ e) (hρ _ _ _ e')
  no := fun i j p ds es e e' => hn i j p ds es (hρ _ _ _ e) e'
theorem set_ls {ρ : Env} {i : Nat} {x : Option DV} (hx : ∀ p ds, x ≠ some (.ls p ds)) : ∀ (j : Nat) (p : Addr) (ds : List D), (ρ.set i x)[j]? = some (some (.ls p ds)) → ρ[j]? = some (some (.ls p ds)) := fun j p ds e => by
  by_cases h : i = j
  · subst h
    by_cases hl : i < ρ.length
    · rw [List.getElem?_set_self hl] at e
      exact absurd (Option.some.inj e) (hx p ds)
    · rw [List.getElem?_eq_none (by rw [List.length_set]; omega)] at e
      cases e
  · rwa [List.getElem?_set_ne h] at e
/-- the tables of code objects that ρ tells of -/
structure Tbq (B : Hp) (O : List Addr) (H : Hp) (ρ : Env) : Prop where
  at_ : ∀ (i : Nat) (p : Addr) (q : Str), ρ[i]? = some (some (.tb p q)) → p ∈ O ∧ B p = none ∧ LamX.TabS H p q
  one : ∀ (i j : Nat) (p : Addr) (q q' : Str), ρ[i]? = some (some (.tb p q)) → ρ[j]? = some (some (.tb p q')) → q = q'
/-- all but lists and Keepers stay -/
def SameX (H H' : Hp) : Prop := ∀ a o, H a = some o → (∀ xs, o ≠ .lst xs) → (∀ c dx fs, o ≠ .ins c dx fs) → H' a = some o
theorem SameX.of {H H' : Hp} (s : Same H H') : SameX H H' := fun a o e _ _ => s a o e
theorem SameX.refl (H : Hp) : SameX H H := fun _ _ e _ _ => e
theorem SameX.upd {H : Hp} {p : Addr} {xs : List V} {o : HO} (h : H p = some (.lst xs)) : SameX H (upd H p o) := fun a u e n _ => by
  rw [upd_ne fun q => by rw [q, h] at e; cases e; exact n xs rfl]
  exact e
theorem tabS_x {H H' : Hp} {p : Addr} {q : Str} (s : SameX H H') (t : LamX.TabS H p q) : LamX.TabS H' p q := by
  obtain ⟨ps, h1, h2, h3⟩ := t
  refine ⟨ps, s _ _ h1 (fun _ z => by cases z) (fun _ _ _ z => by cases z), h2, fun pos cv hc => ?_⟩
  obtain ⟨c, e1, e2⟩ := h3 pos cv hc
  exact ⟨c, e1, s _ _ e2 (fun _ z => by unfold LamX.CodeO at z; cases z) (fun _ _ _ z => by unfold LamX.CodeO at z; cases z)⟩
theorem Tbq.to {B B' H H' : Hp} {O O' : List Addr} {ρ ρ' : Env} (k : Tbq B O H ρ) (hρ : ∀ (j : Nat) (p : Addr) (q : Str), ρ'[j]? = some (some (.tb p q)) → ρ[j]? = some (some (.tb p q))) (hO : ∀ p ps, H p = some (.tbl ps) → p ∈ O → p ∈ O') (hH : SameX H H') (hB : ∀ a, a ∈ O → B a = none → B' a = none) : Tbq B' O' H' ρ' where
  at_ := fun i p q e => by
    obtain ⟨h1, h2, h3⟩ := k.at_ i p q (hρ _ _ _ e)
    obtain ⟨ps, e1, _⟩ := id h3
    exact ⟨hO p ps e1 h1, hB _ h1 h2, tabS_x hH h3⟩
  one := fun i j p q q' e e' => k.one i j p q q' (hρ _ _ _ e) (hρ _ _ _ e')
theorem set_tb {ρ : Env} {i : Nat} {x : Option DV} (hx : ∀ p q, x ≠ some (.tb p q)) : ∀ (j : Nat) (p : Addr) (q : Str), (ρ.set i x)[j]? = some (some (.tb p q)) → ρ[j]? = some (some (.tb p q)) := fun j p q e => by
  by_cases h : i = j
  · subst h
    by_cases hl : i < ρ.length
    · rw [List.getElem?_set_self hl] at e
      exact absurd (Option.some.inj e) (hx p q)
    · rw [List.getElem?_eq_none (by rw [List.length_set]; omega)] at e
      cases e
  · rwa [List.getElem?_set_ne h] at e
/-- a slot that another thing comes into tells of no Keeper -/
theorem set_kst {ρ : Env} {i : Nat} {x : Option DV} (hx : ∀ p b ts, x ≠ some (.kst p b ts)) : ∀ (j : Nat) (p : Addr) (b : Bool) (ts : List Int), (ρ.set i x)[j]? = some (some (.kst p b ts)) → ρ[j]? = some (some (.kst p b ts)) := fun j p b ts e => by
  by_cases h : i = j
  · subst h
    by_cases hl : i < ρ.length
    · rw [List.getElem?_set_self hl] at e
      exact absurd (Option.some.inj e) (hx p b ts)
    · rw [List.getElem?_eq_none (by rw [List.length_set]; omega)] at e
      cases e
  · rwa [List.getElem?_set_ne h] at e
/-- the slots σ in H stand for ρ; B: the heap at the entry, O0: places that the caller keeps apart; O: places that no value leans on (O0 and the own lists) -/
structure Ok (K : PySem.W.Frag) (C : Addr) (B : Hp) (O0 O : List Addr) (H : Hp) (σ : St) (ρ : Env) : Prop where
  base : Same B H
  al0 : Al O0 B
  al : Al O H
  sub0 : ∀ a ∈ O0, a ∈ O
  new : ∀ a ∈ O, a ∉ O0 → B a = none
  len : σ.length = ρ.length
  val : ∀ (i : Nat) (d : D), ρ[i]? = some (some (.v d)) → ∃ x, σ[i]? = some (some x) ∧ Rep K C (wo H O) d x
  own : ∀ (i : Nat) (ds : List D), ρ[i]? = some (some (.own ds)) → ∃ p vs, σ[i]? = some (some (.ref p)) ∧ p ∈ O ∧ B p = none ∧ H p = some (.lst vs) ∧ RepL K C (wo H O) ds vs
  uniq : ∀ (i j : Nat) (ds es : List D), ρ[i]? = some (some (.own ds)) → ρ[j]? = some (some (.own es)) → σ[i]? = σ[j]? → i = j
  st : Stq C B O H ρ
  ls : Lsq K C B O H σ ρ
  tb : Tbq B O H ρ
section
variable {K : PySem.W.Frag} {C : Addr} {B H H' : Hp} {O0 O : List Addr} {σ : St} {ρ : Env}
theorem set_own {ρ : Env} {i j : Nat} {d : D} {ds : List D} (e : (ρ.set i (some (DV.v d)))[j]? = some (some (.own ds))) : ρ[j]? = some (some (.own ds)) ∧ i ≠ j := by
  by_cases h : i = j
  · subst h
    by_cases hl : i < ρ.length
    · rw [List.getElem?_set_self hl] at e
      simp at e
    · rw [List.getElem?_eq_none (by rw [List.length_set]; omega)] at e
      cases e
  · rw [List.getElem?_set_ne h] at e
    exact ⟨e, h⟩
theorem Ok.ext (k : Ok K C B O0 O H σ ρ) (s : Same H H') : Ok K C B O0 O H' σ ρ where
  base := k.base.trans s
  al0 := k.al0
  al := k.al.mono s
  sub0 := k.sub0
  new := k.new
  len := k.len
  val := fun i d e => by
    obtain ⟨x, e1, e2⟩ := k.val i d e
    exact ⟨x, e1, Rep.mono (wo_same O s) d e2⟩
  own := fun i ds e => by
    obtain ⟨p, vs, e1, e2, e3, e4, e5⟩ := k.own i ds e
    exact ⟨p, vs, e1, e2, e3, s _ _ e4, RepL.mono (wo_same O s) ds e5⟩
  uniq := k.uniq
  st := k.st.to (fun _ _ _ _ e => e) (fun _ _ _ h _ => h) (fun _ _ _ _ _ e _ => s _ _ e) (wo_same O s) (fun _ _ h => h)
  ls := k.ls.to (fun _ _ _ e => e) (fun _ _ _ _ _ _ h => h) (fun _ _ _ _ _ _ _ e => s _ _ e) (wo_same O s) (fun _ _ h => h) k.ls.no
  tb := k.tb.to (fun _ _ _ e => e) (fun _ _ _ h => h) (SameX.of s) (fun _ _ h => h)
/-- a slot is stored -/
theorem Ok.set (k : Ok K C B O0 O H σ ρ) (i : Nat) {d : D} {x : V} (r : Rep K C (wo H O) d x) : Ok K C B O0 O H (σ.set i (some x)) (ρ.set i (some (.v d))) where
  base := k.base
  al0 := k.al0
  al := k.al
  sub0 := k.sub0
  new := k.new
  len := by rw [List.length_set, List.length_set]; exact k.len
  val := fun j d' e => by
    by_cases h : i = j
    · subst h
      by_cases hl : i < ρ.length
      · rw [List.getElem?_set_self hl] at e
        have e' : d = d' := by simpa using e
        subst e'
        exact ⟨x, List.getElem?_set_self (by rw [k.len]; exact hl), r⟩
      · rw [List.getElem?_eq_none (by rw [List.length_set]; omega)] at e
        cases e
    · rw [List.getElem?_set_ne h] at e ⊢
      exact k.val j d' e
  own := fun j ds e => by
    obtain ⟨e, h⟩ := set_own e
    rw [List.getElem?_set_ne h]
    exact k.own j ds e
  uniq := fun a b ds es e1 e2 e3 => by
    obtain ⟨e1, na⟩ := set_own e1
    obtain ⟨e2, nb⟩ := set_own e2
    rw [List.getElem?_set_ne na, List.getElem?_set_ne nb] at e3
    exact k.uniq a b ds es e1 e2 e3
  st := k.st.to (set_kst fun _ _ _ h => by cases h) (fun _ _ _ h _ => h) (fun _ _ _ _ _ e _ => e) (Same.refl _) (fun _ _ h => h)
  ls := k.ls.to (set_ls fun _ _ h => by cases h) (fun _ _ _ _ _ _ h => h) (fun _ _ _ _ _ _ _ e => e) (Same.refl _) (fun _ _ h => h) fun a b p ds es e e' => by
    obtain ⟨e', nb⟩ := set_own e'
    rw [List.getElem?_set_ne nb]
    exact k.ls.no a b p ds es e e'
  tb := k.tb.to (set_tb fun _ _ h => by cases h) (fun _ _ _ h => h) (SameX.refl _) (fun _ _ h => h)
/-- a slot is forgotten -/
theorem Ok.unset (k : Ok K C B O0 O H σ ρ) (i : Nat) : Ok K C B O0 O H (σ.set i none) (ρ.set i none) := by
  have old : ∀ {j : Nat} {x : DV}, (ρ.set i none)[j]? = some (some x) → ρ[j]? = some (some x) ∧ i ≠ j := fun {j x} e => by
    by_cases h : i = j
    · subst h
      by_cases hl : i < ρ.length
      · rw [List.getElem?_set_self hl] at e
        simp at e
      · rw [List.getElem?_eq_none (by rw [List.length_set]; omega)] at e
        cases e
    · rw [List.getElem?_set_ne h] at e
      exact ⟨e, h⟩
  refine ⟨k.base, k.al0, k.al, k.sub0, k.new, by rw [List.length_set, List.length_set]; exact k.len, fun j d e => ?_, fun j ds e => ?_, fun a b ds es e1 e2 e3 => ?_, k.st.to (set_kst fun _ _ _ h => by cases h) (fun _ _ _ h _ => h) (fun _ _ _ _ _ e _ => e) (Same.refl _) (fun _ _ h => h), k.ls.to (set_ls fun _ _ h => by cases h) (fun _ _ _ _ _ _ h => h) (fun _ _ _ _ _ _ _ e => e) (Same.refl _) (fun _ _ h => h) fun a b p ds es e e' => by
    obtain ⟨e', nb⟩ := old e'
    rw [List.getElem?_set_ne nb]
    exact k.ls.no a b p ds es e e', k.tb.to (set_tb fun _ _ h => by cases h) (fun _ _ _ h => h) (SameX.refl _) (fun _ _ h => h)⟩
  · obtain ⟨e, h⟩ := old e
    rw [List.getElem?_set_ne h]
    exact k.val j d e
  · obtain ⟨e, h⟩ := old e
    rw [List.getElem?_set_ne h]
    exact k.own j ds e
  · obtain ⟨e1, na⟩ := old e1
    obtain ⟨e2, nb⟩ := old e2
    rw [List.getElem?_set_ne na, List.getElem?_set_ne nb] at e3
    exact k.uniq a b ds es e1 e2 e3
/-- a new place is kept apart (nothing stands for it) -/
theorem Ok.apart (k : Ok K C B O0 O H σ ρ) {p : Addr} {o : HO} (hp : H p = none) : Ok K C B O0 (p :: O) (upd H p o) σ ρ := by
  have s : Same H (upd H p o) := Same.new hp
  have sw : Same (wo H O) (wo (upd H p o) (p :: O)) := fun b u e => by
    have h1 : H b = some u := wo_some e
    have nb : b ≠ p := ne_of_none h1 hp
    have nO : b ∉ O := fun z => by
      unfold wo at e
      rw [if_pos z] at e
      cases e
    exact wo_of (by rw [upd_ne nb]; exact h1) (by simp [nb, nO])
  refine ⟨k.base.trans s, k.al0, fun a ha => ?_, fun a ha => List.mem_cons_of_mem _ (k.sub0 a ha), fun a ha n => ?_, k.len, fun j d e => ?_, fun j es e => ?_, k.uniq, k.st.to (fun _ _ _ _ e => e) (fun _ _ _ h _ => List.mem_cons_of_mem _ h) (fun _ _ _ _ _ e _ => s _ _ e) sw (fun _ _ h => h), k.ls.to (fun _ _ _ e => e) (fun _ _ _ _ _ _ h => List.mem_cons_of_mem _ h) (fun _ _ _ _ _ _ _ e => s _ _ e) sw (fun _ _ h => h) k.ls.no, k.tb.to (fun _ _ _ e => e) (fun _ _ _ h => List.mem_cons_of_mem _ h) (SameX.of s) (fun _ _ h => h)⟩
  · rcases List.mem_cons.mp ha with rfl | ha
    · rw [upd_same]; intro z; cases z
    · exact (k.al.mono s) a ha
  · rcases List.mem_cons.mp ha with rfl | ha
    · exact k.base.free hp
    · exact k.new a ha n
  · obtain ⟨x, e1, e2⟩ := k.val j d e
    exact ⟨x, e1, Rep.mono sw d e2⟩
  · obtain ⟨q, ws, e1, e2, e3, e4, e5⟩ := k.own j es e
    exact ⟨q, ws, e1, List.mem_cons_of_mem _ e2, e3, s _ _ e4, RepL.mono sw es e5⟩
/-- a kept-apart place (not of an own list) changes -/
theorem Ok.chg (k : Ok K C B O0 O H σ ρ) {p : Addr} {o u : HO} (hp : p ∈ O) (hb : B p = none) (h0 : H p = some u) (hn : ∀ (i : Nat) (ds : List D), ρ[i]? = some (some (.own ds)) → σ[i]? ≠ some (some (.ref p))) (hk : ∀ (i : Nat) (b : Bool) (ts : List Int), ρ[i]? ≠ some (some (.kst p b ts))) (hkl : ∀ (i : Nat) (ds : List D), ρ[i]? ≠ some (some (.ls p ds))) (hx : SameX H (upd H p o)) : Ok K C B O0 O (upd H p o) σ ρ := by
  have sw : Same (wo H O) (wo (upd H p o) O) := fun b u e => by
    have h1 : H b = some u := wo_some e
    have nO : b ∉ O := fun z => by
      unfold wo at e
      rw [if_pos z] at e
      cases e
    have nb : b ≠ p := fun z => nO (z ▸ hp)
    exact wo_of (by rw [upd_ne nb]; exact h1) nO
  refine ⟨fun b o e => ?_, k.al0, fun a ha => ?_, k.sub0, k.new, k.len, fun j d' e => ?_, fun j es e => ?_, k.uniq, k.st.to (fun _ _ _ _ e => e) (fun _ _ _ h _ => h) (fun a dx fs _ _ e z => by
    obtain ⟨i, b, ts, z⟩ := z
    rw [upd_ne (show a ≠ p from fun q => hk i b ts (by rw [← q]; exact z))]
    exact e) sw (fun _ _ h => h), k.ls.to (fun _ _ _ e => e) (fun _ _ _ _ _ _ h => h) (fun i a ds vs z _ _ e => by
    rw [upd_ne (show a ≠ p from fun q => hkl i ds (by rw [← q]; exact z))]
    exact e) sw (fun _ _ h => h) k.ls.no, k.tb.to (fun _ _ _ e => e) (fun _ _ _ h => h) hx (fun _ _ h => h)⟩
  · rw [upd_ne (ne_of_none e hb)]
    exact k.base b o e
  · by_cases h : a = p
    · rw [h, upd_same]; intro z; cases z
    · rw [upd_ne h]; exact k.al a ha
  · obtain ⟨y, a1, a2⟩ := k.val j d' e
    exact ⟨y, a1, Rep.mono sw d' a2⟩
  · obtain ⟨q, ws, a1, a2, a3, a4, a5⟩ := k.own j es e
    have nq : q ≠ p := fun z => hn j es e (by rw [a1, z])
    exact ⟨q, ws, a1, a2, a3, by rw [upd_ne nq]; exact a4, RepL.mono sw es a5⟩
/-- a new list of the def's own comes into a slot -/
theorem Ok.setOwn (k : Ok K C B O0 O H σ ρ) {i : Nat} {p : Addr} {ds : List D} {vs : List V} (hp : H p = none) (r : RepL K C (wo H O) ds vs) :
    Ok K C B O0 (p :: O) (upd H p (.lst vs)) (σ.set i (some (.ref p))) (ρ.set i (some (.own ds))) := by
  have k1 := k.apart (o := .lst vs) hp
  have sw : Same (wo H O) (wo (upd H p (.lst vs)) (p :: O)) := fun b o e => by
    have h1 : H b = some o := wo_some e
    have nb : b ≠ p := ne_of_none h1 hp
    have nO : b ∉ O := fun z => by
      unfold wo at e
      rw [if_pos z] at e
      cases e
    exact wo_of (by rw [upd_ne nb]; exact h1) (by simp [nb, nO])
  have lt : ∀ {j : Nat} {x : Option DV}, (ρ.set i (some (DV.own ds)))[j]? = some x → j < ρ.length := fun {j x} e => by
    rcases Nat.lt_or_ge j ρ.length with h | h
    · exact h
    · rw [List.getElem?_eq_none (by rw [List.length_set]; exact h)] at e; cases e
  refine ⟨k1.base, k1.al0, k1.al, k1.sub0, k1.new, by rw [List.length_set, List.length_set]; exact k.len, fun j d e => ?_, fun j es e => ?_, fun a b es fs e1 e2 e3 => ?_, k1.st.to (set_kst fun _ _ _ h => by cases h) (fun _ _ _ h _ => h) (fun _ _ _ _ _ e _ => e) (Same.refl _) (fun _ _ h => h), k1.ls.to (set_ls fun _ _ h => by cases h) (fun _ _ _ _ _ _ h => h) (fun _ _ _ _ _ _ _ e => e) (Same.refl _) (fun _ _ h => h) fun a b q ds' es e e' => by
    have hb := lt e'
    by_cases h : i = b
    · subst h
      rw [List.getElem?_set_self (by rw [k.len]; exact hb)]
      intro z
      have ez : p = q := by simpa using z
      obtain ⟨_, _, vs', h3, _⟩ := k.ls.at_ a q ds' e
      rw [← ez, hp] at h3
      cases h3
    · rw [List.getElem?_set_ne h] at e' ⊢
      exact k.ls.no a b q ds' es e e', k1.tb.to (set_tb fun _ _ h => by cases h) (fun _ _ _ h => h) (SameX.refl _) (fun _ _ h => h)⟩
  · have hj := lt e
    by_cases h : i = j
    · subst h
      rw [List.getElem?_set_self hj] at e
      simp at e
    · rw [List.getElem?_set_ne h] at e ⊢
      exact k1.val j d e
  · have hj := lt e
    by_cases h : i = j
    · subst h
      rw [List.getElem?_set_self hj] at e
      have e' : ds = es := by simpa using e
      subst e'
      exact ⟨p, vs, List.getElem?_set_self (by rw [k.len]; exact hj), by simp, k.base.free hp, upd_same, RepL.mono sw _ r⟩
    · rw [List.getElem?_set_ne h] at e ⊢
      exact k1.own j es e
  · have one : ∀ (j : Nat) (es : List D), (ρ.set i (some (DV.own ds)))[j]? = some (some (.own es)) → i ≠ j → ∃ q, σ[j]? = some (some (.ref q)) ∧ q ≠ p := fun j es e hj => by
      rw [List.getElem?_set_ne hj] at e
      obtain ⟨q, ws, e1, e2, e3, e4, e5⟩ := k.own j es e
      exact ⟨q, e1, ne_of_none e4 hp⟩
    by_cases ha : i = a
    · by_cases hb : i = b
      · omega
      · obtain ⟨q, e4, nq⟩ := one b fs e2 hb
        subst ha
        rw [List.getElem?_set_ne hb, e4, List.getElem?_set_self (by rw [k.len]; exact lt e1)] at e3
        exact absurd (by simpa using e3.symm) nq
    · by_cases hb : i = b
      · obtain ⟨q, e4, nq⟩ := one a es e1 ha
        subst hb
        rw [List.getElem?_set_ne ha, e4, List.getElem?_set_self (by rw [k.len]; exact lt e2)] at e3
        exact absurd (by simpa using e3) nq
      · rw [List.getElem?_set_ne ha] at e1 e3
        rw [List.getElem?_set_ne hb] at e2 e3
        exact k.uniq a b es fs e1 e2 e3
/-- the own list in slot i grows -/
theorem Ok.grow (k : Ok K C B O0 O H σ ρ) {i : Nat} {ds : List D} {d : D} {p : Addr} {vs : List V} {x : V} (hi : ρ[i]? = some (some (.own ds))) (hp : σ[i]? = some (some (.ref p))) (hl : H p = some (.lst vs)) (r : Rep K C (wo H O) d x) :
    Ok K C B O0 O (upd H p (.lst (vs ++ [x]))) σ (ρ.set i (some (.own (ds ++ [d])))) := by
  obtain ⟨p', vs', e1, e2, e3, e4, e5⟩ := k.own i ds hi
  rw [hp] at e1
  have ep : p = p' := by simpa using e1
  subst ep
  rw [hl] at e4
  have ev : vs = vs' := by simpa using e4
  subst ev
  have hil : i < ρ.length := by
    rcases Nat.lt_or_ge i ρ.length with h | h
    · exact h
    · rw [List.getElem?_eq_none h] at hi; cases hi
  have sw : Same (wo H O) (wo (upd H p (.lst (vs ++ [x]))) O) := fun b o e => by
    have h1 : H b = some o := wo_some e
    have nO : b ∉ O := fun z => by
      unfold wo at e
      rw [if_pos z] at e
      cases e
    have nb : b ≠ p := fun z => nO (z ▸ e2)
    exact wo_of (by rw [upd_ne nb]; exact h1) nO
  refine ⟨fun b o e => ?_, k.al0, fun a ha => ?_, k.sub0, k.new, by rw [List.length_set]; exact k.len, fun j d' e => ?_, fun j es e => ?_, fun a b es fs h1 h2 h3 => ?_, k.st.to (set_kst fun _ _ _ h => by cases h) (fun _ _ _ h _ => h) (fun a dx fs _ _ e _ => by
    rw [upd_ne fun q => by rw [q, hl] at e; cases e]
    exact e) sw (fun _ _ h => h), k.ls.to (set_ls fun _ _ h => by cases h) (fun _ _ _ _ _ _ h => h) (fun j a ds' vs' z _ _ e => by
    rw [upd_ne (show a ≠ p from fun q => k.ls.no j i a ds' ds z hi (by rw [hp, q]))]
    exact e) sw (fun _ _ h => h) fun a b q ds' es e e' => by
    by_cases h : i = b
    · subst h
      exact k.ls.no a i q ds' ds e hi
    · rw [List.getElem?_set_ne h] at e'
      exact k.ls.no a b q ds' es e e', k.tb.to (set_tb fun _ _ h => by cases h) (fun _ _ _ h => h) (SameX.upd hl) (fun _ _ h => h)⟩
  · rw [upd_ne (ne_of_none e e3)]
    exact k.base b o e
  · by_cases h : a = p
    · rw [h, upd_same]; intro z; cases z
    · rw [upd_ne h]; exact k.al a ha
  · have h : i ≠ j := fun z => by
      subst z
      rw [List.getElem?_set_self hil] at e
      simp at e
    rw [List.getElem?_set_ne h] at e
    obtain ⟨y, a1, a2⟩ := k.val j d' e
    exact ⟨y, a1, Rep.mono sw d' a2⟩
  · by_cases h : i = j
    · subst h
      rw [List.getElem?_set_self hil] at e
      have e' : ds ++ [d] = es := by simpa using e
      subst e'
      exact ⟨p, vs ++ [x], hp, e2, e3, upd_same, (RepL.mono sw _ e5).append (RepL.one (Rep.mono sw _ r))⟩
    · rw [List.getElem?_set_ne h] at e
      obtain ⟨q, ws, a1, a2, a3, a4, a5⟩ := k.own j es e
      have nq : q ≠ p := fun z => h (k.uniq i j ds es hi e (by rw [hp, a1, z]))
      exact ⟨q, ws, a1, a2, a3, by rw [upd_ne nq]; exact a4, RepL.mono sw es a5⟩
  · have old : ∀ (j : Nat) (es : List D), (ρ.set i (some (DV.own (ds ++ [d]))))[j]? = some (some (.own es)) → ∃ fs, ρ[j]? = some (some (.own fs)) := fun j es e => by
      by_cases h : i = j
      · exact ⟨ds, by rw [← h]; exact hi⟩
      · rw [List.getElem?_set_ne h] at e
        exact ⟨es, e⟩
    obtain ⟨es', h1⟩ := old a es h1
    obtain ⟨fs', h2⟩ := old b fs h2
    exact k.uniq a b es' fs' h1 h2 h3
/-- from here on the own list in slot i is a value like any other -/
theorem Ok.freeze (k : Ok K C B O0 O H σ ρ) {i : Nat} {ds : List D} (hi : ρ[i]? = some (some (.own ds))) : ∃ O', Ok K C B O0 O' H σ (ρ.set i (some (.v (.lst ds)))) := by
  obtain ⟨p, vs, e1, e2, e3, e4, e5⟩ := k.own i ds hi
  have hil : i < ρ.length := by
    rcases Nat.lt_or_ge i ρ.length with h | h
    · exact h
    · rw [List.getElem?_eq_none h] at hi; cases hi
  have sub : ∀ a, a ∈ O.filter (fun a => decide (a ≠ p)) → a ∈ O := fun a ha => (List.mem_filter.mp ha).1
  have sw : Same (wo H O) (wo H (O.filter fun a => decide (a ≠ p))) := wo_sub H sub
  refine ⟨O.filter fun a => decide (a ≠ p), ⟨k.base, k.al0, fun a ha => k.al a (sub a ha), fun a ha => List.mem_filter.mpr ⟨k.sub0 a ha, decide_eq_true fun z => k.al0 a ha (z ▸ e3)⟩, fun a ha n => k.new a (sub a ha) n, by rw [List.length_set]; exact k.len, fun j d' e => ?_, fun j es e => ?_, fun a b es fs h1 h2 h3 => ?_, k.st.to (set_kst fun _ _ _ h => by cases h) (fun a dx fs h e => List.mem_filter.mpr ⟨h, decide_eq_true fun z => by rw [z, e4] at e; cases e⟩) (fun _ _ _ _ _ e _ => e) sw (fun _ _ h => h), k.ls.to (set_ls fun _ _ h => by cases h) (fun j a ds' vs' z _ h => List.mem_filter.mpr ⟨h, decide_eq_true fun q => k.ls.no j i a ds' ds z hi (by rw [e1, q])⟩) (fun _ _ _ _ _ _ _ e => e) sw (fun _ _ h => h) fun a b q ds' es e e' => k.ls.no a b q ds' es e (set_own e').1, k.tb.to (set_tb fun _ _ h => by cases h) (fun P ps e h => List.mem_filter.mpr ⟨h, decide_eq_true fun z => by rw [z, e4] at e; cases e⟩) (SameX.refl _) (fun _ _ h => h)⟩⟩
  · by_cases h : i = j
    · subst h
      rw [List.getElem?_set_self hil] at e
      have e' : D.lst ds = d' := by simpa using e
      subst e'
      exact ⟨.ref p, e1, p, vs, rfl, wo_of e4 (by simp), RepL.mono sw _ e5⟩
    · rw [List.getElem?_set_ne h] at e
      obtain ⟨y, a1, a2⟩ := k.val j d' e
      exact ⟨y, a1, Rep.mono sw d' a2⟩
  · obtain ⟨e, h⟩ := set_own e
    obtain ⟨q, ws, a1, a2, a3, a4, a5⟩ := k.own j es e
    have nq : q ≠ p := fun z => h (k.uniq i j ds es hi e (by rw [e1, a1, z]))
    exact ⟨q, ws, a1, List.mem_filter.mpr ⟨a2, decide_eq_true nq⟩, a3, a4, RepL.mono sw es a5⟩
  · exact k.uniq a b es fs (set_own h1).1 (set_own h2).1 h3
/-- the heap at a loop's start, without the own lists: what stands through the loop -/
def mid (B H : Hp) (O : List Addr) : Hp := fun b => if b ∈ O ∧ B b = none then none else H b
theorem mid_own {B H : Hp} {O : List Addr} {b : Addr} (h : b ∈ O) (e : B b = none) : mid B H O b = none := if_pos ⟨h, e⟩
theorem Ok.base_mid (k : Ok K C B O0 O H σ ρ) : Same B (mid B H O) := fun b o e => by
  unfold mid
  rw [if_neg (by rintro ⟨_, z⟩; rw [z] at e; cases e)]
  exact k.base b o e
theorem mid_le (B H : Hp) (O : List Addr) : Same (mid B H O) H := fun b o e => by
  unfold mid at e
  split at e
  · cases e
  · exact e
theorem wo_mid (B H : Hp) (O : List Addr) : Same (wo H O) (mid B H O) := fun b o e => by
  have n : b ∉ O := fun z => by
    unfold wo at e
    rw [if_pos z] at e
    cases e
  unfold mid
  rw [if_neg (by rintro ⟨z, _⟩; exact n z)]
  exact wo_some e
theorem Ok.mid (k : Ok K C B O0 O H σ ρ) : Ok K C (mid B H O) O0 O H σ ρ where
  base := mid_le B H O
  al0 := k.al0.mono k.base_mid
  al := k.al
  sub0 := k.sub0
  new := fun a ha n => mid_own ha (k.new a ha n)
  len := k.len
  val := k.val
  own := fun i ds e => by
    obtain ⟨p, vs, e1, e2, e3, e4, e5⟩ := k.own i ds e
    exact ⟨p, vs, e1, e2, mid_own e2 e3, e4, e5⟩
  uniq := k.uniq
  st := k.st.to (fun _ _ _ _ e => e) (fun _ _ _ h _ => h) (fun _ _ _ _ _ e _ => e) (Same.refl _) (fun _ h e => mid_own h e)
  ls := k.ls.to (fun _ _ _ e => e) (fun _ _ _ _ _ _ h => h) (fun _ _ _ _ _ _ _ e => e) (Same.refl _) (fun _ h e => mid_own h e) k.ls.no
  tb := k.tb.to (fun _ _ _ e => e) (fun _ _ _ h => h) (SameX.refl _) (fun _ h e => mid_own h e)
/-- a lesser base -/
theorem Ok.less {B' : Hp} (k : Ok K C B O0 O H σ ρ) (s : Same B' B) (a0 : Al O0 B') : Ok K C B' O0 O H σ ρ where
  base := s.trans k.base
  al0 := a0
  al := k.al
  sub0 := k.sub0
  new := fun a ha n => s.free (k.new a ha n)
  len := k.len
  val := k.val
  own := fun i ds e => by
    obtain ⟨p, vs, e1, e2, e3, e4, e5⟩ := k.own i ds e
    exact ⟨p, vs, e1, e2, s.free e3, e4, e5⟩
  uniq := k.uniq
  st := k.st.to (fun _ _ _ _ e => e) (fun _ _ _ h _ => h) (fun _ _ _ _ _ e _ => e) (Same.refl _) (fun _ _ e => s.free e)
  ls := k.ls.to (fun _ _ _ e => e) (fun _ _ _ _ _ _ h => h) (fun _ _ _ _ _ _ _ e => e) (Same.refl _) (fun _ _ e => s.free e) k.ls.no
  tb := k.tb.to (fun _ _ _ e => e) (fun _ _ _ h => h) (SameX.refl _) (fun _ _ e => s.free e)
/-- what stood apart from O at a loop's start stands apart from what is kept apart in a turn -/
theorem Ok.stays {B2 H2 : Hp} {O2 : List Addr} {σ2 : St} {ρ2 : Env} (k2 : Ok K C B2 O0 O2 H2 σ2 ρ2) (hb : Same (wo H O) B2) (h0 : ∀ a ∈ O0, a ∈ O) : Same (wo H O) (wo H2 O2) := fun b o e => by
  have e2 : B2 b = some o := hb b o e
  refine wo_of (k2.base b o e2) fun z => ?_
  have n0 : b ∉ O0 := fun y => by
    have : b ∈ O := h0 b y
    unfold wo at e
    rw [if_pos this] at e
    cases e
  rw [k2.new b z n0] at e2
  cases e2
end
end L2.DL
/-! # Data-level readings: lifts, and one rule a construct -/
namespace L2.DL
open PySem PySem.Spec PyProof.Rows

def lift (K : PySem.W.Frag) (C : Addr) (E : XK) (p : DE) : TE := fun σ H Q => ∃ B O0 O ρ P R, Ok K C B O0 O H σ ρ ∧ p ρ P R ∧
  (∀ v d H', Same H H' → Rep K C (wo H' O) d v → P d → Q v H') ∧ ∀ c H', Same H H' → R c → E (.ref c) none H'
def liftT (K : PySem.W.Frag) (C : Addr) (E : XK) (p : DT) : TT := fun σ H Q => ∃ B O0 O ρ P R, Ok K C B O0 O H σ ρ ∧ p ρ P R ∧
  (∀ b H', Same H H' → P b → Q b H') ∧ ∀ c H', Same H H' → R c → E (.ref c) none H'
def liftA (K : PySem.W.Frag) (C : Addr) (E : XK) (p : DA) : TA := fun σ H Q => ∃ B O0 O ρ P R, Ok K C B O0 O H σ ρ ∧ p ρ P R ∧
  (∀ vs ds H', Same H H' → RepL K C (wo H' O) ds vs → P ds → Q vs H') ∧ ∀ c H', Same H H' → R c → E (.ref c) none H'
/-- all slots but those in js are as they were -/
def Kept (js : List Nat) (σ σ' : St) : Prop := σ'.length = σ.length ∧ ∀ j, j ∉ js → σ'[j]? = σ[j]?
/-- js: the slots that the target stores -/
def liftG (K : PySem.W.Frag) (C : Addr) (js : List Nat) (p : DG) : TG := fun v σ H Q => ∃ B O0 O ρ d P, Ok K C B O0 O H σ ρ ∧ Rep K C (wo H O) d v ∧ p d ρ P ∧
  ∀ σ' ρ', Ok K C B O0 O H σ' ρ' → Kept js σ σ' → P ρ' → Q σ' H
def liftS (K : PySem.W.Frag) (C : Addr) (E : XK) (p : DS) : TS := fun D σ H => ∃ B O0 O ρ N R Z, Ok K C B O0 O H σ ρ ∧ p ρ N R Z ∧
  (∀ σ' H' ρ' O', Ok K C B O0 O' H' σ' ρ' → N ρ' → D.nx σ' H') ∧ (∀ v d H', Same B H' → Rep K C (wo H' O0) d v → R d → D.rt v H') ∧ ∀ c H', Same B H' → Z c → E (.ref c) none H'

section
variable {X : Cx} {e : Expr}
theorem _root_.L2.PE.wk {t t' : TE} (h : PE X e t) (w : ∀ σ H Q, t' σ H Q → t σ H Q) : PE X e t' := ⟨fun pins s σ H Q I q => h.run pins s σ H Q I (w σ H Q q)⟩
theorem _root_.L2.PT.wk {t t' : TT} (h : PT X e t) (w : ∀ σ H Q, t' σ H Q → t σ H Q) : PT X e t' := ⟨fun pins s σ H Q I q => h.run pins s σ H Q I (w σ H Q q)⟩
theorem _root_.L2.PW.wk {t t' : TT} (h : PW X e t) (w : ∀ σ H Q, t' σ H Q → t σ H Q) : PW X e t' := ⟨fun wh pins s σ H Q I q => h.run wh pins s σ H Q I (w σ H Q q)⟩
theorem _root_.L2.PA.wk {es : List Expr} {t t' : TA} (h : PA X es t) (w : ∀ σ H Q, t' σ H Q → t σ H Q) : PA X es t' := ⟨fun pos pins s σ H Q I q => h.run pos pins s σ H Q I (w σ H Q q)⟩
theorem _root_.L2.PS.wk {st : Stmt} {t t' : TS} (h : PS X st t) (w : ∀ D σ H, t' D σ H → t D σ H) : PS X st t' := ⟨fun pins s σ H D I q => h.run pins s σ H D I (w D σ H q)⟩
theorem _root_.L2.PSs.wk {st : List Stmt} {t t' : TS} (h : PSs X st t) (w : ∀ D σ H, t' D σ H → t D σ H) : PSs X st t' := ⟨fun pins s σ H D I q => h.run pins s σ H D I (w D σ H q)⟩
theorem _root_.L2.PG.wk {t t' : TG} (h : PG X e t) (w : ∀ v σ H Q, t' v σ H Q → t v σ H Q) : PG X e t' := ⟨fun pins s σ H v u Q I r q => h.run pins s σ H v u Q I r (w v σ H Q q)⟩
theorem _root_.L2.PTs.wk {es : List Expr} {t t' : TT} (h : PTs X es t) (w : ∀ σ H Q, t' σ H Q → t σ H Q) : PTs X es t' := ⟨fun pins s σ H Q I q => h.run pins s σ H Q I (w σ H Q q)⟩
end

/-! ### expressions -/
section
variable {X : Cx} {C : Addr} {E : XK} {pos : Pos}
def dVar (i : Nat) : DE := fun ρ P _ => match ρ[i]? with
  | some (some (.v d)) => P d
  | _ => False
theorem lift_var {K : PySem.W.Frag} (i : Nat) : ∀ σ H Q, lift K C E (dVar i) σ H Q → tVar i σ H Q := fun σ H Q h => by
  obtain ⟨B, O0, O, ρ, P, R, k, h, hP, hR⟩ := h
  unfold dVar at h
  split at h
  · rename_i d e
    obtain ⟨x, e1, e2⟩ := k.val i d e
    exact ⟨x, e1, hP x d H (Same.refl H) e2 h⟩
  · exact h.elim
theorem pd (i : Nat) {x : Str} {pos : Pos} (hN : X.N[i]? = some x := by rfl) (hv : Vis X.env.scope x := by first | exact Or.inl rfl | exact Or.inr (Or.inl rfl) | exact Or.inr (Or.inr rfl)) (hd : (x == ("__debug__" : Str)) = false := by decide)
    (hcd : (x == ("__classdict__" : Str)) = false := by decide) : PE X (.Name x pos) (lift X.K C E (dVar i)) := (pe_var hN hv hd hcd).wk (lift_var i)
def dC (d : D) : DE := fun _ P _ => P d
theorem lift_c {K : PySem.W.Frag} {d : D} {v : V} (h : ∀ H, Rep K C H d v) : ∀ σ H Q, lift K C E (dC d) σ H Q → tC v σ H Q := fun σ H Q q => by
  obtain ⟨B, O0, O, ρ, P, R, k, q, hP, hR⟩ := q
  exact hP v d H (Same.refl H) (h _) q
theorem pd_int {i j pos} : PE X (.Constant (.int i) j pos) (lift X.K C E (dC (.int i))) := pe_int.wk (lift_c fun _ => rfl)
theorem pd_bl {b j pos} : PE X (.Constant (.bool b) j pos) (lift X.K C E (dC (.bl b))) := pe_bl.wk (lift_c fun _ => rfl)
theorem pd_non {j pos} : PE X (.Constant .none j pos) (lift X.K C E (dC .non)) := pe_non.wk (lift_c fun _ => rfl)
theorem pd_str {x j pos} : PE X (.Constant (.str x) j pos) (lift X.K C E (dC (.str x))) := pe_str.wk (lift_c fun _ => rfl)
/-- a def or class of the module as a value -/
theorem pd_glob {x : Str} {a : Addr} {pos : Pos} (hg : Gl X x) (hm : X.mg x = some (.ref a)) (hd : (x == ("__debug__" : Str)) = false := by decide) : PE X (.Name x pos) (lift X.K C E (dC (.adr a))) := (pe_glob (v := .ref a) hg hm (show Value.ref a = Value.ref a from rfl) hd).wk (lift_c (d := .adr a) (v := .ref a) fun _ => rfl)

/-- two places, by values -/
abbrev D2 := D → D → (D → Prop) → Prop
def AbR (K : PySem.W.Frag) (C : Addr) (r : R2) (f : D2) : Prop := ∀ (O : List Addr) (H : Hp) (x y : V) (dx dy : D) (P : D → Prop) (Q : VK), Al O H → Rep K C (wo H O) dx x → Rep K C (wo H O) dy y → f dx dy P →
  (∀ v d H', Same H H' → Rep K C (wo H' O) d v → P d → Q v H') → r x y H Q
def dBin (f : D2) (pa pb : DE) : DE := fun ρ P R => pa ρ (fun x => pb ρ (fun y => f x y P) R) R
theorem lift_bin {K : PySem.W.Frag} {r : R2} {f : D2} (ab : AbR K C r f) {pa pb : DE} : ∀ σ H Q, lift K C E (dBin f pa pb) σ H Q → tOp r (lift K C E pa) (lift K C E pb) σ H Q := fun σ H Q q => by
  obtain ⟨B, O0, O, ρ, P, R, k, q, hP, hR⟩ := q
  refine ⟨B, O0, O, ρ, _, R, k, q, fun x dx H1 s1 r1 q1 => ⟨B, O0, O, ρ, _, R, k.ext s1, q1, fun y dy H2 s2 r2 q2 => ?_, fun c H' s' z => hR c H' (s1.trans s') z⟩, hR⟩
  exact ab O H2 x y dx dy P Q (k.al.mono (s1.trans s2)) (Rep.mono (wo_same O s2) dx r1) r2 q2 fun v d H' s' r p => hP v d H' ((s1.trans s2).trans s') r p
theorem pd_op {op : Operator} {a b : Expr} {r : R2} {f : D2} (ho : OpR X (binaryOp op) r) (ab : AbR X.K C r f) {pa pb : DE} (ha : PE X a (lift X.K C E pa)) (hb : PE X b (lift X.K C E pb)) : PE X (.BinOp a op b pos) (lift X.K C E (dBin f pa pb)) :=
  (pe_op ho ha hb).wk (lift_bin ab)
theorem pd_cmp {op : CmpOp} {a b : Expr} {r : R2} {f : D2} (ho : OpR X (compareOp op) r) (ab : AbR X.K C r f) {pa pb : DE} (ha : PE X a (lift X.K C E pa)) (hb : PE X b (lift X.K C E pb)) (hm : behindInMarks op b = false) : PE X (.Compare a [op] [b] pos) (lift X.K C E (dBin f pa pb)) :=
  (pe_cmpR ho ha hb hm).wk (lift_bin ab)
theorem AbR.or {K : PySem.W.Frag} {r r' : R2} {f f' : D2} (h : AbR K C r f) (h' : AbR K C r' f') : AbR K C (fun x y H Q => r x y H Q ∨ r' x y H Q) (fun x y P => f x y P ∨ f' x y P) := fun O H x y dx dy P Q a r1 r2 q k => by
  rcases q with q | q
  · exact .inl (h O H x y dx dy P Q a r1 r2 q k)
  · exact .inr (h' O H x y dx dy P Q a r1 r2 q k)
theorem AbR.imp {K : PySem.W.Frag} {r : R2} {f f' : D2} (h : AbR K C r f) (w : ∀ x y P, f' x y P → f x y P) : AbR K C r f' := fun O H x y dx dy P Q a r1 r2 q k => h O H x y dx dy P Q a r1 r2 (w _ _ _ q) k

/-! tests -/
/-- an expression whose value is a truth -/
def dTru (p : DE) : DT := fun ρ P R => p ρ (fun d => match d with | .bl b => P b | _ => False) R
theorem lift_tru {K : PySem.W.Frag} {p : DE} : ∀ σ H (Q : Bool → Hp → Prop), liftT K C E (dTru p) σ H Q → tTest (lift K C E p) σ H Q := fun σ H Q q => by
  obtain ⟨B, O0, O, ρ, P, R, k, q, hP, hR⟩ := q
  refine ⟨B, O0, O, ρ, _, R, k, q, fun v d H' s' r p => ?_, hR⟩
  cases d with
  | bl b =>
    have e : v = V.bl b := r
    exact ⟨b, e, hP b H' s' p⟩
  | _ => exact p.elim
theorem qd_val {e : Expr} {p : DE} (h : PE X e (lift X.K C E p)) (he : ∀ whole, isTrue e X.env whole = (do let v ← whole; standAt e.pos; holding [v] (truthy v)) := by intro _; rfl) : PT X e (liftT X.K C E (dTru p)) := (pt_val h he).wk lift_tru
theorem qd_cmp {op : CmpOp} {a b : Expr} {r : R2} {f : D2} (ho : OpR X (compareOp op) r) (ab : AbR X.K C r f) {pa pb : DE} (ha : PE X a (lift X.K C E pa)) (hb : PE X b (lift X.K C E pb)) (hm : behindInMarks op b = false) : PT X (.Compare a [op] [b] pos) (liftT X.K C E (dTru (dBin f pa pb))) :=
  (pt_cmpR ho ha hb hm).wk fun σ H Q q => by
    have h := lift_tru (p := dBin f pa pb) σ H Q q
    exact lift_bin ab σ H _ h
def dAnd (t u : DT) : DT := fun ρ P R => t ρ (fun b => if b = true then u ρ P R else P false) R
def dOr (t u : DT) : DT := fun ρ P R => t ρ (fun b => if b = true then P true else u ρ P R) R
def dNot (t : DT) : DT := fun ρ P R => t ρ (fun b => P (!b)) R
theorem liftT_and {K : PySem.W.Frag} {t u : DT} : ∀ σ H Q, liftT K C E (dAnd t u) σ H Q → tAnd (liftT K C E t) (liftT K C E u) σ H Q := fun σ H Q q => by
  obtain ⟨B, O0, O, ρ, P, R, k, q, hP, hR⟩ := q
  refine ⟨B, O0, O, ρ, _, R, k, q, fun b H' s' p => ?_, hR⟩
  cases b with
  | true =>
    rw [if_pos rfl] at p ⊢
    exact ⟨B, O0, O, ρ, P, R, k.ext s', p, fun b H2 s2 p => hP b H2 (s'.trans s2) p, fun c H2 s2 z => hR c H2 (s'.trans s2) z⟩
  | false =>
    rw [if_neg Bool.false_ne_true] at p ⊢
    exact hP false H' s' p
theorem liftT_or {K : PySem.W.Frag} {t u : DT} : ∀ σ H Q, liftT K C E (dOr t u) σ H Q → tOr (liftT K C E t) (liftT K C E u) σ H Q := fun σ H Q q => by
  obtain ⟨B, O0, O, ρ, P, R, k, q, hP, hR⟩ := q
  refine ⟨B, O0, O, ρ, _, R, k, q, fun b H' s' p => ?_, hR⟩
  cases b with
  | true =>
    rw [if_pos rfl] at p ⊢
    exact hP true H' s' p
  | false =>
    rw [if_neg Bool.false_ne_true] at p ⊢
    exact ⟨B, O0, O, ρ, P, R, k.ext s', p, fun b H2 s2 p => hP b H2 (s'.trans s2) p, fun c H2 s2 z => hR c H2 (s'.trans s2) z⟩
theorem liftT_not {K : PySem.W.Frag} {t : DT} : ∀ σ H Q, liftT K C E (dNot t) σ H Q → tNot (liftT K C E t) σ H Q := fun σ H Q q => by
  obtain ⟨B, O0, O, ρ, P, R, k, q, hP, hR⟩ := q
  exact ⟨B, O0, O, ρ, _, R, k, q, fun b H' s' p => hP (!b) H' s' p, hR⟩
variable {a b : Expr} {rest : List Expr}
theorem wd_and1 {t : DT} (ha : PT X a (liftT X.K C E t)) : PW X (.BoolOp .And [a] pos) (liftT X.K C E t) := pw_and1 ha
theorem wd_or1 {t : DT} (ha : PT X a (liftT X.K C E t)) : PW X (.BoolOp .Or [a] pos) (liftT X.K C E t) := pw_or1 ha
theorem wd_and {t u : DT} (ha : PT X a (liftT X.K C E t)) (hb : PW X (.BoolOp .And (b :: rest) pos) (liftT X.K C E u)) : PW X (.BoolOp .And (a :: b :: rest) pos) (liftT X.K C E (dAnd t u)) := (pw_and ha hb).wk liftT_and
theorem wd_or {t u : DT} (ha : PT X a (liftT X.K C E t)) (hb : PW X (.BoolOp .Or (b :: rest) pos) (liftT X.K C E u)) : PW X (.BoolOp .Or (a :: b :: rest) pos) (liftT X.K C E (dOr t u)) := (pw_or ha hb).wk liftT_or
theorem qd_not {t : DT} (ha : PT X a (liftT X.K C E t)) : PT X (.UnaryOp .Not a pos) (liftT X.K C E (dNot t)) := (pt_not ha).wk liftT_not
/-! and, or, not of truths, as values -/
def dAndV (pa pb : DE) : DE := fun ρ P R => pa ρ (fun d => match d with | .bl b => if b = true then pb ρ P R else P (.bl false) | _ => False) R
def dOrV (pa pb : DE) : DE := fun ρ P R => pa ρ (fun d => match d with | .bl b => if b = true then P (.bl true) else pb ρ P R | _ => False) R
def dNotV (pa : DE) : DE := fun ρ P R => pa ρ (fun d => match d with | .bl b => P (.bl (!b)) | _ => False) R
theorem pd_one {op} {p : DE} (h : PE X a (lift X.K C E p)) : PE X (.BoolOp op [a] pos) (lift X.K C E p) := pe_one h
theorem pd_and {pa pb : DE} (ha : PE X a (lift X.K C E pa)) (hb : PE X (.BoolOp .And (b :: rest) pos) (lift X.K C E pb)) : PE X (.BoolOp .And (a :: b :: rest) pos) (lift X.K C E (dAndV pa pb)) :=
  (pe_and ha hb).wk fun σ H Q q => by
    obtain ⟨B, O0, O, ρ, P, R, k, q, hP, hR⟩ := q
    refine ⟨B, O0, O, ρ, _, R, k, q, fun v d H' s' r p => ?_, hR⟩
    cases d with
    | bl c =>
      refine ⟨c, r, ?_⟩
      cases c with
      | true =>
        simp only [if_true] at p ⊢
        exact ⟨B, O0, O, ρ, P, R, k.ext s', p, fun v d H2 s2 r p => hP v d H2 (s'.trans s2) r p, fun c H2 s2 z => hR c H2 (s'.trans s2) z⟩
      | false =>
        simp only [Bool.false_eq_true, if_false] at p ⊢
        exact hP (.bl false) (.bl false) H' s' rfl p
    | _ => exact p.elim
theorem pd_or {pa pb : DE} (ha : PE X a (lift X.K C E pa)) (hb : PE X (.BoolOp .Or (b :: rest) pos) (lift X.K C E pb)) : PE X (.BoolOp .Or (a :: b :: rest) pos) (lift X.K C E (dOrV pa pb)) :=
  (pe_or ha hb).wk fun σ H Q q => by
    obtain ⟨B, O0, O, ρ, P, R, k, q, hP, hR⟩ := q
    refine ⟨B, O0, O, ρ, _, R, k, q, fun v d H' s' r p => ?_, hR⟩
    cases d with
    | bl c =>
      refine ⟨c, r, ?_⟩
      cases c with
      | true =>
        simp only [if_true] at p ⊢
        exact hP (.bl true) (.bl true) H' s' rfl p
      | false =>
        simp only [Bool.false_eq_true, if_false] at p ⊢
        exact ⟨B, O0, O, ρ, P, R, k.ext s', p, fun v d H2 s2 r p => hP v d H2 (s'.trans s2) r p, fun c H2 s2 z => hR c H2 (s'.trans s2) z⟩
    | _ => exact p.elim
theorem pd_not {pa : DE} (ha : PE X a (lift X.K C E pa)) : PE X (.UnaryOp .Not a pos) (lift X.K C E (dNotV pa)) :=
  (pe_not ha).wk fun σ H Q q => by
    obtain ⟨B, O0, O, ρ, P, R, k, q, hP, hR⟩ := q
    refine ⟨B, O0, O, ρ, _, R, k, q, fun v d H' s' r p => ?_, hR⟩
    cases d with
    | bl c => exact ⟨c, r, hP (.bl (!c)) (.bl (!c)) H' s' rfl p⟩
    | _ => exact p.elim
def dIf (t : DT) (pa pb : DE) : DE := fun ρ P R => t ρ (fun b => if b = true then pa ρ P R else pb ρ P R) R
theorem pd_if {c : Expr} {t : DT} {pa pb : DE} (hc : PT X c (liftT X.K C E t)) (ha : PE X a (lift X.K C E pa)) (hb : PE X b (lift X.K C E pb)) : PE X (.IfExp c a b pos) (lift X.K C E (dIf t pa pb)) :=
  (pe_ifExp hc ha hb).wk fun σ H Q q => by
    obtain ⟨B, O0, O, ρ, P, R, k, q, hP, hR⟩ := q
    refine ⟨B, O0, O, ρ, _, R, k, q, fun c H' s' p => ?_, hR⟩
    have go : ∀ {p : DE}, p ρ P R → lift X.K C E p σ H' Q := fun p => ⟨B, O0, O, ρ, P, R, k.ext s', p, fun v d H2 s2 r p => hP v d H2 (s'.trans s2) r p, fun c H2 s2 z => hR c H2 (s'.trans s2) z⟩
    cases c with
    | true =>
      simp only [if_true] at p ⊢
      exact go p
    | false =>
      simp only [Bool.false_eq_true, if_false] at p ⊢
      exact go p

/-! ### arguments, displays -/
def dNil : DA := fun _ P _ => P []
def dCons (p : DE) (q : DA) : DA := fun ρ P R => p ρ (fun d => q ρ (fun ds => P (d :: ds)) R) R
theorem ad_nil : PA X [] (liftA X.K C E dNil) := pa_nil.wk fun σ H Q q => by
  obtain ⟨B, O0, O, ρ, P, R, k, q, hP, hR⟩ := q
  exact hP [] [] H (Same.refl H) rfl q
theorem ad_cons {es : List Expr} {p : DE} {q : DA} (ha : PE X a (lift X.K C E p)) (hr : PA X es (liftA X.K C E q)) (hs : starEach (a :: es) X.env = (false, eval a X.env) :: starEach es X.env := by rfl) : PA X (a :: es) (liftA X.K C E (dCons p q)) :=
  (pa_cons ha hr hs).wk fun σ H Q q => by
    obtain ⟨B, O0, O, ρ, P, R, k, q, hP, hR⟩ := q
    exact ⟨B, O0, O, ρ, _, R, k, q, fun x dx H1 s1 r1 q1 => ⟨B, O0, O, ρ, _, R, k.ext s1, q1, fun vs ds H2 s2 r2 q2 => hP (x :: vs) (dx :: ds) H2 (s1.trans s2) ⟨x, vs, rfl, Rep.mono (wo_same O s2) dx r1, r2⟩ q2, fun c H' s' z => hR c H' (s1.trans s') z⟩, hR⟩
def dTup (q : DA) : DE := fun ρ P R => q ρ (fun ds => ds.length ≤ sizeLine ∧ P (.tup ds)) R
def dLst (q : DA) : DE := fun ρ P R => q ρ (fun ds => ds.length ≤ sizeLine ∧ P (.lst ds)) R
theorem rep_new_lst {K : PySem.W.Frag} {H : Hp} {O : List Addr} {p : Addr} {ds : List D} {vs : List V} (hp : H p = none) (al : Al O H) (r : RepL K C (wo H O) ds vs) : Rep K C (wo (upd H p (.lst vs)) O) (.lst ds) (.ref p) :=
  ⟨p, vs, rfl, wo_of upd_same (al.new hp), RepL.mono (wo_same O (Same.new hp)) ds r⟩
theorem rep_new_tup {K : PySem.W.Frag} {H : Hp} {O : List Addr} {p : Addr} {ds : List D} {vs : List V} (hp : H p = none) (al : Al O H) (r : RepL K C (wo H O) ds vs) : Rep K C (wo (upd H p (.tup vs)) O) (.tup ds) (.ref p) :=
  ⟨p, vs, rfl, wo_of upd_same (al.new hp), RepL.mono (wo_same O (Same.new hp)) ds r⟩
theorem pd_tup {es : List Expr} {x1} {q : DA} (h : PA X es (liftA X.K C E q)) : PE X (.Tuple es x1 pos) (lift X.K C E (dTup q)) := (pe_tup h).wk fun σ H Q q => by
  obtain ⟨B, O0, O, ρ, P, R, k, q, hP, hR⟩ := q
  refine ⟨B, O0, O, ρ, _, R, k, q, fun vs ds H1 s1 r1 q1 => ⟨by rw [RepL.length r1]; exact q1.1, fun p hp => ?_⟩, hR⟩
  exact hP (.ref p) (.tup ds) _ (s1.trans (Same.new hp)) (rep_new_tup hp (k.al.mono s1) r1) q1.2
theorem pd_lst {es : List Expr} {q : DA} (h : PA X es (liftA X.K C E q)) : PE X (.List es pos) (lift X.K C E (dLst q)) := (pe_lst h).wk fun σ H Q q => by
  obtain ⟨B, O0, O, ρ, P, R, k, q, hP, hR⟩ := q
  refine ⟨B, O0, O, ρ, _, R, k, q, fun vs ds H1 s1 r1 q1 => ⟨by rw [RepL.length r1]; exact q1.1, fun p hp => ?_⟩, hR⟩
  exact hP (.ref p) (.lst ds) _ (s1.trans (Same.new hp)) (rep_new_lst hp (k.al.mono s1) r1) q1.2

/-! ### calls -/
/-- a def's promise at the data level -/
abbrev DP := List D → (D → Prop) → (Addr → Prop) → Prop
def spD (K : PySem.W.Frag) (C : Addr) (t : DP) : Sp := fun vs H Q E => ∃ O ds P R, Al O H ∧ RepL K C (wo H O) ds vs ∧ t ds P R ∧
  (∀ v d H', Same H H' → Rep K C (wo H' O) d v → P d → Q v H') ∧ ∀ c H', Same H H' → R c → E (.ref c) none H'
def dCall (t : DP) (q : DA) : DE := fun ρ P R => q ρ (fun ds => t ds P R) R
theorem lift_call {K : PySem.W.Frag} {t : DP} {q : DA} : ∀ σ H Q, lift K C E (dCall t q) σ H Q → tCall (spD K C t) [] E (liftA K C E q) σ H Q := fun σ H Q q => by
  obtain ⟨B, O0, O, ρ, P, R, k, q, hP, hR⟩ := q
  refine ⟨B, O0, O, ρ, _, R, k, q, fun vs ds H1 s1 r1 q1 => ?_, hR⟩
  show spD K C t (vs ++ []) H1 Q E
  rw [List.append_nil]
  exact ⟨O, ds, P, R, k.al.mono s1, r1, q1, fun v d H2 s2 r p => hP v d H2 (s1.trans s2) r p, fun c H2 s2 z => hR c H2 (s1.trans s2) z⟩
theorem pd_call {CX : CXT} {x : Str} {p : Pos} {f : Addr} {fd : FuncData} {ps : List Str} {k : Nat} {es : List Expr} {t : DP} {q : DA} (F : FnOk X.prog X.w X.K X.mg X.base CX k f fd ps (spD X.K C t)) (hr : Room k X.A) (hg : Gl X x) (hm : X.mg x = some (.ref f))
    (hk : PySem.W.keepIn X.K (.ref f) = true) (hb : Binds X.K fd ps []) (hx : Passes CX X E) (ha : PA X (a :: es) (liftA X.K C E q))
    (hdb : (x == ("__debug__" : Str)) = false := by decide) (he : starEach (a :: es) X.env = (false, eval a X.env) :: starEach es X.env := by rfl) (hpl : (backTo pos (starEach es X.env)).any (·.1) = false := by rfl) :
    PE X (.Call (.Name x p) (a :: es) [] pos) (lift X.K C E (dCall t q)) := (pe_call F hr hg hm hk hb .nil hx ha hdb he hpl).wk lift_call
end
end L2.DL
/-! # Data-level readings: statements, loops, comprehensions -/
namespace L2.DL
open PySem PySem.Spec PyProof.Rows

/-! ### statements -/
section
variable {X : Cx} {C : Addr} {E : XK} {pos : Pos}
def dNext : DS := fun ρ N _ _ => N ρ
def dSeq (p q : DS) : DS := fun ρ N R Z => p ρ (fun ρ' => q ρ' N R Z) R Z
def dSet (i : Nat) (p : DE) : DS := fun ρ N _ Z => p ρ (fun d => N (ρ.set i (some (.v d)))) Z
def dDrop (p : DE) : DS := fun ρ N _ Z => p ρ (fun _ => N ρ) Z
def dRet (p : DE) : DS := fun ρ _ R Z => p ρ R Z
def dRetN : DS := fun _ _ R _ => R .non
def dIfS (t : DT) (p q : DS) : DS := fun ρ N R Z => t ρ (fun b => if b = true then p ρ N R Z else q ρ N R Z) Z
def dFrz (i : Nat) (p : DS) : DS := fun ρ N R Z => match ρ[i]? with
  | some (some (.own ds)) => p (ρ.set i (some (.v (.lst ds)))) N R Z
  | _ => False
def dOwn (i : Nat) (q : DA) : DS := fun ρ N _ Z => q ρ (fun ds => ds.length ≤ sizeLine ∧ N (ρ.set i (some (.own ds)))) Z
def dApp (i : Nat) (p : DE) : DS := fun ρ N _ Z => match ρ[i]? with
  | some (some (.own ds)) => p ρ (fun d => ds.length < sizeLine ∧ N (ρ.set i (some (.own (ds ++ [d]))))) Z
  | _ => False
def dRaise (c : Addr) : DS := fun _ _ _ Z => Z c
theorem sd_nil : PSs X [] (liftS X.K C E dNext) := pss_nil.wk fun D σ H q => by
  obtain ⟨B, O0, O, ρ, N, R, Z, k, q, hN, hR, hZ⟩ := q
  exact hN σ H ρ O k q
theorem sd_pass : PS X (.Pass pos) (liftS X.K C E dNext) := ps_pass.wk fun D σ H q => by
  obtain ⟨B, O0, O, ρ, N, R, Z, k, q, hN, hR, hZ⟩ := q
  exact hN σ H ρ O k q
theorem sd_cons {st : Stmt} {rest : List Stmt} {p q : DS} (h1 : PS X st (liftS X.K C E p)) (h2 : PSs X rest (liftS X.K C E q)) : PSs X (st :: rest) (liftS X.K C E (dSeq p q)) := (pss_cons h1 h2).wk fun D σ H q => by
  obtain ⟨B, O0, O, ρ, N, R, Z, k, q, hN, hR, hZ⟩ := q
  exact ⟨B, O0, O, ρ, _, R, Z, k, q, fun σ' H' ρ' O' k' n' => ⟨B, O0, O', ρ', N, R, Z, k', n', hN, hR, hZ⟩, hR, hZ⟩
theorem sd_one {st : Stmt} {p : DS} (h1 : PS X st (liftS X.K C E p)) : PSs X [st] (liftS X.K C E p) := pss_one h1
theorem sd_frz {st : List Stmt} {p : DS} (i : Nat) (h : PSs X st (liftS X.K C E p)) : PSs X st (liftS X.K C E (dFrz i p)) := h.wk fun D σ H q => by
  obtain ⟨B, O0, O, ρ, N, R, Z, k, q, hN, hR, hZ⟩ := q
  unfold dFrz at q
  split at q
  · rename_i ds e
    obtain ⟨O', k'⟩ := k.freeze e
    exact ⟨B, O0, O', _, N, R, Z, k', q, hN, hR, hZ⟩
  · exact q.elim
theorem sd_if {c : Expr} {a b : List Stmt} {t : DT} {p q : DS} (hc : PT X c (liftT X.K C E t)) (ha : PSs X a (liftS X.K C E p)) (hb : PSs X b (liftS X.K C E q)) : PS X (.If c a b pos) (liftS X.K C E (dIfS t p q)) := (ps_if hc ha hb).wk fun D σ H q => by
  obtain ⟨B, O0, O, ρ, N, R, Z, k, q, hN, hR, hZ⟩ := q
  refine ⟨B, O0, O, ρ, _, Z, k, q, fun b H' s' p => ?_, fun c H' s' z => hZ c H' (k.base.trans s') z⟩
  have go : ∀ {p : DS}, p ρ N R Z → liftS X.K C E p D σ H' := fun p => ⟨B, O0, O, ρ, N, R, Z, k.ext s', p, hN, hR, hZ⟩
  cases b with
  | true =>
    simp only [if_true] at p ⊢
    exact go p
  | false =>
    simp only [Bool.false_eq_true, if_false] at p ⊢
    exact go p
theorem sd_ret {e : Expr} {p : DE} (he : PE X e (lift X.K C E p)) : PS X (.Return (some e) pos) (liftS X.K C E (dRet p)) := (ps_ret he).wk fun D σ H q => by
  obtain ⟨B, O0, O, ρ, N, R, Z, k, q, hN, hR, hZ⟩ := q
  exact ⟨B, O0, O, ρ, R, Z, k, q, fun v d H' s' r p => hR v d H' (k.base.trans s') (Rep.mono (wo_sub H' k.sub0) d r) p, fun c H' s' z => hZ c H' (k.base.trans s') z⟩
theorem sd_retN : PS X (.Return none pos) (liftS X.K C E dRetN) := ps_retN.wk fun D σ H q => by
  obtain ⟨B, O0, O, ρ, N, R, Z, k, q, hN, hR, hZ⟩ := q
  exact hR .non .non H k.base rfl q
theorem sd_expr {e : Expr} {p : DE} (he : PE X e (lift X.K C E p)) (hs : swapsWith e none pos.line X.env = pure false := by rfl) : PS X (.Expr e pos) (liftS X.K C E (dDrop p)) := (ps_expr he hs).wk fun D σ H q => by
  obtain ⟨B, O0, O, ρ, N, R, Z, k, q, hN, hR, hZ⟩ := q
  exact ⟨B, O0, O, ρ, _, Z, k, q, fun v d H' s' r p => hN σ H' ρ O (k.ext s') p, fun c H' s' z => hZ c H' (k.base.trans s') z⟩
theorem sd_set {i : Nat} {x : Str} {e : Expr} {p : DE} {pos' : Pos} (hN : X.N.Nodup) (hi : X.N[i]? = some x) (hx : Loc X.env.scope x) (he : PE X e (lift X.K C E p)) (hs : swapsWith e (some (.Name x pos')) pos.line X.env = pure false := by rfl) (hf : X.fn x = true ∨ X.env.scope.names.lookup x = some .local := by first | exact .inl rfl | exact .inr rfl | assumption) :
    PS X (.Assign [.Name x pos'] e pos) (liftS X.K C E (dSet i p)) := (ps_set hN hi hx he hs hf).wk fun D σ H q => by
  obtain ⟨B, O0, O, ρ, N, R, Z, k, q, hN, hR, hZ⟩ := q
  exact ⟨B, O0, O, ρ, _, Z, k, q, fun v d H' s' r p => hN (σ.set i (some v)) H' _ O ((k.ext s').set i r) p, fun c H' s' z => hZ c H' (k.base.trans s') z⟩
/-- name = [e, ..], a list that the def fills on -/
theorem sd_own {i : Nat} {x : Str} {es : List Expr} {q : DA} {pos' lpos : Pos} (hN : X.N.Nodup) (hi : X.N[i]? = some x) (hx : Loc X.env.scope x) (he : PA X es (liftA X.K C E q)) (hs : swapsWith (.List es lpos) (some (.Name x pos')) pos.line X.env = pure false := by rfl) (hf : X.fn x = true ∨ X.env.scope.names.lookup x = some .local := by first | exact .inl rfl | exact .inr rfl | assumption) :
    PS X (.Assign [.Name x pos'] (.List es lpos) pos) (liftS X.K C E (dOwn i q)) := (ps_set hN hi hx (pe_lst he) hs hf).wk fun D σ H q => by
  obtain ⟨B, O0, O, ρ, N, R, Z, k, q, hN, hR, hZ⟩ := q
  refine ⟨B, O0, O, ρ, _, Z, k, q, fun vs ds H' s' r p => ⟨by rw [RepL.length r]; exact p.1, fun a ha => ?_⟩, fun c H' s' z => hZ c H' (k.base.trans s') z⟩
  exact hN (σ.set i (some (.ref a))) _ _ (a :: O) ((k.ext s').setOwn ha r) p.2
/-- name.append(e), name a list that the def fills -/
theorem sd_app {i : Nat} {x : Str} {e : Expr} {p : DE} {np apos cpos : Pos} (hv : PE X (.Name x np) (tVar i)) (he : PE X e (lift X.K C E p))
    (hw : ∀ (t : TE), PE X e t → PE X (.Call (.Attribute (.Name x np) "append" apos) [e] [] cpos) (tBM X.K "list" rAppend (tVar i) (tCons t tNil)))
    (hs : swapsWith (.Call (.Attribute (.Name x np) "append" apos) [e] [] cpos) none pos.line X.env = pure false := by rfl) : PS X (.Expr (.Call (.Attribute (.Name x np) "append" apos) [e] [] cpos) pos) (liftS X.K C E (dApp i p)) := (ps_expr (hw _ he) hs).wk fun D σ H q => by
  obtain ⟨B, O0, O, ρ, N, R, Z, k, q, hN, hR, hZ⟩ := q
  show ∃ v, σ[i]? = some (some v) ∧ (tyV X.K "list" v H ∧ lift X.K C E p σ H fun y H1 => tNil σ H1 fun ys H2 => rAppend v (y :: ys) H2 fun _ H3 => D.nx σ H3)
  unfold dApp at q
  split at q
  · rename_i ds ho
    obtain ⟨a, vs, e1, e2, e3, e4, e5⟩ := k.own i ds ho
    refine ⟨.ref a, e1, .inl ⟨rfl, vs, SqL.of e4⟩, B, O0, O, ρ, _, Z, k, q, fun v d H' s' r p => ?_, fun c H' s' z => hZ c H' (k.base.trans s') z⟩
    refine ⟨a, vs, v, rfl, rfl, s' _ _ e4, by rw [RepL.length e5]; exact p.1, ?_⟩
    exact hN σ _ _ O ((k.ext s').grow ho e1 (s' _ _ e4) r) p.2
  · exact q.elim

/-! ### targets -/
def gdName (i : Nat) : DG := fun d ρ P => P (ρ.set i (some (.v d)))
theorem gd_name {i : Nat} {x : Str} (hN : X.N.Nodup) (hi : X.N[i]? = some x) (hx : Loc X.env.scope x) (hf : X.fn x = true ∨ X.env.scope.names.lookup x = some .local := by first | exact .inl rfl | exact .inr rfl | assumption) : PG X (.Name x pos) (liftG X.K C [i] (gdName i)) :=
  (pg_name hN hi hx hf).wk fun v σ H Q q => by
    obtain ⟨B, O0, O, ρ, d, P, k, r, q, h⟩ := q
    exact h _ _ (k.set i r) ⟨List.length_set, fun j hj => List.getElem?_set_ne (by simpa using Ne.symm (by simpa using hj))⟩ q
/-- a, b, ..: names -/
def gdSet : List Nat → List D → Env → Env
  | i :: is, d :: ds, ρ => gdSet is ds (ρ.set i (some (.v d)))
  | _, _, ρ => ρ
def gdTup (is : List Nat) : DG := fun d ρ P => match d with
  | .tup ds => ds.length = is.length ∧ P (gdSet is ds ρ)
  | _ => False
def gdLst (is : List Nat) : DG := fun d ρ P => match d with
  | .lst ds => ds.length = is.length ∧ P (gdSet is ds ρ)
  | _ => False
/-- names one after another -/
inductive Names (X : Cx) : List Expr → List Nat → Prop
  | nil : Names X [] []
  | cons {i : Nat} {x : Str} {pos : Pos} {es : List Expr} {is : List Nat} (hi : X.N[i]? = some x) (hx : Loc X.env.scope x) (hf : X.fn x = true ∨ X.env.scope.names.lookup x = some .local) (h : Names X es is) : Names X (.Name x pos :: es) (i :: is)
def liftGs (K : PySem.W.Frag) (C : Addr) (is : List Nat) : TGs := fun vs σ H Q => ∃ B O0 O ρ ds, ∃ P : Env → Prop, Ok K C B O0 O H σ ρ ∧ RepL K C (wo H O) ds vs ∧ ds.length = is.length ∧ P (gdSet is ds ρ) ∧
  ∀ σ' ρ', Ok K C B O0 O H σ' ρ' → Kept is σ σ' → P ρ' → Q σ' H
theorem gd_names (hN : X.N.Nodup) {es : List Expr} {is : List Nat} (h : Names X es is) (hs : ∀ {x pos} {r : List Expr}, (assignEach (.Name x pos :: r) X.env).map (·.2) = assign (.Name x pos) X.env :: (assignEach r X.env).map (·.2) := by intros; rfl) : PGs X es (liftGs X.K C is) := by
  induction h with
  | nil =>
    refine ⟨fun pins s σ H vs us Q I r q => ?_⟩
    refine pgs_nil.run pins s σ H vs us Q I r ?_
    obtain ⟨B, O0, O, ρ, ds, P, k, rr, hl, p, h⟩ := q
    have hd : ds = [] := List.eq_nil_of_length_eq_zero hl
    subst hd
    exact ⟨rr, h σ ρ k ⟨rfl, fun _ _ => rfl⟩ p⟩
  | cons hi hx hf _ ih =>
    refine ⟨fun pins s σ H vs us Q I r q => ?_⟩
    refine (pgs_cons (pg_name hN hi hx hf) ih hs).run pins s σ H vs us Q I r ?_
    obtain ⟨B, O0, O, ρ, ds, P, k, rr, hl, p, h⟩ := q
    cases ds with
    | nil => cases hl
    | cons d ds =>
      obtain ⟨v, w', rfl, r1, r2⟩ := rr
      refine ⟨v, w', rfl, B, O0, O, _, ds, P, k.set _ r1, r2, by simpa using hl, p, fun σ' ρ' k' hst p' => h σ' ρ' k' ⟨by rw [hst.1, List.length_set], fun j hj => ?_⟩ p'⟩
      have hj' := hj
      simp only [List.mem_cons, not_or] at hj'
      rw [hst.2 j hj'.2, List.getElem?_set_ne (Ne.symm hj'.1)]
theorem gd_tup {es : List Expr} {k : Nat} {is : List Nat} (hc : X.calm = true) (hN : X.N.Nodup) (h : Names X es is) (hn : (assignEach es X.env).length = is.length := by rfl) (hst : (assignEach es X.env).findIdx? (·.1) = none := by rfl) : PG X (.Tuple es k pos) (liftG X.K C is (gdTup is)) :=
  (pg_tup hc (gd_names (C := C) hN h) hn hst).wk fun v σ H Q q => by
    obtain ⟨B, O0, O, ρ, d, P, k, r, q, h⟩ := q
    unfold gdTup at q
    split at q
    · rename_i ds
      obtain ⟨a, vs, e, e1, e2⟩ := r
      exact ⟨a, vs, e, SqT.of (wo_some e1), by rw [RepL.length e2]; exact q.1, B, O0, O, ρ, ds, P, k, e2, q.1, q.2, h⟩
    · exact q.elim
theorem gd_lst {es : List Expr} {k : Nat} {is : List Nat} (hc : X.calm = true) (hN : X.N.Nodup) (h : Names X es is) (hn : (assignEach es X.env).length = is.length := by rfl) (hst : (assignEach es X.env).findIdx? (·.1) = none := by rfl) : PG X (.Tuple es k pos) (liftG X.K C is (gdLst is)) :=
  (pg_unl hc (gd_names (C := C) hN h) hn hst).wk fun v σ H Q q => by
    obtain ⟨B, O0, O, ρ, d, P, k, r, q, h⟩ := q
    unfold gdLst at q
    split at q
    · rename_i ds
      obtain ⟨a, vs, e, e1, e2⟩ := r
      exact ⟨a, vs, e, SqL.of (wo_some e1), by rw [RepL.length e2]; exact q.1, B, O0, O, ρ, ds, P, k, e2, q.1, q.2, h⟩
    · exact q.elim
def dAsg (p : DE) (g : DG) : DS := fun ρ N _ Z => p ρ (fun d => g d ρ N) Z
theorem sd_asg {tg e : Expr} {p : DE} {js : List Nat} {g : DG} (he : PE X e (lift X.K C E p)) (hg : PG X tg (liftG X.K C js g)) (hs : swapsWithSole [tg] e pos.line X.env = pure false := by rfl) (hw : swappedStores [tg] e X.env = pure none := by rfl)
    (h1 : (assignEach [tg] X.env).map (·.2) = [assign tg X.env] := by rfl) : PS X (.Assign [tg] e pos) (liftS X.K C E (dAsg p g)) := (ps_asg he hg hs hw h1).wk fun D σ H q => by
  obtain ⟨B, O0, O, ρ, N, R, Z, k, q, hN, hR, hZ⟩ := q
  exact ⟨B, O0, O, ρ, _, Z, k, q, fun v d H' s' r p => ⟨B, O0, O, ρ, d, N, k.ext s', r, p, fun σ' ρ' k' _ n => hN σ' H' ρ' O k' n⟩, fun c H' s' z => hZ c H' (k.base.trans s') z⟩
/-- a, b = e1, e2 (both written) -/
def dPar (i j : Nat) (q : DA) : DS := fun ρ N _ Z => q ρ (fun ds => match ds with
  | [d, e] => N ((ρ.set i (some (.v d))).set j (some (.v e)))
  | _ => False) Z
theorem sd_par {i j : Nat} {x y : Str} {a b : Expr} {q : DA} {px py pt : Pos} {kt k2 pt2} (hc : X.calm = true) (hN : X.N.Nodup) (hi : X.N[i]? = some x) (hj : X.N[j]? = some y) (hij : i ≠ j)
    (hx : X.env.scope.names.lookup x = some .local) (hy : X.env.scope.names.lookup y = some .local) (ha : PA X [a, b] (liftA X.K C E q))
    (hw : swappedStores [.Tuple [.Name x px, .Name y py] kt pt] (.Tuple [a, b] k2 pt2) X.env = pure (some [x, y]))
    (hs : swapsWithSole [.Tuple [.Name x px, .Name y py] kt pt] (.Tuple [a, b] k2 pt2) pos.line X.env = pure false := by rfl) :
    PS X (.Assign [.Tuple [.Name x px, .Name y py] kt pt] (.Tuple [a, b] k2 pt2) pos) (liftS X.K C E (dPar i j q)) := (ps_par hc hN hi hj hij hx hy ha hw hs).wk fun D σ H q => by
  obtain ⟨B, O0, O, ρ, N, R, Z, k, q, hN, hR, hZ⟩ := q
  refine ⟨B, O0, O, ρ, _, Z, k, q, fun vs ds H' s' r p => ?_, fun c H' s' z => hZ c H' (k.base.trans s') z⟩
  match ds, r, p with
  | [d, e], r, p =>
    obtain ⟨v, _, rfl, r1, w', _, rfl, r2, rfl⟩ := r
    exact ⟨v, w', rfl, hN _ H' _ O (((k.ext s').set i r1).set j r2) p⟩

/-! ### what a loop or a comprehension walks -/
/-- from H on J walks the items ds, none of which leans on O -/
def Wk (K : PySem.W.Frag) (C : Addr) (O : List Addr) (H : Hp) (J : It) (ds : List D) : Prop := ∀ H', Same (wo H O) H' →
  (∀ i d, ds[i]? = some d → J.go i H' ∧ ∀ x H'', J.yld i H' x H'' → Same H' H'' ∧ ∀ O', Same (wo H O) (wo H' O') → Al O' H' → Rep K C (wo H'' O') d x) ∧ J.stop ds.length H'
def liftI (K : PySem.W.Frag) (C : Addr) (E : XK) (p : DA) : TI := fun σ H Q => ∃ B O0 O ρ P R, Ok K C B O0 O H σ ρ ∧ p ρ P R ∧
  (∀ J ds H', Same H H' → Wk K C O H' J ds → P ds → Q J H') ∧ ∀ c H', Same H H' → R c → E (.ref c) none H'
theorem _root_.L2.PI.wk {tg iter : Expr} {t t' : TI} (h : PI X tg iter t) (w : ∀ σ H Q, t' σ H Q → t σ H Q) : PI X tg iter t' := ⟨fun pins s σ H Q I q => h.run pins s σ H Q I (w σ H Q q)⟩
theorem _root_.L2.PI.or {tg iter : Expr} {t t' : TI} (h : PI X tg iter t) (h' : PI X tg iter t') : PI X tg iter (fun σ H Q => t σ H Q ∨ t' σ H Q) := ⟨fun pins s σ H Q I q => q.elim (h.run pins s σ H Q I) (h'.run pins s σ H Q I)⟩
theorem wk_list {K : PySem.W.Frag} {O : List Addr} {H : Hp} {a : Addr} {ds : List D} {vs : List V} (e : wo H O a = some (.lst vs)) (r : RepL K C (wo H O) ds vs) : Wk K C O H (Itl K a) ds := fun H' s => by
  have h' : SqL K H' a vs := SqL.of (s _ _ e)
  refine ⟨fun i d hd => ?_, vs, h', by rw [RepL.length r]; exact Nat.le_refl _⟩
  obtain ⟨v, hv, rv⟩ := RepL.get r hd
  refine ⟨⟨vs, v, h', hv⟩, fun x H'' y => ?_⟩
  obtain ⟨rfl, y⟩ := y
  refine ⟨Same.refl _, fun O' so al => ?_⟩
  have ex : x = v := Option.some.inj ((y vs h').symm.trans hv)
  subst ex
  exact Rep.mono so d rv
theorem wk_scr {K : PySem.W.Frag} {O : List Addr} {H : Hp} {a : Addr} {ns : List Int} (e : SqL K (wo H O) a (ns.map V.int)) : Wk K C O H (Itl K a) (ns.map D.int) := fun H' s => by
  have h' : SqL K H' a (ns.map V.int) := s.seq e
  refine ⟨fun i d hd => ?_, ns.map V.int, h', by simp⟩
  rw [List.getElem?_map] at hd
  cases hn : ns[i]? with
  | none => rw [hn] at hd; cases hd
  | some n =>
    rw [hn] at hd
    have ed : D.int n = d := Option.some.inj hd
    subst ed
    have hv : (ns.map V.int)[i]? = some (.int n) := by rw [List.getElem?_map, hn]; rfl
    refine ⟨⟨_, _, h', hv⟩, fun x H'' y => ?_⟩
    obtain ⟨rfl, y⟩ := y
    exact ⟨Same.refl _, fun O' so al => Option.some.inj ((y _ h').symm.trans hv)⟩
theorem wk_tup {K : PySem.W.Frag} {O : List Addr} {H : Hp} {a : Addr} {ds : List D} {vs : List V} (e : wo H O a = some (.tup vs)) (r : RepL K C (wo H O) ds vs) : Wk K C O H (Itt K a) ds := fun H' s => by
  have h' : SqT K H' a vs := SqT.of (s _ _ e)
  refine ⟨fun i d hd => ?_, vs, h', by rw [RepL.length r]; exact Nat.le_refl _⟩
  obtain ⟨v, hv, rv⟩ := RepL.get r hd
  refine ⟨⟨vs, v, h', hv⟩, fun x H'' y => ?_⟩
  obtain ⟨rfl, y⟩ := y
  refine ⟨Same.refl _, fun O' so al => ?_⟩
  have ex : x = v := Option.some.inj ((y vs h').symm.trans hv)
  subst ex
  exact Rep.mono so d rv
theorem wk_str {K : PySem.W.Frag} {O : List Addr} {H : Hp} {z : Str} : Wk K C O H (Its z) (z.cps.toList.map fun c => D.str ⟨#[c]⟩) := fun H' s => by
  refine ⟨fun i d hd => ?_, ?_⟩
  · rw [List.getElem?_map] at hd
    cases hn : z.cps.toList[i]? with
    | none => rw [hn] at hd; cases hd
    | some n =>
      rw [hn] at hd
      have ed : D.str ⟨#[n]⟩ = d := Option.some.inj hd
      subst ed
      rw [Array.getElem?_toList] at hn
      refine ⟨(Array.getElem?_eq_some_iff.mp hn).1, fun x H'' y => ?_⟩
      obtain ⟨rfl, c, hc, rfl⟩ := y
      rw [hn] at hc
      have ec : n = c := Option.some.inj hc
      subst ec
      exact ⟨Same.refl _, fun O' so al => rfl⟩
  · show z.cps.size ≤ (z.cps.toList.map fun c => D.str ⟨#[c]⟩).length
    simp
def dIter (p : DE) : DA := fun ρ P R => p ρ (fun d => match d with
  | .lst ds => P ds
  | .tup ds => P ds
  | .scr ns => P (ns.map .int)
  | .str z => P (z.cps.toList.map fun c => .str ⟨#[c]⟩)
  | _ => False) R
theorem id_of {tg l : Expr} {p : DE} (hl : PE X l (lift X.K C E p)) : PI X tg l (liftI X.K C E (dIter p)) := by
  refine ⟨fun pins s σ H Q I q => ?_⟩
  obtain ⟨B, O0, O, ρ, P, R, k, q, hP, hR⟩ := q
  refine thn (hl.run pins s σ H (fun v H1 => ∃ d, Same H H1 ∧ Rep X.K C (wo H1 O) d v ∧ (match d with
    | .lst ds => P ds
    | .tup ds => P ds
    | .scr ns => P (ns.map .int)
    | .str z => P (z.cps.toList.map fun c => .str ⟨#[c]⟩)
    | _ => False)) I ⟨B, O0, O, ρ, _, R, k, q, fun v d H' s' r p => ⟨d, s', r, p⟩, hR⟩) fun v s1 h1 => ?_
  obtain ⟨x, H1, I1, r1, d, s', r, pp⟩ := h1
  cases d with
  | lst ds =>
    obtain ⟨a, vs, rfl, e1, e2⟩ := r
    cases r1
    obtain ⟨its, rv, pl, hz⟩ := I1.list (SqL.of (wo_some e1))
    exact wpAny_pyIter_list pl.isList (pi_one (tk := s1.toks) I1 _ (turn_list a _) ⟨_, Heap.get?_push_size _ rfl, rfl, rfl⟩ (hP _ ds H1 s' (wk_list e1 e2) pp))
  | tup ds =>
    obtain ⟨a, vs, rfl, e1, e2⟩ := r
    cases r1
    obtain ⟨its, rv, pl, hz⟩ := I1.tuple (SqT.of (wo_some e1))
    exact wpAny_pyIter_tuple (show s1.heap.IsTuple a its.toArray from pl) (pi_one (tk := s1.toks) I1 _ (turn_tuple a _) ⟨_, Heap.get?_push_size _ rfl, rfl, rfl⟩ (hP _ ds H1 s' (wk_tup e1 e2) pp))
  | scr ns =>
    obtain ⟨a, rfl, e1⟩ := r
    cases r1
    obtain ⟨its, rv, pl, hz⟩ := I1.list ((wo_le H1 O).seq e1)
    exact wpAny_pyIter_list pl.isList (pi_one (tk := s1.toks) I1 _ (turn_list a _) ⟨_, Heap.get?_push_size _ rfl, rfl, rfl⟩ (hP _ _ H1 s' (wk_scr e1) pp))
  | str z =>
    have ex : x = V.str z := r
    subst ex
    obtain ⟨t, rfl⟩ := r1
    cases ha : z.cps.all (· < 128)
    · exact wpAny_pyIter_wide ha (pi_one (tk := s1.toks) I1 _ (turn_str _ z t "str_iterator" (.inr rfl)) ⟨_, Heap.get?_push_size _ rfl, rfl, rfl⟩ (hP _ _ H1 s' wk_str pp))
    · exact wpAny_pyIter_ascii ha (pi_one (tk := s1.toks) I1 _ (turn_str _ z t "str_ascii_iterator" (.inl rfl)) ⟨_, Heap.get?_push_size _ rfl, rfl, rfl⟩ (hP _ _ H1 s' wk_str pp))
  | _ => exact pp.elim
/-! enumerate, zip, reversed -/
theorem wk_enum {K : PySem.W.Frag} {O : List Addr} {H : Hp} {a : Addr} {ds : List D} {vs : List V} (e : wo H O a = some (.lst vs)) (r : RepL K C (wo H O) ds vs) : Wk K C O H (Ite K a) (ds.mapIdx fun i d => .tup [.int (i : Nat), d]) := fun H' s => by
  have h' : SqL K H' a vs := SqL.of (s _ _ e)
  refine ⟨fun i d hd => ?_, vs, h', by rw [RepL.length r, List.length_mapIdx]; exact Nat.le_refl _⟩
  rw [List.getElem?_mapIdx] at hd
  cases hn : ds[i]? with
  | none => rw [hn] at hd; cases hd
  | some d' =>
    rw [hn] at hd
    have ed : D.tup [.int (i : Nat), d'] = d := Option.some.inj hd
    subst ed
    obtain ⟨v, hv, rv⟩ := RepL.get r hn
    refine ⟨⟨vs, v, h', hv⟩, fun x H'' y => ?_⟩
    obtain ⟨T, x', rfl, hT, rfl, y⟩ := y
    refine ⟨Same.new hT, fun O' so al => ?_⟩
    have ex : x' = v := Option.some.inj ((y vs h').symm.trans hv)
    subst ex
    exact rep_new_tup hT al ⟨.int (i : Nat), [x'], rfl, rfl, RepL.one (Rep.mono so d' rv)⟩
theorem wk_enum_scr {K : PySem.W.Frag} {O : List Addr} {H : Hp} {a : Addr} {ns : List Int} (e : SqL K (wo H O) a (ns.map V.int)) : Wk K C O H (Ite K a) ((ns.map D.int).mapIdx fun i d => .tup [.int (i : Nat), d]) := fun H' s => by
  have h' : SqL K H' a (ns.map V.int) := s.seq e
  refine ⟨fun i d hd => ?_, ns.map V.int, h', by simp⟩
  rw [List.getElem?_mapIdx, List.getElem?_map] at hd
  cases hn : ns[i]? with
  | none => rw [hn] at hd; cases hd
  | some n =>
    rw [hn] at hd
    have ed : D.tup [.int (i : Nat), .int n] = d := Option.some.inj hd
    subst ed
    have hv : (ns.map V.int)[i]? = some (.int n) := by rw [List.getElem?_map, hn]; rfl
    refine ⟨⟨_, _, h', hv⟩, fun x H'' y => ?_⟩
    obtain ⟨T, x', rfl, hT, rfl, y⟩ := y
    refine ⟨Same.new hT, fun O' so al => ?_⟩
    have ex : x' = V.int n := Option.some.inj ((y _ h').symm.trans hv)
    subst ex
    exact rep_new_tup hT al ⟨.int (i : Nat), [.int n], rfl, rfl, .int n, [], rfl, rfl, rfl⟩
def dEnum (q : DA) : DA := fun ρ P R => q ρ (fun ds => match ds with
  | [.lst ds] => P (ds.mapIdx fun i d => .tup [.int (i : Nat), d])
  | [.scr ns] => P ((ns.map .int).mapIdx fun i d => .tup [.int (i : Nat), d])
  | _ => False) R
theorem id_enum {e : Expr} {q : DA} {p pos tpos : Pos} {elts : List Expr} {kk : Nat} (hg : Gl X "enumerate") (hm : X.mg "enumerate" = none) (ha : PA X [e] (liftA X.K C E q)) (hs : starEach [e] X.env = [(false, eval e X.env)] := by rfl) :
    PI X (.Tuple elts kk tpos) (.Call (.Name "enumerate" p) [e] [] pos) (liftI X.K C E (dEnum q)) := (pi_enum hg hm ha hs).wk fun σ H Q q => by
  obtain ⟨B, O0, O, ρ, P, R, k, q, hP, hR⟩ := q
  refine ⟨B, O0, O, ρ, _, R, k, q, fun vs ds H' s' r p => ?_, hR⟩
  split at p
  · obtain ⟨v, _, rfl, ⟨a, ws, rfl, e1, e2⟩, rfl⟩ := r
    exact ⟨a, ws, rfl, SqL.of (wo_some e1), hP _ _ H' s' (wk_enum e1 e2) p⟩
  · obtain ⟨v, _, rfl, ⟨a, rfl, e1⟩, rfl⟩ := r
    exact ⟨a, _, rfl, (wo_le H' O).seq e1, hP _ _ H' s' (wk_enum_scr e1) p⟩
  · exact p.elim
theorem wk_zip {K : PySem.W.Frag} {O : List Addr} {H : Hp} {a b : Addr} {ds es : List D} {vs ws : List V} (e : wo H O a = some (.lst vs)) (r : RepL K C (wo H O) ds vs) (e' : wo H O b = some (.lst ws)) (r' : RepL K C (wo H O) es ws) :
    Wk K C O H (Itz K a b) ((ds.zip es).map fun p => .tup [p.1, p.2]) := fun H' s => by
  have h1 : SqL K H' a vs := SqL.of (s _ _ e)
  have h2 : SqL K H' b ws := SqL.of (s _ _ e')
  refine ⟨fun i d hd => ?_, vs, ws, h1, h2, ?_⟩
  · rw [List.getElem?_map] at hd
    cases hn : (ds.zip es)[i]? with
    | none => rw [hn] at hd; cases hd
    | some z =>
      rw [hn] at hd
      have ed : D.tup [z.1, z.2] = d := Option.some.inj hd
      subst ed
      obtain ⟨n1, n2⟩ := List.getElem?_zip_eq_some.mp hn
      obtain ⟨v, hv, rv⟩ := RepL.get r n1
      obtain ⟨u, hu, ru⟩ := RepL.get r' n2
      refine ⟨⟨vs, ws, v, u, h1, h2, hv, hu⟩, fun x H'' y => ?_⟩
      obtain ⟨T, x', y', rfl, hT, rfl, y1, y2⟩ := y
      refine ⟨Same.new hT, fun O' so al => ?_⟩
      have e1 : x' = v := Option.some.inj ((y1 vs h1).symm.trans hv)
      have e2 : y' = u := Option.some.inj ((y2 ws h2).symm.trans hu)
      subst e1 e2
      exact rep_new_tup hT al ⟨x', [y'], rfl, Rep.mono so _ rv, RepL.one (Rep.mono so _ ru)⟩
  · rw [RepL.length r, RepL.length r', List.length_map, List.length_zip]
    omega
def dZip (q : DA) : DA := fun ρ P R => q ρ (fun ds => match ds with
  | [.lst ds, .lst es] => P ((ds.zip es).map fun p => .tup [p.1, p.2])
  | _ => False) R
theorem id_zip {e e2 : Expr} {q : DA} {p pos tpos : Pos} {elts : List Expr} {kk : Nat} (hg : Gl X "zip") (hm : X.mg "zip" = none) (ha : PA X [e, e2] (liftA X.K C E q))
    (hs : starEach [e, e2] X.env = (false, eval e X.env) :: starEach [e2] X.env := by rfl) (hpl : (backTo pos (starEach [e2] X.env)).any (·.1) = false := by rfl) :
    PI X (.Tuple elts kk tpos) (.Call (.Name "zip" p) [e, e2] [] pos) (liftI X.K C E (dZip q)) := (pi_zip hg hm ha hs hpl).wk fun σ H Q q => by
  obtain ⟨B, O0, O, ρ, P, R, k, q, hP, hR⟩ := q
  refine ⟨B, O0, O, ρ, _, R, k, q, fun vs ds H' s' r p => ?_, hR⟩
  split at p
  · obtain ⟨v, _, rfl, ⟨a, ws, rfl, e1, e2⟩, v', _, rfl, ⟨b, us, rfl, e3, e4⟩, rfl⟩ := r
    exact ⟨a, b, ws, us, rfl, SqL.of (wo_some e1), SqL.of (wo_some e3), hP _ _ H' s' (wk_zip e1 e2 e3 e4) p⟩
  · exact p.elim
theorem wk_rev {K : PySem.W.Frag} {O : List Addr} {H : Hp} {a : Addr} {ds : List D} {vs : List V} (e : wo H O a = some (.lst vs)) (r : RepL K C (wo H O) ds vs) : Wk K C O H (Itv K a vs.length) ds.reverse := fun H' s => by
  have h' : SqL K H' a vs := SqL.of (s _ _ e)
  refine ⟨fun i d hd => ?_, by show vs.length ≤ ds.reverse.length; rw [List.length_reverse, RepL.length r]; exact Nat.le_refl _⟩
  have hi : i < ds.length := by
    have := (List.getElem?_eq_some_iff.mp hd).1
    rwa [List.length_reverse] at this
  rw [List.getElem?_reverse hi] at hd
  obtain ⟨v, hv, rv⟩ := RepL.get r hd
  rw [← RepL.length r] at hv
  refine ⟨⟨by rw [RepL.length r]; exact hi, vs, v, h', hv⟩, fun x H'' y => ?_⟩
  obtain ⟨rfl, y⟩ := y
  refine ⟨Same.refl _, fun O' so al => ?_⟩
  have ex : x = v := Option.some.inj ((y vs h').symm.trans hv)
  subst ex
  exact Rep.mono so d rv
def dRev (q : DA) : DA := fun ρ P R => q ρ (fun ds => match ds with
  | [.lst ds] => P ds.reverse
  | _ => False) R
theorem id_rev {tg e : Expr} {q : DA} {p pos : Pos} (hg : Gl X "reversed") (hm : X.mg "reversed" = none) (ha : PA X [e] (liftA X.K C E q)) (hs : starEach [e] X.env = [(false, eval e X.env)] := by rfl) :
    PI X tg (.Call (.Name "reversed" p) [e] [] pos) (liftI X.K C E (dRev q)) := (pi_reversed hg hm ha hs).wk fun σ H Q q => by
  obtain ⟨B, O0, O, ρ, P, R, k, q, hP, hR⟩ := q
  refine ⟨B, O0, O, ρ, _, R, k, q, fun vs ds H' s' r p => ?_, hR⟩
  split at p
  · obtain ⟨v, _, rfl, ⟨a, ws, rfl, e1, e2⟩, rfl⟩ := r
    exact ⟨a, ws, rfl, SqL.of (wo_some e1), hP _ _ H' s' (wk_rev e1 e2) p⟩
  · exact p.elim

/-! ### for -/
def forD (g : DG) (b : DS) (N : Env → Prop) (R : D → Prop) (Z : Addr → Prop) : List D → Env → Prop
  | [], ρ => N ρ
  | d :: ds, ρ => g d ρ (fun ρ' => b ρ' (fun ρ'' => forD g b N R Z ds ρ'') R Z)
def dFor (q : DA) (g : DG) (b : DS) : DS := fun ρ N R Z => q ρ (fun ds => forD g b N R Z ds ρ) Z
theorem sd_for {tg iter : Expr} {body : List Stmt} {q : DA} {js : List Nat} {g : DG} {b : DS} (hp : PassesOwn (model X.prog X.w) X.A X.env X.xe) (hc : X.calm = true) (hi : PI X tg iter (liftI X.K C E q)) (hg : PG X tg (liftG X.K C js g)) (hb : PSs X body (liftS X.K C E b))
    (hs : ∀ x, foldedSetIterable iter X.env x = pure x := by intro _; rfl) : PS X (.For tg iter body [] pos) (liftS X.K C E (dFor q g b)) := (ps_for hp hc hi hg hb hs).wk fun D σ H q => by
  obtain ⟨B, O0, O, ρ, N, R, Z, k, q, hN, hR, hZ⟩ := q
  refine ⟨B, O0, O, ρ, _, Z, k, q, fun J ds H1 s1 wk hf => ?_, fun c H' s' z => hZ c H' (k.base.trans s') z⟩
  have k1 := k.ext s1
  have kB : Same B (mid B H1 O) := k1.base_mid
  refine ⟨fun i m σ' H' => m = ds.length - i ∧ i ≤ ds.length ∧ ∃ O' ρ', Ok X.K C (mid B H1 O) O0 O' H' σ' ρ' ∧ forD g b N R Z (ds.drop i) ρ', ⟨_, rfl, Nat.zero_le _, O, ρ, k1.mid, hf⟩, ?_⟩
  rintro i m σ' H' ⟨rfl, hi, O', ρ', k', hf'⟩
  obtain ⟨wgo, wst⟩ := wk H' ((wo_mid B H1 O).trans k'.base)
  by_cases hlt : i < ds.length
  · obtain ⟨d, hd⟩ : ∃ d, ds[i]? = some d := ⟨ds[i], List.getElem?_eq_getElem hlt⟩
    have hdrop : ds.drop i = d :: ds.drop (i + 1) := by
      rw [List.drop_eq_getElem_cons hlt]
      have := List.getElem?_eq_getElem hlt
      rw [hd] at this
      cases this
      rfl
    rw [hdrop] at hf'
    obtain ⟨go, yl⟩ := wgo i d hd
    refine .inr ⟨go, fun σ2 H2 => ∃ O2 ρ2, Ok X.K C (mid B H1 O) O0 O2 H2 σ2 ρ2 ∧ forD g b N R Z (ds.drop (i + 1)) ρ2, fun σ2 H2 ⟨O2, ρ2, k2, h2⟩ => ⟨ds.length - (i + 1), by omega, rfl, hlt, O2, ρ2, k2, h2⟩, fun x H'' y => ?_⟩
    obtain ⟨sy, ry⟩ := yl x H'' y
    have rx := ry O' (k'.stays (wo_mid B H1 O) k1.sub0) k'.al
    refine ⟨_, O0, O', ρ', d, _, k'.ext sy, rx, hf', fun σ3 ρ3 k3 _ h3 => ?_⟩
    refine ⟨_, O0, O', ρ3, _, R, Z, k3, h3, fun σ4 H4 ρ4 O4 k4 h4 => ⟨O4, ρ4, k4, h4⟩, fun v d H4 s4 r p => hR v d H4 (kB.trans s4) r p, fun c H4 s4 z => hZ c H4 (kB.trans s4) z⟩
  · have e : i = ds.length := by omega
    subst e
    rw [List.drop_length] at hf'
    exact .inl ⟨wst, hN σ' H' ρ' O' (k'.less kB k1.al0) hf'⟩

/-! ### comprehensions -/
def wipeD (ρ : Env) : List Nat → Env
  | [] => ρ
  | v :: vs => (wipeD ρ vs).set v none
theorem Ok.wipe {K : PySem.W.Frag} {B H : Hp} {O0 O : List Addr} {σ : St} {ρ : Env} (k : Ok K C B O0 O H σ ρ) : ∀ vs : List Nat, Ok K C B O0 O H (wipe σ vs) (wipeD ρ vs)
  | [] => k
  | v :: vs => (Ok.wipe k vs).unset v
theorem wipe_get (σ : St) (j : Nat) : ∀ vs : List Nat, (wipe σ vs)[j]? = if j ∈ vs ∧ j < σ.length then some none else σ[j]?
  | [] => by simp [L2.wipe]
  | v :: vs => by
    show ((wipe σ vs).set v none)[j]? = _
    by_cases h : v = j
    · subst h
      by_cases hl : v < σ.length
      · rw [List.getElem?_set_self (by rw [wipe_length]; exact hl), if_pos ⟨by simp, hl⟩]
      · rw [List.getElem?_eq_none (by rw [List.length_set, wipe_length]; omega), if_neg (by omega), List.getElem?_eq_none (by omega)]
    · rw [List.getElem?_set_ne h, wipe_get σ j vs]
      have : (j ∈ v :: vs) ↔ (j ∈ vs) := by simp [Ne.symm h]
      simp only [this]
theorem wipe_eq {σ σ2 : St} {vs js : List Nat} (hl : σ2.length = σ.length) (hj : ∀ j, j ∈ js → j ∈ vs) (h : ∀ j, j ∉ js → σ2[j]? = (wipe σ vs)[j]?) : wipe σ2 vs = wipe σ vs := by
  refine List.ext_getElem? fun j => ?_
  rw [wipe_get]
  by_cases hm : j ∈ vs ∧ j < σ2.length
  · rw [if_pos hm, wipe_get, if_pos ⟨hm.1, by rw [← hl]; exact hm.2⟩]
  · rw [if_neg hm]
    by_cases hv : j ∈ vs
    · have : σ2.length ≤ j := by
        rcases Nat.lt_or_ge j σ2.length with q | q
        · exact absurd ⟨hv, q⟩ hm
        · exact q
      rw [List.getElem?_eq_none this, List.getElem?_eq_none (by rw [wipe_length, ← hl]; exact this)]
    · exact h j fun z => hv (hj j z)
def lcD (g : DG) (t : DT) (p : DE) (ρ : Env) (P : List D → Prop) : List D → List D → Prop
  | [], acc => P acc
  | d :: ds, acc => g d ρ (fun ρ2 => t ρ2 (fun b => if b = true then p ρ2 (fun y => lcD g t p ρ P ds (acc ++ [y])) (fun _ => False) else lcD g t p ρ P ds acc) (fun _ => False))
def dLc (q : DA) (g : DG) (t : DT) (p : DE) (vs : List Nat) : DE := fun ρ P R => q ρ (fun ds => ds.length ≤ sizeLine ∧ lcD g t p (wipeD ρ vs) (fun acc => P (.lst acc)) ds []) R
abbrev EF : XK := fun _ _ _ => False
theorem lift_lc {K : PySem.W.Frag} {q : DA} {js : List Nat} {g : DG} {t : DT} {p : DE} {vs : List Nat} (hj : ∀ j, j ∈ js → j ∈ vs) : ∀ σ H Q, lift K C E (dLc q g t p vs) σ H Q → tLc (liftI K C E q) (liftG K C js g) (liftT K C EF t) (lift K C EF p) vs σ H Q := fun σ H Q q => by
  obtain ⟨B, O0, O, ρ, P, R, k, q, hP, hR⟩ := q
  refine ⟨B, O0, O, ρ, _, R, k, q, fun J ds H1 s1 wk hf L hL => ?_, hR⟩
  obtain ⟨hz, hf⟩ := hf
  have k1 := k.ext s1
  refine ⟨fun i m H' => m = ds.length - i ∧ i ≤ ds.length ∧ ∃ acc va, Same H1 H' ∧ H' L = some (.lst va) ∧ RepL K C (wo H' (L :: O)) acc va ∧ acc.length ≤ i ∧ Ok K C B O0 (L :: O) H' (wipe σ vs) (wipeD ρ vs) ∧ lcD g t p (wipeD ρ vs) (fun acc => P (.lst acc)) (ds.drop i) acc,
    ⟨_, rfl, Nat.zero_le _, [], [], Same.new hL, upd_same, rfl, Nat.zero_le _, (k1.apart hL).wipe vs, hf⟩, ?_⟩
  rintro i m H' ⟨rfl, hi, acc, va, s2, hl2, ra, hal, k2, hf'⟩
  have sw : Same (wo H1 O) (wo H' (L :: O)) := fun b o e => by
    have h1 : H1 b = some o := wo_some e
    refine wo_of (s2 _ _ h1) fun z => ?_
    rcases List.mem_cons.mp z with z | z
    · rw [z, hL] at h1; cases h1
    · unfold wo at e
      rw [if_pos z] at e
      cases e
  obtain ⟨wgo, wst⟩ := wk H' ((wo_le H1 O).trans s2)
  by_cases hlt : i < ds.length
  · obtain ⟨d, hd⟩ : ∃ d, ds[i]? = some d := ⟨ds[i], List.getElem?_eq_getElem hlt⟩
    have hdrop : ds.drop i = d :: ds.drop (i + 1) := by
      rw [List.drop_eq_getElem_cons hlt]
      have := List.getElem?_eq_getElem hlt
      rw [hd] at this
      cases this
      rfl
    rw [hdrop] at hf'
    obtain ⟨go, yl⟩ := wgo i d hd
    refine .inr ⟨go, fun H2 => ∃ acc va, Same H1 H2 ∧ H2 L = some (.lst va) ∧ RepL K C (wo H2 (L :: O)) acc va ∧ acc.length ≤ i + 1 ∧ Ok K C B O0 (L :: O) H2 (wipe σ vs) (wipeD ρ vs) ∧ lcD g t p (wipeD ρ vs) (fun acc => P (.lst acc)) (ds.drop (i + 1)) acc,
      fun H2 ⟨acc, va, a1, a2, a3, a4, a5, a6⟩ => ⟨ds.length - (i + 1), by omega, rfl, hlt, acc, va, a1, a2, a3, a4, a5, a6⟩, fun x H'' y => ?_⟩
    obtain ⟨sy, ry⟩ := yl x H'' y
    have rx := ry (L :: O) sw k2.al
    refine ⟨B, O0, L :: O, wipeD ρ vs, d, _, k2.ext sy, rx, hf', fun σ3 ρ3 k3 hst h3 => ?_⟩
    refine ⟨wipe_eq (by rw [hst.1, wipe_length]) hj hst.2, ?_⟩
    refine ⟨B, O0, L :: O, ρ3, _, fun _ => False, k3, h3, fun b H3 s3 h4 => ?_, fun _ _ _ z => z⟩
    have s13 : Same H1 H3 := (s2.trans sy).trans s3
    have l3 : H3 L = some (.lst va) := s3 _ _ (sy _ _ hl2)
    have r3 : RepL K C (wo H3 (L :: O)) acc va := RepL.mono (wo_same _ (sy.trans s3)) _ ra
    cases b with
    | true =>
      simp only [if_true] at h4 ⊢
      refine ⟨B, O0, L :: O, ρ3, _, fun _ => False, k3.ext s3, h4, fun v e H4 s4 r4 h5 => ?_, fun _ _ _ z => z⟩
      have l4 : H4 L = some (.lst va) := s4 _ _ l3
      have hb : B L = none := k1.base.free hL
      have k4 : Ok K C B O0 (L :: O) H4 (wipe σ vs) (wipeD ρ vs) := k2.ext ((sy.trans s3).trans s4)
      have hno : ∀ (j : Nat) (es : List D), (wipeD ρ vs)[j]? = some (some (.own es)) → (wipe σ vs)[j]? ≠ some (some (.ref L)) := fun j es e z => by
        obtain ⟨q, ws, e1, _, _, e4, _⟩ := (k1.wipe vs).own j es e
        rw [e1] at z
        have eq : q = L := by simpa using z
        rw [eq, hL] at e4
        cases e4
      have hnk : ∀ (j : Nat) (b : Bool) (ts : List Int), (wipeD ρ vs)[j]? ≠ some (some (.kst L b ts)) := fun j b ts z => by
        obtain ⟨_, _, _, _, e4, _⟩ := (k1.wipe vs).st.at_ j L b ts z
        rw [hL] at e4
        cases e4
      have hnl : ∀ (j : Nat) (ds : List D), (wipeD ρ vs)[j]? ≠ some (some (.ls L ds)) := fun j ds z => by
        obtain ⟨_, _, _, e4, _⟩ := (k1.wipe vs).ls.at_ j L ds z
        rw [hL] at e4
        cases e4
      refine ⟨va, l4, by rw [RepL.length r3]; omega, acc ++ [e], va ++ [v], fun b o eb => ?_, upd_same, ?_, by rw [List.length_append]; exact Nat.add_le_add_right hal 1, k4.chg (by simp) hb l4 hno hnk hnl (SameX.upd l4), h5⟩
      · rw [upd_ne (ne_of_none eb hL)]
        exact s4 _ _ (s13 _ _ eb)
      · have sw4 : Same (wo H4 (L :: O)) (wo (upd H4 L (.lst (va ++ [v]))) (L :: O)) := fun b o eb => by
          have h1 := wo_some eb
          have nO : b ∉ L :: O := fun z => by
            unfold wo at eb
            rw [if_pos z] at eb
            cases eb
          exact wo_of (by rw [upd_ne fun z => nO (by simp [z])]; exact h1) nO
        exact (RepL.mono ((wo_same _ s4).trans sw4) _ r3).append (RepL.one (Rep.mono sw4 _ r4))
    | false =>
      simp only [Bool.false_eq_true, if_false] at h4 ⊢
      exact ⟨acc, va, s13, l3, r3, by omega, k2.ext (sy.trans s3), h4⟩
  · have e : i = ds.length := by omega
    subst e
    rw [List.drop_length] at hf'
    refine .inl ⟨wst, ?_⟩
    exact hP (.ref L) (.lst acc) H' (s1.trans s2) ⟨L, va, rfl, wo_of hl2 (k1.al.new hL), RepL.mono (wo_sub H' fun a ha => List.mem_cons_of_mem _ ha) _ ra⟩ hf'
theorem pd_lc {elt tg iter : Expr} {ifs : List Expr} {scope : Scope} {own : List (Str × Nat)} {q : DA} {js : List Nat} {g : DG} {t : DT} {p : DE} (hc : X.calm = true) (hN : X.N.Nodup) (hi : PI X tg iter (liftI X.K C E q)) (ok : BlkOk X.N X.env.scope scope own)
    (hg : ∀ (s : Shared) (H : Hp) (c : Addr) (cl : List (Str × Addr)) (fp : List Addr), PG (X.blk s H scope (compEnvC scope cl c X.env) fp) tg (liftG X.K C js g)) (ht : ∀ (s : Shared) (H : Hp) (c : Addr) (cl : List (Str × Addr)) (fp : List Addr), PTs (X.blk s H scope (compEnvC scope cl c X.env) fp) ifs (liftT X.K C EF t))
    (he : ∀ (s : Shared) (H : Hp) (c : Addr) (cl : List (Str × Addr)) (fp : List Addr), PE (X.blk s H scope (compEnvC scope cl c X.env) fp) elt (lift X.K C EF p)) (hj : ∀ j, j ∈ js → j ∈ own.map (·.2) := by decide) (hs : ∀ x, foldedSetIterable iter X.env x = pure x := by intro _; rfl) :
    PE X (.ListComp elt [⟨tg, iter, ifs, 0⟩] scope pos) (lift X.K C E (dLc q g t p (own.map (·.2)))) := (pe_lc hc hN hi ok hg ht he hs).wk (lift_lc hj)
theorem sd_setLc {i : Nat} {y : Str} {py spos : Pos} {elt tg iter : Expr} {ifs : List Expr} {scope : Scope} {own : List (Str × Nat)} {q : DA} {js : List Nat} {g : DG} {t : DT} {p : DE} (hc : X.calm = true) (hN : X.N.Nodup) (hy : X.N[i]? = some y) (hyl : X.env.scope.names.lookup y = some .local)
    (hsw : swapsWith (.ListComp elt [⟨tg, iter, ifs, 0⟩] scope pos) (some (.Name y py)) spos.line X.env = pure true) (hi : PI X tg iter (liftI X.K C E q)) (ok : BlkOk X.N X.env.scope scope own)
    (hg : ∀ (s : Shared) (H : Hp) (c : Addr) (cl : List (Str × Addr)) (fp : List Addr), PG (X.blk s H scope (compEnvC scope cl c X.env) fp) tg (liftG X.K C js g)) (ht : ∀ (s : Shared) (H : Hp) (c : Addr) (cl : List (Str × Addr)) (fp : List Addr), PTs (X.blk s H scope (compEnvC scope cl c X.env) fp) ifs (liftT X.K C EF t))
    (he : ∀ (s : Shared) (H : Hp) (c : Addr) (cl : List (Str × Addr)) (fp : List Addr), PE (X.blk s H scope (compEnvC scope cl c X.env) fp) elt (lift X.K C EF p)) (hj : ∀ j, j ∈ js → j ∈ own.map (·.2) := by decide) (hs : ∀ x, foldedSetIterable iter X.env x = pure x := by intro _; rfl) :
    PS X (.Assign [.Name y py] (.ListComp elt [⟨tg, iter, ifs, 0⟩] scope pos) spos) (liftS X.K C E (dSet i (dLc q g t p (own.map (·.2))))) := (ps_setLc hc hN hy hyl hsw hi ok hg ht he hs).wk fun D σ H q => by
  obtain ⟨B, O0, O, ρ, N, R, Z, k, q, hN, hR, hZ⟩ := q
  have h := lift_lc (K := X.K) (C := C) (E := E) (q := ‹DA›) (js := js) (g := g) (t := t) (p := p) (vs := own.map (·.2)) hj σ H (fun v H' => D.nx (σ.set i (some v)) H')
  exact h ⟨B, O0, O, ρ, _, Z, k, q, fun v d H' s' r p => hN (σ.set i (some v)) H' _ O ((k.ext s').set i r) p, fun c H' s' z => hZ c H' (k.base.trans s') z⟩
def dYes : DT := fun _ P _ => P true
theorem ts_nil : PTs X [] (liftT X.K C E dYes) := pts_nil.wk fun σ H Q q => by
  obtain ⟨B, O0, O, ρ, P, R, k, q, hP, hR⟩ := q
  exact hP true H (Same.refl H) q
theorem ts_one {c : Expr} {t : DT} (h : PT X c (liftT X.K C E t)) : PTs X [c] (liftT X.K C E t) := pts_one h
end
end L2.DL
/-! # Data-level readings: operators -/
namespace L2.DL
open PySem PySem.Spec PyProof.Rows

mutual
def D.toPy : D → PyData
  | .non => .none
  | .bl b => .bool b
  | .int i => .int i
  | .str s => .str s
  | .lst ds => .list (toPys ds)
  | .tup ds => .tuple (toPys ds)
  | .dic _ _ => .dict []
  | .kp _ _ => .dict []
  | .scr _ => .dict []
  | .adr _ => .dict []
  | .ty _ => .dict []
  | .exc _ => .dict []
def toPys : List D → List PyData
  | [] => []
  | d :: ds => D.toPy d :: toPys ds
end
theorem toPys_map : ∀ ds : List D, toPys ds = ds.map D.toPy
  | [] => rfl
  | d :: ds => by rw [toPys, toPys_map ds]; rfl
section
variable {K : PySem.W.Frag} {C : Addr} {H : Hp}
mutual
theorem Rep.dp : ∀ (d : D) {v : V}, d.toPy.canLay0 = true → Rep K C H d v → Dp K H v d.toPy
  | .non, _, _, r => by cases (show _ = _ from r); exact .non
  | .bl b, _, _, r => by cases (show _ = _ from r); exact .bl b
  | .int i, _, _, r => by cases (show _ = _ from r); exact .int i
  | .str s, _, _, r => by cases (show _ = _ from r); exact .str s
  | .lst ds, _, h, r => by
    obtain ⟨a, vs, rfl, e1, e2⟩ := r
    exact .lst (SqL.of e1) (RepL.dp ds (by simpa [D.toPy, PyData.canLay0] using h) e2)
  | .tup ds, _, h, r => by
    obtain ⟨a, vs, rfl, e1, e2⟩ := r
    exact .tup (SqT.of e1) (RepL.dp ds (by simpa [D.toPy, PyData.canLay0] using h) e2)
  | .dic _ _, _, h, _ => by simp [D.toPy, PyData.canLay0] at h
  | .kp _ _, _, h, _ => by simp [D.toPy, PyData.canLay0] at h
  | .scr _, _, h, _ => by simp [D.toPy, PyData.canLay0] at h
  | .adr _, _, h, _ => by simp [D.toPy, PyData.canLay0] at h
  | .ty _, _, h, _ => by simp [D.toPy, PyData.canLay0] at h
  | .exc _, _, h, _ => by simp [D.toPy, PyData.canLay0] at h
theorem RepL.dp : ∀ (ds : List D) {vs : List V}, PyData.canLayAll0 (toPys ds) = true → RepL K C H ds vs → DpAll K H vs (toPys ds)
  | [], _, _, r => by cases (show _ = _ from r); exact .nil
  | d :: ds, _, h, r => by
    obtain ⟨v, w, rfl, r1, r2⟩ := r
    rw [toPys, PyData.canLayAll0, Bool.and_eq_true] at h
    exact .cons (Rep.dp d h.1 r1) (RepL.dp ds h.2 r2)
end
end
/-- fit for == -/
def okE (d : D) : Prop := SeqAt.shaped d.toPy = true
def eqD (x y : D) : Bool := PyData.eqv x.toPy y.toPy

section
variable {X : Cx} {C : Addr} {E : XK} {pos : Pos} {K : PySem.W.Frag}
theorem kI {O : List Addr} {H : Hp} {P : D → Prop} {Q : VK} (k : ∀ v d H', Same H H' → Rep K C (wo H' O) d v → P d → Q v H') {i : Int} (p : P (.int i)) : Q (.int i) H := k (.int i) (.int i) H (Same.refl H) rfl p
theorem kB {O : List Addr} {H : Hp} {P : D → Prop} {Q : VK} (k : ∀ v d H', Same H H' → Rep K C (wo H' O) d v → P d → Q v H') {i : Bool} (p : P (.bl i)) : Q (.bl i) H := k (.bl i) (.bl i) H (Same.refl H) rfl p
theorem kS {O : List Addr} {H : Hp} {P : D → Prop} {Q : VK} (k : ∀ v d H', Same H H' → Rep K C (wo H' O) d v → P d → Q v H') {i : Str} (p : P (.str i)) : Q (.str i) H := k (.str i) (.str i) H (Same.refl H) rfl p
/-! arithmetic -/
def dAdd : D2
  | .int i, .int j, P => P (.int (i + j))
  | .str a, .str b, P => a.length + b.length ≤ sizeLine ∧ P (.str (a ++ b))
  | .lst a, .lst b, P => a.length + b.length ≤ sizeLine ∧ P (.lst (a ++ b))
  | .tup a, .tup b, P => a ≠ [] ∧ b ≠ [] ∧ a.length + b.length ≤ sizeLine ∧ P (.tup (a ++ b))
  | _, _, _ => False
theorem or_add : OpR X (binaryOp .Add) (fun x y H Q => rI0 (fun i j => .int (i + j)) x y H Q ∨ (∃ i j, x = .str i ∧ y = .str j ∧ i.length + j.length ≤ sizeLine ∧ Q (.str (i ++ j)) H) ∨ rCat x y H Q ∨ rCatT X.K x y H Q) :=
  op_add.or (op_add_str.or (op_cat.or op_catT))
theorem ab_add : AbR K C (fun x y H Q => rI0 (fun i j => .int (i + j)) x y H Q ∨ (∃ i j, x = .str i ∧ y = .str j ∧ i.length + j.length ≤ sizeLine ∧ Q (.str (i ++ j)) H) ∨ rCat x y H Q ∨ rCatT K x y H Q) dAdd := by
  intro O H x y dx dy P Q al rx ry q k
  unfold dAdd at q
  split at q
  · exact .inl ⟨_, _, rx, ry, kI k q⟩
  · exact .inr (.inl ⟨_, _, rx, ry, q.1, kS k q.2⟩)
  · obtain ⟨a, vs, rfl, e1, e2⟩ := rx
    obtain ⟨b, ws, rfl, e3, e4⟩ := ry
    refine .inr (.inr (.inl ⟨a, b, vs, ws, rfl, rfl, wo_some e1, wo_some e3, by rw [RepL.length e2, RepL.length e4]; exact q.1, fun p hp => ?_⟩))
    exact k _ _ _ (Same.new hp) (rep_new_lst hp al (e2.append e4)) q.2
  · obtain ⟨a, vs, rfl, e1, e2⟩ := rx
    obtain ⟨b, ws, rfl, e3, e4⟩ := ry
    obtain ⟨n1, n2, q1, q2⟩ := q
    have m1 : vs ≠ [] := fun z => n1 (by have := RepL.length e2; rw [z] at this; exact List.eq_nil_of_length_eq_zero this.symm)
    have m2 : ws ≠ [] := fun z => n2 (by have := RepL.length e4; rw [z] at this; exact List.eq_nil_of_length_eq_zero this.symm)
    refine .inr (.inr (.inr ⟨a, b, vs, ws, rfl, rfl, SqT.of (wo_some e1), SqT.of (wo_some e3), m1, by rw [RepL.length e2, RepL.length e4]; exact q1, fun z => absurd z m2, fun _ p hp => ?_⟩))
    exact k _ _ _ (Same.new hp) (rep_new_tup hp al (e2.append e4)) q2
  · exact q.elim
def dSub : D2
  | .int i, .int j, P => P (.int (i - j))
  | _, _, _ => False
theorem ab_sub : AbR K C (rI0 fun i j => .int (i - j)) dSub := by
  intro O H x y dx dy P Q al rx ry q k
  unfold dSub at q
  split at q
  · exact ⟨_, _, rx, ry, kI k q⟩
  · exact q.elim
def dMul : D2
  | .int i, .int j, P => IntMulOk i j ∧ P (.int (i * j))
  | .lst ds, .int j, P => -(2 ^ 63) ≤ j ∧ j < 2 ^ 63 ∧ ds.length * j.toNat ≤ sizeLine ∧ P (.lst (List.replicate j.toNat ds).flatten)
  | _, _, _ => False
theorem op_mulI : OpR X (binaryOp .Mult) (rI IntMulOk fun i j => .int (i * j)) := opI fun _ _ _ _ _ _ _ hc q => mul_int q hc
theorem or_mul : OpR X (binaryOp .Mult) (fun x y H Q => rI IntMulOk (fun i j => .int (i * j)) x y H Q ∨ rRep x y H Q) := op_mulI.or op_rep
theorem RepL.times {H : Hp} {ds : List D} {vs : List V} (r : RepL K C H ds vs) : ∀ n : Nat, RepL K C H (List.replicate n ds).flatten (List.replicate n vs).flatten
  | 0 => rfl
  | n + 1 => by
    rw [List.replicate_succ, List.replicate_succ, List.flatten_cons, List.flatten_cons]
    exact r.append (RepL.times r n)
theorem ab_mul : AbR K C (fun x y H Q => rI IntMulOk (fun i j => .int (i * j)) x y H Q ∨ rRep x y H Q) dMul := by
  intro O H x y dx dy P Q al rx ry q k
  unfold dMul at q
  split at q
  · exact .inl ⟨_, _, rx, ry, q.1, kI k q.2⟩
  · obtain ⟨a, vs, rfl, e1, e2⟩ := rx
    obtain ⟨q1, q2, q3, q4⟩ := q
    refine .inr ⟨a, _, vs, rfl, ry, wo_some e1, q1, q2, by rw [RepL.length e2]; exact q3, fun p hp => ?_⟩
    exact k _ _ _ (Same.new hp) (rep_new_lst hp al (e2.times _)) q4
  · exact q.elim
def dMod : D2
  | .int i, .int j, P => 0 < j ∧ P (.int (i % j))
  | _, _, _ => False
theorem ab_mod : AbR K C (rI (fun _ j => 0 < j) fun i j => .int (i % j)) dMod := by
  intro O H x y dx dy P Q al rx ry q k
  unfold dMod at q
  split at q
  · exact ⟨_, _, rx, ry, q.1, kI k q.2⟩
  · exact q.elim
def dFdiv : D2
  | .int i, .int j, P => 0 < j ∧ j < 1073741824 ∧ P (.int (i / j))
  | _, _, _ => False
theorem ab_fdiv : AbR K C (rI CDiv fun i j => .int (i / j)) dFdiv := by
  intro O H x y dx dy P Q al rx ry q k
  unfold dFdiv at q
  split at q
  · exact ⟨_, _, rx, ry, ⟨q.1, q.2.1⟩, kI k q.2.2⟩
  · exact q.elim
def CPw (i j : Int) : Prop := 0 ≤ j ∧ (Builtin.Int.intBits i : Int) * j ≤ 2 ^ 27
theorem op_powI : OpR X (binaryOp .Pow) (rI CPw fun i j => .int (i ^ j.toNat)) := opI fun _ _ _ _ _ _ _ hc q => pow_int hc.1 hc.2 q
def dPow : D2
  | .int i, .int j, P => CPw i j ∧ P (.int (i ^ j.toNat))
  | _, _, _ => False
theorem ab_pow : AbR K C (rI CPw fun i j => .int (i ^ j.toNat)) dPow := by
  intro O H x y dx dy P Q al rx ry q k
  unfold dPow at q
  split at q
  · exact ⟨_, _, rx, ry, q.1, kI k q.2⟩
  · exact q.elim
/-! comparisons -/
def dCmpI (f : Int → Int → Bool) : D2
  | .int i, .int j, P => P (.bl (f i j))
  | _, _, _ => False
theorem ab_cmpI (f : Int → Int → Bool) : AbR K C (rI0 fun i j => .bl (f i j)) (dCmpI f) := by
  intro O H x y dx dy P Q al rx ry q k
  unfold dCmpI at q
  split at q
  · exact ⟨_, _, rx, ry, kB k q⟩
  · exact q.elim
abbrev dLt : D2 := dCmpI fun i j => decide (i < j)
abbrev dLe : D2 := dCmpI fun i j => decide (i ≤ j)
abbrev dGt : D2 := dCmpI fun i j => decide (j < i)
abbrev dGe : D2 := dCmpI fun i j => decide (j ≤ i)
/-- == : texts by themselves, all else as data -/
def dEq : D2
  | .str a, .str b, P => P (.bl (decide (a = b)))
  | x, y, P => okE x ∧ okE y ∧ P (.bl (eqD x y))
def dNe : D2
  | .str a, .str b, P => P (.bl (!decide (a = b)))
  | x, y, P => okE x ∧ okE y ∧ P (.bl (!eqD x y))
theorem or_eq (hu : X.A.units + 64 < cLine) : OpR X (compareOp .Eq) (fun x y H Q => rEq x y H Q ∨ rEqD X.K x y H Q) := op_eq.or (op_eqD hu)
theorem or_ne (hu : X.A.units + 64 < cLine) : OpR X (compareOp .NotEq) (fun x y H Q => rNe x y H Q ∨ rNeD X.K x y H Q) := op_ne.or (op_neD hu)
theorem V_str_eq (a b : Str) : decide (V.str a = V.str b) = decide (a = b) := by
  by_cases h : a = b
  · rw [h]; simp
  · have : ¬ V.str a = V.str b := fun z => h (V.str.inj z)
    rw [decide_eq_false h, decide_eq_false this]
theorem dp_of {H : Hp} {O : List Addr} {d : D} {v : V} (h : okE d) (r : Rep K C (wo H O) d v) : Dp K H v d.toPy := Rep.dp d (SeqAt.canLay_of_shaped h) (Rep.mono (wo_le H O) d r)
theorem ab_eq : AbR K C (fun x y H Q => rEq x y H Q ∨ rEqD K x y H Q) dEq := by
  intro O H x y dx dy P Q al rx ry q k
  unfold dEq at q
  split at q
  · rename_i a b
    have ex : x = V.str a := rx
    have ey : y = V.str b := ry
    subst ex ey
    exact .inl ⟨rfl, by rw [V_str_eq]; exact kB k q⟩
  · exact .inr ⟨_, _, dp_of q.1 rx, dp_of q.2.1 ry, q.1, q.2.1, kB k q.2.2⟩
theorem ab_ne : AbR K C (fun x y H Q => rNe x y H Q ∨ rNeD K x y H Q) dNe := by
  intro O H x y dx dy P Q al rx ry q k
  unfold dNe at q
  split at q
  · rename_i a b
    have ex : x = V.str a := rx
    have ey : y = V.str b := ry
    subst ex ey
    exact .inl ⟨rfl, by rw [V_str_eq]; exact kB k q⟩
  · exact .inr ⟨_, _, dp_of q.1 rx, dp_of q.2.1 ry, q.1, q.2.1, kB k q.2.2⟩
/-- is None -/
def D.isN : D → Bool
  | .non => true
  | _ => false
theorem isN_rep {H : Hp} {d : D} {v : V} (r : Rep K C H d v) : decide (v = .non) = d.isN := by
  cases d with
  | non => rw [show v = V.non from r]; rfl
  | bl _ => rw [show v = V.bl _ from r]; rfl
  | int _ => rw [show v = V.int _ from r]; rfl
  | str _ => rw [show v = V.str _ from r]; rfl
  | adr _ => rw [show v = V.ref _ from r]; rfl
  | ty _ => rw [show v = V.ty _ from r]; rfl
  | lst _ => obtain ⟨_, _, rfl, _⟩ := r; rfl
  | tup _ => obtain ⟨_, _, rfl, _⟩ := r; rfl
  | dic _ _ => obtain ⟨_, _, rfl, _⟩ := r; rfl
  | kp _ _ => obtain ⟨_, _, _, rfl, _⟩ := r; rfl
  | scr _ => obtain ⟨_, rfl, _⟩ := r; rfl
  | exc _ => obtain ⟨_, rfl, _⟩ := r; rfl
/-- is: None, or two truths -/
def dIs : D2
  | .bl a, .bl b, P => P (.bl (decide (a = b)))
  | x, .non, P => P (.bl x.isN)
  | _, _, _ => False
def dIsNot : D2
  | .bl a, .bl b, P => P (.bl (!decide (a = b)))
  | x, .non, P => P (.bl (!x.isN))
  | _, _, _ => False
theorem or_is : OpR X (compareOp .Is) (fun x y H Q => (y = .non ∧ Q (.bl (decide (x = .non))) H) ∨ rIsB x y H Q) := op_isN.or op_isBl
theorem or_isnot : OpR X (compareOp .IsNot) (fun x y H Q => (y = .non ∧ Q (.bl (!decide (x = .non))) H) ∨ rNotB x y H Q) := op_notN.or op_notBl
theorem ab_is : AbR K C (fun x y H Q => (y = .non ∧ Q (.bl (decide (x = .non))) H) ∨ rIsB x y H Q) dIs := by
  intro O H x y dx dy P Q al rx ry q k
  unfold dIs at q
  split at q
  · exact .inr ⟨_, _, rx, ry, kB k q⟩
  · exact .inl ⟨ry, by rw [isN_rep rx]; exact kB k q⟩
  · exact q.elim
theorem ab_isnot : AbR K C (fun x y H Q => (y = .non ∧ Q (.bl (!decide (x = .non))) H) ∨ rNotB x y H Q) dIsNot := by
  intro O H x y dx dy P Q al rx ry q k
  unfold dIsNot at q
  split at q
  · exact .inr ⟨_, _, rx, ry, kB k q⟩
  · exact .inl ⟨ry, by rw [isN_rep rx]; exact kB k q⟩
  · exact q.elim
/-- flat data -/
def flatD : D → Bool
  | .non | .bl _ | .int _ | .str _ => true
  | _ => false
theorem flat_rep {H : Hp} {d : D} {v : V} (h : flatD d = true) (r : Rep K C H d v) : flatV v = true := by
  cases d with
  | non => rw [show v = V.non from r]; rfl
  | bl _ => rw [show v = V.bl _ from r]; rfl
  | int _ => rw [show v = V.int _ from r]; rfl
  | str _ => rw [show v = V.str _ from r]; rfl
  | _ => cases h
theorem eqV_rep {H : Hp} {d e : D} {v w : V} (hd : flatD d = true) (he : flatD e = true) (r : Rep K C H d v) (r' : Rep K C H e w) : eqV v w = eqD d e := by
  cases d <;> first | (cases hd; done) | skip
  all_goals (cases e <;> first | (cases he; done) | skip)
  all_goals (rw [show v = _ from r, show w = _ from r']; rfl)
theorem flats_rep {H : Hp} : ∀ {ds : List D} {vs : List V}, ds.all flatD = true → RepL K C H ds vs → vs.all flatV = true
  | [], _, _, r => by rw [show _ = _ from r]; rfl
  | d :: ds, _, h, r => by
    obtain ⟨v, w, rfl, r1, r2⟩ := r
    rw [List.all_cons, Bool.and_eq_true] at h ⊢
    exact ⟨flat_rep h.1 r1, flats_rep h.2 r2⟩
theorem inV_rep {H : Hp} {d : D} {v : V} (hd : flatD d = true) (r : Rep K C H d v) : ∀ {ds : List D} {vs : List V}, ds.all flatD = true → RepL K C H ds vs → inV v vs = ds.any fun z => eqD z d
  | [], _, _, r' => by rw [show _ = _ from r']; rfl
  | e :: ds, _, h, r' => by
    obtain ⟨w, u, rfl, r1, r2⟩ := r'
    rw [List.all_cons, Bool.and_eq_true] at h
    have ih := inV_rep hd r h.2 r2
    unfold inV at ih ⊢
    rw [List.any_cons, List.any_cons, ih, eqV_rep h.1 hd r1 r]
/-- in: a text in a text; an item among the items of a list (any data) or of a tuple (flat data) -/
def dIn : D2
  | .str a, .str b, P => P (.bl (!(Builtin.Str.occurrences b a 0 b.length 1).isEmpty))
  | x, .lst ds, P => okE x ∧ okE (.lst ds) ∧ P (.bl (ds.any fun z => eqD z x))
  | x, .tup ds, P => flatD x = true ∧ ds.all flatD = true ∧ P (.bl (ds.any fun z => eqD z x))
  | _, _, _ => False
def dNotIn : D2
  | .str a, .str b, P => P (.bl (!(!(Builtin.Str.occurrences b a 0 b.length 1).isEmpty)))
  | x, .lst ds, P => okE x ∧ okE (.lst ds) ∧ P (.bl (!ds.any fun z => eqD z x))
  | x, .tup ds, P => flatD x = true ∧ ds.all flatD = true ∧ P (.bl (!ds.any fun z => eqD z x))
  | _, _, _ => False
theorem or_in (hu : X.A.units + 65 < cLine) : OpR X (compareOp .In) (fun x y H Q => (∃ i j, x = .str i ∧ y = .str j ∧ Q (.bl (!(Builtin.Str.occurrences j i 0 j.length 1).isEmpty)) H) ∨ rInD X.K x y H Q ∨ rIn X.K false x y H Q) := op_in_str.or ((op_inD hu).or op_in_seq)
theorem or_notin (hu : X.A.units + 65 < cLine) : OpR X (compareOp .NotIn) (fun x y H Q => (∃ i j, x = .str i ∧ y = .str j ∧ Q (.bl (!(!(Builtin.Str.occurrences j i 0 j.length 1).isEmpty))) H) ∨ rNotInD X.K x y H Q ∨ rIn X.K true x y H Q) := op_notin_str.or ((op_notInD hu).or op_notIn_seq)
theorem any_py (ds : List D) (x : D) : (toPys ds).any (fun z => PyData.eqv z x.toPy) = ds.any fun z => eqD z x := by
  rw [toPys_map, List.any_map]; rfl
theorem ab_in : AbR K C (fun x y H Q => (∃ i j, x = .str i ∧ y = .str j ∧ Q (.bl (!(Builtin.Str.occurrences j i 0 j.length 1).isEmpty)) H) ∨ rInD K x y H Q ∨ rIn K false x y H Q) dIn := by
  intro O H x y dx dy P Q al rx ry q k
  unfold dIn at q
  split at q
  · exact .inl ⟨_, _, rx, ry, kB k q⟩
  · rename_i ds
    refine .inr (.inl ⟨_, toPys ds, dp_of q.1 rx, dp_of q.2.1 ry, q.1, q.2.1, ?_⟩)
    rw [any_py]
    exact kB k q.2.2
  · obtain ⟨a, vs, rfl, e1, e2⟩ := ry
    refine .inr (.inr ⟨a, vs, rfl, .inr (SqT.of (wo_some e1)), flat_rep q.1 rx, flats_rep q.2.1 e2, ?_⟩)
    rw [inV_rep q.1 rx q.2.1 e2]
    exact kB k q.2.2
  · exact q.elim
theorem ab_notin : AbR K C (fun x y H Q => (∃ i j, x = .str i ∧ y = .str j ∧ Q (.bl (!(!(Builtin.Str.occurrences j i 0 j.length 1).isEmpty))) H) ∨ rNotInD K x y H Q ∨ rIn K true x y H Q) dNotIn := by
  intro O H x y dx dy P Q al rx ry q k
  unfold dNotIn at q
  split at q
  · exact .inl ⟨_, _, rx, ry, kB k q⟩
  · rename_i ds
    refine .inr (.inl ⟨_, toPys ds, dp_of q.1 rx, dp_of q.2.1 ry, q.1, q.2.1, ?_⟩)
    rw [any_py]
    exact kB k q.2.2
  · obtain ⟨a, vs, rfl, e1, e2⟩ := ry
    refine .inr (.inr ⟨a, vs, rfl, .inr (SqT.of (wo_some e1)), flat_rep q.1 rx, flats_rep q.2.1 e2, ?_⟩)
    rw [inV_rep q.1 rx q.2.1 e2]
    exact kB k q.2.2
  · exact q.elim

/-! ### items, slices -/
def dIx : D2
  | .lst ds, .int i, P => ∃ d, atI ds i = some d ∧ P d
  | .tup ds, .int i, P => ∃ d, atI ds i = some d ∧ P d
  | .str z, .int i, P => z.length ≤ sizeLine ∧ ∃ c, atI z.cps.toList i = some c ∧ P (.str ⟨#[c]⟩)
  | _, _, _ => False
theorem atI_rep {H : Hp} {ds : List D} {vs : List V} {i : Int} {d : D} (r : RepL K C H ds vs) (h : atI ds i = some d) : ∃ v, atI vs i = some v ∧ Rep K C H d v := by
  unfold atI at h ⊢
  rw [RepL.length r]
  cases e : ixN ds.length i with
  | none => rw [e] at h; cases h
  | some j =>
    rw [e] at h
    obtain ⟨v, h1, h2⟩ := RepL.get r (show ds[j]? = some d from h)
    exact ⟨v, h1, h2⟩
theorem lift_ix : AbR K C (rIx K) dIx := by
  intro O H x y dx dy P Q al rx ry q k
  unfold dIx at q
  split at q
  · obtain ⟨a, vs, rfl, e1, e2⟩ := rx
    obtain ⟨d, h1, h2⟩ := q
    obtain ⟨v, h3, h4⟩ := atI_rep e2 h1
    exact .inl ⟨a, vs, _, v, rfl, ry, SqL.of (wo_some e1), h3, k _ _ H (Same.refl H) h4 h2⟩
  · obtain ⟨a, vs, rfl, e1, e2⟩ := rx
    obtain ⟨d, h1, h2⟩ := q
    obtain ⟨v, h3, h4⟩ := atI_rep e2 h1
    exact .inr (.inl ⟨a, vs, _, v, rfl, ry, SqT.of (wo_some e1), h3, k _ _ H (Same.refl H) h4 h2⟩)
  · obtain ⟨h1, c, h2, h3⟩ := q
    exact .inr (.inr ⟨_, _, c, rx, ry, h1, h2, kS k h3⟩)
  · exact q.elim
theorem pd_ix {a b : Expr} {pa pb : DE} (ha : PE X a (lift X.K C E pa)) (hb : PE X b (lift X.K C E pb)) (hs : PlainIx b) : PE X (.Subscript a b pos) (lift X.K C E (dBin dIx pa pb)) := (pe_ix ix_seq ha hb hs).wk (lift_bin lift_ix)
/-- a slice's part -/
abbrev DO := Env → (Option Int → Prop) → (Addr → Prop) → Prop
def liftO (K : PySem.W.Frag) (C : Addr) (E : XK) (p : DO) : TO := fun σ H Q => ∃ B O0 O ρ P R, Ok K C B O0 O H σ ρ ∧ p ρ P R ∧
  (∀ b H', Same H H' → P b → Q b H') ∧ ∀ c H', Same H H' → R c → E (.ref c) none H'
def dNoPart : DO := fun _ P _ => P none
def dPart (p : DE) : DO := fun ρ P R => p ρ (fun d => match d with | .int i => P (some i) | _ => False) R
theorem od_none : PO X none (liftO X.K C E dNoPart) := ⟨fun pins s σ H Q I q => po_none.run pins s σ H Q I (by
  obtain ⟨B, O0, O, ρ, P, R, k, q, hP, hR⟩ := q
  exact hP none H (Same.refl H) q)⟩
theorem od_some {e : Expr} {p : DE} (h : PE X e (lift X.K C E p)) : PO X (some e) (liftO X.K C E (dPart p)) := ⟨fun pins s σ H Q I q => (po_some h).run pins s σ H Q I (by
  obtain ⟨B, O0, O, ρ, P, R, k, q, hP, hR⟩ := q
  refine ⟨B, O0, O, ρ, _, R, k, q, fun v d H' s' r p => ?_, hR⟩
  cases d with
  | int i => exact ⟨i, r, hP (some i) H' s' p⟩
  | _ => exact p.elim)⟩
def cutD (ds : List D) (lo hi : Option Int) : List D := (ds.drop (HT.sIx ds.length 0 lo)).take (HT.sIx ds.length ds.length hi - HT.sIx ds.length 0 lo)
/-- a[lo:hi]: a list, the script, a text, a tuple (not the whole of it) -/
def dCut (d : D) (lo hi : Option Int) (P : D → Prop) : Prop := match d with
  | .lst ds => P (.lst (cutD ds lo hi))
  | .scr ns => P (.lst (cutD (ns.map .int) lo hi))
  | .str z => z.length ≤ sizeLine ∧ P (.str (cutS z lo hi))
  | .tup ds => ¬ (HT.sIx ds.length 0 lo = 0 ∧ HT.sIx ds.length ds.length hi = ds.length) ∧ P (.tup (cutD ds lo hi))
  | _ => False
theorem RepL.cut {H : Hp} {ds : List D} {vs : List V} (r : RepL K C H ds vs) (lo hi : Option Int) : RepL K C H (cutD ds lo hi) (cutV vs lo hi) := by
  unfold cutD cutV
  rw [RepL.length r]
  exact (r.drop _).take _
def dSl (p : DE) (l h : DO) : DE := fun ρ P R => p ρ (fun d => l ρ (fun lo => h ρ (fun hi => dCut d lo hi P) R) R) R
theorem pd_sl {e : Expr} {lo hi : Option Expr} {p2 : Pos} {p : DE} {l h : DO} (he : PE X e (lift X.K C E p)) (hl : PO X lo (liftO X.K C E l)) (hh : PO X hi (liftO X.K C E h)) : PE X (.Subscript e (.Slice lo hi none p2) pos) (lift X.K C E (dSl p l h)) :=
  (pe_slice (sl_list.or (sl_str.or sl_tup)) he hl hh).wk fun σ H Q q => by
    obtain ⟨B, O0, O, ρ, P, R, k, q, hP, hR⟩ := q
    refine ⟨B, O0, O, ρ, _, R, k, q, fun x d H1 s1 r1 q1 => ⟨B, O0, O, ρ, _, R, k.ext s1, q1, fun a H2 s2 q2 => ⟨B, O0, O, ρ, _, R, (k.ext s1).ext s2, q2, fun b H3 s3 q3 => ?_, fun c H' s' z => hR c H' ((s1.trans s2).trans s') z⟩, fun c H' s' z => hR c H' (s1.trans s') z⟩, hR⟩
    have s13 : Same H H3 := (s1.trans s2).trans s3
    have al := k.al.mono s13
    have r3 : Rep X.K C (wo H3 O) d x := Rep.mono (wo_same O (s2.trans s3)) d r1
    unfold dCut at q3
    split at q3
    · obtain ⟨y, vs, rfl, e1, e2⟩ := r3
      exact .inl ⟨y, vs, rfl, SqL.of (wo_some e1), fun p hp => hP _ _ _ (s13.trans (Same.new hp)) (rep_new_lst hp al (e2.cut a b)) q3⟩
    · rename_i ns
      obtain ⟨y, rfl, e1⟩ := r3
      exact .inl ⟨y, _, rfl, (wo_le H3 O).seq e1, fun p hp => hP _ _ _ (s13.trans (Same.new hp)) (rep_new_lst hp al ((RepL.ints _ ns).cut a b)) q3⟩
    · exact .inr (.inl ⟨_, r3, q3.1, hP (.str _) (.str _) _ s13 rfl q3.2⟩)
    · obtain ⟨y, vs, rfl, e1, e2⟩ := r3
      exact .inr (.inr ⟨y, vs, rfl, SqT.of (wo_some e1), by rw [RepL.length e2]; exact q3.1, fun p hp => hP _ _ _ (s13.trans (Same.new hp)) (rep_new_tup hp al (e2.cut a b)) q3.2⟩)
    · exact q3.elim
/-- xs[::-1] -/
def dBack (p : DE) : DE := fun ρ P R => p ρ (fun d => match d with | .lst ds => P (.lst ds.reverse) | _ => False) R
theorem pd_back {e : Expr} {p : DE} {k : Nat} {p1 p2 p3 : Pos} (he : PE X e (lift X.K C E p)) : PE X (.Subscript e (.Slice none none (some (.UnaryOp .USub (.Constant (.int 1) k p1) p2)) p3) pos) (lift X.K C E (dBack p)) := (pe_revL he).wk fun σ H Q q => by
  obtain ⟨B, O0, O, ρ, P, R, k, q, hP, hR⟩ := q
  refine ⟨B, O0, O, ρ, _, R, k, q, fun x d H1 s1 r1 q1 => ?_, hR⟩
  cases d with
  | lst ds =>
    obtain ⟨y, vs, rfl, e1, e2⟩ := r1
    exact ⟨y, vs, rfl, SqL.of (wo_some e1), fun p hp => hP _ _ _ (s1.trans (Same.new hp)) (rep_new_lst hp (k.al.mono s1) e2.reverse) q1⟩
  | _ => exact q1.elim
/-- -e -/
def dNeg (p : DE) : DE := fun ρ P R => p ρ (fun d => match d with | .int i => P (.int (-i)) | _ => False) R
theorem pd_neg {e : Expr} {p : DE} (he : PE X e (lift X.K C E p)) : PE X (.UnaryOp .USub e pos) (lift X.K C E (dNeg p)) := (pe_un un_neg he).wk fun σ H Q q => by
  obtain ⟨B, O0, O, ρ, P, R, k, q, hP, hR⟩ := q
  refine ⟨B, O0, O, ρ, _, R, k, q, fun x d H1 s1 r1 q1 => ?_, hR⟩
  cases d with
  | int i => exact ⟨i, r1, hP (.int (-i)) (.int (-i)) H1 s1 rfl q1⟩
  | _ => exact q1.elim
end
end L2.DL
/-! # Data-level readings: built-in calls, raise, a def's promise -/
namespace L2.DL
open PySem PySem.Spec PyProof.Rows

section
variable {X : Cx} {C : Addr} {E : XK} {pos : Pos} {K : PySem.W.Frag}
abbrev DB := List D → (D → Prop) → Prop
def AbC (K : PySem.W.Frag) (C : Addr) (r : List V → Hp → VK → Prop) (f : DB) : Prop := ∀ (O : List Addr) (H : Hp) (vs : List V) (ds : List D) (P : D → Prop) (Q : VK), Al O H → RepL K C (wo H O) ds vs → f ds P →
  (∀ v d H', Same H H' → Rep K C (wo H' O) d v → P d → Q v H') → r vs H Q
def dBi (f : DB) (q : DA) : DE := fun ρ P R => q ρ (fun ds => f ds P) R
theorem lift_cb {r : List V → Hp → VK → Prop} {f : DB} (ab : AbC K C r f) {q : DA} : ∀ σ H Q, lift K C E (dBi f q) σ H Q → tCB r (liftA K C E q) σ H Q := fun σ H Q q => by
  obtain ⟨B, O0, O, ρ, P, R, k, q, hP, hR⟩ := q
  exact ⟨B, O0, O, ρ, _, R, k, q, fun vs ds H1 s1 r1 q1 => ab O H1 vs ds P Q (k.al.mono s1) r1 q1 fun v d H2 s2 r2 p => hP v d H2 (s1.trans s2) r2 p, hR⟩
theorem pd_bi {x : Str} {id : String} {p : Pos} {a : Expr} {es : List Expr} {r : List V → Hp → VK → Prop} {f : DB} {q : DA} (hc : CallR X (.builtin id) r) (ab : AbC X.K C r f) (hg : Gl X x) (hm : X.mg x = none) (hv : bootBuiltins x = some (.builtin id)) (ha : PA X (a :: es) (liftA X.K C E q))
    (hn : x ≠ "__name__" := by decide) (hdb : (x == ("__debug__" : Str)) = false := by decide) (he : starEach (a :: es) X.env = (false, eval a X.env) :: starEach es X.env := by rfl) (hpl : (backTo pos (starEach es X.env)).any (·.1) = false := by rfl) :
    PE X (.Call (.Name x p) (a :: es) [] pos) (lift X.K C E (dBi f q)) := (pe_callB hc hg hm hv ha hn hdb he hpl).wk (lift_cb ab)
theorem pd_bt {x : Str} {T : String} {p : Pos} {a : Expr} {es : List Expr} {r : List V → Hp → VK → Prop} {f : DB} {q : DA} (hc : CallR X (.type T) r) (ab : AbC X.K C r f) (hg : Gl X x) (hm : X.mg x = none) (hv : bootBuiltins x = some (.type T)) (ha : PA X (a :: es) (liftA X.K C E q))
    (hn : x ≠ "__name__" := by decide) (hdb : (x == ("__debug__" : Str)) = false := by decide) (he : starEach (a :: es) X.env = (false, eval a X.env) :: starEach es X.env := by rfl) (hpl : (backTo pos (starEach es X.env)).any (·.1) = false := by rfl) :
    PE X (.Call (.Name x p) (a :: es) [] pos) (lift X.K C E (dBi f q)) := (pe_callTy hc hg hm hv ha hn hdb he hpl).wk (lift_cb ab)
/-- a built-in class as a value -/
theorem pd_cls {x : Str} {n : String} {pos : Pos} (hg : Gl X x) (hm : X.mg x = none) (hv : bootBuiltins x = some (.type n)) (hn : x ≠ "__name__" := by decide) (hd : (x == ("__debug__" : Str)) = false := by decide) : PE X (.Name x pos) (lift X.K C E (dC (.ty n))) :=
  (pe_bltn (v := .ty n) hg hm hv (show Value.type n = Value.type n from rfl) hn hd).wk (lift_c (d := .ty n) fun _ => rfl)
/-! len -/
def dLen : DB
  | [.lst ds], P => P (.int (ds.length : Nat))
  | [.tup ds], P => P (.int (ds.length : Nat))
  | [.str z], P => z.length ≤ sizeLine ∧ P (.int (z.length : Nat))
  | _, _ => False
theorem ab_len : AbC K C (fun xs H Q => ∃ x n, xs = [x] ∧ LenV K x H n ∧ Q (.int n) H) dLen := by
  intro O H vs ds P Q al r q k
  unfold dLen at q
  split at q
  · obtain ⟨v, _, rfl, ⟨a, ws, rfl, e1, e2⟩, rfl⟩ := r
    exact ⟨_, _, rfl, .inl ⟨ws, SqL.of (wo_some e1), rfl⟩, by rw [RepL.length e2]; exact kI k q⟩
  · obtain ⟨v, _, rfl, ⟨a, ws, rfl, e1, e2⟩, rfl⟩ := r
    exact ⟨_, _, rfl, .inr ⟨ws, SqT.of (wo_some e1), rfl⟩, by rw [RepL.length e2]; exact kI k q⟩
  · obtain ⟨v, _, rfl, rfl, rfl⟩ := r
    exact ⟨_, _, rfl, ⟨q.1, rfl⟩, kI k q.2⟩
  · exact q.elim
/-! isinstance with a built-in class -/
def tyD : D → Option String
  | .non => some "NoneType"
  | .bl _ => some "bool"
  | .int _ => some "int"
  | .str _ => some "str"
  | .lst _ => some "list"
  | .tup _ => some "tuple"
  | .dic _ _ => some "dict"
  | _ => none
def isB (t c : String) : Bool := t == c || (t == "bool" && c == "int")
def dIsi : DB
  | [d, .ty c], P => ∃ t, tyD d = some t ∧ c ∈ ["int", "bool", "tuple", "str", "list"] ∧ P (.bl (isB t c))
  | _, _ => False
theorem kitB_isB : ∀ t ∈ ["NoneType", "bool", "int", "str", "list", "tuple", "dict"], ∀ c ∈ ["int", "bool", "tuple", "str", "list"], kitB t c = some (isB t c) := by decide +kernel
theorem tyD_mem {d : D} {t : String} (h : tyD d = some t) : t ∈ ["NoneType", "bool", "int", "str", "list", "tuple", "dict"] := by
  cases d <;> simp only [tyD, Option.some.injEq] at h <;> first | (subst h; decide) | cases h
theorem ty_rep {H : Hp} {d : D} {t : String} {v : V} (h : tyD d = some t) (r : Rep K C H d v) : TyX K H v (.type t) := by
  cases d with
  | non => cases h; rw [show v = V.non from r]; exact .base .non
  | bl b => cases h; rw [show v = V.bl b from r]; exact .base (.bl b)
  | int b => cases h; rw [show v = V.int b from r]; exact .base (.int b)
  | str b => cases h; rw [show v = V.str b from r]; exact .base (.str b)
  | lst ds => cases h; obtain ⟨a, vs, rfl, e, _⟩ := r; exact .base (.lst e)
  | tup ds => cases h; obtain ⟨a, vs, rfl, e, _⟩ := r; exact .base (.tup e)
  | dic ks ds => cases h; obtain ⟨a, vs, rfl, e, _⟩ := r; exact .base (.dK e)
  | _ => cases h
theorem ab_isi : AbC K C (rIsi K) dIsi := by
  intro O H vs ds P Q al r q k
  unfold dIsi at q
  split at q
  · rename_i d c
    obtain ⟨v, _, rfl, r1, v2, _, rfl, r2, rfl⟩ := r
    obtain ⟨t, h1, h2, h3⟩ := q
    have e2 : v2 = V.ty c := r2
    subst e2
    have hk := kitB_isB t (tyD_mem h1) c h2
    exact ⟨v, .ty c, .type t, .type c, isB t c, rfl, by first | exact .ty _ | exact rfl | constructor, ty_rep h1 (Rep.mono (wo_le H O) d r1), kit_ty hk, kB k h3⟩
  · exact q.elim
/-! int, str, sum, min, max, abs, all, sorted, list -/
def dInt : DB
  | [.int i], P => P (.int i)
  | [.bl b], P => P (.int (if b then 1 else 0))
  | _, _ => False
theorem ab_int : AbC K C (fun xs H Q => (∃ i, xs = [.int i] ∧ Q (.int i) H) ∨ ∃ k, xs = [.bl k] ∧ Q (.int (if k then 1 else 0)) H) dInt := by
  intro O H vs ds P Q al r q k
  unfold dInt at q
  split at q
  · obtain ⟨v, _, rfl, rfl, rfl⟩ := r
    exact .inl ⟨_, rfl, kI k q⟩
  · obtain ⟨v, _, rfl, rfl, rfl⟩ := r
    exact .inr ⟨_, rfl, kI k q⟩
  · exact q.elim
def dStr : DB
  | [.int i], P => i.natAbs.log2 < 1920 ∧ P (.str (toString i))
  | _, _ => False
theorem ab_str : AbC K C (fun xs H Q => ∃ i, xs = [.int i] ∧ i.natAbs.log2 < 1920 ∧ Q (.str (toString i)) H) dStr := by
  intro O H vs ds P Q al r q k
  unfold dStr at q
  split at q
  · obtain ⟨v, _, rfl, rfl, rfl⟩ := r
    exact ⟨_, rfl, q.1, kS k q.2⟩
  · exact q.elim
def dSum : DB
  | [.lst ds], P => ∃ ns : List Int, ds = ns.map .int ∧ P (.int ns.sum)
  | _, _ => False
theorem ab_sum : AbC K C (rSum K) dSum := by
  intro O H vs ds P Q al r q k
  unfold dSum at q
  split at q
  · obtain ⟨v, _, rfl, ⟨a, ws, rfl, e1, e2⟩, rfl⟩ := r
    obtain ⟨ns, rfl, q⟩ := q
    have e := RepL.of_ints e2
    subst e
    exact ⟨a, ns, rfl, SqL.of (wo_some e1), kI k q⟩
  · exact q.elim
def dMin2 : DB
  | [.int i, .int j], P => P (.int (min i j))
  | _, _ => False
def dMax2 : DB
  | [.int i, .int j], P => P (.int (max i j))
  | _, _ => False
theorem ab_min2 : AbC K C (fun xs H Q => ∃ i j, xs = [.int i, .int j] ∧ Q (.int (if j < i then j else i)) H) dMin2 := by
  intro O H vs ds P Q al r q k
  unfold dMin2 at q
  split at q
  · rename_i i j
    obtain ⟨v, _, rfl, rfl, v2, _, rfl, rfl, rfl⟩ := r
    have e : (if j < i then j else i) = min i j := by split <;> omega
    exact ⟨i, j, rfl, by rw [e]; exact kI k q⟩
  · exact q.elim
theorem ab_max2 : AbC K C (fun xs H Q => ∃ i j, xs = [.int i, .int j] ∧ Q (.int (if j > i then j else i)) H) dMax2 := by
  intro O H vs ds P Q al r q k
  unfold dMax2 at q
  split at q
  · rename_i i j
    obtain ⟨v, _, rfl, rfl, v2, _, rfl, rfl, rfl⟩ := r
    have e : (if j > i then j else i) = max i j := by split <;> omega
    exact ⟨i, j, rfl, by rw [e]; exact kI k q⟩
  · exact q.elim
def dAbs : DB
  | [.int i], P => P (.int (if i < 0 then -i else i))
  | _, _ => False
theorem ab_abs : AbC K C (fun xs H Q => ∃ i, xs = [.int i] ∧ Q (.int (if i < 0 then -i else i)) H) dAbs := by
  intro O H vs ds P Q al r q k
  unfold dAbs at q
  split at q
  · obtain ⟨v, _, rfl, rfl, rfl⟩ := r
    exact ⟨_, rfl, kI k q⟩
  · exact q.elim
def dAll : DB
  | [.lst ds], P => ∃ bs : List Bool, ds = bs.map .bl ∧ P (.bl (bs.all id))
  | _, _ => False
theorem ab_all : AbC K C (rAll K) dAll := by
  intro O H vs ds P Q al r q k
  unfold dAll at q
  split at q
  · obtain ⟨v, _, rfl, ⟨a, ws, rfl, e1, e2⟩, rfl⟩ := r
    obtain ⟨bs, rfl, q⟩ := q
    have e := RepL.of_bools e2
    subst e
    exact ⟨a, bs, rfl, SqL.of (wo_some e1), kB k q⟩
  · exact q.elim
def dSorted : DB
  | [.lst ds], P => ∃ ns : List Int, ds = ns.map .int ∧ ∀ ns' : List Int, ns'.Perm ns → ns'.Pairwise (· ≤ ·) → P (.lst (ns'.map .int))
  | _, _ => False
theorem ab_sorted : AbC K C (rSortedI K) dSorted := by
  intro O H vs ds P Q al r q k
  unfold dSorted at q
  split at q
  · obtain ⟨v, _, rfl, ⟨a, ws, rfl, e1, e2⟩, rfl⟩ := r
    obtain ⟨ns, rfl, q⟩ := q
    have e := RepL.of_ints e2
    subst e
    exact ⟨a, ns, rfl, SqL.of (wo_some e1), fun ns' p h1 h2 hp => k _ _ _ (Same.new hp) (rep_new_lst hp al (RepL.ints _ ns')) (q ns' h1 h2)⟩
  · exact q.elim
def dList : DB
  | [.lst ds], P => P (.lst ds)
  | [.tup ds], P => P (.lst ds)
  | _, _ => False
theorem ab_list : AbC K C (fun xs H Q => ∃ p ys, xs = [.ref p] ∧ (SqL K H p ys ∨ SqT K H p ys) ∧ ∀ l, H l = none → Q (.ref l) (upd H l (.lst ys))) dList := by
  intro O H vs ds P Q al r q k
  unfold dList at q
  split at q
  · obtain ⟨v, _, rfl, ⟨a, ws, rfl, e1, e2⟩, rfl⟩ := r
    exact ⟨a, ws, rfl, .inl (SqL.of (wo_some e1)), fun p hp => k _ _ _ (Same.new hp) (rep_new_lst hp al e2) q⟩
  · obtain ⟨v, _, rfl, ⟨a, ws, rfl, e1, e2⟩, rfl⟩ := r
    exact ⟨a, ws, rfl, .inr (SqT.of (wo_some e1)), fun p hp => k _ _ _ (Same.new hp) (rep_new_lst hp al e2) q⟩
  · exact q.elim

/-! ### raise -/
theorem sd_raise {e : Expr} {c : Addr} {pos2 : Pos} (hc : X.calm = true) (tk : Takes X (fun cls d _ H => E cls d H)) (he : PMk X e (fun _ H Q => Q (.ref c) none H)) : PS X (.Raise (some e) none pos2) (liftS X.K C E (dRaise c)) := (ps_raise hc tk he).wk fun D σ H q => by
  obtain ⟨B, O0, O, ρ, N, R, Z, k, q, hN, hR, hZ⟩ := q
  exact hZ c H k.base q
end

/-! ### a def's promise -/
/-- the context of a def's body -/
abbrev cxD (P : Program) (w : World) (K : PySem.W.Frag) (mg : Str → Option Value) (base : Heap) (N : List Str) (qual : Str) (scope : Scope) (f : Addr) (cd : Value) (A : Around) (outer : List PySem.Env) (s : Shared) (H : Hp) (E : XK) : Cx :=
  cxOf (L2.CX P w) P w K mg base N qual scope f cd A outer s H E
theorem px {P : Program} {w : World} {K : PySem.W.Frag} {mg : Str → Option Value} {base : Heap} {N : List Str} {qual : Str} {scope : Scope} {f : Addr} {cd : Value} {A : Around} {outer : List PySem.Env} {s : Shared} {H : Hp} {E : XK} :
    Passes (L2.CX P w) (cxD P w K mg base N qual scope f cd A outer s H E) E := passes_call (takes_of rfl rfl rfl rfl) fun _ _ _ _ h => h
theorem tkD {P : Program} {w : World} {K : PySem.W.Frag} {mg : Str → Option Value} {base : Heap} {N : List Str} {qual : Str} {scope : Scope} {f : Addr} {cd : Value} {A : Around} {outer : List PySem.Env} {s : Shared} {H : Hp} {E : XK} :
    Takes (cxD P w K mg base N qual scope f cd A outer s H E) (fun cls d _ H => E cls d H) := takes_of rfl rfl rfl rfl
theorem ownD {P : Program} {w : World} {K : PySem.W.Frag} {mg : Str → Option Value} {base : Heap} {N : List Str} {qual : Str} {scope : Scope} {f : Addr} {cd : Value} {A : Around} {outer : List PySem.Env} {s : Shared} {H : Hp} {E : XK} :
    PassesOwn (model P w) (cxD P w K mg base N qual scope f cd A outer s H E).A (cxD P w K mg base N qual scope f cd A outer s H E).env (cxD P w K mg base N qual scope f cd A outer s H E).xe := passes_of rfl
def startE (N : List Str) (ds : List D) : Env := ds.map (fun d => some (.v d)) ++ List.replicate (N.length - ds.length) none
theorem start_ok {K : PySem.W.Frag} {C : Addr} {H : Hp} {O : List Addr} {ds : List D} {vs : List V} (al : Al O H) (r : RepL K C (wo H O) ds vs) (N : List Str) : Ok K C H O O H (start N vs) (startE N ds) := by
  have hl := RepL.length r
  have noown : ∀ (i : Nat) (es : List D), (startE N ds)[i]? ≠ some (some (.own es)) := fun i es e => by
    unfold startE at e
    rw [List.getElem?_append] at e
    split at e
    · rw [List.getElem?_map] at e
      cases h : ds[i]? with
      | none => rw [h] at e; cases e
      | some d => rw [h] at e; simp at e
    · rw [List.getElem?_replicate] at e
      split at e
      · simp at e
      · cases e
  have nokst : ∀ (i : Nat) (p : Addr) (b : Bool) (ts : List Int), (startE N ds)[i]? ≠ some (some (.kst p b ts)) := fun i p b ts e => by
    unfold startE at e
    rw [List.getElem?_append] at e
    split at e
    · rw [List.getElem?_map] at e
      cases h : ds[i]? with
      | none => rw [h] at e; cases e
      | some d => rw [h] at e; simp at e
    · rw [List.getElem?_replicate] at e
      split at e
      · simp at e
      · cases e
  have nols : ∀ (i : Nat) (p : Addr) (es : List D), (startE N ds)[i]? ≠ some (some (.ls p es)) := fun i p es e => by
    unfold startE at e
    rw [List.getElem?_append] at e
    split at e
    · rw [List.getElem?_map] at e
      cases h : ds[i]? with
      | none => rw [h] at e; cases e
      | some d => rw [h] at e; simp at e
    · rw [List.getElem?_replicate] at e
      split at e
      · simp at e
      · cases e
  have notb : ∀ (i : Nat) (p : Addr) (q : Str), (startE N ds)[i]? ≠ some (some (.tb p q)) := fun i p q e => by
    unfold startE at e
    rw [List.getElem?_append] at e
    split at e
    · rw [List.getElem?_map] at e
      cases h : ds[i]? with
      | none => rw [h] at e; cases e
      | some d => rw [h] at e; simp at e
    · rw [List.getElem?_replicate] at e
      split at e
      · simp at e
      · cases e
  refine ⟨Same.refl H, al, al, fun _ h => h, fun a h n => absurd h n, ?_, fun i d e => ?_, fun i es e => absurd e (noown i es), fun i j es _ e => absurd e (noown i es), ⟨fun i p b ts e => absurd e (nokst i p b ts), fun i _ p b _ ts _ e => absurd e (nokst i p b ts)⟩, ⟨fun i p es e => absurd e (nols i p es), fun i _ p es _ e => absurd e (nols i p es), fun i _ p es _ e => absurd e (nols i p es)⟩, ⟨fun i p q e => absurd e (notb i p q), fun i _ p q _ e => absurd e (notb i p q)⟩⟩
  · unfold start startE
    rw [List.length_append, List.length_append, List.length_map, List.length_map, List.length_replicate, List.length_replicate, hl]
  · unfold startE at e
    unfold start
    rw [List.getElem?_append] at e
    split at e
    · rename_i hi
      rw [List.length_map] at hi
      rw [List.getElem?_map] at e
      cases h : ds[i]? with
      | none => rw [h] at e; cases e
      | some d' =>
        rw [h] at e
        have e' : d' = d := by simpa using e
        subst e'
        obtain ⟨v, h1, h2⟩ := RepL.get r h
        refine ⟨v, ?_, h2⟩
        rw [List.getElem?_append_left (by rw [List.length_map, hl]; exact hi), List.getElem?_map, h1]
        rfl
    · rw [List.getElem?_replicate] at e
      split at e
      · simp at e
      · cases e
/-- a def that keeps the promise t -/
structure Fc (P : Program) (w : World) (K : PySem.W.Frag) (mg : Str → Option Value) (base : Heap) (C : Addr) (k : Nat) (name : Str) (t : DP) : Prop where
  ex : ∃ (f : Addr) (fd : FuncData) (ps : List Str), FnOk P w K mg base (L2.CX P w) k f fd ps (spD K C t) ∧ mg name = some (.ref f) ∧ PySem.W.keepIn K (.ref f) = true ∧ Binds K fd ps []
section
variable {P : Program} {w : World} {K : PySem.W.Frag} {mg : Str → Option Value} {base : Heap} {C : Addr}
theorem fnD {x qual : Str} {st : Stmt} {f : Addr} {fd : FuncData} {N ps : List Str} {k : Nat} {t : DP} {p : DS} (F : Fun K x qual st f fd) (S : FnScope N ps (defScope st))
    (body : ∀ (cdv : Value) (A : Around) (outer : List PySem.Env) (s : Shared) (H : Hp) (E : XK), Room k (A.deeper (envOfC qual (defScope st) s.heap.objs.size f cdv)) → PSs (cxD P w K mg base N qual (defScope st) f cdv A outer s H E) (defBody st) (liftS K C E p))
    (h : ∀ (ds : List D) (T : D → Prop) (R : Addr → Prop), t ds T R → ds.length = ps.length ∧ p (startE N ds) (fun _ => T .non) T R) : FnOk P w K mg base (L2.CX P w) (k + 1) f fd ps (spD K C t) := by
  refine F.okX S (fun vs H Q E q => ?_) (fun cdv A outer s H vs Q E hr q => ⟨_, body cdv A outer s H E hr, ?_⟩)
  · obtain ⟨O, ds, T, R, al, r, q, _⟩ := q
    rw [RepL.length r]
    exact (h ds T R q).1
  · obtain ⟨O, ds, T, R, al, r, q, hT, hR⟩ := q
    exact ⟨H, O, O, startE N ds, _, T, R, start_ok al r N, (h ds T R q).2, fun σ' H' ρ' O' k' n => hT .non .non H' k'.base rfl n, hT, hR⟩
/-- a call of such a def -/
theorem pd_fn {X : Cx} {E : XK} {pos p : Pos} {a : Expr} {k : Nat} {x : Str} {es : List Expr} {t : DP} {q : DA} (F : Fc X.prog X.w X.K X.mg X.base C k x t) (hr : Room k X.A) (hg : Gl X x) (hx : Passes (L2.CX X.prog X.w) X E) (ha : PA X (a :: es) (liftA X.K C E q))
    (hdb : (x == ("__debug__" : Str)) = false := by decide) (he : starEach (a :: es) X.env = (false, eval a X.env) :: starEach es X.env := by rfl) (hpl : (backTo pos (starEach es X.env)).any (·.1) = false := by rfl) :
    PE X (.Call (.Name x p) (a :: es) [] pos) (lift X.K C E (dCall t q)) := by
  obtain ⟨f, fd, ps, G, hm, hk, hb⟩ := F.ex
  exact pd_call G hr hg hm hk hb hx ha hdb he hpl
end
end L2.DL
/-! # Data-level readings: the names that the generator prints -/
namespace L2.DL
open PySem PySem.Spec PyProof.Rows

/-- the built-in names that stand as they are -/
structure Nb (mg : Str → Option Value) : Prop where
  len : mg "len" = none
  isinstance : mg "isinstance" = none
  int : mg "int" = none
  bool : mg "bool" = none
  tuple : mg "tuple" = none
  str : mg "str" = none
  list : mg "list" = none
  set : mg "set" = none
  dict : mg "dict" = none
  sorted : mg "sorted" = none
  sum : mg "sum" = none
  min : mg "min" = none
  max : mg "max" = none
  abs : mg "abs" = none
  all : mg "all" = none
  enumerate : mg "enumerate" = none
  zip : mg "zip" = none
  reversed : mg "reversed" = none
  range : mg "range" = none
theorem bt_len : bootBuiltins "len" = some (.builtin "len") := by decide +kernel
theorem bt_isinstance : bootBuiltins "isinstance" = some (.builtin "isinstance") := by decide +kernel
theorem bt_sorted : bootBuiltins "sorted" = some (.builtin "sorted") := by decide +kernel
theorem bt_sum : bootBuiltins "sum" = some (.builtin "sum") := by decide +kernel
theorem bt_min : bootBuiltins "min" = some (.builtin "min") := by decide +kernel
theorem bt_max : bootBuiltins "max" = some (.builtin "max") := by decide +kernel
theorem bt_abs : bootBuiltins "abs" = some (.builtin "abs") := by decide +kernel
theorem bt_all : bootBuiltins "all" = some (.builtin "all") := by decide +kernel
theorem bt_int : bootBuiltins "int" = some (.type "int") := by decide +kernel
theorem bt_bool : bootBuiltins "bool" = some (.type "bool") := by decide +kernel
theorem bt_tuple : bootBuiltins "tuple" = some (.type "tuple") := by decide +kernel
theorem bt_str : bootBuiltins "str" = some (.type "str") := by decide +kernel
theorem bt_list : bootBuiltins "list" = some (.type "list") := by decide +kernel

section
variable {X : Cx} {C : Addr} {E : XK} {pos : Pos} {a : Expr} {es : List Expr} {q : DA} {p : Pos}
theorem pd_len (nb : X.mg "len" = none) (ha : PA X (a :: es) (liftA X.K C E q)) (hg : Gl X "len" := by rfl) (he : starEach (a :: es) X.env = (false, eval a X.env) :: starEach es X.env := by rfl) (hpl : (backTo pos (starEach es X.env)).any (·.1) = false := by rfl) : PE X (.Call (.Name "len" p) (a :: es) [] pos) (lift X.K C E (dBi dLen q)) :=
  pd_bi call_len ab_len hg nb bt_len ha (by decide) (by decide) he hpl
theorem pd_isi (nb : X.mg "isinstance" = none) (ha : PA X (a :: es) (liftA X.K C E q)) (hg : Gl X "isinstance" := by rfl) (he : starEach (a :: es) X.env = (false, eval a X.env) :: starEach es X.env := by rfl) (hpl : (backTo pos (starEach es X.env)).any (·.1) = false := by rfl) : PE X (.Call (.Name "isinstance" p) (a :: es) [] pos) (lift X.K C E (dBi dIsi q)) :=
  pd_bi call_isi ab_isi hg nb bt_isinstance ha (by decide) (by decide) he hpl
theorem pd_int1 (nb : X.mg "int" = none) (ha : PA X (a :: es) (liftA X.K C E q)) (hg : Gl X "int" := by rfl) (he : starEach (a :: es) X.env = (false, eval a X.env) :: starEach es X.env := by rfl) (hpl : (backTo pos (starEach es X.env)).any (·.1) = false := by rfl) : PE X (.Call (.Name "int" p) (a :: es) [] pos) (lift X.K C E (dBi dInt q)) :=
  pd_bt call_int1 ab_int hg nb bt_int ha (by decide) (by decide) he hpl
theorem pd_str1 (nb : X.mg "str" = none) (ha : PA X (a :: es) (liftA X.K C E q)) (hg : Gl X "str" := by rfl) (he : starEach (a :: es) X.env = (false, eval a X.env) :: starEach es X.env := by rfl) (hpl : (backTo pos (starEach es X.env)).any (·.1) = false := by rfl) : PE X (.Call (.Name "str" p) (a :: es) [] pos) (lift X.K C E (dBi dStr q)) :=
  pd_bt call_str_int ab_str hg nb bt_str ha (by decide) (by decide) he hpl
theorem pd_sum (nb : X.mg "sum" = none) (ha : PA X (a :: es) (liftA X.K C E q)) (hc : X.calm = true := by rfl) (hg : Gl X "sum" := by rfl) (he : starEach (a :: es) X.env = (false, eval a X.env) :: starEach es X.env := by rfl) (hpl : (backTo pos (starEach es X.env)).any (·.1) = false := by rfl) : PE X (.Call (.Name "sum" p) (a :: es) [] pos) (lift X.K C E (dBi dSum q)) :=
  pd_bi (cr_sum hc) ab_sum hg nb bt_sum ha (by decide) (by decide) he hpl
theorem pd_min2 (nb : X.mg "min" = none) (ha : PA X (a :: es) (liftA X.K C E q)) (hc : X.calm = true := by rfl) (hg : Gl X "min" := by rfl) (he : starEach (a :: es) X.env = (false, eval a X.env) :: starEach es X.env := by rfl) (hpl : (backTo pos (starEach es X.env)).any (·.1) = false := by rfl) : PE X (.Call (.Name "min" p) (a :: es) [] pos) (lift X.K C E (dBi dMin2 q)) :=
  pd_bi (call_min2 hc) ab_min2 hg nb bt_min ha (by decide) (by decide) he hpl
theorem pd_max2 (nb : X.mg "max" = none) (ha : PA X (a :: es) (liftA X.K C E q)) (hc : X.calm = true := by rfl) (hg : Gl X "max" := by rfl) (he : starEach (a :: es) X.env = (false, eval a X.env) :: starEach es X.env := by rfl) (hpl : (backTo pos (starEach es X.env)).any (·.1) = false := by rfl) : PE X (.Call (.Name "max" p) (a :: es) [] pos) (lift X.K C E (dBi dMax2 q)) :=
  pd_bi (call_max2 hc) ab_max2 hg nb bt_max ha (by decide) (by decide) he hpl
theorem pd_abs (nb : X.mg "abs" = none) (ha : PA X (a :: es) (liftA X.K C E q)) (hg : Gl X "abs" := by rfl) (he : starEach (a :: es) X.env = (false, eval a X.env) :: starEach es X.env := by rfl) (hpl : (backTo pos (starEach es X.env)).any (·.1) = false := by rfl) : PE X (.Call (.Name "abs" p) (a :: es) [] pos) (lift X.K C E (dBi dAbs q)) :=
  pd_bi call_abs ab_abs hg nb bt_abs ha (by decide) (by decide) he hpl
theorem pd_all (nb : X.mg "all" = none) (ha : PA X (a :: es) (liftA X.K C E q)) (hc : X.calm = true := by rfl) (hg : Gl X "all" := by rfl) (he : starEach (a :: es) X.env = (false, eval a X.env) :: starEach es X.env := by rfl) (hpl : (backTo pos (starEach es X.env)).any (·.1) = false := by rfl) : PE X (.Call (.Name "all" p) (a :: es) [] pos) (lift X.K C E (dBi dAll q)) :=
  pd_bi (cr_all hc) ab_all hg nb bt_all ha (by decide) (by decide) he hpl
theorem pd_sorted (nb : X.mg "sorted" = none) (ha : PA X (a :: es) (liftA X.K C E q)) (hg : Gl X "sorted" := by rfl) (he : starEach (a :: es) X.env = (false, eval a X.env) :: starEach es X.env := by rfl) (hpl : (backTo pos (starEach es X.env)).any (·.1) = false := by rfl) : PE X (.Call (.Name "sorted" p) (a :: es) [] pos) (lift X.K C E (dBi dSorted q)) :=
  pd_bi cr_sortedI ab_sorted hg nb bt_sorted ha (by decide) (by decide) he hpl
theorem pd_list (nb : X.mg "list" = none) (ha : PA X (a :: es) (liftA X.K C E q)) (hg : Gl X "list" := by rfl) (he : starEach (a :: es) X.env = (false, eval a X.env) :: starEach es X.env := by rfl) (hpl : (backTo pos (starEach es X.env)).any (·.1) = false := by rfl) : PE X (.Call (.Name "list" p) (a :: es) [] pos) (lift X.K C E (dBi dList q)) :=
  pd_bt call_list_of ab_list hg nb bt_list ha (by decide) (by decide) he hpl
end
theorem hu65 {A : Around} {k : Nat} (hr : Room k A) : A.units + 65 < cLine := by have := hr.un; omega

/-! ### own exceptions -/
structure Exn (K : PySem.W.Frag) (mg : Str → Option Value) (x : Str) (c : Addr) : Prop where
  q : PySem.W.excIn K c [.type "ValueError", .type "Exception", .type "BaseException", .type "object"] "ValueError.__new__" = true
  g : mg x = some (.ref c)
  k : PySem.W.keepIn K (.ref c) = true
  b : PySem.W.subIn K (.ref c) (.type "BaseException") = some true
  t : PySem.W.typeIn K (.ref c) = some (.type "type")
theorem pmk_exc {X : Cx} {x m : Str} {j : Nat} {p p2 pos : Pos} {c : Addr} (e : Exn X.K X.mg x c) (hg : Gl X x) (hdb : (x == ("__debug__" : Str)) = false := by decide) : PMk X (.Call (.Name x p) [.Constant (.str m) j p2] [] pos) (fun _ H Q => Q (.ref c) none H) :=
  pmk_own PySem.F.excBase_ValueError e.q e.g e.k (raises_own e.b e.t) hg hdb

/-! ### the class Keeper -/
structure Kp (K : PySem.W.Frag) (mg : Str → Option Value) (C : Addr) : Prop where
  cl : Cls K C
  nB : NoAttr K C "begins"
  nT : NoAttr K C "turns"
  g : mg "Keeper" = some (.ref C)
theorem ne_bt : ¬ (("turns" : Str) = "begins") := by decide +kernel
theorem ne_bt' : ¬ (("begins" : Str) = "turns") := by decide +kernel
theorem kf_begins (b : Bool) (l : Addr) : (kf b l).lookup ("begins" : Str) = some (.bl b) := by
  unfold kf
  rw [List.lookup_cons, show (("begins" : Str) == "begins") = true from beq_self_eq_true _]
theorem kf_turns (b : Bool) (l : Addr) : (kf b l).lookup ("turns" : Str) = some (.ref l) := by
  unfold kf
  rw [List.lookup_cons, show (("turns" : Str) == "begins") = false from beq_eq_false_iff_ne.mpr ne_bt]
  show List.lookup ("turns" : Str) [(("turns" : Str), V.ref l)] = _
  rw [List.lookup_cons, show (("turns" : Str) == "turns") = true from beq_self_eq_true _]
theorem kf_no (b : Bool) (l : Addr) {m : Str} (h1 : ¬ m = "begins") (h2 : ¬ m = "turns") : (kf b l).lookup m = none := by
  unfold kf
  rw [List.lookup_cons, show (m == "begins") = false from beq_eq_false_iff_ne.mpr h1]
  show List.lookup m [(("turns" : Str), V.ref l)] = _
  rw [List.lookup_cons, show (m == "turns") = false from beq_eq_false_iff_ne.mpr h2]
  rfl
section
variable {X : Cx} {C : Addr} {E : XK} {pos : Pos} {a : Expr}
def dBegins (p : DE) : DE := fun ρ P R => p ρ (fun d => match d with | .kp b _ => P (.bl b) | _ => False) R
def dTurns (p : DE) : DE := fun ρ P R => p ρ (fun d => match d with | .kp _ ts => P (.lst (ts.map .int)) | _ => False) R
theorem pd_attr_begins {p : DE} (T : Kp X.K X.mg C) (he : PE X a (lift X.K C E p)) (hb : attributeBase a "begins" X.env (eval a X.env) = eval a X.env := by rfl) : PE X (.Attribute a "begins" pos) (lift X.K C E (dBegins p)) := (pe_fld he hb).wk fun σ H Q q => by
  obtain ⟨B, O0, O, ρ, P, R, k, q, hP, hR⟩ := q
  refine ⟨B, O0, O, ρ, _, R, k, q, fun x d H1 s1 r1 q1 => ?_, hR⟩
  cases d with
  | kp b ts =>
    obtain ⟨y, dx, l, rfl, e1, e2⟩ := r1
    exact ⟨y, C, dx, _, _, rfl, wo_some e1, T.cl, T.nB, kf_begins b l, hP (.bl b) (.bl b) H1 s1 rfl q1⟩
  | _ => exact q1.elim
theorem pd_attr_turns {p : DE} (T : Kp X.K X.mg C) (he : PE X a (lift X.K C E p)) (hb : attributeBase a "turns" X.env (eval a X.env) = eval a X.env := by rfl) : PE X (.Attribute a "turns" pos) (lift X.K C E (dTurns p)) := (pe_fld he hb).wk fun σ H Q q => by
  obtain ⟨B, O0, O, ρ, P, R, k, q, hP, hR⟩ := q
  refine ⟨B, O0, O, ρ, _, R, k, q, fun x d H1 s1 r1 q1 => ?_, hR⟩
  cases d with
  | kp b ts =>
    obtain ⟨y, dx, l, rfl, e1, e2⟩ := r1
    exact ⟨y, C, dx, _, _, rfl, wo_some e1, T.cl, T.nT, kf_turns b l, hP (.ref l) (.lst (ts.map .int)) H1 s1 ⟨l, _, rfl, e2, RepL.ints _ ts⟩ q1⟩
  | _ => exact q1.elim
/-- a method of Keeper that keeps the promise t -/
structure Mc (P : Program) (w : World) (K : PySem.W.Frag) (mg : Str → Option Value) (base : Heap) (C : Addr) (k : Nat) (m : Str) (t : DP) : Prop where
  ex : ∃ (f : Addr) (fd : FuncData) (ps : List Str), FnOk P w K mg base (L2.CX P w) k f fd ps (spD K C t) ∧ Meth K C m f ∧ Binds K fd ps []
def D.isKp : D → Prop
  | .kp _ _ => True
  | _ => False
def dMeth (t : DP) (p : DE) (q : DA) : DE := fun ρ P R => p ρ (fun d => d.isKp ∧ q ρ (fun ds => t (d :: ds) P R) R) R
def dMeth0 (t : DP) (p : DE) : DE := fun ρ P R => p ρ (fun d => d.isKp ∧ t [d] P R) R
theorem pd_mt {apos : Pos} {m : Str} {k : Nat} {o e : Expr} {es : List Expr} {t : DP} {p : DE} {q : DA} (T : Kp X.K X.mg C) (M : Mc X.prog X.w X.K X.mg X.base C k m t) (hr : Room k X.A) (hx : Passes (L2.CX X.prog X.w) X E) (ho : PE X o (lift X.K C E p)) (ha : PA X (e :: es) (liftA X.K C E q))
    (hm1 : ¬ m = "begins" := by decide) (hm2 : ¬ m = "turns" := by decide)
    (hst : starEach (e :: es) X.env = (false, eval e X.env) :: starEach es X.env := by rfl) (hpl : (backTo pos (starEach es X.env)).any (·.1) = false := by rfl) {pl : Sem Bool}
    (ht : eval (.Call (.Attribute o m apos) (e :: es) [] pos) X.env = (do
      let ov ← eval o X.env
      standAt apos.atName
      let (f, first) ← holding [ov] (getMethod ov m pl)
      callWith pos f first (backTo pos (starEach (e :: es) X.env)) (backToKw pos (keywordEach [] X.env))) := by rfl) :
    PE X (.Call (.Attribute o m apos) (e :: es) [] pos) (lift X.K C E (dMeth t p q)) := by
  obtain ⟨f, fd, ps, G, hm, hb⟩ := M.ex
  refine (pe_meth ho T.cl hm G hr hb .nil hx ha hst hpl ht).wk fun σ H Q q => ?_
  obtain ⟨B, O0, O, ρ, P, R, k, q, hP, hR⟩ := q
  refine ⟨B, O0, O, ρ, _, R, k, q, fun x d H1 s1 r1 q1 => ?_, hR⟩
  cases d with
  | kp b ts =>
    obtain ⟨y, dx, l, rfl, e1, e2⟩ := r1
    refine ⟨y, dx, _, rfl, wo_some e1, kf_no b l hm1 hm2, B, O0, O, ρ, _, R, k.ext s1, q1.2, fun vs ds H2 s2 r2 q2 => ?_, fun c H' s' z => hR c H' (s1.trans s') z⟩
    show spD X.K C t (V.ref y :: (vs ++ [])) H2 Q E
    rw [List.append_nil]
    exact ⟨O, .kp b ts :: ds, P, R, (k.al.mono s1).mono s2, ⟨.ref y, vs, rfl, Rep.mono (wo_same O s2) (.kp b ts) ⟨y, dx, l, rfl, e1, e2⟩, r2⟩, q2, fun v d H3 s3 r3 p3 => hP v d H3 ((s1.trans s2).trans s3) r3 p3, fun c H' s' z => hR c H' ((s1.trans s2).trans s') z⟩
  | _ => exact q1.1.elim
theorem pd_mt0 {apos : Pos} {m : Str} {k : Nat} {o : Expr} {t : DP} {p : DE} (T : Kp X.K X.mg C) (M : Mc X.prog X.w X.K X.mg X.base C k m t) (hr : Room k X.A) (hx : Passes (L2.CX X.prog X.w) X E) (ho : PE X o (lift X.K C E p))
    (hm1 : ¬ m = "begins" := by decide) (hm2 : ¬ m = "turns" := by decide) {pl : Sem Bool}
    (ht : eval (.Call (.Attribute o m apos) [] [] pos) X.env = (do
      let ov ← eval o X.env
      standAt apos.atName
      let (f, first) ← holding [ov] (getMethod ov m pl)
      callWith pos f first (backTo pos (starEach [] X.env)) (backToKw pos (keywordEach [] X.env))) := by rfl) :
    PE X (.Call (.Attribute o m apos) [] [] pos) (lift X.K C E (dMeth0 t p)) := by
  obtain ⟨f, fd, ps, G, hm, hb⟩ := M.ex
  refine (pe_meth0 ho T.cl hm G hr hb .nil hx ht).wk fun σ H Q q => ?_
  obtain ⟨B, O0, O, ρ, P, R, k, q, hP, hR⟩ := q
  refine ⟨B, O0, O, ρ, _, R, k, q, fun x d H1 s1 r1 q1 => ?_, hR⟩
  cases d with
  | kp b ts =>
    obtain ⟨y, dx, l, rfl, e1, e2⟩ := r1
    refine ⟨y, dx, _, rfl, wo_some e1, kf_no b l hm1 hm2, ?_⟩
    exact ⟨O, [.kp b ts], P, R, k.al.mono s1, ⟨.ref y, [], rfl, ⟨y, dx, l, rfl, e1, e2⟩, rfl⟩, q1.2, fun v d H3 s3 r3 p3 => hP v d H3 (s1.trans s3) r3 p3, fun c H' s' z => hR c H' (s1.trans s') z⟩
  | _ => exact q1.1.elim

/-! ### dicts written with texts as keys -/
def keyD : D → Option Key
  | .int i => some (.inl i)
  | .str s => some (.inr s)
  | _ => none
abbrev DPs := List (DE × DE)
def dPairs : DPs → Env → (List (D × D) → Prop) → (Addr → Prop) → Prop
  | [], _, P, _ => P []
  | (k, v) :: r, ρ, P, R => k ρ (fun x => v ρ (fun y => dPairs r ρ (fun ps => P ((x, y) :: ps)) R) R) R
theorem ppd_nil : PPs X pos [] [] (([] : DPs).map fun t => (lift X.K C E t.1, lift X.K C E t.2)) := pps_nil
theorem ppd_cons {k v : Expr} {ks : List (Option Expr)} {vs : List Expr} {tk tv : DE} {trs : DPs} (hk : PE X k (lift X.K C E tk)) (hv : PE X v (lift X.K C E tv)) (hr : PPs X pos ks vs (trs.map fun t => (lift X.K C E t.1, lift X.K C E t.2))) :
    PPs X pos (some k :: ks) (v :: vs) (((tk, tv) :: trs).map fun t => (lift X.K C E t.1, lift X.K C E t.2)) := pps_cons hk hv hr
theorem lift_pairs {K : PySem.W.Frag} {B : Hp} {O0 O : List Addr} {σ : St} {ρ : Env} {R : Addr → Prop} : ∀ (trs : DPs) (H : Hp) (P : List (D × D) → Prop) (Q : List (V × V) → Hp → Prop), Ok K C B O0 O H σ ρ → dPairs trs ρ P R →
    (∀ vs ds H', Same H H' → RepL K C (wo H' O) (ds.map (·.1)) (vs.map (·.1)) → RepL K C (wo H' O) (ds.map (·.2)) (vs.map (·.2)) → P ds → Q vs H') → (∀ c H', Same H H' → R c → E (.ref c) none H') →
    tPairs (trs.map fun t => (lift K C E t.1, lift K C E t.2)) σ H Q
  | [], H, P, Q, k, q, h, _ => h [] [] H (Same.refl H) rfl rfl q
  | (tk, tv) :: trs, H, P, Q, k, q, h, hR => by
    refine ⟨B, O0, O, ρ, _, R, k, q, fun x dx H1 s1 r1 q1 => ⟨B, O0, O, ρ, _, R, k.ext s1, q1, fun y dy H2 s2 r2 q2 => ?_, fun c H' s' z => hR c H' (s1.trans s') z⟩, hR⟩
    refine lift_pairs trs H2 _ _ ((k.ext s1).ext s2) q2 (fun vs ds H3 s3 a b p3 => ?_) (fun c H' s' z => hR c H' ((s1.trans s2).trans s') z)
    exact h ((x, y) :: vs) ((dx, dy) :: ds) H3 ((s1.trans s2).trans s3) ⟨x, _, rfl, Rep.mono (wo_same O (s2.trans s3)) dx r1, a⟩ ⟨y, _, rfl, Rep.mono (wo_same O s3) dy r2, b⟩ p3
def dDisp (trs : DPs) : DE := fun ρ P R => dPairs trs ρ (fun ps => ∃ ks : List Key, ps.map (fun t => keyD t.1) = ks.map some ∧ ks.Nodup ∧ ks.length ≤ 15 ∧ P (.dic ks (ps.map (·.2)))) R
theorem putK_new {kvs : List (Key × V)} {k : Key} {v : V} (h : k ∉ kvs.map (·.1)) : putK kvs k v = kvs ++ [(k, v)] := by
  unfold putK
  rw [if_neg]
  intro z
  obtain ⟨p, hp, e⟩ := List.any_eq_true.mp z
  exact h (List.mem_map.mpr ⟨p, hp, of_decide_eq_true e⟩)
theorem merge_nodup : ∀ (more kvs : List (Key × V)), ((kvs ++ more).map (·.1)).Nodup → mergeK kvs more = kvs ++ more
  | [], kvs, _ => by
    show kvs = kvs ++ []
    rw [List.append_nil]
  | p :: r, kvs, h => by
    show mergeK (putK kvs p.1 p.2) r = _
    have hn : p.1 ∉ kvs.map (·.1) := by
      rw [List.map_append, List.map_cons] at h
      have := List.nodup_append.mp h
      exact fun z => this.2.2 _ z _ List.mem_cons_self rfl
    rw [putK_new hn, merge_nodup r (kvs ++ [(p.1, p.2)]) (by rw [List.append_assoc]; exact h), List.append_assoc]
    rfl
theorem keyD_rep {K : PySem.W.Frag} {H : Hp} {d : D} {v : V} {k : Key} (h : keyD d = some k) (r : Rep K C H d v) : v = kV k := by
  cases d with
  | int i => cases h; exact r
  | str s => cases h; exact r
  | _ => cases h
theorem keys_rep {K : PySem.W.Frag} {H : Hp} : ∀ {ps : List (D × D)} {vs : List (V × V)} {ks : List Key}, ps.map (fun t => keyD t.1) = ks.map some → RepL K C H (ps.map (·.1)) (vs.map (·.1)) → vs = (ks.zip (vs.map (·.2))).map (fun kv => (kV kv.1, kv.2))
  | [], vs, ks, h, r => by
    have e : vs.map (·.1) = [] := r
    have e' : vs = [] := List.map_eq_nil_iff.mp e
    subst e'
    cases ks with
    | nil => rfl
    | cons _ _ => cases h
  | p :: ps, [], ks, h, r => by
    obtain ⟨_, _, e, _⟩ := r
    cases e
  | p :: ps, v :: vs, [], h, r => by cases h
  | p :: ps, v :: vs, k :: ks, h, r => by
    obtain ⟨x, w', e, r1, r2⟩ := r
    rw [List.map_cons, List.map_cons] at h
    injection h with h1 h2
    rw [List.map_cons] at e
    injection e with e1 e2
    subst e2
    have ih := keys_rep h2 r2
    have ex : v.1 = kV k := by
      rw [e1]
      exact keyD_rep h1 r1
    show v :: vs = (kV k, v.2) :: (ks.zip (vs.map (·.2))).map (fun kv => (kV kv.1, kv.2))
    rw [← ih, ← ex]
theorem pd_disp {keys : List (Option Expr)} {values : List Expr} {trs : DPs} (h : PPs X pos keys values (trs.map fun t => (lift X.K C E t.1, lift X.K C E t.2))) (hall : keys.all (·.isSome) = true := by rfl) (hl : keys.length = values.length := by rfl) (h0 : keys ≠ [] := by intro z; cases z)
    (h15 : keys.length ≤ 15 := by decide) : PE X (.Dict keys values pos) (lift X.K C E (dDisp trs)) := (pe_disp h hall hl h0 h15).wk fun σ H Q q => by
  obtain ⟨B, O0, O, ρ, P, R, k, q, hP, hR⟩ := q
  intro p hp
  have sp : Same H (upd H p (.dK [])) := Same.new hp
  refine lift_pairs trs (upd H p (.dK [])) _ _ (k.apart hp) q (fun vs ds H2 s2 r1 r2 q2 => ?_) (fun c H' s' z => hR c H' (sp.trans s') z)
  obtain ⟨ks, e1, e2, e3, q3⟩ := q2
  have hp2 : H2 p = some (.dK []) := s2 _ _ upd_same
  have lk : ks.length = ds.length := by
    have := congrArg List.length e1
    simpa using this.symm
  have lv : vs.length = ds.length := by
    have := RepL.length r1
    simpa using this
  refine ⟨hp2, ks.zip (vs.map (·.2)), keys_rep e1 r1, by rw [List.length_zip]; omega, ?_⟩
  have hm : mergeK [] (ks.zip (vs.map (·.2))) = ks.zip (vs.map (·.2)) := by
    rw [merge_nodup _ [] (by rw [List.nil_append, List.map_fst_zip (by rw [List.length_map]; omega)]; exact e2), List.nil_append]
  rw [hm]
  have sall : Same H (upd H2 p (.dK (ks.zip (vs.map (·.2))))) := fun b o e => by
    rw [upd_ne (ne_of_none e hp)]
    exact s2 _ _ (sp _ _ e)
  refine hP (.ref p) (.dic ks (ds.map (·.2))) _ sall ⟨p, vs.map (·.2), rfl, wo_of upd_same (k.al.new hp), ?_, by rw [List.length_map]; exact lk⟩ q3
  refine RepL.mono (fun b o e => ?_) _ r2
  have hb : H2 b = some o := wo_some e
  have nb : b ≠ p := fun z => by
    unfold wo at e
    rw [if_pos (by simp [z])] at e
    cases e
  have nO : b ∉ O := fun z => by
    unfold wo at e
    rw [if_pos (by simp [z])] at e
    cases e
  exact wo_of (by rw [upd_ne nb]; exact hb) nO
def valD : List Key → List D → Key → Option D
  | k :: ks, d :: ds, j => if k = j then some d else valD ks ds j
  | _, _, _ => none
theorem valD_rep {K : PySem.W.Frag} {H : Hp} : ∀ {ks : List Key} {ds : List D} {vs : List V} {j : Key} {d : D}, RepL K C H ds vs → valD ks ds j = some d → ∃ v, valV (ks.zip vs) j = some v ∧ Rep K C H d v
  | [], _, _, _, _, _, h => by simp [valD] at h
  | k :: ks, [], _, _, _, _, h => by simp [valD] at h
  | k :: ks, e :: ds, vs, j, d, r, h => by
    obtain ⟨v, w', rfl, r1, r2⟩ := r
    unfold valD at h
    show ∃ v', valV ((k, v) :: ks.zip w') j = some v' ∧ _
    split at h
    · rename_i hk
      have e' : e = d := Option.some.inj h
      subst e'
      exact ⟨v, valV_pos hk, r1⟩
    · rename_i hk
      rw [valV_neg hk]
      exact valD_rep r2 h
def dGetD (p q : DE) : DE := fun ρ P R => p ρ (fun x => q ρ (fun y => match x with
  | .dic ks ds => ∃ k d, keyD y = some k ∧ valD ks ds k = some d ∧ P d
  | _ => False) R) R
theorem pd_dget {o i : Expr} {p q : DE} (hu : X.A.units + 1 < cLine) (ho : PE X o (lift X.K C E p)) (hi : PE X i (lift X.K C E q)) (hs : NoSl i := by exact fun _ _ => rfl) : PE X (.Subscript o i pos) (lift X.K C E (dGetD p q)) := (pe_dget hu ho hi hs).wk fun σ H Q q => by
  obtain ⟨B, O0, O, ρ, P, R, k, q, hP, hR⟩ := q
  refine ⟨B, O0, O, ρ, _, R, k, q, fun x dx H1 s1 r1 q1 => ⟨B, O0, O, ρ, _, R, k.ext s1, q1, fun y dy H2 s2 r2 q2 => ?_, fun c H' s' z => hR c H' (s1.trans s') z⟩, hR⟩
  cases dx with
  | dic ks ds =>
    obtain ⟨k', d, e1, e2, q3⟩ := q2
    obtain ⟨a, vs, rfl, h1, h2, _⟩ := Rep.mono (wo_same O s2) _ r1
    obtain ⟨v, h3, h4⟩ := valD_rep h2 e2
    refine ⟨a, v, rfl, ?_, hP v d H2 (s1.trans s2) h4 q3⟩
    rw [keyD_rep e1 r2, ← h3]
    exact DGet.k (wo_some h1)
  | _ => exact q2.elim
end
end L2.DL
/-! # sorted(set(xs)) of a list of whole numbers (turned from the layer's own set of a tuple: any list, the bound on its different items alone) -/
namespace L2.DL
open PySem PySem.Spec PyProof.Rows
section
variable {P : Program} {w : World} {A : Around} {E : Value → Shared → Prop} {s : Shared}
theorem nodup_few : ∀ {l U : List Int}, l.Nodup → (∀ k ∈ l, k ∈ U) → l.length ≤ U.length
  | [], _, _, _ => Nat.zero_le _
  | a :: l, U, h, hs => by
    have h' := List.nodup_cons.mp h
    have ha := hs a List.mem_cons_self
    have ih := nodup_few (l := l) (U := U.erase a) h'.2 fun k hk => (List.mem_erase_of_ne fun e => h'.1 (by rw [← e]; exact hk)).mpr (hs k (List.mem_cons_of_mem _ hk))
    have e := List.length_erase_of_mem ha
    have := List.length_pos_of_mem ha
    rw [List.length_cons]
    omega
/-- the set's members are among U, each once: it has no more than U -/
theorem setR_few {h : Heap} {a : Addr} {S : Int → Bool} {n : Nat} (R : SetR w h a S n) {U : List Int} (hU : ∀ k, S k = true → k ∈ U) : n ≤ U.length := by
  obtain ⟨o, es, ep, t, _, _, _, _, nd, hm, _, _, hn, _, _⟩ := R
  have := nodup_few nd (U := U) (fun k hk => hU k ((hm k).mpr hk))
  rw [List.length_map, Array.length_toList] at this
  omega
theorem set_upd_list {I : Addr} {fp wr : List Addr} {G : Array GenState → Array GenState → Prop} {n : Nat} {Pv : Nat → Value → Prop} {St : Nat → Shared → Prop} {R : Result → Shared → Prop}
    (W : WalksS P w A.in1 I fp wr G n Pv St) (S : Addr) (hSf : S ∉ fp) (ns U : List Int) (hn : n = ns.length) (hU : ∀ k ∈ ns, k ∈ U) (hb : U.length + 1 < scanBound) (hval : ∀ i v, Pv i v → ∃ k t, ns[i]? = some k ∧ v = .int k t) :
    ∀ (k i : Nat) (s : Shared), n - i = k → i ≤ n → St i s → (∃ c, SetR w s.heap S (fun j => decide (j ∈ ns.take i)) c) →
      (∀ s' c, Moved (S :: wr) G s s' → SetR w s'.heap S (fun j => decide (j ∈ ns)) c → R (.ok (.ret .none)) s') →
      codeAny (model P w) A (.builtin "set.update.loop" ⟨[.ref S, .ref I], []⟩) R s := by
  have hSw : S ∉ wr := fun h => hSf (W.sub _ h)
  have hsub : ∀ b ∈ wr, b ∈ S :: wr := fun b hb => List.mem_cons_of_mem _ hb
  intro k
  induction k with
  | zero =>
    rintro i s hk' hi hst ⟨c, hS⟩ hR
    have hin : i = n := by omega
    subst hin
    refine codeAny_builtin F.entry_set_update_loop ?_
    rw [Around.under_plainId F.plain_set_update_loop _]
    show wpAny _ A.in1 (pyNext (.ref I) >>= _) _ _ s
    refine wpAny_bind (W.done s _ _ hst fun s' hm => ?_)
    rw [List.take_of_length_le (by omega)] at hS
    exact wpAny_pure (hR s' c (hm.mono hsub) (hS.at fun o e => hm.heap S o hSw e))
  | succ k ih =>
    rintro i s hk' hi hst ⟨c, hS⟩ hR
    have hlt : i < n := by omega
    refine codeAny_builtin F.entry_set_update_loop ?_
    rw [Around.under_plainId F.plain_set_update_loop _]
    show wpAny _ A.in1 (pyNext (.ref I) >>= _) _ _ s
    refine wpAny_bind (W.item i s _ _ hlt hst fun v s' hP hst' hm => ?_)
    obtain ⟨z, t, hz, rfl⟩ := hval i v hP
    have hS' : SetR w s'.heap S (fun j => decide (j ∈ ns.take i)) c := hS.at fun o e => hm.heap S o hSw e
    have hfew := setR_few hS' (U := U) fun k hk => hU k (List.mem_of_mem_take (of_decide_eq_true hk))
    show wpAny _ A.in1 (holding [Value.int z t] (setAdd S (.int z t)) >>= _) _ _ s'
    refine wpAny_bind (wpAny_holding ?_)
    unfold setAdd
    refine wpAny_holding (wpAny_bind ((intKind P w).pyHash (k := z) (intKind_is _ _ _ _) ?_))
    refine setR_add_hashed (s := { s' with toks := s'.toks + 1 }) hS' (by omega) fun h' hsb hS2 => ?_
    have hS3 := hS2.congr (S' := fun j => decide (j ∈ ns.take (i + 1))) fun j => by
      rw [List.take_add_one, hz]
      simp [List.mem_append]
    refine wpAny_pure ⟨plainId_quiet F.plain_set_update_loop _, ih (i + 1) _ (by omega) hlt (W.frame _ s' _ _ hst' (Nat.le_succ _) fun b hb o e => ?_) ⟨_, hS3⟩ fun s'' c2 hm'' hS'' => ?_⟩
    · exact (hsb.2 b fun h : b = S => hSf (h ▸ hb)).trans e
    · refine hR s'' c2 (Moved.trans W.gtrans ((hm.mono hsub).then_heap (Nat.le_succ _) fun b o hb e => ?_) hm'') hS''
      exact (hsb.2 b fun h : b = S => hb (h ▸ List.mem_cons_self)).trans e

set_option maxRecDepth 100000 in
set_option maxHeartbeats 3200000 in
theorem call_set_list {l : Addr} {items : Array Value} (ns U : List Int) {Q : Value → Shared → Prop} (hh : A.handled = none) (hl : s.heap.IsList l items) (hit : IntsAre items.toList ns) (hU : ∀ k ∈ ns, k ∈ U) (hb : U.length + 1 < scanBound)
    (h : ∀ (h' : Heap) (tk c : Nat), SetR w h' s.heap.objs.size (fun j => decide (j ∈ ns)) c → (∀ b o, s.heap.get? b = some o → h'.get? b = some o) → Q (.ref s.heap.objs.size) { s with heap := h', toks := tk }) :
    wpAny (model P w) A (call (.type "set") [.ref l]) Q E s := by
  have hisz : items.size = ns.length := by
    have q := IntsAre.length hit
    rwa [Array.length_toList] at q
  obtain ⟨c, tl, hmro⟩ := F.called_set.mro
  have hmade := F.called_set.made
  have hsub := F.called_set.sub
  refine wpAny_call (codeAny_of_tree ?_)
  show wpAny _ _ (callAny (.type "set") _) _ _ _
  refine wpAny_pure ⟨Code.quiet_builtin _ (by decide +kernel), codeAny_builtin F.entry_type_call ?_⟩
  rw [Around.under_plain (weight_type_call_type "set" [.ref l] []) rfl]
  have h1 := F.called_set.notType
  have h2 := F.called_set.canCreate
  have hct := F.typeCall_set_1 (.ref l)
  repeat (any_goals (first | assumption | wp_step))
  generalize hN : s.heap.push { cls := .type "set", dict := none, data := .set #[] 0 (.fresh 0 0 (!w.params.followText "set-order")) } = N
  refine codeAny_mono (code_set_led1 (.ref l) (E := E) (Q₁ := fun obj s₁ => obj = .ref s.heap.objs.size ∧ s₁ = { s with heap := N }) ⟨rfl, by rw [hN]⟩) fun r s₁ hr => ?_
  cases r with
  | error e => exact hr
  | ok fl =>
    cases fl with
    | ret obj =>
      obtain ⟨rfl, rfl⟩ := hr
      have hS : N.get? s.heap.objs.size = some { cls := .type "set", dict := none, data := .set #[] 0 (.fresh 0 0 (!w.params.followText "set-order")) } := by rw [← hN]; exact Heap.get?_push_size _ rfl
      have hT : Shared.TypeIs { s with heap := N } (.ref s.heap.objs.size) "set" := ⟨_, hS, rfl⟩
      have hli := F.called_set.init.lookup
      have hbi := F.called_set.init.bind (.ref s.heap.objs.size)
      repeat (any_goals (first | assumption | wp_step))
      refine codeAny_mono (codeAny_call_builtin (R := wants (fun r s₂ => r = .none ∧ ∃ h' tk c, s₂ = { s with heap := h', toks := tk } ∧ SetR w h' s.heap.objs.size (fun j => decide (j ∈ ns)) c ∧
          (∀ b o, s.heap.get? b = some o → h'.get? b = some o)) E) F.called_set.init.plain F.entry_set_init (check_set_init_1 hT ?_)) fun r₂ s₂ hr₂ => ?_
      · obtain ⟨ol, hol, hcl, nl, hdl⟩ := hl
        obtain ⟨ocls, odict, odata, oslots⟩ := ol
        simp only at hcl hdl
        subst hcl; subst hdl
        have old : ∀ b o, s.heap.get? b = some o → N.get? b = some o := fun b o e => by rw [← hN]; exact Heap.get?_push_of_some _ e
        have hol' : N.get? l = some { cls := .type "list", dict := odict, data := .seq items nl, slots := oslots } := old _ _ hol
        have hsls := F.sub_list_set
        have hslf := F.sub_list_frozenset
        have hne : (Value.type "list" == Value.type "dict") = false := by decide
        have hl1 : N.IsList l items := ⟨_, hol', rfl, nl, rfl⟩
        unfold Builtin.«set.__init__» noKeywords Builtin.Frozenset.updateFrom
        generalize hPI : pyIter = PI
        wp_walk
        subst hPI
        refine wpAny_pyIter_list hl1 ?_
        refine wpAny_bind (wpAny_runValue ?_)
        have hlS : l < s.heap.objs.size := Heap.lt_size hol
        have hh3 : A.in1.in1.in1.handled = none := by simp [hh]
        have hz1 : N.objs.size = s.heap.objs.size + 1 := by rw [← hN]; exact Heap.size_push ..
        have hneI : l ≠ N.objs.size := by rw [hz1]; exact Nat.ne_of_lt (Nat.lt_succ_of_lt hlS)
        have hSf : s.heap.objs.size ∉ [N.objs.size, l] := by
          simp only [List.mem_cons, List.not_mem_nil, or_false, not_or]
          exact ⟨by rw [hz1]; exact Nat.ne_of_lt (Nat.lt_succ_self _), Nat.ne_of_gt hlS⟩
        have hval : ∀ (i : Nat) (v : Value), items[i]? = some v → ∃ k t, ns[i]? = some k ∧ v = .int k t := fun i v hv => by
          have hi : i < ns.length := by rw [← hisz]; exact (Array.getElem?_eq_some_iff.mp hv).1
          obtain ⟨t, e⟩ := PyProof.Rows.IntsAre.int_at hit i v (by rw [Array.getElem?_toList]; exact hv)
          refine ⟨ns[i], t, List.getElem?_eq_getElem hi, ?_⟩
          rw [e, List.getD_eq_getElem?_getD, List.getElem?_eq_getElem hi] <;> rfl
        refine set_upd_list ((Walks.list hh3 _ l hneI items).toS) s.heap.objs.size hSf ns U hisz hU hb hval (items.size - 0) 0 _ (by omega) (Nat.zero_le _) ⟨⟨_, Heap.get?_push_size _ rfl, rfl, rfl⟩, (hl1.push _)⟩ ?hS0 ?hR
        case hS0 => exact ⟨0, setR_new_at (Heap.get?_push_of_some _ hS)⟩
        case hR =>
          intro s' c' hm hS'
          obtain ⟨h', g2, d', tk', os'⟩ := s'
          have eg : g2 = s.gens := hm.gens
          have ed : d' = s.drawn := hm.drawn
          have eo : os' = s.os := hm.os
          subst eg; subst ed; subst eo
          show wpAny _ _ _ _ _ _
          refine wpAny_pure ?_
          show wpAny _ _ (ret Value.none) _ _ _
          refine wpAny_pure ⟨rfl, h', tk', c', rfl, hS', fun b o e => ?_⟩
          have hb0 : b < s.heap.objs.size := Heap.lt_size e
          exact hm.heap b o (by simp only [List.mem_cons, List.not_mem_nil, or_false, not_or]; exact ⟨Nat.ne_of_lt hb0, by rw [hz1]; exact Nat.ne_of_lt (Nat.lt_succ_of_lt hb0)⟩) (Heap.get?_push_of_some _ (old _ _ e))
      · cases r₂ with
        | error e => exact hr₂
        | ok fl₂ =>
          cases fl₂ with
          | ret r =>
            obtain ⟨rfl, h', tk, c', rfl, hS', hk'⟩ := hr₂
            repeat (any_goals (first | assumption | wp_step))
            exact h _ _ _ hS' hk'
          | _ => exact hr₂.elim
    | _ => exact hr.elim
/-- sorted of a set of ints, any number of them -/
theorem sorted_set_any {a : Addr} {S : Int → Bool} {n : Nat} {Q : Value → Shared → Prop} (R : SetR w s.heap a S n) (hh : A.handled = none)
    (hQ : ∀ s' p (out : Array Value) (c : Nat) (ns : List Int), (∀ b o, s.heap.get? b = some o → s'.heap.get? b = some o) → s'.gens = s.gens → s'.os = s.os → s.heap.objs.size ≤ p →
      s'.heap.get? p = some (seqObj "list" out c) → IntsAre out.toList ns → ns.Pairwise (· < ·) → (∀ k, k ∈ ns ↔ S k = true) → ns.length = n → Q (.ref p) s') :
    wpAny (model P w) A (call (.builtin "sorted") [.ref a]) Q E s := by
  obtain ⟨o, es, ep, t, ho, hex, hd, g, nd, hm, hb, hf, hn, hr, hl⟩ := R
  refine Calls.call_function_entry kind_sorted plain_sorted entry_sorted (args_sorted1 _) ?_
  unfold Builtin.«sorted»
  refine wpAny_bind (m := checkCount "sorted" 1 1 _) (wpAny_pure ?_)
  refine wpAny_bind (collect_set (A := A.in1) hh ⟨o, ho, hex.1, hd⟩ hf hb hr hl fun s1 vs k1 hz g1 o1 pm => ?_)
  have hvl : vs.length = n := by rw [pm.length_eq, List.length_map, Array.length_toList]; exact hn
  have hI : IntsAre vs (vs.map Builtin.Re.reRawOf) := ints_of vs fun v hv => by
    obtain ⟨e, he, q⟩ := List.mem_map.mp (pm.mem_iff.mp hv)
    obtain ⟨k, tk, h1, _⟩ := g e he
    exact ⟨k, tk, by rw [← q]; exact h1⟩
  have pk : (vs.map Builtin.Re.reRawOf).Perm (es.toList.map keyOf) := by
    have q := pm.map Builtin.Re.reRawOf
    rw [List.map_map] at q
    exact q
  have hline : vs.length ≤ sizeLine := by rw [hvl, sizeLine_eq, ← hn]; exact Nat.le_trans (Nat.le_of_lt hb) (by decide)
  refine wpAny_bind (wpAny_newList ?_ hline)
  have hoL : (s1.heap.push (seqObj "list" vs.toArray 0)).get? s1.heap.objs.size = some (seqObj "list" vs.toArray 0) := Heap.get?_push_size _ rfl
  refine wpAny_bind (wpAny_holding (wpAny_call_entry slot_list_sort ⟨_, hoL, rfl⟩ entry_list_sort (SrtO.list_sort_ord SrtO.swo_int hoL hline (fun h2 => SrtO.ints_sortable hI h2) fun out a1 a2 => ⟨_, rfl, ?_⟩) (args_list_sort _)))
  obtain ⟨i1, i2, i3⟩ := SrtO.ints_out hI a1 a2
  obtain ⟨c, hc⟩ := sortedHeap_at (vs := vs) (out := out.toArray) hoL
  have pn : (out.map SrtO.iv).Perm (es.toList.map keyOf) := i2.trans pk
  refine wpAny_pure ⟨_, rfl, hQ _ s1.heap.objs.size out.toArray c (out.map SrtO.iv) (fun b u e => ?_) g1 o1 hz hc i1 (lt_of_le_nodup _ i3 (pn.nodup_iff.mpr nd)) (fun k => by rw [pn.mem_iff, ← hm k]) ?_⟩
  · have q := k1 b u e
    have hlt := Heap.lt_size q
    show (sortedHeap (s1.heap.push (seqObj "list" vs.toArray 0)) s1.heap.objs.size vs out.toArray).get? b = some u
    rw [sortedHeap_old (Nat.ne_of_lt hlt) (by rw [size_push']; exact Nat.lt_succ_of_lt hlt)]
    exact Heap.get?_push_of_some _ q
  · rw [pn.length_eq, List.length_map, Array.length_toList]; exact hn
end
end L2.DL
/-! # Rows of turns and sets of whole numbers (plain Lean) -/
namespace L2.SK

/-- strictly rising -/
abbrev Up (ts : List Int) : Prop := ts.Pairwise (· < ·)
/-- in, by a row of turns -/
def isIn : Bool → List Int → Int → Bool
  | b, [], _ => b
  | b, t :: ts, n => if t ≤ n then isIn (!b) ts n else b
theorem isIn_lt {b : Bool} {ts : List Int} {n : Int} (h : ∀ t ∈ ts, n < t) : isIn b ts n = b := by
  cases ts with
  | nil => rfl
  | cons t ts =>
    have := h t List.mem_cons_self
    rw [isIn, if_neg (by omega)]
/-- how many turns stand up to a number -/
def ahead (ts : List Int) (n : Int) : Nat := (ts.filter fun t => decide (t ≤ n)).length
theorem ahead_none {ts : List Int} {n : Int} (h : ∀ t ∈ ts, n < t) : ahead ts n = 0 := by
  unfold ahead
  rw [List.filter_eq_nil_iff.mpr fun t ht => by have := h t ht; simp; omega]
  rfl
theorem odd_succ (k : Nat) : ((k + 1) % 2 == 1) = !(k % 2 == 1) := by
  rcases Nat.mod_two_eq_zero_or_one k with h | h
  · have : (k + 1) % 2 = 1 := by omega
    rw [h, this]; rfl
  · have : (k + 1) % 2 = 0 := by omega
    rw [h, this]; rfl
theorem isIn_ahead : ∀ {ts : List Int} {b : Bool} {n : Int}, Up ts → isIn b ts n = (b != (ahead ts n % 2 == 1))
  | [], b, n, _ => by cases b <;> rfl
  | t :: ts, b, n, h => by
    have h' := List.pairwise_cons.mp h
    unfold isIn
    by_cases c : t ≤ n
    · rw [if_pos c, isIn_ahead h'.2]
      have e : ahead (t :: ts) n = ahead ts n + 1 := by
        unfold ahead
        rw [List.filter_cons, if_pos (by simpa using c)]
        rfl
      rw [e, odd_succ]
      cases b <;> cases (ahead ts n % 2 == 1) <;> rfl
    · rw [if_neg c]
      have e : ahead (t :: ts) n = 0 := ahead_none fun u hu => by
        rcases List.mem_cons.mp hu with rfl | hu
        · omega
        · have := h'.1 u hu; omega
      rw [e]
      cases b <;> rfl
/-- the turns are just where it changes -/
theorem mem_turn : ∀ {ts : List Int} {b : Bool} {n : Int}, Up ts → (n ∈ ts ↔ isIn b ts n ≠ isIn b ts (n - 1))
  | [], b, n, _ => by simp [isIn]
  | t :: ts, b, n, h => by
    have h' := List.pairwise_cons.mp h
    unfold isIn
    by_cases c : t ≤ n - 1
    · rw [if_pos (by omega), if_pos c, ← mem_turn h'.2, List.mem_cons]
      constructor
      · rintro (rfl | z)
        · omega
        · exact z
      · exact .inr
    · rw [if_neg c]
      by_cases e : t = n
      · subst e
        rw [if_pos (Int.le_refl _), isIn_lt h'.1]
        simp
      · rw [if_neg (by omega)]
        simp only [ne_eq, not_true_eq_false, iff_false, List.mem_cons, not_or]
        exact ⟨fun z => e z.symm, fun z => by have := h'.1 n z; omega⟩
theorem up_ext {l l' : List Int} (h : Up l) (h' : Up l') (e : ∀ n, n ∈ l ↔ n ∈ l') : l = l' := by
  have nd : l.Nodup := h.imp fun a => Int.ne_of_lt a
  have nd' : l'.Nodup := h'.imp fun a => Int.ne_of_lt a
  exact ((List.perm_ext_iff_of_nodup nd nd').mpr e).eq_of_pairwise (fun a b _ _ h1 h2 => absurd h1 (by omega)) h h'
/-- far below -/
theorem exists_below (ts : List Int) : ∃ n : Int, ∀ t ∈ ts, n < t := by
  induction ts with
  | nil => exact ⟨0, fun _ h => nomatch h⟩
  | cons t ts ih =>
    obtain ⟨n, h⟩ := ih
    refine ⟨min n (t - 1), fun u hu => ?_⟩
    rcases List.mem_cons.mp hu with rfl | hu
    · omega
    · have := h u hu; omega
/-- a row is known by what is in -/
theorem row_ext {b b' : Bool} {ts ts' : List Int} (h : Up ts) (h' : Up ts') (e : ∀ n, isIn b ts n = isIn b' ts' n) : b = b' ∧ ts = ts' := by
  have et : ts = ts' := up_ext h h' fun n => by rw [mem_turn (b := b) h, mem_turn (b := b') h', e, e]
  subst et
  obtain ⟨n, hn⟩ := exists_below ts
  have := e n
  rw [isIn_lt hn, isIn_lt hn] at this
  exact ⟨this, rfl⟩

/-- of rising spots those where f changes -/
def scan (f : Int → Bool) : Bool → List Int → List Int
  | _, [] => []
  | b, s :: ss => if f s ≠ b then s :: scan f (f s) ss else scan f b ss
theorem scan_sub {f : Int → Bool} : ∀ {ss : List Int} {b : Bool}, (scan f b ss).Sublist ss
  | [], _ => .slnil
  | s :: ss, b => by
    unfold scan
    split
    · exact .cons₂ _ scan_sub
    · exact .cons _ scan_sub
theorem scan_up {f : Int → Bool} {ss : List Int} {b : Bool} (h : Up ss) : Up (scan f b ss) := h.sublist scan_sub
/-- f is level where no spot stands -/
theorem level {f : Int → Bool} {S : List Int} (hc : ∀ n, f n ≠ f (n - 1) → n ∈ S) (a : Int) : ∀ (k : Nat), (∀ t ∈ S, t ≤ a ∨ a + k < t) → f (a + k) = f a
  | 0, _ => by simp
  | k + 1, h => by
    have ih := level hc a k fun t ht => by rcases h t ht with z | z; exact .inl z; right; omega
    have e : a + ((k + 1 : Nat) : Int) - 1 = a + (k : Nat) := by omega
    have : f (a + ((k + 1 : Nat) : Int)) = f (a + ((k + 1 : Nat) : Int) - 1) := by
      by_cases z : f (a + ((k + 1 : Nat) : Int)) = f (a + ((k + 1 : Nat) : Int) - 1)
      · exact z
      · have hm := hc _ z
        rcases h _ hm with y | y
        · omega
        · omega
    rw [this, e, ih]
theorem level' {f : Int → Bool} {S : List Int} (hc : ∀ n, f n ≠ f (n - 1) → n ∈ S) {a n : Int} (h : a ≤ n) (hs : ∀ t ∈ S, t ≤ a ∨ n < t) : f n = f a := by
  have e : n = a + ((n - a).toNat : Nat) := by omega
  rw [e]
  exact level hc a _ fun t ht => by rcases hs t ht with z | z; exact .inl z; right; omega
theorem scan_in_aux {f : Int → Bool} {S : List Int} (hc : ∀ n, f n ≠ f (n - 1) → n ∈ S) : ∀ {ss : List Int} {b : Bool} {lo n : Int}, Up ss → (∀ t ∈ S, t ∈ ss ∨ t ≤ lo) → (∀ t ∈ ss, lo < t) → f lo = b → lo ≤ n → isIn b (scan f b ss) n = f n
  | [], b, lo, n, _, h1, _, h3, h4 => by
    rw [scan, isIn, ← h3]
    exact (level' hc h4 fun t ht => (h1 t ht).elim (fun z => nomatch z) .inl).symm
  | s :: ss, b, lo, n, hu, h1, h2, h3, h4 => by
    have hu' := List.pairwise_cons.mp hu
    have hlo := h2 s List.mem_cons_self
    have rest : ∀ {c : Bool}, f s = c → s ≤ n → isIn c (scan f c ss) n = f n := fun {c} e hn =>
      scan_in_aux hc hu'.2 (fun t ht => by
        rcases h1 t ht with z | z
        · rcases List.mem_cons.mp z with rfl | z
          · exact .inr (Int.le_refl _)
          · exact .inl z
        · exact .inr (by omega)) hu'.1 e hn
    unfold scan
    by_cases c : f s ≠ b
    · rw [if_pos c, isIn]
      by_cases hn : s ≤ n
      · rw [if_pos hn]
        have e : (!b) = f s := by cases b <;> cases h : f s <;> simp_all
        rw [e]
        exact rest rfl hn
      · rw [if_neg hn, ← h3]
        exact (level' hc h4 fun t ht => by
          rcases h1 t ht with z | z
          · rcases List.mem_cons.mp z with rfl | z
            · right; omega
            · have := hu'.1 t z; right; omega
          · exact .inl z).symm
    · rw [if_neg c]
      have c' : f s = b := Classical.not_not.mp c
      by_cases hn : s ≤ n
      · exact rest c' hn
      · rw [isIn_lt fun t ht => by have := hu'.1 t (scan_sub.subset ht); omega, ← h3]
        exact (level' hc h4 fun t ht => by
          rcases h1 t ht with z | z
          · rcases List.mem_cons.mp z with rfl | z
            · right; omega
            · have := hu'.1 t z; right; omega
          · exact .inl z).symm
/-- what is found among spots that hold every change is the row of f -/
theorem scan_in {f : Int → Bool} {ss : List Int} {b : Bool} (hu : Up ss) (hc : ∀ n, f n ≠ f (n - 1) → n ∈ ss) (hb : ∀ n, (∀ t ∈ ss, n < t) → f n = b) (n : Int) : isIn b (scan f b ss) n = f n := by
  obtain ⟨lo, hlo⟩ := exists_below (n :: ss)
  exact scan_in_aux hc hu (fun t ht => .inl ht) (fun t ht => hlo t (List.mem_cons_of_mem _ ht)) (hb lo fun t ht => hlo t (List.mem_cons_of_mem _ ht)) (by have := hlo n List.mem_cons_self; omega)

/-! ### stretches -/
abbrev Str2 := Option Int × Option Int
/-- the stretches of a row: is one open, and from where -/
def strL : Bool → Option Int → List Int → List Str2
  | true, first, [] => [(first, none)]
  | false, _, [] => []
  | true, first, t :: ts => (first, some (t - 1)) :: strL false (some t) ts
  | false, _, t :: ts => strL true (some t) ts
def lies (s : Str2) (n : Int) : Bool := (match s.1 with | none => true | some a => decide (a ≤ n)) && (match s.2 with | none => true | some c => decide (n ≤ c))
/-- a stretch: the last is not less than the first -/
def okS (s : Str2) : Bool := match s with
  | (some a, some c) => decide (a ≤ c)
  | _ => true
/-- the turns of a stretch -/
def turnsS (s : Str2) : List Int := (match s.1 with | none => [] | some a => [a]) ++ (match s.2 with | none => [] | some c => [c + 1])
theorem turnsS_up {s : Str2} (h : okS s = true) : Up (turnsS s) := by
  obtain ⟨a, c⟩ := s
  cases a <;> cases c <;> simp [turnsS, okS] at h ⊢
  omega
theorem turnsS_in {s : Str2} (h : okS s = true) (n : Int) : isIn s.1.isNone (turnsS s) n = lies s n := by
  obtain ⟨a, c⟩ := s
  cases a with
  | none =>
    cases c with
    | none => rfl
    | some c =>
      simp only [turnsS, lies, isIn, Option.isNone, List.nil_append, Bool.true_and]
      by_cases z : c + 1 ≤ n
      · rw [if_pos z, decide_eq_false (by omega)]; rfl
      · rw [if_neg z, decide_eq_true (by omega)]
  | some a =>
    cases c with
    | none =>
      simp only [turnsS, lies, isIn, Option.isNone, List.append_nil, Bool.and_true]
      by_cases z : a ≤ n
      · rw [if_pos z, decide_eq_true z]; rfl
      · rw [if_neg z, decide_eq_false z]
    | some c =>
      have h' : a ≤ c := by simpa [okS] using h
      simp only [turnsS, lies, isIn, Option.isNone, List.cons_append, List.nil_append]
      by_cases z : a ≤ n
      · rw [if_pos z, decide_eq_true z, Bool.true_and]
        by_cases y : c + 1 ≤ n
        · rw [if_pos y, decide_eq_false (by omega)]; rfl
        · rw [if_neg y, decide_eq_true (by omega)]; rfl
      · rw [if_neg z, decide_eq_false z]; rfl
/-- what a rule makes of two rows -/
def mergedT (r : Bool → Bool → Bool) (b1 : Bool) (t1 : List Int) (b2 : Bool) (t2 : List Int) (ss : List Int) : List Int := scan (fun n => r (isIn b1 t1 n) (isIn b2 t2 n)) (r b1 b2) ss
theorem merged_in {r : Bool → Bool → Bool} {b1 b2 : Bool} {t1 t2 ss : List Int} (h1 : Up t1) (h2 : Up t2) (hu : Up ss) (hs : ∀ n, n ∈ ss ↔ n ∈ t1 ∨ n ∈ t2) (n : Int) :
    isIn (r b1 b2) (mergedT r b1 t1 b2 t2 ss) n = r (isIn b1 t1 n) (isIn b2 t2 n) := by
  refine scan_in hu (fun m hm => ?_) (fun m hm => ?_) n
  · rw [hs]
    by_cases c : m ∈ t1
    · exact .inl c
    · right
      rw [mem_turn (b := b2) h2]
      intro e
      have e1 : isIn b1 t1 m = isIn b1 t1 (m - 1) := Classical.not_not.mp fun z => c ((mem_turn (b := b1) h1).mpr z)
      exact hm (by simp only [e1, e])
  · show r (isIn b1 t1 m) (isIn b2 t2 m) = r b1 b2
    rw [isIn_lt fun t ht => hm t ((hs t).mpr (.inl ht)), isIn_lt fun t ht => hm t ((hs t).mpr (.inr ht))]
theorem merged_up {r : Bool → Bool → Bool} {b1 b2 : Bool} {t1 t2 ss : List Int} (hu : Up ss) : Up (mergedT r b1 t1 b2 t2 ss) := scan_up hu
/-- moved, mirrored -/
theorem moved_in : ∀ (b : Bool) (ts : List Int) (k n : Int), isIn b (ts.map (· + k)) n = isIn b ts (n - k)
  | b, [], _, _ => rfl
  | b, t :: ts, k, n => by
    rw [List.map_cons, isIn, isIn, moved_in]
    by_cases c : t + k ≤ n
    · rw [if_pos c, if_pos (by omega)]
    · rw [if_neg c, if_neg (by omega)]
theorem moved_up {ts : List Int} (h : Up ts) (k : Int) : Up (ts.map (· + k)) := List.pairwise_map.mpr (h.imp fun a => by omega)
theorem isIn_append_high {b : Bool} {ts us : List Int} {n : Int} (h : ∀ t ∈ us, n < t) : isIn b (ts ++ us) n = isIn b ts n := by
  induction ts generalizing b with
  | nil => rw [List.nil_append, isIn_lt h]; rfl
  | cons t ts ih => rw [List.cons_append, isIn, isIn, ih]
theorem isIn_all {b : Bool} {ts : List Int} {n : Int} (h : ∀ t ∈ ts, t ≤ n) : isIn b ts n = (b != (ts.length % 2 == 1)) := by
  induction ts generalizing b with
  | nil => cases b <;> rfl
  | cons t ts ih =>
    rw [isIn, if_pos (h t List.mem_cons_self), ih fun u hu => h u (List.mem_cons_of_mem _ hu), List.length_cons, odd_succ]
    cases b <;> cases (ts.length % 2 == 1) <;> rfl
theorem isIn_append {b : Bool} {ts : List Int} {t : Int} {n : Int} (h : ∀ u ∈ ts, u < t) : isIn b (ts ++ [t]) n = if t ≤ n then (b != ((ts.length + 1) % 2 == 1)) else isIn b ts n := by
  by_cases c : t ≤ n
  · rw [if_pos c, isIn_all fun u hu => by
      rcases List.mem_append.mp hu with z | z
      · have := h u z; omega
      · have : u = t := by simpa using z
        omega, List.length_append]
    rfl
  · rw [if_neg c, isIn_append_high fun u hu => by
      have : u = t := by simpa using hu
      omega]
theorem mirror_up {ts : List Int} (h : Up ts) : Up (ts.reverse.map fun t => 1 - t) := by
  refine List.pairwise_map.mpr (List.pairwise_reverse.mpr (h.imp fun a => by omega))
theorem mirror_in : ∀ {ts : List Int} {b : Bool} {n : Int}, Up ts → isIn (b != (ts.length % 2 == 1)) (ts.reverse.map fun t => 1 - t) n = isIn b ts (0 - n)
  | [], b, n, _ => by cases b <;> rfl
  | t :: ts, b, n, h => by
    have h' := List.pairwise_cons.mp h
    rw [List.reverse_cons, List.map_append, List.map_cons, List.map_nil, List.length_cons, odd_succ, isIn_append (fun u hu => by
      obtain ⟨v, hv, rfl⟩ := List.mem_map.mp hu
      have := h'.1 v (List.mem_reverse.mp hv)
      omega), isIn]
    have ih := mirror_in (b := !b) (n := n) h'.2
    have eb : (b != !(ts.length % 2 == 1)) = ((!b) != (ts.length % 2 == 1)) := by cases b <;> cases (ts.length % 2 == 1) <;> rfl
    rw [eb, ih, List.length_map, List.length_reverse]
    by_cases c : t ≤ 0 - n
    · rw [if_pos c]
      by_cases d : 1 - t ≤ n
      · omega
      · rw [if_neg d]
    · rw [if_neg c, if_pos (by omega), odd_succ]
      cases b <;> cases (ts.length % 2 == 1) <;> rfl
end L2.SK
/-! # Deeds, and the stretches that are due behind them (plain Lean) -/
namespace L2.SK
inductive Deed where
  | put (ss : List Str2) | take (ss : List Str2) | keep (ss : List Str2) | turn (ss : List Str2) | move (k : Int) | mirror
/-- whether a number lies in one of some stretches -/
def owns (ss : List Str2) (n : Int) : Bool := ss.any fun s => lies s n
def behind : Deed → Bool → Int → Bool
  | .put ss, b, n => b || owns ss n
  | .take ss, b, n => b && !owns ss n
  | .keep ss, b, n => b && owns ss n
  | .turn ss, b, n => b != owns ss n
  | .move _, b, _ => b
  | .mirror, b, _ => b
def back : Deed → Int → Int
  | .move k, n => n - k
  | .mirror, n => 0 - n
  | _, n => n
/-- by the deeds, the last one first -/
def inR : List Deed → Int → Bool
  | [], _ => false
  | d :: r, n => behind d (inR r (back d n)) n
def inD (ds : List Deed) (n : Int) : Bool := inR ds.reverse n
theorem inD_snoc (ds : List Deed) (d : Deed) (n : Int) : inD (ds ++ [d]) n = behind d (inD ds (back d n)) n := by
  unfold inD
  rw [List.reverse_append]
  rfl
/-- where they may change -/
def ends (ss : List Str2) : List Int := ss.filterMap (·.1) ++ (ss.filterMap (·.2)).map (· + 1)
def spotsS (acc : List Int) : Deed → List Int
  | .move k => acc.map (· + k)
  | .mirror => acc.map fun s => 1 - s
  | .put ss => acc ++ ends ss
  | .take ss => acc ++ ends ss
  | .keep ss => acc ++ ends ss
  | .turn ss => acc ++ ends ss
def spots (ds : List Deed) : List Int := ds.foldl spotsS []
theorem spots_snoc (ds : List Deed) (d : Deed) : spots (ds ++ [d]) = spotsS (spots ds) d := by
  unfold spots
  rw [List.foldl_append]
  rfl
theorem lies_turn {s : Str2} {n : Int} (h : lies s n ≠ lies s (n - 1)) : s.1 = some n ∨ s.2 = some (n - 1) := by
  obtain ⟨a, c⟩ := s
  have e1 : ∀ x : Int, decide (x ≤ n) ≠ decide (x ≤ n - 1) → x = n := fun x hx => by
    by_cases q : x ≤ n
    · by_cases r : x ≤ n - 1
      · simp [q, r] at hx
      · omega
    · simp [q, show ¬ x ≤ n - 1 by omega] at hx
  have e2 : ∀ x : Int, decide (n ≤ x) ≠ decide (n - 1 ≤ x) → x = n - 1 := fun x hx => by
    by_cases q : n ≤ x
    · simp [q, show n - 1 ≤ x by omega] at hx
    · by_cases r : n - 1 ≤ x
      · omega
      · simp [q, r] at hx
  have key : ∀ p p' q q' : Bool, (p && q) ≠ (p' && q') → p ≠ p' ∨ q ≠ q' := by decide
  unfold lies at h
  rcases key _ _ _ _ h with z | z
  · left
    cases a with
    | none => exact absurd rfl z
    | some a => rw [e1 a z]
  · right
    cases c with
    | none => exact absurd rfl z
    | some c => rw [e2 c z]
theorem owns_turn {ss : List Str2} {n : Int} (h : owns ss n ≠ owns ss (n - 1)) : n ∈ ends ss := by
  have : ∃ s ∈ ss, lies s n ≠ lies s (n - 1) := by
    refine Classical.byContradiction fun hn => h ?_
    unfold owns
    induction ss with
    | nil => rfl
    | cons s ss ih =>
      rw [List.any_cons, List.any_cons]
      have e : lies s n = lies s (n - 1) := Classical.byContradiction fun z => hn ⟨s, List.mem_cons_self, z⟩
      have nh : ¬ ∃ t ∈ ss, lies t n ≠ lies t (n - 1) := fun ⟨t, ht, z⟩ => hn ⟨t, List.mem_cons_of_mem _ ht, z⟩
      by_cases c : owns ss n = owns ss (n - 1)
      · unfold owns at c
        rw [e, c]
      · rw [e, ih c nh]
  obtain ⟨s, hs, z⟩ := this
  unfold ends
  rw [List.mem_append]
  rcases lies_turn z with e | e
  · left
    exact List.mem_filterMap.mpr ⟨s, hs, e⟩
  · right
    exact List.mem_map.mpr ⟨n - 1, List.mem_filterMap.mpr ⟨s, hs, e⟩, by omega⟩
theorem inD_spots : ∀ (rs : List Deed) (n : Int), inD rs.reverse n ≠ inD rs.reverse (n - 1) → n ∈ spots rs.reverse
  | [], n, h => absurd rfl h
  | d :: rs, n, h => by
    rw [List.reverse_cons, inD_snoc, inD_snoc] at h
    rw [List.reverse_cons, spots_snoc]
    have ih := inD_spots rs
    have ow : ∀ (f : Bool → Bool → Bool) (ss : List Str2), f (inD rs.reverse n) (owns ss n) ≠ f (inD rs.reverse (n - 1)) (owns ss (n - 1)) → n ∈ spots rs.reverse ++ ends ss := fun f ss hf => by
      rw [List.mem_append]
      by_cases c : inD rs.reverse n = inD rs.reverse (n - 1)
      · by_cases e : owns ss n = owns ss (n - 1)
        · rw [c, e] at hf; exact absurd rfl hf
        · exact .inr (owns_turn e)
      · exact .inl (ih n c)
    cases d with
    | put ss => exact ow (fun a b => a || b) ss h
    | take ss => exact ow (fun a b => a && !b) ss h
    | keep ss => exact ow (fun a b => a && b) ss h
    | turn ss => exact ow (fun a b => a != b) ss h
    | move k =>
      have h' : inD rs.reverse (n - k) ≠ inD rs.reverse (n - 1 - k) := h
      have := ih (n - k) (by rw [show n - k - 1 = n - 1 - k by omega]; exact h')
      exact List.mem_map.mpr ⟨n - k, this, by omega⟩
    | mirror =>
      have h' : inD rs.reverse (0 - n) ≠ inD rs.reverse (0 - (n - 1)) := h
      have := ih (1 - n) (by rw [show 1 - n - 1 = 0 - n by omega, show 1 - n = 0 - (n - 1) by omega]; exact h'.symm)
      exact List.mem_map.mpr ⟨1 - n, this, by omega⟩
theorem inD_spot {ds : List Deed} {n : Int} (h : inD ds n ≠ inD ds (n - 1)) : n ∈ spots ds := by
  have := inD_spots ds.reverse n
  rw [List.reverse_reverse] at this
  exact this h
/-- the stretches that are due, by the rising spots -/
def dueB (ds : List Deed) (ss : List Int) : Bool := inD ds ((ss ++ [0]).headD 0 - 1)
def dueT (ds : List Deed) (ss : List Int) : List Int := scan (inD ds) (dueB ds ss) ss
theorem dueB_low {ds : List Deed} {ss : List Int} (hu : Up ss) (hs : ∀ n, n ∈ ss ↔ n ∈ spots ds) (n : Int) (h : ∀ t ∈ ss, n < t) : inD ds n = dueB ds ss := by
  unfold dueB
  have hc : ∀ n, inD ds n ≠ inD ds (n - 1) → n ∈ ss := fun n hn => (hs n).mpr (inD_spot hn)
  cases ss with
  | nil =>
    show inD ds n = inD ds (0 - 1)
    rcases Int.le_total n (0 - 1) with c | c
    · exact (level' hc c fun t ht => nomatch ht).symm
    · exact level' hc c fun t ht => nomatch ht
  | cons s ss =>
    show inD ds n = inD ds (s - 1)
    have hn := h s List.mem_cons_self
    have hu' := List.pairwise_cons.mp hu
    exact (level' hc (show n ≤ s - 1 by omega) fun t ht => by
      right
      rcases List.mem_cons.mp ht with rfl | ht
      · omega
      · have := hu'.1 t ht; omega).symm
theorem due_in {ds : List Deed} {ss : List Int} (hu : Up ss) (hs : ∀ n, n ∈ ss ↔ n ∈ spots ds) (n : Int) : isIn (dueB ds ss) (dueT ds ss) n = inD ds n :=
  scan_in hu (fun n hn => (hs n).mpr (inD_spot hn)) (dueB_low hu hs) n
/-- a row for the deeds: the stretches due are its stretches -/
theorem due_is {ds : List Deed} {ss : List Int} {b : Bool} {ts : List Int} (hu : Up ss) (hs : ∀ n, n ∈ ss ↔ n ∈ spots ds) (ht : Up ts) (h : ∀ n, isIn b ts n = inD ds n) : dueB ds ss = b ∧ dueT ds ss = ts :=
  row_ext (scan_up hu) ht fun n => by rw [h]; exact due_in hu hs n

/-! ### what a Keeper's deed makes -/
/-- a row: begins, turns, rising -/
structure KRow where
  b : Bool
  ts : List Int
  up : Up ts
def KRow.has (r : KRow) (n : Int) : Bool := isIn r.b r.ts n
theorem KRow.ext' {r r' : KRow} (h : ∀ n, r.has n = r'.has n) : r = r' := by
  obtain ⟨b, ts, up⟩ := r
  obtain ⟨b', ts', up'⟩ := r'
  obtain ⟨rfl, rfl⟩ := row_ext up up' h
  rfl
end L2.SK
/-! # What each def promises, at the data level -/
namespace L2.SK
/-- sorted, each once -/
def ins (x : Int) : List Int → List Int
  | [] => [x]
  | y :: ys => if x < y then x :: y :: ys else if x = y then y :: ys else y :: ins x ys
def sset (l : List Int) : List Int := l.foldr ins []
theorem mem_ins {x n : Int} : ∀ {l : List Int}, n ∈ ins x l ↔ n = x ∨ n ∈ l
  | [] => by simp [ins]
  | y :: ys => by
    unfold ins
    split
    · rw [List.mem_cons]
    · split
      · rename_i e
        subst e
        constructor
        · exact .inr
        · rintro (rfl | h)
          · exact List.mem_cons_self
          · exact h
      · rw [List.mem_cons, mem_ins, List.mem_cons]
        constructor
        · rintro (h | h | h)
          · exact .inr (.inl h)
          · exact .inl h
          · exact .inr (.inr h)
        · rintro (h | h | h)
          · exact .inr (.inl h)
          · exact .inl h
          · exact .inr (.inr h)
theorem ins_up {x : Int} : ∀ {l : List Int}, Up l → Up (ins x l)
  | [], _ => List.pairwise_singleton _ _
  | y :: ys, h => by
    have h' := List.pairwise_cons.mp h
    unfold ins
    split
    · rename_i c
      refine List.pairwise_cons.mpr ⟨fun z hz => ?_, h⟩
      rcases List.mem_cons.mp hz with rfl | hz
      · exact c
      · have := h'.1 z hz; omega
    · split
      · exact h
      · refine List.pairwise_cons.mpr ⟨fun z hz => ?_, ins_up h'.2⟩
        rcases mem_ins.mp hz with rfl | hz
        · omega
        · exact h'.1 z hz
theorem mem_sset {n : Int} {l : List Int} : n ∈ sset l ↔ n ∈ l := by
  induction l with
  | nil => exact Iff.rfl
  | cons x l ih =>
    show n ∈ ins x (sset l) ↔ _
    rw [mem_ins, ih, List.mem_cons]
theorem sset_up (l : List Int) : Up (sset l) := by
  induction l with
  | nil => exact .nil
  | cons x l ih => exact ins_up ih
theorem sset_is {l ss : List Int} (hu : Up ss) (h : ∀ n, n ∈ ss ↔ n ∈ l) : ss = sset l := up_ext hu (sset_up l) fun n => by rw [h, mem_sset]
theorem ins_len {x : Int} : ∀ {l : List Int}, (ins x l).length ≤ l.length + 1
  | [] => Nat.le_refl _
  | y :: ys => by
    unfold ins
    split
    · exact Nat.le_refl _
    · split
      · exact Nat.le_succ _
      · have := ins_len (x := x) (l := ys)
        simp only [List.length_cons]
        omega
theorem sset_len (l : List Int) : (sset l).length ≤ l.length := by
  induction l with
  | nil => exact Nat.le_refl _
  | cons x l ih =>
    have := ins_len (x := x) (l := sset l)
    show (ins x (sset l)).length ≤ _
    rw [List.length_cons]
    omega
/-- what a rule makes of two rows -/
def mergeR (f : Bool → Bool → Bool) (r1 r2 : KRow) : KRow := ⟨f r1.b r2.b, mergedT f r1.b r1.ts r2.b r2.ts (sset (r1.ts ++ r2.ts)), merged_up (sset_up _)⟩
theorem mergeR_has (f : Bool → Bool → Bool) (r1 r2 : KRow) (n : Int) : (mergeR f r1 r2).has n = f (r1.has n) (r2.has n) :=
  merged_in r1.up r2.up (sset_up _) (fun n => by rw [mem_sset, List.mem_append]) n
def due (ds : List Deed) : List Str2 := strL (dueB ds (sset (spots ds))) none (dueT ds (sset (spots ds)))
def KRow.strs (r : KRow) : List Str2 := strL r.b none r.ts
theorem due_row {ds : List Deed} {r : KRow} (h : ∀ n, r.has n = inD ds n) : due ds = r.strs := by
  obtain ⟨e1, e2⟩ := due_is (sset_up (spots ds)) (fun n => mem_sset) r.up h
  unfold due KRow.strs
  rw [e1, e2]
end L2.SK

namespace L2.DL
open PySem PySem.Spec PyProof.Rows L2.SK

/-! ### data -/
def oi : Option Int → D
  | none => .non
  | some i => .int i
def sD (s : Str2) : D := .tup [oi s.1, oi s.2]
def ssD (ss : List Str2) : D := .lst (ss.map sD)
def insD (ns : List Int) : D := .lst (ns.map .int)
def word : Deed → Str
  | .put _ => "put"
  | .take _ => "take"
  | .keep _ => "keep"
  | .turn _ => "turn"
  | .move _ => "move"
  | .mirror => "mirror"
def thing : Deed → D
  | .put ss => ssD ss
  | .take ss => ssD ss
  | .keep ss => ssD ss
  | .turn ss => ssD ss
  | .move k => .int k
  | .mirror => .non
def dD (d : Deed) : D := .tup [.str (word d), thing d]
def dsD (ds : List Deed) : D := .lst (ds.map dD)
def rowD (r : KRow) : D := .tup [.bl r.b, insD r.ts]
def kpD (r : KRow) : D := .kp r.b r.ts

/-! ### sorted(set(xs)) -/
section
variable {X : Cx} {C : Addr} {E : XK} {pos : Pos}
def rSetL (w : World) (K : PySem.W.Frag) : List V → Hp → VK → Prop := fun xs H Q => ∃ (a : Addr) (ns U : List Int), xs = [V.ref a] ∧ SqL K H a (ns.map V.int) ∧ (∀ k ∈ ns, k ∈ U) ∧ U.length + 1 < scanBound ∧ ∀ p n, H p = none → Q (.ref p) (upd H p (SetO w p (fun j => decide (j ∈ ns)) n))
theorem cr_setL (hc : X.calm = true) : CallR X (.type "set") (rSetL X.w X.K) := by
  intro pins s σ H vs us Q I r h
  obtain ⟨a, ns, U, rfl, hs, hU, hb, q⟩ := h
  obtain ⟨its, rv, pl, hz⟩ := I.list hs
  rw [Vals.ref1 r]
  refine call_set_list ns U (I.ok.hd hc) pl.isList rv.ints hU hb fun h' tk c R1 k => ?_
  exact ⟨.ref _, _, I.laid (t' := tk) k (Nat.le_refl _) (setO_new R1), rfl, q _ c (I.hok.fresh (Nat.le_refl _))⟩
def rSortedSetA (w : World) : List V → Hp → VK → Prop := fun vs H Q => ∃ (a : Addr) (S : Int → Bool) (n : Nat), vs = [V.ref a] ∧ H a = some (SetO w a S n) ∧
  ∀ (ns : List Int) (p : Addr), ns.Pairwise (· < ·) → (∀ k : Int, k ∈ ns ↔ S k = true) → H p = none → Q (.ref p) (upd H p (.lst (ns.map V.int)))
theorem cr_sortedSetA (hc : X.calm = true) : CallR X (.builtin "sorted") (rSortedSetA X.w) := by
  intro pins s σ H vs us Q I r h
  obtain ⟨a, S, n, rfl, ha, q⟩ := h
  have R := setO_get I ha
  rw [Vals.ref1 r]
  have hn : n < scanBound := by
    obtain ⟨_, _, _, _, _, _, _, _, _, _, hb, _, hn, _⟩ := R
    omega
  refine sorted_set_any R (I.ok.hd hc) fun s' p out c ns k g o hp hg hi hs hm hl => ?_
  have hlen : (ns.map V.int).length ≤ sizeLine := by
    rw [List.length_map, hl, sizeLine_eq]
    exact Nat.le_trans (Nat.le_of_lt hn) (by decide)
  have hn : H p = none := I.hok.fresh hp
  have J : Inv X pins σ (upd H p (.lst (ns.map V.int))) { s with heap := s'.heap, gens := s'.gens, drawn := s'.drawn, toks := s'.toks } :=
    I.call (ch := []) (Un.laid k hp hn) (I.hok.laid k hp ⟨hlen, out.toList, c, vals_of_ints hi, hg⟩) (by rw [g]; exact I.bare) (fun _ z => nomatch z)
  have e : s' = { s with heap := s'.heap, gens := s'.gens, drawn := s'.drawn, toks := s'.toks } := by
    obtain ⟨h', g', d', t', o'⟩ := s'
    obtain ⟨h, g, d, t, o⟩ := s
    cases o
    rfl
  rw [e]
  exact ⟨.ref p, _, J, rfl, q ns p hs hm hn⟩
def dSSet (p : DE) : DE := fun ρ P R => p ρ (fun d => match d with
  | .lst ds => ∃ ns U : List Int, ds = ns.map .int ∧ (∀ k ∈ ns, k ∈ U) ∧ U.length + 1 < 4096 ∧ P (insD (sset ns))
  | _ => False) R
theorem bt_set : bootBuiltins "set" = some (.type "set") := by decide +kernel
theorem pd_sset {e : Expr} {p : DE} {p1 p2 pos2 : Pos} (nb1 : X.mg "sorted" = none) (nb2 : X.mg "set" = none) (he : PE X e (lift X.K C E p)) (hc : X.calm = true := by rfl) (hg1 : Gl X "sorted" := by rfl) (hg2 : Gl X "set" := by rfl)
    (hs1 : starEach [.Call (.Name "set" p2) [e] [] pos2] X.env = (false, eval (.Call (.Name "set" p2) [e] [] pos2) X.env) :: starEach [] X.env := by rfl) (hl1 : (backTo pos (starEach [] X.env)).any (·.1) = false := by rfl)
    (hs2 : starEach [e] X.env = (false, eval e X.env) :: starEach [] X.env := by rfl) (hl2 : (backTo pos2 (starEach [] X.env)).any (·.1) = false := by rfl) :
    PE X (.Call (.Name "sorted" p1) [.Call (.Name "set" p2) [e] [] pos2] [] pos) (lift X.K C E (dSSet p)) :=
  (pe_callB (cr_sortedSetA hc) hg1 nb1 bt_sorted (pa_cons (pe_callTy (cr_setL hc) hg2 nb2 bt_set (pa_cons he pa_nil hs2) (by decide) (by decide) hs2 hl2) pa_nil hs1) (by decide) (by decide) hs1 hl1).wk fun σ H Q q => by
    obtain ⟨B, O0, O, ρ, P, R, k, q, hP, hR⟩ := q
    refine ⟨B, O0, O, ρ, _, R, k, q, fun v d H1 s1 r1 q1 => ?_, hR⟩
    cases d with
    | lst ds =>
      obtain ⟨ns, U, rfl, hU, hb, q2⟩ := q1
      obtain ⟨a, vs, rfl, e1, e2⟩ := r1
      rw [RepL.of_ints e2] at e1
      refine ⟨a, ns, U, rfl, SqL.of (wo_some e1), hU, hb, fun p n hp => ?_⟩
      refine ⟨p, _, n, rfl, upd_same, fun ns' p' h1 h2 hp' => ?_⟩
      have e : ns' = sset ns := sset_is h1 fun n => by rw [h2]; simp
      subst e
      have s2 : Same H1 (upd H1 p (SetO X.w p (fun j => decide (j ∈ ns)) n)) := Same.new hp
      exact hP _ _ _ ((s1.trans s2).trans (Same.new hp')) (rep_new_lst hp' ((k.al.mono s1).mono s2) (RepL.ints _ (sset ns))) q2
    | _ => exact q1.elim
end
end L2.DL
/-! # Promises of the program's and the laws' defs, and lemmas for their readings -/
namespace L2.DL
open PySem PySem.Spec PyProof.Rows L2.SK

/-! ### sizes -/
theorem sz {n : Nat} (h : n ≤ 16000000) : n ≤ sizeLine := Nat.le_trans h (by rw [sizeLine_eq]; decide)
theorem szlt {n : Nat} (h : n ≤ 16000000) : n < sizeLine := Nat.lt_of_le_of_lt h (by rw [sizeLine_eq]; decide)
theorem mulL {i j : Int} (h1 : -(2 ^ 64) < i) (h2 : i < 2 ^ 64) : IntMulOk i j := .of_left (intBits_le_64 h1 h2)
theorem mulR {i j : Int} (h1 : -(2 ^ 64) < j) (h2 : j < 2 ^ 64) : IntMulOk i j := .of_right (intBits_le_64 h1 h2)
theorem atI_lt {α : Type} {xs : List α} {i : Int} (h0 : 0 ≤ i) (h1 : i < xs.length) : ∃ d, atI xs i = some d ∧ d ∈ xs := by
  have hl : i.toNat < xs.length := by omega
  refine ⟨xs[i.toNat], ?_, List.getElem_mem hl⟩
  unfold atI ixN
  rw [if_pos h0, if_pos h1]
  exact List.getElem?_eq_getElem hl
theorem atI_0 {α : Type} (x : α) (xs : List α) : atI (x :: xs) 0 = some x := by
  unfold atI ixN
  rw [if_pos (Int.le_refl 0), if_pos (by rw [List.length_cons]; omega)]
  rfl
theorem atI_1 {α : Type} (x y : α) (xs : List α) : atI (x :: y :: xs) 1 = some y := by
  unfold atI ixN
  rw [if_pos (by decide), if_pos (by rw [List.length_cons, List.length_cons]; omega)]
  rfl

/-! ### equality of data -/
theorem eqD_int (i j : Int) : eqD (.int i) (.int j) = decide (i = j) := by
  show (i == j) = _
  rw [Bool.beq_eq_decide_eq]
theorem eqD_bl (i j : Bool) : eqD (.bl i) (.bl j) = decide (i = j) := by
  show (i == j) = _
  rw [Bool.beq_eq_decide_eq]
mutual
/-- data of numbers, truths, None, lists and tuples -/
def plain : D → Bool
  | .non => true
  | .bl _ => true
  | .int _ => true
  | .lst ds => plains ds
  | .tup ds => plains ds
  | _ => false
def plains : List D → Bool
  | [] => true
  | d :: ds => plain d && plains ds
end
theorem plains_all : ∀ ds : List D, plains ds = ds.all plain
  | [] => rfl
  | d :: ds => by rw [plains, plains_all ds]; rfl
mutual
def dep : D → Nat
  | .lst ds => deps ds + 1
  | .tup ds => deps ds + 1
  | _ => 0
def deps : List D → Nat
  | [] => 0
  | d :: ds => max (dep d) (deps ds)
end
mutual
theorem plain_can : ∀ d : D, plain d = true → d.toPy.canLay0 = true ∧ d.toPy.depth = dep d
  | .non, _ => ⟨rfl, rfl⟩
  | .bl _, _ => ⟨rfl, rfl⟩
  | .int _, _ => ⟨rfl, rfl⟩
  | .lst ds, h => by
    obtain ⟨a, b⟩ := plains_can ds (by simpa [plain] using h)
    rw [D.toPy, dep, PyData.canLay0, PyData.depth, a, b]
    exact ⟨rfl, rfl⟩
  | .tup ds, h => by
    obtain ⟨a, b⟩ := plains_can ds (by simpa [plain] using h)
    rw [D.toPy, dep, PyData.canLay0, PyData.depth, a, b]
    exact ⟨rfl, rfl⟩
  | .str _, h => by cases h
  | .dic _ _, h => by cases h
  | .kp _ _, h => by cases h
  | .scr _, h => by cases h
  | .adr _, h => by cases h
  | .ty _, h => by cases h
theorem plains_can : ∀ ds : List D, plains ds = true → PyData.canLayAll0 (toPys ds) = true ∧ PyData.depthAll (toPys ds) = deps ds
  | [], _ => ⟨rfl, rfl⟩
  | d :: ds, h => by
    rw [plains, Bool.and_eq_true] at h
    obtain ⟨a, b⟩ := plain_can d h.1
    obtain ⟨a', b'⟩ := plains_can ds h.2
    rw [toPys, deps, PyData.canLayAll0, PyData.depthAll, a, a', b, b']
    exact ⟨rfl, rfl⟩
end
theorem okE_plain {d : D} (h : plain d = true) (hd : dep d ≤ 64) : okE d := by
  obtain ⟨a, b⟩ := plain_can d h
  unfold okE SeqAt.shaped
  rw [a, b, decide_eq_true hd]
  rfl
theorem okE_int (i : Int) : okE (.int i) := okE_plain rfl (Nat.zero_le _)
theorem okE_bl (b : Bool) : okE (.bl b) := okE_plain rfl (Nat.zero_le _)
theorem okE_non : okE .non := okE_plain rfl (Nat.zero_le _)
theorem plain_oi (o : Option Int) : plain (oi o) = true ∧ dep (oi o) = 0 := by cases o <;> exact ⟨rfl, rfl⟩
theorem plain_sD (s : Str2) : plain (sD s) = true ∧ dep (sD s) = 1 := by
  obtain ⟨a, c⟩ := s
  unfold sD
  rw [plain, plains, plains, plains, dep, deps, deps, deps, (plain_oi a).1, (plain_oi c).1, (plain_oi a).2, (plain_oi c).2]
  exact ⟨rfl, rfl⟩
theorem plains_sD : ∀ ss : List Str2, plains (ss.map sD) = true ∧ deps (ss.map sD) ≤ 1
  | [] => ⟨rfl, Nat.zero_le _⟩
  | s :: ss => by
    obtain ⟨a, b⟩ := plains_sD ss
    rw [List.map_cons, plains, deps, a, (plain_sD s).1, (plain_sD s).2]
    exact ⟨rfl, by omega⟩
theorem okE_ssD (ss : List Str2) : okE (ssD ss) := by
  obtain ⟨a, b⟩ := plains_sD ss
  refine okE_plain (by rw [ssD, plain]; exact a) ?_
  rw [ssD, dep]
  omega
theorem eqD_oi (a b : Option Int) : eqD (oi a) (oi b) = decide (a = b) := by
  cases a <;> cases b <;> simp [oi, eqD, D.toPy, PyData.eqv, Bool.beq_eq_decide_eq]
theorem eqD_sD (s t : Str2) : eqD (sD s) (sD t) = decide (s = t) := by
  obtain ⟨a, b⟩ := s
  obtain ⟨c, d⟩ := t
  have h1 := eqD_oi a c
  have h2 := eqD_oi b d
  unfold eqD at h1 h2 ⊢
  unfold sD
  simp only [D.toPy, toPys, PyData.eqv, PyData.eqvAll, h1, h2, Bool.and_true, Prod.mk.injEq, Bool.decide_and]
theorem eqAll_sD : ∀ ss tt : List Str2, PyData.eqvAll (toPys (ss.map sD)) (toPys (tt.map sD)) = decide (ss = tt)
  | [], [] => rfl
  | [], _ :: _ => rfl
  | _ :: _, [] => rfl
  | s :: ss, t :: tt => by
    have h1 := eqD_sD s t
    unfold eqD at h1
    rw [List.map_cons, List.map_cons, toPys, toPys, PyData.eqvAll, h1, eqAll_sD ss tt]
    simp only [List.cons.injEq, Bool.decide_and]
theorem eqD_ssD (ss tt : List Str2) : eqD (ssD ss) (ssD tt) = decide (ss = tt) := by
  unfold eqD ssD
  rw [D.toPy, D.toPy, PyData.eqv]
  exact eqAll_sD ss tt

/-! ### loops and comprehensions by what is left -/
theorem forD_ind {α : Type} {g : DG} {b : DS} {N : Env → Prop} {R : D → Prop} {Z : Addr → Prop} {enc : α → D} (S : List α → Env → Prop) (h0 : ∀ ρ, S [] ρ → N ρ)
    (hs : ∀ x xs ρ (k : Env → Prop), S (x :: xs) ρ → (∀ ρ', S xs ρ' → k ρ') → g (enc x) ρ (fun ρ' => b ρ' k R Z)) : ∀ xs ρ, S xs ρ → forD g b N R Z (xs.map enc) ρ
  | [], ρ, h => h0 ρ h
  | x :: xs, ρ, h => hs x xs ρ _ h fun ρ' h' => forD_ind S h0 hs xs ρ' h'
theorem lcD_map {α : Type} {g : DG} {t : DT} {p : DE} {ρ : Env} {enc : α → D} {f : α → Option D} : ∀ (xs : List α) {acc : List D} {P : List D → Prop},
    (∀ x ∈ xs, ∀ (k1 : D → Prop) (k2 : Prop), (match f x with | some y => k1 y | none => k2) → g (enc x) ρ (fun ρ2 => t ρ2 (fun b => if b = true then p ρ2 k1 (fun _ => False) else k2) (fun _ => False))) →
    P (acc ++ xs.filterMap f) → lcD g t p ρ P (xs.map enc) acc
  | [], acc, P, _, h => by
    rw [List.filterMap_nil, List.append_nil] at h
    exact h
  | x :: xs, acc, P, hs, h => by
    refine hs x List.mem_cons_self _ _ ?_
    cases e : f x with
    | none =>
      rw [List.filterMap_cons_none e] at h
      exact lcD_map xs (fun y hy => hs y (List.mem_cons_of_mem _ hy)) h
    | some y =>
      rw [List.filterMap_cons_some e] at h
      exact lcD_map xs (fun y hy => hs y (List.mem_cons_of_mem _ hy)) (by rw [List.append_assoc]; exact h)
theorem filterMap_some {α β : Type} (f : α → β) : ∀ xs : List α, xs.filterMap (fun x => some (f x)) = xs.map f
  | [] => rfl
  | x :: xs => by
    show f x :: xs.filterMap (fun x => some (f x)) = f x :: xs.map f
    rw [filterMap_some f xs]
/-! ### small words for the readings -/
theorem isN_non : D.isN .non = true := rfl
theorem isN_int (i : Int) : D.isN (.int i) = false := rfl
theorem isN_bl (i : Bool) : D.isN (.bl i) = false := rfl
theorem isN_str (i : Str) : D.isN (.str i) = false := rfl
theorem isN_lst (i : List D) : D.isN (.lst i) = false := rfl
theorem isN_tup (i : List D) : D.isN (.tup i) = false := rfl
theorem isN_oi (o : Option Int) : D.isN (oi o) = o.isNone := by cases o <;> rfl
theorem oi_none : oi none = .non := rfl
theorem oi_some (i : Int) : oi (some i) = .int i := rfl
theorem dec_tt : (true = true) = True := by simp
theorem dec_ff : (false = true) = False := by simp
/-! ### stretches.py -/
def isNum : D → Bool
  | .int _ => true
  | _ => false
def dp_is_number : DP := fun ds P _ => ∃ d, ds = [d] ∧ (tyD d).isSome = true ∧ P (.bl (isNum d))
def dp_need_number (bn : Addr) : DP := fun ds P R => ∃ d, ds = [d] ∧ (tyD d).isSome = true ∧ (isNum d = true → P .non) ∧ (isNum d = false → R bn)
theorem dp_is_number_eq {d : D} {P : D → Prop} {R : Addr → Prop} (h : (tyD d).isSome = true) : dp_is_number [d] P R = P (.bl (isNum d)) := propext
  ⟨fun ⟨e, he, _, p⟩ => by cases he; exact p, fun p => ⟨d, rfl, h, p⟩⟩
theorem end_cases (d : D) : d = .non ∨ (∃ i, d = .int i) ∨ (d.isN = false ∧ isNum d = false) := by
  cases d with
  | non => exact .inl rfl
  | int i => exact .inr (.inl ⟨i, rfl⟩)
  | _ => exact .inr (.inr ⟨rfl, rfl⟩)
/-- an end: None or a number -/
def isEnd : D → Bool
  | .int _ => true
  | .non => true
  | _ => false
theorem isEnd_no {d : D} (h : d.isN = false) (h' : isNum d = false) : isEnd d = false := by
  cases d <;> simp_all [isEnd, isNum, D.isN]
def leD : D → D → Bool
  | .int i, .int j => decide (i ≤ j)
  | _, _ => true
theorem isEnd_non : isEnd .non = true := rfl
theorem isEnd_int (i : Int) : isEnd (.int i) = true := rfl
theorem isNum_non : isNum .non = false := rfl
theorem isNum_int (i : Int) : isNum (.int i) = true := rfl
theorem leD_nx (d : D) : leD .non d = true := rfl
theorem leD_in (i : Int) : leD (.int i) .non = true := rfl
theorem leD_ii (i j : Int) : leD (.int i) (.int j) = decide (i ≤ j) := rfl
def isStr : D → Bool
  | .tup [a, b] => isEnd a && isEnd b && leD a b
  | _ => false
/-- a thing that may be asked -/
def okThing (d : D) : Prop := (tyD d).isSome = true ∧ ∀ ds, d = .tup ds → ∀ e ∈ ds, (tyD e).isSome = true
def dp_is_stretch : DP := fun ds P _ => ∃ d, ds = [d] ∧ okThing d ∧ P (.bl (isStr d))
def dp_need_stretch (bs : Addr) : DP := fun ds P R => ∃ d, ds = [d] ∧ okThing d ∧ (isStr d = true → P .non) ∧ (isStr d = false → R bs)
theorem isStr_sD (s : Str2) : isStr (sD s) = okS s := by
  obtain ⟨a, c⟩ := s
  cases a <;> cases c <;> rfl
theorem okThing_sD (s : Str2) : okThing (sD s) := by
  obtain ⟨a, c⟩ := s
  refine ⟨rfl, fun ds h e he => ?_⟩
  unfold sD at h
  cases h
  rcases List.mem_cons.mp he with rfl | he
  · cases a <;> rfl
  · rcases List.mem_cons.mp he with rfl | he
    · cases c <;> rfl
    · cases he

/-! ### keepers.py -/
def dp_rule (f : Bool → Bool → Bool) : DP := fun ds P _ => ∃ a b, ds = [.bl a, .bl b] ∧ P (.bl (f a b))
def f_either (a b : Bool) : Bool := a || b
def f_both (a b : Bool) : Bool := a && b
def f_alone (a b : Bool) : Bool := a && !b
def f_unlike (a b : Bool) : Bool := a != b
def sRow (s : Str2) (h : okS s = true) : KRow := ⟨s.1.isNone, turnsS s, turnsS_up h⟩
def dp_turns_of : DP := fun ds P _ => ∃ s, ds = [sD s] ∧ P (.tup [.bl s.1.isNone, insD (turnsS s)])
/-- two rows fit: their turns are few -/
def Few (r1 r2 : KRow) : Prop := ∃ U : List Int, (∀ k ∈ r1.ts, k ∈ U) ∧ (∀ k ∈ r2.ts, k ∈ U) ∧ U.length + 1 < 4096
theorem KRow.few {r1 r2 : KRow} (h : Few r1 r2) : r1.ts.length ≤ 4096 ∧ r2.ts.length ≤ 4096 := by
  obtain ⟨U, h1, h2, h3⟩ := h
  have a := nodup_few (r1.up.imp fun a => Int.ne_of_lt a) h1
  have b := nodup_few (r2.up.imp fun a => Int.ne_of_lt a) h2
  omega
def dp_merged (f : Bool → Bool → Bool) (fr : Addr) : DP := fun ds P _ => ∃ r1 r2, ds = [rowD r1, rowD r2, .adr fr] ∧ Few r1 r2 ∧ P (rowD (mergeR f r1 r2))
def dp_stretches : DP := fun ds P _ => ∃ r : KRow, ds = [kpD r] ∧ r.ts.length ≤ 1000000 ∧ P (ssD r.strs)
def df_stretches : List D → (List D → Prop) → Prop := fun ds P => ∃ r : KRow, ds = [kpD r] ∧ r.ts.length ≤ 1000000 ∧ P (r.strs.map sD)

/-! ### the laws' own -/
def dp_mixed : DP := fun ds P _ => ∃ c k, ds = [.int c, .int k] ∧ ∀ z : Int, 0 ≤ z → z < 1000003 → P (.int z)
def dp_whole : DP := fun ds P _ => ∃ d, ds = [d] ∧ (tyD d).isSome = true ∧ P (.bl (isNum d))
/-- the numbers of the laws -/
def Lim (z : Int) : Prop := -(10 ^ 480 + 10) ≤ z ∧ z ≤ 10 ^ 480 + 10
def LimO (o : Option Int) : Prop := ∀ z, o = some z → Lim z
def dp_number : DP := fun ds P _ => ∃ c k, ds = [.int c, .int k] ∧ ∀ z : Int, Lim z → P (.int z)
def dp_stretch : DP := fun ds P _ => ∃ c k, ds = [.int c, .int k] ∧ ∀ s : Str2, okS s = true → LimO s.1 → (∀ z, s.2 = some z → -(10 ^ 480 + 10) ≤ z ∧ z ≤ 10 ^ 480 + 20) → P (sD s)
def dp_lies : DP := fun ds P _ => ∃ s n, ds = [sD s, .int n] ∧ P (.bl (lies s n))
/-- the deed's lists are not too long -/
def lenD : Deed → Nat
  | .put ss => ss.length
  | .take ss => ss.length
  | .keep ss => ss.length
  | .turn ss => ss.length
  | _ => 0
def dp_behind : DP := fun ds P _ => ∃ d b n, ds = [dD d, .bl b, .int n] ∧ lenD d ≤ 1000000 ∧ P (.bl (behind d b n))
def dp_in : DP := fun ds P _ => ∃ dds n, ds = [dsD dds, .int n] ∧ dds.length ≤ 1000000 ∧ (∀ d ∈ dds, lenD d ≤ 1000000) ∧ P (.bl (inD dds n))
/-- deeds that can be done: their spots are few -/
structure Fit (dds : List Deed) : Prop where
  many : dds.length ≤ 1000000
  each : ∀ d ∈ dds, lenD d ≤ 1000000
  sp : (spots dds).length ≤ 1000000
  few : ∃ U : List Int, (∀ k ∈ spots dds, k ∈ U) ∧ U.length + 1 < 4096
def dp_spots : DP := fun ds P _ => ∃ dds, ds = [dsD dds] ∧ Fit dds ∧ P (insD (sset (spots dds)))
def dp_due : DP := fun ds P _ => ∃ dds, ds = [dsD dds] ∧ Fit dds ∧ P (ssD (due dds))
def dp_right : DP := fun ds P _ => ∃ ss tt, ds = [ssD ss, ssD tt] ∧ ss.length ≤ 1000000 ∧ P (.bl (decide (ss = tt)))
end L2.DL
namespace L2.DL
open PySem PySem.Spec PyProof.Rows L2.SK
theorem dp_mixed_eq {c k : Int} {P : D → Prop} {R : Addr → Prop} : dp_mixed [.int c, .int k] P R = ∀ z : Int, 0 ≤ z → z < 1000003 → P (.int z) := propext
  ⟨fun ⟨_, _, he, p⟩ => p, fun p => ⟨c, k, rfl, p⟩⟩
theorem dp_number_eq {c k : Int} {P : D → Prop} {R : Addr → Prop} : dp_number [.int c, .int k] P R = ∀ z : Int, Lim z → P (.int z) := propext
  ⟨fun ⟨_, _, he, p⟩ => p, fun p => ⟨c, k, rfl, p⟩⟩
theorem dp_whole_eq {d : D} {P : D → Prop} {R : Addr → Prop} (h : (tyD d).isSome = true) : dp_whole [d] P R = P (.bl (isNum d)) := propext
  ⟨fun ⟨e, he, _, p⟩ => by cases he; exact p, fun p => ⟨d, rfl, h, p⟩⟩
theorem sD_inj {s t : Str2} (h : sD s = sD t) : s = t := by
  obtain ⟨a, b⟩ := s
  obtain ⟨c, d⟩ := t
  unfold sD at h
  cases a <;> cases b <;> cases c <;> cases d <;> simp [oi] at h ⊢ <;> first | exact h | trivial
theorem dp_lies_eq {s : Str2} {n : Int} {P : D → Prop} {R : Addr → Prop} : dp_lies [.tup [oi s.1, oi s.2], .int n] P R = P (.bl (lies s n)) := propext
  ⟨fun ⟨t, m, he, p⟩ => by
    have h1 : D.tup [oi s.1, oi s.2] = sD t := (List.cons.inj he).1
    have h2 : D.int n = D.int m := (List.cons.inj (List.cons.inj he).2).1
    cases h2
    have := sD_inj (s := s) (t := t) h1
    subst this
    exact p, fun p => ⟨s, n, rfl, p⟩⟩
end L2.DL
namespace L2.DL
open PySem PySem.Spec PyProof.Rows L2.SK
theorem cpw_a : CPw 10 40 = True := eq_true ⟨by decide, by decide +kernel⟩
theorem cpw_b : CPw 10 60 = True := eq_true ⟨by decide, by decide +kernel⟩
theorem cpw_c : CPw 1000003 4 = True := eq_true ⟨by decide, by decide +kernel⟩
theorem cpw_d : CPw (10 ^ 60) 8 = True := eq_true ⟨by decide, by decide +kernel⟩
theorem pow_ok : (10 ^ 60 : Int) ^ 8 = 10 ^ 480 := by decide +kernel
theorem lt_t {i : Int} (h : 0 < i) : (0 < i) = True := eq_true h
theorem int_pos9 : ((0 : Int) < 9) = True := eq_true (by decide)
theorem law_mul1 (c : Int) : IntMulOk (c % 10 ^ 40) (1000003 ^ 4) := by
  have h1 := Int.emod_nonneg c (show (10 ^ 40 : Int) ≠ 0 by decide)
  have h2 := Int.emod_lt_of_pos c (show (0 : Int) < 10 ^ 40 by decide)
  refine (wide_mul (a := 140) (b := 90) ?_ (by decide +kernel) (by decide) (by decide) (by decide)).ok
  generalize c % 10 ^ 40 = y at h1 h2
  have : (2 ^ 140 : Nat) > 10 ^ 40 := by decide +kernel
  omega
/-- an index that is a remainder -/
theorem at_mod {xs : List D} {i m : Int} {P : D → Prop} (h0 : 0 < m) (h1 : m ≤ xs.length) (h : ∀ d ∈ xs, P d) : ∃ d, atI xs (i % m) = some d ∧ P d := by
  have a1 := Int.emod_nonneg i (show m ≠ 0 by omega)
  have a2 := Int.emod_lt_of_pos i h0
  obtain ⟨d, e, hd⟩ := atI_lt (xs := xs) a1 (by omega)
  exact ⟨d, e, h d hd⟩
end L2.DL
namespace L2.DL
open PySem PySem.Spec PyProof.Rows L2.SK
theorem plains_bls : ∀ bs : List Bool, plains (bs.map .bl) = true ∧ deps (bs.map .bl) = 0
  | [] => ⟨rfl, rfl⟩
  | b :: bs => by
    obtain ⟨h1, h2⟩ := plains_bls bs
    rw [List.map_cons, plains, deps, h1, h2]
    exact ⟨rfl, rfl⟩
theorem okE_bls (bs : List Bool) : okE (.lst (bs.map .bl)) := by
  obtain ⟨h1, h2⟩ := plains_bls bs
  exact okE_plain (by rw [plain]; exact h1) (by rw [dep, h2]; omega)
theorem any_bls (bs : List Bool) : ((bs.map D.bl).any fun z => eqD z (.bl true)) = bs.any id := by
  rw [List.any_map]
  congr 1
  funext b
  cases b <;> rfl
theorem wd_mm : ∀ w ∈ (["put", "take", "keep", "turn"] : List Str), ([D.str "move", D.str "mirror"].any fun z => eqD z (D.str w)) = false := by decide +kernel
theorem wd_nodup4 : ([.inr "put", .inr "take", .inr "keep", .inr "turn"] : List Key).Nodup := by decide +kernel
theorem wd_put {x1 x2 x3 x4 : D} : valD [.inr "put", .inr "take", .inr "keep", .inr "turn"] [x1, x2, x3, x4] (.inr "put") = some x1 := by
  simp only [valD, if_true]
theorem wd_take {x1 x2 x3 x4 : D} : valD [.inr "put", .inr "take", .inr "keep", .inr "turn"] [x1, x2, x3, x4] (.inr "take") = some x2 := by
  have e1 : ¬ ((.inr "put" : Key) = .inr "take") := by decide +kernel
  simp only [valD, if_true, if_neg e1]
theorem wd_keep {x1 x2 x3 x4 : D} : valD [.inr "put", .inr "take", .inr "keep", .inr "turn"] [x1, x2, x3, x4] (.inr "keep") = some x3 := by
  have e1 : ¬ ((.inr "put" : Key) = .inr "keep") := by decide +kernel
  have e2 : ¬ ((.inr "take" : Key) = .inr "keep") := by decide +kernel
  simp only [valD, if_true, if_neg e1, if_neg e2]
theorem wd_turn {x1 x2 x3 x4 : D} : valD [.inr "put", .inr "take", .inr "keep", .inr "turn"] [x1, x2, x3, x4] (.inr "turn") = some x4 := by
  have e1 : ¬ ((.inr "put" : Key) = .inr "turn") := by decide +kernel
  have e2 : ¬ ((.inr "take" : Key) = .inr "turn") := by decide +kernel
  have e3 : ¬ ((.inr "keep" : Key) = .inr "turn") := by decide +kernel
  simp only [valD, if_true, if_neg e1, if_neg e2, if_neg e3]
end L2.DL
namespace L2.SK
/-- the spots told on the way back, the last one left out -/
def path : List Deed → Int → List Int
  | [], _ => []
  | d :: rs, n => n :: path rs (back d n)
def later : List Deed → Int → List Int
  | [], _ => []
  | d :: rs, n => back d n :: later rs (back d n)
theorem path_later : ∀ (rs : List Deed) (n : Int), (n :: later rs n).dropLast = path rs n
  | [], _ => rfl
  | d :: rs, n => by
    rw [later, path, List.dropLast_cons₂, path_later rs]
theorem path_length : ∀ (rs : List Deed) (n : Int), (path rs n).length = rs.length
  | [], _ => rfl
  | d :: rs, n => by rw [path, List.length_cons, List.length_cons, path_length rs]
theorem path_fold : ∀ (rs : List Deed) (n : Int), (rs.reverse.zip (path rs n).reverse).foldl (fun b p => behind p.1 b p.2) false = inR rs n
  | [], _ => rfl
  | d :: rs, n => by
    rw [path, List.reverse_cons, List.reverse_cons, List.zip_append (by rw [List.length_reverse, List.length_reverse, path_length]), List.foldl_append, path_fold rs]
    rfl
def isMv : Deed → Bool
  | .move _ => true
  | _ => false
def isMi : Deed → Bool
  | .mirror => true
  | _ => false
end L2.SK
namespace L2.DL
open PySem PySem.Spec PyProof.Rows L2.SK
theorem word_mv : ∀ d : Deed, decide (word d = "move") = isMv d
  | .put _ => (by decide +kernel : decide (("put" : Str) = "move") = false)
  | .take _ => (by decide +kernel : decide (("take" : Str) = "move") = false)
  | .keep _ => (by decide +kernel : decide (("keep" : Str) = "move") = false)
  | .turn _ => (by decide +kernel : decide (("turn" : Str) = "move") = false)
  | .move _ => (by decide +kernel : decide (("move" : Str) = "move") = true)
  | .mirror => (by decide +kernel : decide (("mirror" : Str) = "move") = false)
theorem word_mi : ∀ d : Deed, decide (word d = "mirror") = isMi d
  | .put _ => (by decide +kernel : decide (("put" : Str) = "mirror") = false)
  | .take _ => (by decide +kernel : decide (("take" : Str) = "mirror") = false)
  | .keep _ => (by decide +kernel : decide (("keep" : Str) = "mirror") = false)
  | .turn _ => (by decide +kernel : decide (("turn" : Str) = "mirror") = false)
  | .move _ => (by decide +kernel : decide (("move" : Str) = "mirror") = false)
  | .mirror => (by decide +kernel : decide (("mirror" : Str) = "mirror") = true)
theorem cut_last (ds : List D) : cutD ds none (some (-1)) = ds.dropLast := by
  unfold cutD
  rw [List.dropLast_eq_take]
  cases ds with
  | nil => rfl
  | cons d ds =>
    have e : HT.sIx (d :: ds).length (d :: ds).length (some (-1)) = ds.length := by
      simp [HT.sIx]
      omega
    have e0 : HT.sIx (d :: ds).length 0 none = 0 := rfl
    rw [e, e0]
    simp
end L2.DL

namespace L2.SK
theorem spotsS_len (acc : List Int) (d : Deed) : acc.length ≤ (spotsS acc d).length := by
  cases d <;> simp [spotsS]
theorem spots_grow : ∀ (rest : List Deed) (acc : List Int), acc.length ≤ (rest.foldl spotsS acc).length
  | [], _ => Nat.le_refl _
  | d :: rest, acc => Nat.le_trans (spotsS_len acc d) (spots_grow rest _)
end L2.SK
/-! # Stateful readings: Keepers that change -/
namespace L2.DL
open PySem PySem.Spec PyProof.Rows

abbrev DEM := Env → (D → Env → Prop) → (Addr → Env → Prop) → Prop
abbrev DTM := Env → (Bool → Env → Prop) → (Addr → Env → Prop) → Prop
abbrev DSM := Env → (Env → Prop) → (D → Env → Prop) → (Addr → Env → Prop) → Prop
def liftM (K : PySem.W.Frag) (C : Addr) (E : XK) (p : DEM) : TE := fun σ H Q => ∃ B O0 O ρ P R, Ok K C B O0 O H σ ρ ∧ p ρ P R ∧
  (∀ v d H' ρ' O', Ok K C B O0 O' H' σ ρ' → Rep K C (wo H' O') d v → P d ρ' → Q v H') ∧ ∀ c H' σ' ρ' O', Ok K C B O0 O' H' σ' ρ' → R c ρ' → E (.ref c) none H'
def liftTM (K : PySem.W.Frag) (C : Addr) (E : XK) (p : DTM) : TT := fun σ H Q => ∃ B O0 O ρ P R, Ok K C B O0 O H σ ρ ∧ p ρ P R ∧
  (∀ b H' ρ' O', Ok K C B O0 O' H' σ ρ' → P b ρ' → Q b H') ∧ ∀ c H' σ' ρ' O', Ok K C B O0 O' H' σ' ρ' → R c ρ' → E (.ref c) none H'
def liftSM (K : PySem.W.Frag) (C : Addr) (E : XK) (p : DSM) : TS := fun T σ H => ∃ B O0 O ρ N R Z, Ok K C B O0 O H σ ρ ∧ p ρ N R Z ∧
  (∀ σ' H' ρ' O', Ok K C B O0 O' H' σ' ρ' → N ρ' → T.nx σ' H') ∧ (∀ v d H' σ' ρ' O', Ok K C B O0 O' H' σ' ρ' → Rep K C (wo H' O') d v → R d ρ' → T.rt v H') ∧ ∀ c H' σ' ρ' O', Ok K C B O0 O' H' σ' ρ' → Z c ρ' → E (.ref c) none H'

/-! ### the store -/
section
variable {K : PySem.W.Frag} {C : Addr} {B H H' : Hp} {O0 O : List Addr} {σ : St} {ρ : Env}
theorem Ok.apart0 (k : Ok K C B O0 O H σ ρ) {p : Addr} (hb : B p = none) : p ∉ O0 := fun h => k.al0 p h hb
/-- a slot comes to tell of a Keeper -/
theorem Ok.tell (k : Ok K C B O0 O H σ ρ) (j : Nat) {p l dx : Addr} {b : Bool} {ts : List Int} (hp : p ∈ O) (hb : B p = none) (h1 : H p = some (.ins C dx (kf b l))) (h2 : wo H O l = some (.lst (ts.map V.int)))
    (hn : ∀ (i : Nat) (b' : Bool) (ts' : List Int), ρ[i]? = some (some (.kst p b' ts')) → i = j) : Ok K C B O0 O H σ (ρ.set j (some (.kst p b ts))) := by
  have old : ∀ {i : Nat} {x : DV}, (ρ.set j (some (.kst p b ts)))[i]? = some (some x) → (i = j ∧ x = .kst p b ts) ∨ (i ≠ j ∧ ρ[i]? = some (some x)) := fun {i x} e => by
    by_cases h : j = i
    · subst h
      by_cases hl : j < ρ.length
      · rw [List.getElem?_set_self hl] at e
        exact .inl ⟨rfl, (Option.some.inj (Option.some.inj e)).symm⟩
      · rw [List.getElem?_eq_none (by rw [List.length_set]; omega)] at e
        cases e
    · rw [List.getElem?_set_ne h] at e
      exact .inr ⟨fun z => h z.symm, e⟩
  refine ⟨k.base, k.al0, k.al, k.sub0, k.new, by rw [List.length_set]; exact k.len, fun i d e => ?_, fun i ds e => ?_, fun a a' ds es e1 e2 e3 => ?_, ⟨fun i q b' ts' e => ?_, fun i i' q b1 b2 t1 t2 e1 e2 => ?_⟩, k.ls.to (set_ls fun _ _ h => by cases h) (fun _ _ _ _ _ _ h => h) (fun _ _ _ _ _ _ _ e => e) (Same.refl _) (fun _ _ h => h) fun a b' q ds' es e e' => by
      rcases old e' with ⟨_, z⟩ | ⟨_, e'⟩
      · cases z
      · exact k.ls.no a b' q ds' es e e', k.tb.to (set_tb fun _ _ h => by cases h) (fun _ _ _ h => h) (SameX.refl _) (fun _ _ h => h)⟩
  · rcases old e with ⟨_, z⟩ | ⟨_, e⟩
    · cases z
    · exact k.val i d e
  · rcases old e with ⟨_, z⟩ | ⟨_, e⟩
    · cases z
    · exact k.own i ds e
  · rcases old e1 with ⟨_, z⟩ | ⟨_, e1⟩
    · cases z
    · rcases old e2 with ⟨_, z⟩ | ⟨_, e2⟩
      · cases z
      · exact k.uniq a a' ds es e1 e2 e3
  · rcases old e with ⟨_, z⟩ | ⟨_, e⟩
    · cases z
      exact ⟨hp, hb, dx, l, h1, h2⟩
    · exact k.st.at_ i q b' ts' e
  · rcases old e1 with ⟨z1, z⟩ | ⟨n1, e1⟩
    · cases z
      rcases old e2 with ⟨z2, _⟩ | ⟨n2, e2⟩
      · rw [z1, z2]
      · exact absurd (hn _ _ _ e2) n2
    · rcases old e2 with ⟨z2, z⟩ | ⟨n2, e2⟩
      · cases z
        exact absurd (hn _ _ _ e1) n1
      · exact k.st.one i i' q b1 b2 t1 t2 e1 e2
/-- the Keeper that slot j tells of changes -/
theorem Ok.mut (k : Ok K C B O0 O H σ ρ) {j : Nat} {p l dx : Addr} {b b' : Bool} {ts ts' : List Int} (hj : ρ[j]? = some (some (.kst p b ts))) (s : Same (wo H [p]) H') (h1 : H' p = some (.ins C dx (kf b' l))) (h2 : wo H' O l = some (.lst (ts'.map V.int))) :
    Ok K C B O0 O H' σ (ρ.set j (some (.kst p b' ts'))) := by
  obtain ⟨hp, hb, dx0, l0, h3, h4⟩ := k.st.at_ j p b ts hj
  have s1 : ∀ q o, q ≠ p → H q = some o → H' q = some o := fun q o n e => s q o (wo_of e (by simpa using n))
  have sw : Same (wo H O) (wo H' O) := fun q o e => by
    have nO : q ∉ O := fun z => by
      unfold wo at e
      rw [if_pos z] at e
      cases e
    exact wo_of (s1 q o (fun z => nO (z ▸ hp)) (wo_some e)) nO
  have k1 : Ok K C B O0 O H' σ (ρ.set j none) := by
    have old : ∀ {i : Nat} {x : DV}, (ρ.set j none)[i]? = some (some x) → ρ[i]? = some (some x) ∧ j ≠ i := fun {i x} e => by
      by_cases h : j = i
      · subst h
        by_cases hl : j < ρ.length
        · rw [List.getElem?_set_self hl] at e
          simp at e
        · rw [List.getElem?_eq_none (by rw [List.length_set]; omega)] at e
          cases e
      · rw [List.getElem?_set_ne h] at e
        exact ⟨e, h⟩
    refine ⟨fun q o e => s1 q o (fun z => by rw [z, hb] at e; cases e) (k.base q o e), k.al0, fun a ha => ?_, k.sub0, k.new, by rw [List.length_set]; exact k.len, fun i d e => ?_, fun i ds e => ?_, fun a a' ds es e1 e2 e3 => ?_, ⟨fun i q c cs e => ?_, fun i i' q b1 b2 t1 t2 e1 e2 => ?_⟩, k.ls.to (set_ls fun _ _ h => by cases h) (fun _ _ _ _ _ _ h => h) (fun m a ds' vs' z _ _ e => s1 a _ (fun q => by rw [q, h3] at e; cases e) e) sw (fun _ _ h => h) fun a b' q ds' es e e' => k.ls.no a b' q ds' es e (old e').1, k.tb.to (set_tb fun _ _ h => by cases h) (fun _ _ _ h => h) (fun a o e _ n2 => s1 a o (fun z => by rw [z, h3] at e; cases e; exact n2 _ _ _ rfl) e) (fun _ _ h => h)⟩
    · by_cases z : a = p
      · rw [z, h1]; intro y; cases y
      · obtain ⟨o, ho⟩ := Option.ne_none_iff_exists'.mp (k.al a ha)
        rw [s1 a o z ho]; intro y; cases y
    · obtain ⟨x, e1, e2⟩ := k.val i d (old e).1
      exact ⟨x, e1, Rep.mono sw d e2⟩
    · obtain ⟨q, vs, e1, e2, e3, e4, e5⟩ := k.own i ds (old e).1
      exact ⟨q, vs, e1, e2, e3, s1 q _ (fun z => by rw [z, h3] at e4; cases e4) e4, RepL.mono sw ds e5⟩
    · exact k.uniq a a' ds es (old e1).1 (old e2).1 e3
    · obtain ⟨e, n⟩ := old e
      obtain ⟨a1, a2, dx1, l1, a3, a4⟩ := k.st.at_ i q c cs e
      exact ⟨a1, a2, dx1, l1, s1 q _ (fun z => n (k.st.one j i p b c ts cs hj (z ▸ e))) a3, sw _ _ a4⟩
    · exact k.st.one i i' q b1 b2 t1 t2 (old e1).1 (old e2).1
  have k2 := k1.tell j hp hb h1 h2 (fun i b1 t1 e => by
    by_cases h : j = i
    · exact h.symm
    · rw [List.getElem?_set_ne h] at e
      exact absurd (k.st.one j i p b b1 ts t1 hj e) h)
  rwa [List.set_set] at k2
/-- data in which no Keeper stands -/
def D.free : D → Prop
  | .lst ds => ∀ d ∈ ds, d.free
  | .tup ds => ∀ d ∈ ds, d.free
  | .dic _ ds => ∀ d ∈ ds, d.free
  | .kp _ _ => False
  | .scr _ => False
  | _ => True
mutual
theorem Rep.over {H1 H2 : Hp} (hs : ∀ a o, H1 a = some o → (∀ c dx fs, o ≠ .ins c dx fs) → H2 a = some o) : ∀ (d : D) {v : V}, d.free → Rep K C H1 d v → Rep K C H2 d v
  | .non, _, _, h => h
  | .bl _, _, _, h => h
  | .int _, _, _, h => h
  | .str _, _, _, h => h
  | .adr _, _, _, h => h
  | .ty _, _, _, h => h
  | .lst ds, v, f, h => by
    obtain ⟨a, vs, e, h1, h2⟩ := h
    rw [D.free] at f
    exact ⟨a, vs, e, hs _ _ h1 (fun _ _ _ z => by cases z), RepL.over hs ds f h2⟩
  | .tup ds, v, f, h => by
    obtain ⟨a, vs, e, h1, h2⟩ := h
    rw [D.free] at f
    exact ⟨a, vs, e, hs _ _ h1 (fun _ _ _ z => by cases z), RepL.over hs ds f h2⟩
  | .dic ks ds, v, f, h => by
    obtain ⟨a, vs, e, h1, h2, h3⟩ := h
    rw [D.free] at f
    exact ⟨a, vs, e, hs _ _ h1 (fun _ _ _ z => by cases z), RepL.over hs ds f h2, h3⟩
  | .kp b ts, v, f, h => by rw [D.free] at f; exact f.elim
  | .scr ns, v, f, h => by rw [D.free] at f; exact f.elim
  | .exc c, v, f, h => by
    obtain ⟨a, e, h1⟩ := h
    exact ⟨a, e, hs _ _ h1 (fun _ _ _ z => by cases z)⟩
theorem RepL.over {H1 H2 : Hp} (hs : ∀ a o, H1 a = some o → (∀ c dx fs, o ≠ .ins c dx fs) → H2 a = some o) : ∀ (ds : List D) {vs : List V}, (∀ d ∈ ds, d.free) → RepL K C H1 ds vs → RepL K C H2 ds vs
  | [], _, _, h => h
  | d :: ds, vs, f, h => by
    obtain ⟨v, r, e, h1, h2⟩ := h
    exact ⟨v, r, e, Rep.over hs d (f d List.mem_cons_self) h1, RepL.over hs ds (fun x hx => f x (List.mem_cons_of_mem _ hx)) h2⟩
end
def less1 (O : List Addr) (p : Addr) : List Addr := O.filter fun a => decide (a ≠ p)
theorem less1_sub {O : List Addr} {p a : Addr} (h : a ∈ less1 O p) : a ∈ O := (List.mem_filter.mp h).1
theorem less1_ne {O : List Addr} {p : Addr} : p ∉ less1 O p := fun h => by simpa using (List.mem_filter.mp h).2
theorem less1_mem {O : List Addr} {p a : Addr} (h : a ∈ O) (n : a ≠ p) : a ∈ less1 O p := List.mem_filter.mpr ⟨h, decide_eq_true n⟩
theorem Rep.back {p dx : Addr} {fs : List (Str × V)} {d : D} {v : V} (h : H p = some (.ins C dx fs)) (f : d.free) (r : Rep K C (wo H (less1 O p)) d v) : Rep K C (wo H O) d v :=
  Rep.over (fun a o e n => wo_of (wo_some e) fun z => by
    by_cases q : a = p
    · subst q
      have := wo_some e
      rw [h] at this
      exact n _ _ _ (Option.some.inj this).symm
    · unfold wo at e
      rw [if_pos (less1_mem z q)] at e
      cases e) d f r
/-- the Keeper of slot i, told of in slot j, as a value -/
theorem Ok.lend (k : Ok K C B O0 O H σ ρ) {i j : Nat} {p : Addr} {b : Bool} {ts : List Int} (hi : ρ[i]? = some (some (.v (.adr p)))) (hj : ρ[j]? = some (some (.kst p b ts))) :
    Ok K C B O0 (less1 O p) H σ ((ρ.set i (some (.v (.kp b ts)))).set j none) := by
  obtain ⟨hp, hb, dx, l, h1, h2⟩ := k.st.at_ j p b ts hj
  have ij : i ≠ j := fun z => by rw [z, hj] at hi; cases hi
  have jl : j < ρ.length := by
    rcases Nat.lt_or_ge j ρ.length with h | h
    · exact h
    · rw [List.getElem?_eq_none h] at hj; cases hj
  have sw : Same (wo H O) (wo H (less1 O p)) := wo_sub H fun a ha => less1_sub ha
  have old : ∀ {m : Nat} {x : DV}, ((ρ.set i (some (.v (.kp b ts)))).set j none)[m]? = some (some x) → (m = i ∧ x = .v (.kp b ts)) ∨ (ρ[m]? = some (some x) ∧ m ≠ j ∧ m ≠ i) := fun {m x} e => by
    by_cases h : j = m
    · subst h
      rw [List.getElem?_set_self (by rw [List.length_set]; exact jl)] at e
      simp at e
    · rw [List.getElem?_set_ne h] at e
      by_cases h' : i = m
      · subst h'
        by_cases hl : i < ρ.length
        · rw [List.getElem?_set_self hl] at e
          exact .inl ⟨rfl, (Option.some.inj (Option.some.inj e)).symm⟩
        · rw [List.getElem?_eq_none (by rw [List.length_set]; omega)] at e
          cases e
      · rw [List.getElem?_set_ne h'] at e
        exact .inr ⟨e, fun z => h z.symm, fun z => h' z.symm⟩
  obtain ⟨y, e1, e2⟩ := k.val i _ hi
  have ey : y = V.ref p := e2
  subst ey
  refine ⟨k.base, k.al0, fun a ha => k.al a (less1_sub ha), fun a ha => less1_mem (k.sub0 a ha) fun z => k.apart0 hb (z ▸ ha), fun a ha n => k.new a (less1_sub ha) n, by rw [List.length_set, List.length_set]; exact k.len, fun m d e => ?_, fun m ds e => ?_, fun a a' ds es e1 e2 e3 => ?_, ⟨fun m q c cs e => ?_, fun m m' q b1 b2 t1 t2 e1 e2 => ?_⟩, ?_, k.tb.to (fun m P q e => ?_) (fun P ps e h => less1_mem h fun z => by rw [z, h1] at e; cases e) (SameX.refl _) (fun _ _ h => h)⟩
  rotate_right
  · rcases old e with ⟨_, z⟩ | ⟨e, _, _⟩
    · cases z
    · exact e
  rotate_right
  · refine k.ls.to (fun m q ds' e => ?_) (fun m q ds' vs' z e h => less1_mem h fun y => by rw [y, h1] at e; cases e) (fun _ _ _ _ _ _ _ e => e) sw (fun _ _ h => h) fun a b' q ds' es e e' => ?_
    · rcases old e with ⟨_, z⟩ | ⟨e, _, _⟩
      · cases z
      · exact e
    · rcases old e' with ⟨_, z⟩ | ⟨e', _, _⟩
      · cases z
      · exact k.ls.no a b' q ds' es e e'
  · rcases old e with ⟨rfl, z⟩ | ⟨e, _, _⟩
    · cases z
      exact ⟨.ref p, e1, p, dx, l, rfl, wo_of h1 less1_ne, sw _ _ h2⟩
    · obtain ⟨x, a1, a2⟩ := k.val m d e
      exact ⟨x, a1, Rep.mono sw d a2⟩
  · rcases old e with ⟨_, z⟩ | ⟨e, _, _⟩
    · cases z
    · obtain ⟨q, vs, a1, a2, a3, a4, a5⟩ := k.own m ds e
      exact ⟨q, vs, a1, less1_mem a2 (fun z => by rw [z, h1] at a4; cases a4), a3, a4, RepL.mono sw ds a5⟩
  · rcases old e1 with ⟨_, z⟩ | ⟨e1, _, _⟩
    · cases z
    · rcases old e2 with ⟨_, z⟩ | ⟨e2, _, _⟩
      · cases z
      · exact k.uniq a a' ds es e1 e2 e3
  · rcases old e with ⟨_, z⟩ | ⟨e, n, _⟩
    · cases z
    · obtain ⟨a1, a2, dx1, l1, a3, a4⟩ := k.st.at_ m q c cs e
      exact ⟨less1_mem a1 fun z => n (k.st.one m j p c b cs ts (z ▸ e) hj), a2, dx1, l1, a3, sw _ _ a4⟩
  · rcases old e1 with ⟨_, z⟩ | ⟨e1, _, _⟩
    · cases z
    · rcases old e2 with ⟨_, z⟩ | ⟨e2, _, _⟩
      · cases z
      · exact k.st.one m m' q b1 b2 t1 t2 e1 e2
end

section
variable {X : Cx} {C : Addr} {E : XK} {pos : Pos} {a b e : Expr}
/-! ### lending -/
def dLend (i j : Nat) (p : DE) : DE := fun ρ P R => match ρ[i]?, ρ[j]? with
  | some (some (.v (.adr a))), some (some (.kst q b ts)) => a = q ∧ p ((ρ.set i (some (.v (.kp b ts)))).set j none) (fun d => d.free ∧ P d) R
  | _, _ => False
theorem pd_lend {p : DE} (i j : Nat) (h : PE X e (lift X.K C E p)) : PE X e (lift X.K C E (dLend i j p)) := h.wk fun σ H Q q => by
  obtain ⟨B, O0, O, ρ, P, R, k, q, hP, hR⟩ := q
  unfold dLend at q
  split at q
  · rename_i a q' b ts hi hj
    obtain ⟨rfl, q⟩ := q
    obtain ⟨_, _, dx, l, h1, _⟩ := k.st.at_ j a b ts hj
    exact ⟨B, O0, _, _, _, R, k.lend hi hj, q, fun v d H' s' r p => hP v d H' s' (Rep.back (s' _ _ h1) p.1 r) p.2, hR⟩
  · exact q.elim
def dLendT (i j : Nat) (t : DT) : DT := fun ρ P R => match ρ[i]?, ρ[j]? with
  | some (some (.v (.adr a))), some (some (.kst q b ts)) => a = q ∧ t ((ρ.set i (some (.v (.kp b ts)))).set j none) P R
  | _, _ => False
theorem qd_lend {t : DT} (i j : Nat) (h : PT X e (liftT X.K C E t)) : PT X e (liftT X.K C E (dLendT i j t)) := h.wk fun σ H Q q => by
  obtain ⟨B, O0, O, ρ, P, R, k, q, hP, hR⟩ := q
  unfold dLendT at q
  split at q
  · rename_i a q' b ts hi hj
    obtain ⟨rfl, q⟩ := q
    exact ⟨B, O0, _, _, _, R, k.lend hi hj, q, hP, hR⟩
  · exact q.elim
/-- from here on the Keeper is a value like any other -/
def dFrzK (i j : Nat) (p : DS) : DS := fun ρ N R Z => match ρ[i]?, ρ[j]? with
  | some (some (.v (.adr a))), some (some (.kst q b ts)) => a = q ∧ p ((ρ.set i (some (.v (.kp b ts)))).set j none) N R Z
  | _, _ => False
theorem sd_frzK {st : List Stmt} {p : DS} (i j : Nat) (h : PSs X st (liftS X.K C E p)) : PSs X st (liftS X.K C E (dFrzK i j p)) := h.wk fun T σ H q => by
  obtain ⟨B, O0, O, ρ, N, R, Z, k, q, hN, hR, hZ⟩ := q
  unfold dFrzK at q
  split at q
  · rename_i a q' b ts hi hj
    obtain ⟨rfl, q⟩ := q
    exact ⟨B, O0, _, _, N, R, Z, k.lend hi hj, q, hN, hR, hZ⟩
  · exact q.elim

/-! ### stateful expressions -/
def dOf (p : DE) : DEM := fun ρ P R => p ρ (fun d => P d ρ) (fun c => R c ρ)
theorem pm_of {p : DE} (h : PE X e (lift X.K C E p)) : PE X e (liftM X.K C E (dOf p)) := h.wk fun σ H Q q => by
  obtain ⟨B, O0, O, ρ, P, R, k, q, hP, hR⟩ := q
  exact ⟨B, O0, O, ρ, _, _, k, q, fun v d H' s' r p => hP v d H' ρ O (k.ext s') r p, fun c H' s' z => hR c H' σ ρ O (k.ext s') z⟩
def dOfT (p : DT) : DTM := fun ρ P R => p ρ (fun d => P d ρ) (fun c => R c ρ)
theorem qm_of {p : DT} (h : PT X e (liftT X.K C E p)) : PT X e (liftTM X.K C E (dOfT p)) := h.wk fun σ H Q q => by
  obtain ⟨B, O0, O, ρ, P, R, k, q, hP, hR⟩ := q
  exact ⟨B, O0, O, ρ, _, _, k, q, fun b H' s' p => hP b H' ρ O (k.ext s') p, fun c H' s' z => hR c H' σ ρ O (k.ext s') z⟩
/-- e is None -/
def dIsN (p : DEM) : DEM := fun ρ P R => p ρ (fun d ρ' => P (.bl d.isN) ρ') R
def dNotN (p : DEM) : DEM := fun ρ P R => p ρ (fun d ρ' => P (.bl (!d.isN)) ρ') R
theorem pm_isN {p : DEM} {j : Nat} {p2 : Pos} (h : PE X e (liftM X.K C E p)) : PE X (.Compare e [.Is] [.Constant .none j p2] pos) (liftM X.K C E (dIsN p)) := (pe_cmpR op_isN h pe_non (nomark _)).wk fun σ H Q q => by
  obtain ⟨B, O0, O, ρ, P, R, k, q, hP, hR⟩ := q
  exact ⟨B, O0, O, ρ, _, R, k, q, fun v d H' ρ' O' k' r p => ⟨rfl, by rw [isN_rep r]; exact hP (.bl d.isN) (.bl d.isN) H' ρ' O' k' rfl p⟩, hR⟩
theorem pm_notN {p : DEM} {j : Nat} {p2 : Pos} (h : PE X e (liftM X.K C E p)) : PE X (.Compare e [.IsNot] [.Constant .none j p2] pos) (liftM X.K C E (dNotN p)) := (pe_cmpR op_notN h pe_non (nomark _)).wk fun σ H Q q => by
  obtain ⟨B, O0, O, ρ, P, R, k, q, hP, hR⟩ := q
  exact ⟨B, O0, O, ρ, _, R, k, q, fun v d H' ρ' O' k' r p => ⟨rfl, by rw [isN_rep r]; exact hP (.bl (!d.isN)) (.bl (!d.isN)) H' ρ' O' k' rfl p⟩, hR⟩
theorem qm_notN {p : DEM} {j : Nat} {p2 : Pos} (h : PE X e (liftM X.K C E p)) : PT X (.Compare e [.IsNot] [.Constant .none j p2] pos) (liftTM X.K C E fun ρ P R => p ρ (fun d ρ' => P (!d.isN) ρ') R) := (pt_cmpR op_notN h pe_non (nomark _)).wk fun σ H Q q => by
  obtain ⟨B, O0, O, ρ, P, R, k, q, hP, hR⟩ := q
  exact ⟨B, O0, O, ρ, _, R, k, q, fun v d H' ρ' O' k' r p => ⟨rfl, !d.isN, by rw [isN_rep r], hP (!d.isN) H' ρ' O' k' p⟩, hR⟩
def dIfM (t : DT) (pa pb : DEM) : DEM := fun ρ P R => t ρ (fun b => if b = true then pa ρ P R else pb ρ P R) (fun c => R c ρ)
theorem pm_if {c : Expr} {t : DT} {pa pb : DEM} (hc : PT X c (liftT X.K C E t)) (ha : PE X a (liftM X.K C E pa)) (hb : PE X b (liftM X.K C E pb)) : PE X (.IfExp c a b pos) (liftM X.K C E (dIfM t pa pb)) :=
  (pe_ifExp hc ha hb).wk fun σ H Q q => by
    obtain ⟨B, O0, O, ρ, P, R, k, q, hP, hR⟩ := q
    refine ⟨B, O0, O, ρ, _, _, k, q, fun c H' s' p => ?_, fun c H' s' z => hR c H' σ ρ O (k.ext s') z⟩
    cases c with
    | true =>
      simp only [if_true] at p ⊢
      exact ⟨B, O0, O, ρ, P, R, k.ext s', p, hP, hR⟩
    | false =>
      simp only [Bool.false_eq_true, if_false] at p ⊢
      exact ⟨B, O0, O, ρ, P, R, k.ext s', p, hP, hR⟩
def dTruM (p : DEM) : DTM := fun ρ P R => p ρ (fun d ρ' => match d with | .bl b => P b ρ' | _ => False) R
theorem qm_val {p : DEM} (h : PE X e (liftM X.K C E p)) (he : ∀ whole, isTrue e X.env whole = (do let v ← whole; standAt e.pos; holding [v] (truthy v)) := by intro _; rfl) : PT X e (liftTM X.K C E (dTruM p)) := (pt_val h he).wk fun σ H Q q => by
  obtain ⟨B, O0, O, ρ, P, R, k, q, hP, hR⟩ := q
  refine ⟨B, O0, O, ρ, _, R, k, q, fun v d H' ρ' O' k' r p => ?_, hR⟩
  cases d with
  | bl b => exact ⟨b, r, hP b H' ρ' O' k' p⟩
  | _ => exact p.elim
def dNotM (t : DTM) : DTM := fun ρ P R => t ρ (fun b => P (!b)) R
theorem qm_not {t : DTM} (h : PT X e (liftTM X.K C E t)) : PT X (.UnaryOp .Not e pos) (liftTM X.K C E (dNotM t)) := (pt_not h).wk fun σ H Q q => by
  obtain ⟨B, O0, O, ρ, P, R, k, q, hP, hR⟩ := q
  exact ⟨B, O0, O, ρ, _, R, k, q, fun b H' ρ' O' k' p => hP (!b) H' ρ' O' k' p, hR⟩
def dOrM (t u : DTM) : DTM := fun ρ P R => t ρ (fun b ρ' => if b = true then P true ρ' else u ρ' P R) R
def dAndM (t u : DTM) : DTM := fun ρ P R => t ρ (fun b ρ' => if b = true then u ρ' P R else P false ρ') R
theorem wm_or1 {t : DTM} (h : PT X e (liftTM X.K C E t)) : PW X (.BoolOp .Or [e] pos) (liftTM X.K C E t) := pw_or1 h
theorem wm_and1 {t : DTM} (h : PT X e (liftTM X.K C E t)) : PW X (.BoolOp .And [e] pos) (liftTM X.K C E t) := pw_and1 h
theorem wm_or {rest : List Expr} {t u : DTM} (ha : PT X a (liftTM X.K C E t)) (hb : PW X (.BoolOp .Or (b :: rest) pos) (liftTM X.K C E u)) : PW X (.BoolOp .Or (a :: b :: rest) pos) (liftTM X.K C E (dOrM t u)) := (pw_or ha hb).wk fun σ H Q q => by
  obtain ⟨B, O0, O, ρ, P, R, k, q, hP, hR⟩ := q
  refine ⟨B, O0, O, ρ, _, R, k, q, fun b H' ρ' O' k' p => ?_, hR⟩
  cases b with
  | true =>
    rw [if_pos rfl] at p ⊢
    exact hP true H' ρ' O' k' p
  | false =>
    rw [if_neg Bool.false_ne_true] at p ⊢
    exact ⟨B, O0, O', ρ', P, R, k', p, hP, hR⟩
theorem wm_and {rest : List Expr} {t u : DTM} (ha : PT X a (liftTM X.K C E t)) (hb : PW X (.BoolOp .And (b :: rest) pos) (liftTM X.K C E u)) : PW X (.BoolOp .And (a :: b :: rest) pos) (liftTM X.K C E (dAndM t u)) := (pw_and ha hb).wk fun σ H Q q => by
  obtain ⟨B, O0, O, ρ, P, R, k, q, hP, hR⟩ := q
  refine ⟨B, O0, O, ρ, _, R, k, q, fun b H' ρ' O' k' p => ?_, hR⟩
  cases b with
  | true =>
    rw [if_pos rfl] at p ⊢
    exact ⟨B, O0, O', ρ', P, R, k', p, hP, hR⟩
  | false =>
    rw [if_neg Bool.false_ne_true] at p ⊢
    exact hP false H' ρ' O' k' p

/-! ### defs that change a Keeper -/
/-- the promise: what the Keeper holds, the other arguments; what it holds behind, the result -/
abbrev DM := Bool → List Int → List D → (Bool → List Int → D → Prop) → (Addr → Bool → List Int → Prop) → Prop
def spM (K : PySem.W.Frag) (C : Addr) (t : DM) : Sp := fun vs H Q E => ∃ O p vs' ds b ts dx l P R, vs = .ref p :: vs' ∧ p ∈ O ∧ Al O H ∧ RepL K C (wo H O) ds vs' ∧ H p = some (.ins C dx (kf b l)) ∧ wo H O l = some (.lst (ts.map V.int)) ∧ t b ts ds P R ∧
  (∀ v d H' b' ts' l' dx', Same (wo H [p]) H' → H' p = some (.ins C dx' (kf b' l')) → wo H' O l' = some (.lst (ts'.map V.int)) → Rep K C (wo H' O) d v → P b' ts' d → Q v H') ∧
  ∀ c H' b' ts' l' dx', Same (wo H [p]) H' → H' p = some (.ins C dx' (kf b' l')) → wo H' O l' = some (.lst (ts'.map V.int)) → R c b' ts' → E (.ref c) none H'
/-- what is left when the Keeper d, told of in slot j, is handed to t -/
def mutQ (j : Nat) (t : DM) (ds : List D) (P : D → Env → Prop) (R : Addr → Env → Prop) (ρ : Env) : D → Prop
  | .adr a => match ρ[j]? with
    | some (some (.kst p b ts)) => a = p ∧ t b ts ds (fun b' ts' d => P d (ρ.set j (some (.kst p b' ts')))) (fun c b' ts' => R c (ρ.set j (some (.kst p b' ts'))))
    | _ => False
  | _ => False
def recv (j : Nat) (ρ : Env) : D → Prop
  | .adr a => match ρ[j]? with
    | some (some (.kst p _ _)) => a = p
    | _ => False
  | _ => False
def dMut (j : Nat) (t : DM) (e : DE) (q : DA) : DEM := fun ρ P R => e ρ (fun x => q ρ (fun ds => mutQ j t ds P R ρ x) (fun c => R c ρ)) (fun c => R c ρ)
def dMutM (j : Nat) (t : DM) (e : DE) (q : DA) : DEM := fun ρ P R => e ρ (fun x => recv j ρ x ∧ q ρ (fun ds => mutQ j t ds P R ρ x) (fun c => R c ρ)) (fun c => R c ρ)
theorem recv_at {K : PySem.W.Frag} {B : Hp} {O0 O : List Addr} {σ : St} {ρ : Env} {H : Hp} {j : Nat} {x : V} {d : D} (k : Ok K C B O0 O H σ ρ) (rx : Rep K C (wo H O) d x) (q : recv j ρ d) : ∃ p dx b l, x = .ref p ∧ H p = some (.ins C dx (kf b l)) := by
  cases d with
  | adr a =>
    simp only [recv] at q
    split at q
    · rename_i p b ts hj
      subst q
      obtain ⟨_, _, dx, l, h3, _⟩ := k.st.at_ j _ b ts hj
      exact ⟨_, dx, b, l, rx, h3⟩
    · exact q.elim
  | _ => exact q.elim
theorem mut_call {K : PySem.W.Frag} {B : Hp} {O0 O : List Addr} {σ : St} {ρ : Env} {H : Hp} {Q : VK} {P : D → Env → Prop} {R : Addr → Env → Prop} {t : DM} {j : Nat} {x : V} {d : D} {vs : List V} {ds : List D} (k : Ok K C B O0 O H σ ρ) (rx : Rep K C (wo H O) d x) (rs : RepL K C (wo H O) ds vs)
    (q : mutQ j t ds P R ρ d) (hP : ∀ v d H' ρ' O', Ok K C B O0 O' H' σ ρ' → Rep K C (wo H' O') d v → P d ρ' → Q v H') (hR : ∀ c H' σ' ρ' O', Ok K C B O0 O' H' σ' ρ' → R c ρ' → E (.ref c) none H') :
    spM K C t (x :: vs) H Q E := by
  cases d with
  | adr a =>
    simp only [mutQ] at q
    split at q
    · rename_i p b ts hj
      obtain ⟨rfl, q⟩ := q
      have ex : x = V.ref a := rx
      subst ex
      obtain ⟨h1, h2, dx, l, h3, h4⟩ := k.st.at_ j a b ts hj
      refine ⟨O, a, vs, ds, b, ts, dx, l, _, _, rfl, h1, k.al, rs, h3, h4, q, fun v d H' b' ts' l' dx' s' e1 e2 r p => ?_, fun c H' b' ts' l' dx' s' e1 e2 p => ?_⟩
      · exact hP v d H' _ O (k.mut hj s' e1 e2) r p
      · exact hR c H' σ _ O (k.mut hj s' e1 e2) p
    · exact q.elim
  | _ => exact q.elim
theorem pm_fn {p : Pos} {x : Str} {f : Addr} {fd : FuncData} {ps : List Str} {n : Nat} {es : List Expr} {t : DM} {pe : DE} {q : DA} (j : Nat) (F : FnOk X.prog X.w X.K X.mg X.base (L2.CX X.prog X.w) n f fd ps (spM X.K C t)) (hr : Room n X.A) (hg : Gl X x) (hm : X.mg x = some (.ref f)) (hk : PySem.W.keepIn X.K (.ref f) = true) (hb : Binds X.K fd ps [])
    (hx : Passes (L2.CX X.prog X.w) X E) (he : PE X a (lift X.K C E pe)) (ha : PA X es (liftA X.K C E q)) (hs : starEach (a :: es) X.env = (false, eval a X.env) :: starEach es X.env := by rfl)
    (hdb : (x == ("__debug__" : Str)) = false := by decide) (hpl : (backTo pos (starEach es X.env)).any (·.1) = false := by rfl) :
    PE X (.Call (.Name x p) (a :: es) [] pos) (liftM X.K C E (dMut j t pe q)) := (pe_call F hr hg hm hk hb .nil hx (pa_cons he ha hs) hdb hs hpl).wk fun σ H Q h => by
  obtain ⟨B, O0, O, ρ, P, R, k, h, hP, hR⟩ := h
  refine ⟨B, O0, O, ρ, _, _, k, h, fun x d H1 s1 r1 h1 => ⟨B, O0, O, ρ, _, _, k.ext s1, h1, fun vs ds H2 s2 r2 h2 => ?_, fun c H' s' z => hR c H' σ ρ O ((k.ext s1).ext s') z⟩, fun c H' s' z => hR c H' σ ρ O (k.ext s') z⟩
  show spM X.K C t ((x :: vs) ++ []) H2 Q E
  rw [List.append_nil]
  exact mut_call ((k.ext s1).ext s2) (Rep.mono (wo_same O s2) d r1) r2 h2 hP hR
theorem pm_mt {apos : Pos} {m : Str} {f : Addr} {fd : FuncData} {ps : List Str} {n : Nat} {o : Expr} {es : List Expr} {t : DM} {pe : DE} {q : DA} (j : Nat) (T : Kp X.K X.mg C) (M : FnOk X.prog X.w X.K X.mg X.base (L2.CX X.prog X.w) n f fd ps (spM X.K C t)) (hm : Meth X.K C m f) (hb : Binds X.K fd ps []) (hr : Room n X.A) (hx : Passes (L2.CX X.prog X.w) X E)
    (ho : PE X o (lift X.K C E pe)) (ha : PA X (e :: es) (liftA X.K C E q))
    (hm1 : ¬ m = "begins" := by decide) (hm2 : ¬ m = "turns" := by decide)
    (hst : starEach (e :: es) X.env = (false, eval e X.env) :: starEach es X.env := by rfl) (hpl : (backTo pos (starEach es X.env)).any (·.1) = false := by rfl) {pl : Sem Bool}
    (ht : eval (.Call (.Attribute o m apos) (e :: es) [] pos) X.env = (do
      let ov ← eval o X.env
      standAt apos.atName
      let (f, first) ← holding [ov] (getMethod ov m pl)
      callWith pos f first (backTo pos (starEach (e :: es) X.env)) (backToKw pos (keywordEach [] X.env))) := by rfl) :
    PE X (.Call (.Attribute o m apos) (e :: es) [] pos) (liftM X.K C E (dMutM j t pe q)) := (pe_meth ho T.cl hm M hr hb .nil hx ha hst hpl ht).wk fun σ H Q h => by
  obtain ⟨B, O0, O, ρ, P, R, k, h, hP, hR⟩ := h
  refine ⟨B, O0, O, ρ, _, _, k, h, fun x d H1 s1 r1 h1 => ?_, fun c H' s' z => hR c H' σ ρ O (k.ext s') z⟩
  have k1 := k.ext s1
  obtain ⟨p, dx, b, l, rfl, e1⟩ := recv_at k1 r1 h1.1
  refine ⟨p, dx, _, rfl, e1, kf_no b l hm1 hm2, B, O0, O, ρ, _, _, k1, h1.2, fun vs ds H2 s2 r2 h2 => ?_, fun c H' s' z => hR c H' σ ρ O (k1.ext s') z⟩
  show spM X.K C t (V.ref p :: (vs ++ [])) H2 Q E
  rw [List.append_nil]
  exact mut_call (k1.ext s2) (Rep.mono (wo_same O s2) d r1) r2 h2 hP hR
theorem pm_mt0 {apos : Pos} {m : Str} {f : Addr} {fd : FuncData} {ps : List Str} {n : Nat} {o : Expr} {t : DM} {pe : DE} (j : Nat) (T : Kp X.K X.mg C) (M : FnOk X.prog X.w X.K X.mg X.base (L2.CX X.prog X.w) n f fd ps (spM X.K C t)) (hm : Meth X.K C m f) (hb : Binds X.K fd ps []) (hr : Room n X.A) (hx : Passes (L2.CX X.prog X.w) X E)
    (ho : PE X o (lift X.K C E pe)) (hm1 : ¬ m = "begins" := by decide) (hm2 : ¬ m = "turns" := by decide) {pl : Sem Bool}
    (ht : eval (.Call (.Attribute o m apos) [] [] pos) X.env = (do
      let ov ← eval o X.env
      standAt apos.atName
      let (f, first) ← holding [ov] (getMethod ov m pl)
      callWith pos f first (backTo pos (starEach [] X.env)) (backToKw pos (keywordEach [] X.env))) := by rfl) :
    PE X (.Call (.Attribute o m apos) [] [] pos) (liftM X.K C E (dMutM j t pe dNil)) := (pe_meth0 ho T.cl hm M hr hb .nil hx ht).wk fun σ H Q h => by
  obtain ⟨B, O0, O, ρ, P, R, k, h, hP, hR⟩ := h
  refine ⟨B, O0, O, ρ, _, _, k, h, fun x d H1 s1 r1 h1 => ?_, fun c H' s' z => hR c H' σ ρ O (k.ext s') z⟩
  have k1 := k.ext s1
  obtain ⟨p, dx, b, l, rfl, e1⟩ := recv_at k1 r1 h1.1
  refine ⟨p, dx, _, rfl, e1, kf_no b l hm1 hm2, ?_⟩
  show spM X.K C t [V.ref p] H1 Q E
  exact mut_call (vs := []) (ds := []) k1 r1 rfl h1.2 hP hR

/-! ### stateful statements -/
def dNextM : DSM := fun ρ N _ _ => N ρ
def dSeqM (p q : DSM) : DSM := fun ρ N R Z => p ρ (fun ρ' => q ρ' N R Z) R Z
def dSetM (i : Nat) (p : DEM) : DSM := fun ρ N _ Z => p ρ (fun d ρ' => N (ρ'.set i (some (.v d)))) Z
def dDropM (p : DEM) : DSM := fun ρ N _ Z => p ρ (fun _ ρ' => N ρ') Z
def dRetM (p : DEM) : DSM := fun ρ _ R Z => p ρ (fun d ρ' => R d ρ') Z
def dIfSM (t : DTM) (p q : DSM) : DSM := fun ρ N R Z => t ρ (fun b ρ' => if b = true then p ρ' N R Z else q ρ' N R Z) Z
/-- a statement that tells nothing and raises nothing -/
def dOfS (p : DS) : DSM := fun ρ N _ _ => p ρ N (fun _ => False) (fun _ => False)
variable {st : Stmt} {rest sts : List Stmt}
theorem sm_of {p : DS} (h : PS X st (liftS X.K C E p)) : PS X st (liftSM X.K C E (dOfS p)) := h.wk fun T σ H q => by
  obtain ⟨B, O0, O, ρ, N, R, Z, k, q, hN, hR, hZ⟩ := q
  exact ⟨B, O0, O, ρ, N, _, _, k, q, hN, fun v d H' s' r z => z.elim, fun c H' s' z => z.elim⟩
theorem sm_nil : PSs X [] (liftSM X.K C E dNextM) := pss_nil.wk fun T σ H q => by
  obtain ⟨B, O0, O, ρ, N, R, Z, k, q, hN, hR, hZ⟩ := q
  exact hN σ H ρ O k q
theorem sm_one {p : DSM} (h : PS X st (liftSM X.K C E p)) : PSs X [st] (liftSM X.K C E p) := pss_one h
theorem sm_cons {p q : DSM} (h1 : PS X st (liftSM X.K C E p)) (h2 : PSs X rest (liftSM X.K C E q)) : PSs X (st :: rest) (liftSM X.K C E (dSeqM p q)) := (pss_cons h1 h2).wk fun T σ H q => by
  obtain ⟨B, O0, O, ρ, N, R, Z, k, q, hN, hR, hZ⟩ := q
  exact ⟨B, O0, O, ρ, _, R, Z, k, q, fun σ' H' ρ' O' k' n' => ⟨B, O0, O', ρ', N, R, Z, k', n', hN, hR, hZ⟩, hR, hZ⟩
theorem sm_if {c : Expr} {p1 p2 : List Stmt} {t : DTM} {p q : DSM} (hc : PT X c (liftTM X.K C E t)) (ha : PSs X p1 (liftSM X.K C E p)) (hb : PSs X p2 (liftSM X.K C E q)) : PS X (.If c p1 p2 pos) (liftSM X.K C E (dIfSM t p q)) := (ps_if hc ha hb).wk fun T σ H q => by
  obtain ⟨B, O0, O, ρ, N, R, Z, k, q, hN, hR, hZ⟩ := q
  refine ⟨B, O0, O, ρ, _, Z, k, q, fun b H' ρ' O' k' p => ?_, hZ⟩
  cases b with
  | true =>
    simp only [if_true] at p ⊢
    exact ⟨B, O0, O', ρ', N, R, Z, k', p, hN, hR, hZ⟩
  | false =>
    simp only [Bool.false_eq_true, if_false] at p ⊢
    exact ⟨B, O0, O', ρ', N, R, Z, k', p, hN, hR, hZ⟩
theorem sm_ret {p : DEM} (he : PE X e (liftM X.K C E p)) : PS X (.Return (some e) pos) (liftSM X.K C E (dRetM p)) := (ps_ret he).wk fun T σ H q => by
  obtain ⟨B, O0, O, ρ, N, R, Z, k, q, hN, hR, hZ⟩ := q
  exact ⟨B, O0, O, ρ, _, Z, k, q, fun v d H' ρ' O' k' r p => hR v d H' σ ρ' O' k' r p, hZ⟩
theorem sm_expr {p : DEM} (he : PE X e (liftM X.K C E p)) (hs : swapsWith e none pos.line X.env = pure false := by rfl) : PS X (.Expr e pos) (liftSM X.K C E (dDropM p)) := (ps_expr he hs).wk fun T σ H q => by
  obtain ⟨B, O0, O, ρ, N, R, Z, k, q, hN, hR, hZ⟩ := q
  exact ⟨B, O0, O, ρ, _, Z, k, q, fun v d H' ρ' O' k' r p => hN σ H' ρ' O' k' p, hZ⟩
theorem sm_set {i : Nat} {x : Str} {p : DEM} {pos' : Pos} (hN : X.N.Nodup) (hi : X.N[i]? = some x) (hx : Loc X.env.scope x) (he : PE X e (liftM X.K C E p)) (hs : swapsWith e (some (.Name x pos')) pos.line X.env = pure false := by rfl) (hf : X.fn x = true ∨ X.env.scope.names.lookup x = some .local := by first | exact .inl rfl | exact .inr rfl | assumption) :
    PS X (.Assign [.Name x pos'] e pos) (liftSM X.K C E (dSetM i p)) := (ps_set hN hi hx he hs hf).wk fun T σ H q => by
  obtain ⟨B, O0, O, ρ, N, R, Z, k, q, hN, hR, hZ⟩ := q
  exact ⟨B, O0, O, ρ, _, Z, k, q, fun v d H' ρ' O' k' r p => hN (σ.set i (some v)) H' _ O' (k'.set i r) p, hZ⟩
/-- a stateful statement among the others -/
def dIn' (p : DSM) : DS := fun ρ N R Z => p ρ N (fun d _ => R d) (fun c _ => Z c)
theorem sd_in {p : DSM} (h : PS X st (liftSM X.K C E p)) : PS X st (liftS X.K C E (dIn' p)) := h.wk fun T σ H q => by
  obtain ⟨B, O0, O, ρ, N, R, Z, k, q, hN, hR, hZ⟩ := q
  exact ⟨B, O0, O, ρ, N, _, _, k, q, hN, fun v d H' σ' ρ' O' k' r z => hR v d H' k'.base (Rep.mono (wo_sub H' k'.sub0) d r) z, fun c H' σ' ρ' O' k' z => hZ c H' k'.base z⟩
end

/-! ### a def that changes its first argument -/
section
variable {P : Program} {w : World} {K : PySem.W.Frag} {mg : Str → Option Value} {base : Heap} {C : Addr}
def startM (N : List Str) (j : Nat) (p : Addr) (b : Bool) (ts : List Int) (ds : List D) : Env := (startE N (.adr p :: ds)).set j (some (.kst p b ts))
theorem startE_kst {N : List Str} {ds : List D} {i : Nat} {p : Addr} {b : Bool} {ts : List Int} : (startE N ds)[i]? ≠ some (some (.kst p b ts)) := fun e => by
  unfold startE at e
  rw [List.getElem?_append] at e
  split at e
  · rw [List.getElem?_map] at e
    cases h : ds[i]? with
    | none => rw [h] at e; cases e
    | some d => rw [h] at e; simp at e
  · rw [List.getElem?_replicate] at e
    split at e
    · simp at e
    · cases e
theorem startM_ok {H : Hp} {O : List Addr} {p l dx : Addr} {b : Bool} {ts : List Int} {ds : List D} {vs : List V} (hp : p ∈ O) (al : Al O H) (r : RepL K C (wo H O) ds vs) (h1 : H p = some (.ins C dx (kf b l))) (h2 : wo H O l = some (.lst (ts.map V.int))) (N : List Str) (j : Nat) :
    Ok K C (wo H [p]) (less1 O p) O H (start N (.ref p :: vs)) (startM N j p b ts ds) := by
  have k := start_ok (ds := .adr p :: ds) (vs := .ref p :: vs) al ⟨.ref p, vs, rfl, rfl, r⟩ N
  have al1 : Al (less1 O p) (wo H [p]) := fun a ha e => by
    have n : a ≠ p := fun z => less1_ne (z ▸ ha)
    unfold wo at e
    rw [if_neg (by simpa using n)] at e
    exact al a (less1_sub ha) e
  have hb : wo H [p] p = none := by unfold wo; rw [if_pos (by simp)]
  have k1 : Ok K C (wo H [p]) (less1 O p) O H (start N (.ref p :: vs)) (startE N (.adr p :: ds)) := by
    refine ⟨wo_le H [p], al1, al, fun a ha => less1_sub ha, fun a ha n => ?_, k.len, k.val, fun i es e => ?_, k.uniq, ⟨fun i q c cs e => absurd e startE_kst, fun i i' q b1 b2 t1 t2 e1 e2 => absurd e1 startE_kst⟩, k.ls.to (fun _ _ _ e => e) (fun _ _ _ _ _ _ h => h) (fun _ _ _ _ _ _ _ e => e) (Same.refl _) (fun a _ e => (wo_le H [p]).free e) k.ls.no, k.tb.to (fun _ _ _ e => e) (fun _ _ _ h => h) (SameX.refl _) (fun a _ e => (wo_le H [p]).free e)⟩
    · by_cases z : a = p
      · rw [z]; exact hb
      · exact absurd (less1_mem ha z) n
    · obtain ⟨q, ws, e1, e2, e3, e4, e5⟩ := k.own i es e
      exact ⟨q, ws, e1, e2, (wo_le H [p]).free e3, e4, e5⟩
  exact k1.tell j hp hb h1 h2 fun i b' ts' e => absurd e startE_kst
theorem fnM {x qual : Str} {st : Stmt} {f : Addr} {fd : FuncData} {N ps : List Str} {k : Nat} {t : DM} {p : DSM} (j : Nat) (F : Fun K x qual st f fd) (S : FnScope N ps (defScope st))
    (body : ∀ (cdv : Value) (A : Around) (outer : List PySem.Env) (s : Shared) (H : Hp) (E : XK), Room k (A.deeper (envOfC qual (defScope st) s.heap.objs.size f cdv)) → PSs (cxD P w K mg base N qual (defScope st) f cdv A outer s H E) (defBody st) (liftSM K C E p))
    (h : ∀ (a : Addr) (b : Bool) (ts : List Int) (ds : List D) (T : Bool → List Int → D → Prop) (R : Addr → Bool → List Int → Prop), t b ts ds T R → ds.length + 1 = ps.length ∧ p (startM N j a b ts ds)
      (fun ρ' => ∃ b' ts', ρ'[j]? = some (some (.kst a b' ts')) ∧ T b' ts' .non) (fun d ρ' => ∃ b' ts', ρ'[j]? = some (some (.kst a b' ts')) ∧ T b' ts' d) (fun c ρ' => ∃ b' ts', ρ'[j]? = some (some (.kst a b' ts')) ∧ R c b' ts')) : FnOk P w K mg base (L2.CX P w) (k + 1) f fd ps (spM K C t) := by
  refine F.okX S (fun vs H Q E q => ?_) (fun cdv A outer s H vs Q E hr q => ⟨_, body cdv A outer s H E hr, ?_⟩)
  · obtain ⟨O, p', vs', ds, b, ts, dx, l, T, R, rfl, hp, al, r, h1, h2, q, _⟩ := q
    rw [List.length_cons, RepL.length r]
    exact (h p' b ts ds T R q).1
  · obtain ⟨O, a, vs', ds, b, ts, dx, l, T, R, rfl, hp, al, r, h1, h2, q, hT, hR⟩ := q
    have fin : ∀ {H' : Hp} {σ' : St} {ρ' : Env} {O' : List Addr} {b' : Bool} {ts' : List Int}, Ok K C (wo H [a]) (less1 O a) O' H' σ' ρ' → ρ'[j]? = some (some (.kst a b' ts')) → ∃ dx' l', Same (wo H [a]) H' ∧ H' a = some (.ins C dx' (kf b' l')) ∧ wo H' O l' = some (.lst (ts'.map V.int)) ∧ Same (wo H' O') (wo H' O) := fun {H' σ' ρ' O' b' ts'} k' e => by
      obtain ⟨a1, a2, dx', l', a3, a4⟩ := k'.st.at_ j a b' ts' e
      have sub : ∀ q ∈ O, q ∈ O' := fun q hq => by
        by_cases z : q = a
        · rw [z]; exact a1
        · exact k'.sub0 q (less1_mem hq z)
      exact ⟨dx', l', k'.base, a3, wo_sub H' sub _ _ a4, wo_sub H' sub⟩
    refine ⟨wo H [a], less1 O a, O, _, _, _, _, startM_ok hp al r h1 h2 N j, (h a b ts ds T R q).2, fun σ' H' ρ' O' k' n => ?_, fun v d H' σ' ρ' O' k' r n => ?_, fun c H' σ' ρ' O' k' n => ?_⟩
    · obtain ⟨b', ts', e, n⟩ := n
      obtain ⟨dx', l', a1, a2, a3, a4⟩ := fin k' e
      exact hT .non .non H' b' ts' l' dx' a1 a2 a3 rfl n
    · obtain ⟨b', ts', e, n⟩ := n
      obtain ⟨dx', l', a1, a2, a3, a4⟩ := fin k' e
      exact hT v d H' b' ts' l' dx' a1 a2 a3 (Rep.mono a4 d r) n
    · obtain ⟨b', ts', e, n⟩ := n
      obtain ⟨dx', l', a1, a2, a3, a4⟩ := fin k' e
      exact hR c H' b' ts' l' dx' a1 a2 a3 n
end
end L2.DL
/-! # Stateful readings: attributes, new Keepers, dicts, calls of a local name -/
namespace L2.DL
open PySem PySem.Spec PyProof.Rows L2.SK

/-! ### attributes -/
def gFld (K : PySem.W.Frag) (to : TE) (f : Str) : TG := fun v σ H Q => to σ H fun x H1 => ∃ a C dx fs, x = .ref a ∧ H1 a = some (.ins C dx fs) ∧ Cls K C ∧ NoAttr K C f ∧ fs.length < 1000 ∧ Q σ (upd H1 a (.ins C dx (putF f v fs)))
theorem pg_fld {X : Cx} {o : Expr} {f : Str} {pos : Pos} {to : TE} (ho : PE X o to) : PG X (.Attribute o f pos) (gFld X.K to f) := by
  refine ⟨fun pins s σ H v u Q I r h => ?_⟩
  rw [arm_assign_Attribute]
  refine wpAny_bind (wpAny_holding (thn (ho.run pins s σ H _ I h) fun ov s1 ⟨x, H1, I1, rx, a, C, dx, fs, ex, ea, c, n, l, q⟩ => ?_))
  subst ex
  obtain rfl : ov = Value.ref a := rx
  refine wpAny_bind (wpAny_standAt (wpAny_bind (wpAny_holding (setattr_ok I1 ea c n l r fun s3 I3 => ?_))))
  exact wpAny_release ⟨σ, _, I3, q⟩
theorem putF_begins (b b' : Bool) (l : Addr) : putF "begins" (.bl b') (kf b l) = kf b' l := by
  unfold kf putF
  rw [if_pos rfl]
theorem putF_turns (b : Bool) (l l' : Addr) : putF "turns" (.ref l') (kf b l) = kf b l' := by
  unfold kf putF
  rw [if_neg ne_bt']
  unfold putF
  rw [if_pos rfl]
theorem kf_len (b : Bool) (l : Addr) : (kf b l).length < 1000 := by
  show 2 < 1000
  decide
section
variable {K : PySem.W.Frag} {C : Addr} {B H H' : Hp} {O0 O : List Addr} {σ : St} {ρ : Env}
theorem upd_same_wo {H : Hp} {p : Addr} {o : HO} : Same (wo H [p]) (upd H p o) := fun q u e => by
  have n : q ≠ p := fun z => by
    unfold wo at e
    rw [if_pos (by simp [z])] at e
    cases e
  rw [upd_ne n]
  exact wo_some e
theorem wo_upd {H : Hp} {O : List Addr} {p a : Addr} {o u : HO} (hp : p ∈ O) (h : wo H O a = some u) : wo (upd H p o) O a = some u := by
  have n : a ∉ O := fun z => by
    unfold wo at h
    rw [if_pos z] at h
    cases h
  exact wo_of (by rw [upd_ne (show a ≠ p from fun z => n (by rw [z]; exact hp))]; exact wo_some h) n
theorem Ok.setB (k : Ok K C B O0 O H σ ρ) {j : Nat} {p : Addr} {b : Bool} {ts : List Int} (hj : ρ[j]? = some (some (.kst p b ts))) (b' : Bool) : ∃ dx fs, H p = some (.ins C dx fs) ∧ fs.length < 1000 ∧ Ok K C B O0 O (upd H p (.ins C dx (putF "begins" (.bl b') fs))) σ (ρ.set j (some (.kst p b' ts))) := by
  obtain ⟨hp, hb, dx, l, h1, h2⟩ := k.st.at_ j p b ts hj
  refine ⟨dx, kf b l, h1, kf_len b l, ?_⟩
  rw [putF_begins]
  exact k.mut hj upd_same_wo upd_same (wo_upd hp h2)
theorem Ok.setT (k : Ok K C B O0 O H σ ρ) {j : Nat} {p l' : Addr} {b : Bool} {ts ts' : List Int} (hj : ρ[j]? = some (some (.kst p b ts))) (hl : wo H O l' = some (.lst (ts'.map V.int))) : ∃ dx fs, H p = some (.ins C dx fs) ∧ fs.length < 1000 ∧ Ok K C B O0 O (upd H p (.ins C dx (putF "turns" (.ref l') fs))) σ (ρ.set j (some (.kst p b ts'))) := by
  obtain ⟨hp, hb, dx, l, h1, h2⟩ := k.st.at_ j p b ts hj
  refine ⟨dx, kf b l, h1, kf_len b l, ?_⟩
  rw [putF_turns]
  exact k.mut hj upd_same_wo upd_same (wo_upd hp hl)
end
section
variable {X : Cx} {C : Addr} {E : XK} {pos : Pos} {a e o : Expr}
def stAt (j : Nat) (ρ : Env) (f : Addr → Bool → List Int → Prop) : D → Prop
  | .adr a => match ρ[j]? with
    | some (some (.kst p b ts)) => a = p ∧ f p b ts
    | _ => False
  | _ => False
theorem stAt_at {K : PySem.W.Frag} {B : Hp} {O0 O : List Addr} {σ : St} {ρ : Env} {H : Hp} {j : Nat} {x : V} {d : D} {f : Addr → Bool → List Int → Prop} (k : Ok K C B O0 O H σ ρ) (rx : Rep K C (wo H O) d x) (q : stAt j ρ f d) : ∃ p b ts, x = .ref p ∧ ρ[j]? = some (some (.kst p b ts)) ∧ f p b ts := by
  cases d with
  | adr a =>
    simp only [stAt] at q
    split at q
    · rename_i p b ts hj
      obtain ⟨rfl, q⟩ := q
      exact ⟨a, b, ts, rx, hj, q⟩
    · exact q.elim
  | _ => exact q.elim
/-- self.begins, self.turns, of the Keeper that slot j tells of -/
def dSB (j : Nat) (p : DE) : DE := fun ρ P R => p ρ (fun d => stAt j ρ (fun _ b _ => P (.bl b)) d) R
def dST (j : Nat) (p : DE) : DE := fun ρ P R => p ρ (fun d => stAt j ρ (fun _ _ ts => P (.lst (ts.map .int))) d) R
theorem pd_sB {p : DE} (j : Nat) (T : Kp X.K X.mg C) (he : PE X a (lift X.K C E p)) (hb : attributeBase a "begins" X.env (eval a X.env) = eval a X.env := by rfl) : PE X (.Attribute a "begins" pos) (lift X.K C E (dSB j p)) := (pe_fld he hb).wk fun σ H Q q => by
  obtain ⟨B, O0, O, ρ, P, R, k, q, hP, hR⟩ := q
  refine ⟨B, O0, O, ρ, _, R, k, q, fun x d H1 s1 r1 q1 => ?_, hR⟩
  obtain ⟨y, b, ts, rfl, hj, q2⟩ := stAt_at (k.ext s1) r1 q1
  obtain ⟨_, _, dx, l, h1, h2⟩ := (k.ext s1).st.at_ j y b ts hj
  exact ⟨y, C, dx, _, _, rfl, h1, T.cl, T.nB, kf_begins b l, hP (.bl b) (.bl b) H1 s1 rfl q2⟩
theorem pd_sT {p : DE} (j : Nat) (T : Kp X.K X.mg C) (he : PE X a (lift X.K C E p)) (hb : attributeBase a "turns" X.env (eval a X.env) = eval a X.env := by rfl) : PE X (.Attribute a "turns" pos) (lift X.K C E (dST j p)) := (pe_fld he hb).wk fun σ H Q q => by
  obtain ⟨B, O0, O, ρ, P, R, k, q, hP, hR⟩ := q
  refine ⟨B, O0, O, ρ, _, R, k, q, fun x d H1 s1 r1 q1 => ?_, hR⟩
  obtain ⟨y, b, ts, rfl, hj, q2⟩ := stAt_at (k.ext s1) r1 q1
  obtain ⟨_, _, dx, l, h1, h2⟩ := (k.ext s1).st.at_ j y b ts hj
  exact ⟨y, C, dx, _, _, rfl, h1, T.cl, T.nT, kf_turns b l, hP (.ref l) (.lst (ts.map .int)) H1 s1 ⟨l, _, rfl, h2, RepL.ints _ ts⟩ q2⟩
/-- self.begins = e -/
def dSetB (j : Nat) (po pv : DE) : DSM := fun ρ N _ Z => pv ρ (fun v => po ρ (fun d => stAt j ρ (fun p _ ts => match v with
  | .bl b' => N (ρ.set j (some (.kst p b' ts)))
  | _ => False) d) (fun c => Z c ρ)) (fun c => Z c ρ)
theorem sm_setB {po pv : DE} {pos' : Pos} (j : Nat) (T : Kp X.K X.mg C) (ho : PE X o (lift X.K C E po)) (he : PE X e (lift X.K C E pv)) (hs : swapsWith e (some (.Attribute o "begins" pos')) pos.line X.env = pure false := by rfl) : PS X (.Assign [.Attribute o "begins" pos'] e pos) (liftSM X.K C E (dSetB j po pv)) := (ps_fld ho he hs).wk fun T' σ H q => by
  obtain ⟨B, O0, O, ρ, N, R, Z, k, q, hN, hR, hZ⟩ := q
  refine ⟨B, O0, O, ρ, _, _, k, q, fun v d H1 s1 r1 q1 => ⟨B, O0, O, ρ, _, _, k.ext s1, q1, fun x d2 H2 s2 r2 q2 => ?_, fun c H' s' z => hZ c H' σ ρ O ((k.ext s1).ext s') z⟩, fun c H' s' z => hZ c H' σ ρ O (k.ext s') z⟩
  have k2 := (k.ext s1).ext s2
  obtain ⟨y, b, ts, rfl, hj, q3⟩ := stAt_at k2 r2 q2
  cases d with
  | bl b' =>
    have ev : v = V.bl b' := r1
    subst ev
    obtain ⟨dx, fs, h1, hl, k3⟩ := k2.setB hj b'
    exact ⟨y, C, dx, fs, rfl, h1, T.cl, T.nB, hl, hN σ _ _ O k3 q3⟩
  | _ => exact q3.elim
/-- self.turns = e -/
def dSetT (j : Nat) (po pv : DE) : DSM := fun ρ N _ Z => pv ρ (fun v => po ρ (fun d => stAt j ρ (fun p b _ => match v with
  | .lst ds => ∃ ns : List Int, ds = ns.map .int ∧ N (ρ.set j (some (.kst p b ns)))
  | _ => False) d) (fun c => Z c ρ)) (fun c => Z c ρ)
theorem sm_setT {po pv : DE} {pos' : Pos} (j : Nat) (T : Kp X.K X.mg C) (ho : PE X o (lift X.K C E po)) (he : PE X e (lift X.K C E pv)) (hs : swapsWith e (some (.Attribute o "turns" pos')) pos.line X.env = pure false := by rfl) : PS X (.Assign [.Attribute o "turns" pos'] e pos) (liftSM X.K C E (dSetT j po pv)) := (ps_fld ho he hs).wk fun T' σ H q => by
  obtain ⟨B, O0, O, ρ, N, R, Z, k, q, hN, hR, hZ⟩ := q
  refine ⟨B, O0, O, ρ, _, _, k, q, fun v d H1 s1 r1 q1 => ⟨B, O0, O, ρ, _, _, k.ext s1, q1, fun x d2 H2 s2 r2 q2 => ?_, fun c H' s' z => hZ c H' σ ρ O ((k.ext s1).ext s') z⟩, fun c H' s' z => hZ c H' σ ρ O (k.ext s') z⟩
  have k2 := (k.ext s1).ext s2
  obtain ⟨y, b, ts, rfl, hj, q3⟩ := stAt_at k2 r2 q2
  cases d with
  | lst ds =>
    obtain ⟨ns, rfl, q3⟩ := q3
    obtain ⟨l', vs, rfl, e1, e2⟩ := Rep.mono (wo_same O s2) (.lst (ns.map .int)) r1
    rw [RepL.of_ints e2] at e1
    obtain ⟨dx, fs, h1, hl, k3⟩ := k2.setT hj e1
    exact ⟨y, C, dx, fs, rfl, h1, T.cl, T.nT, hl, hN σ _ _ O k3 q3⟩
  | _ => exact q3.elim
/-- self.begins, self.turns = e -/
def dSetBT (j : Nat) (po pv : DE) : DSM := fun ρ N _ Z => pv ρ (fun v => match v with
  | .tup [.bl b', .lst ds] => ∃ ns : List Int, ds = ns.map .int ∧ po ρ (fun d => stAt j ρ (fun p _ ts => po (ρ.set j (some (.kst p b' ts))) (fun d2 => stAt j (ρ.set j (some (.kst p b' ts))) (fun p2 b2 _ => N ((ρ.set j (some (.kst p b' ts))).set j (some (.kst p2 b2 ns)))) d2) (fun _ => False)) d) (fun _ => False)
  | _ => False) (fun c => Z c ρ)
theorem sm_setBT {o2 : Expr} {po pv : DE} {p1 p2 p3 : Pos} {k2 : Nat} (j : Nat) (hc : X.calm = true) (T : Kp X.K X.mg C) (ho : PE X o (lift X.K C E po)) (ho2 : PE X o2 (lift X.K C E po)) (he : PE X e (lift X.K C E pv))
    (hn : (assignEach [.Attribute o "begins" p1, .Attribute o2 "turns" p2] X.env).length = 2 := by rfl) (hst : (assignEach [.Attribute o "begins" p1, .Attribute o2 "turns" p2] X.env).findIdx? (·.1) = none := by rfl)
    (hs1 : (assignEach [.Attribute o "begins" p1, .Attribute o2 "turns" p2] X.env).map (·.2) = assign (.Attribute o "begins" p1) X.env :: (assignEach [.Attribute o2 "turns" p2] X.env).map (·.2) := by rfl)
    (hs2 : (assignEach [.Attribute o2 "turns" p2] X.env).map (·.2) = assign (.Attribute o2 "turns" p2) X.env :: (assignEach [] X.env).map (·.2) := by rfl)
    (hs : swapsWithSole [.Tuple [.Attribute o "begins" p1, .Attribute o2 "turns" p2] k2 p3] e pos.line X.env = pure false := by rfl) (hw : swappedStores [.Tuple [.Attribute o "begins" p1, .Attribute o2 "turns" p2] k2 p3] e X.env = pure none := by rfl)
    (h1 : (assignEach [.Tuple [.Attribute o "begins" p1, .Attribute o2 "turns" p2] k2 p3] X.env).map (·.2) = [assign (.Tuple [.Attribute o "begins" p1, .Attribute o2 "turns" p2] k2 p3) X.env] := by rfl) :
    PS X (.Assign [.Tuple [.Attribute o "begins" p1, .Attribute o2 "turns" p2] k2 p3] e pos) (liftSM X.K C E (dSetBT j po pv)) :=
  (ps_asg he (pg_tup hc (pgs_cons (pg_fld ho) (pgs_cons (pg_fld ho2) pgs_nil hs2) hs1) hn hst) hs hw h1).wk fun T' σ H q => by
    obtain ⟨B, O0, O, ρ, N, R, Z, k, q, hN, hR, hZ⟩ := q
    refine ⟨B, O0, O, ρ, _, _, k, q, fun v d H1 s1 r1 q1 => ?_, fun c H' s' z => hZ c H' σ ρ O (k.ext s') z⟩
    have kk := k.ext s1
    split at q1
    · rename_i b' ds
      obtain ⟨ns, rfl, q1⟩ := q1
      obtain ⟨a0, vs, rfl, e1, x1, w1, rfl, r11, x2, w2, rfl, r12, e3⟩ := r1
      have e3' : w2 = [] := e3
      subst e3'
      have e11 : x1 = V.bl b' := r11
      subst e11
      refine ⟨a0, _, rfl, SqT.of (wo_some e1), rfl, V.bl b', [x2], rfl, B, O0, O, ρ, _, _, kk, q1, fun x d2 H2 s2 r2 q2 => ?_, fun c H' s' z => z.elim⟩
      have k2 := kk.ext s2
      obtain ⟨y, b, ts, rfl, hj, q3⟩ := stAt_at k2 r2 q2
      obtain ⟨dx, fs, g1, hl, k3⟩ := k2.setB hj b'
      obtain ⟨hp, _, _⟩ := k2.st.at_ j y b ts hj
      refine ⟨y, C, dx, fs, rfl, g1, T.cl, T.nB, hl, x2, [], rfl, B, O0, O, _, _, _, k3, q3, fun x d3 H3 s3 r3 q4 => ?_, fun c H' s' z => z.elim⟩
      have k4 := k3.ext s3
      obtain ⟨y2, b2, ts2, rfl, hj2, q5⟩ := stAt_at k4 r3 q4
      obtain ⟨l', ws, rfl, f1, f2⟩ := Rep.mono (wo_same O s2) (.lst (ns.map .int)) r12
      rw [RepL.of_ints f2] at f1
      have f3 := wo_same O s3 _ _ (wo_upd (o := .ins C dx (putF "begins" (.bl b') fs)) hp f1)
      obtain ⟨dx2, fs2, g2, hl2, k5⟩ := k4.setT hj2 f3
      exact ⟨y2, C, dx2, fs2, rfl, g2, T.cl, T.nT, hl2, rfl, hN σ _ _ O k5 q5⟩
    · exact q1.elim

/-! ### calls of a local name -/
structure Fa (P : Program) (w : World) (K : PySem.W.Frag) (mg : Str → Option Value) (base : Heap) (C : Addr) (k : Nat) (f : Addr) (t : DP) : Prop where
  ex : ∃ (fd : FuncData) (ps : List Str), FnOk P w K mg base (L2.CX P w) k f fd ps (spD K C t) ∧ PySem.W.keepIn K (.ref f) = true ∧ Binds K fd ps []
def dCallL (i : Nat) (fr : Addr) (t : DP) (q : DA) : DE := fun ρ P R => ρ[i]? = some (some (.v (.adr fr))) ∧ q ρ (fun ds => t ds P R) R
theorem pd_callL {p : Pos} {x : Str} {k : Nat} {fr : Addr} {es : List Expr} {t : DP} {q : DA} (i : Nat) (F : Fa X.prog X.w X.K X.mg X.base C k fr t) (hr : Room k X.A) (hx : Passes (L2.CX X.prog X.w) X E) (ha : PA X (e :: es) (liftA X.K C E q)) (hN : X.N[i]? = some x := by rfl)
    (hv : Vis X.env.scope x := by first | exact Or.inl rfl | exact Or.inr (Or.inl rfl) | exact Or.inr (Or.inr rfl)) (hdb : (x == ("__debug__" : Str)) = false := by decide) (hcd : (x == ("__classdict__" : Str)) = false := by decide)
    (he : starEach (e :: es) X.env = (false, eval e X.env) :: starEach es X.env := by rfl) (hpl : (backTo pos (starEach es X.env)).any (·.1) = false := by rfl) : PE X (.Call (.Name x p) (e :: es) [] pos) (lift X.K C E (dCallL i fr t q)) := by
  obtain ⟨fd, ps, F, hk, hb⟩ := F.ex
  refine (pe_callL F hr hN hv hk hb .nil hx ha hdb hcd he hpl).wk fun σ H Q q => ?_
  obtain ⟨B, O0, O, ρ, P, R, k, ⟨hi, q⟩, hP, hR⟩ := q
  obtain ⟨x, e1, e2⟩ := k.val i _ hi
  have ex : x = V.ref fr := e2
  subst ex
  exact ⟨e1, lift_call σ H Q ⟨B, O0, O, ρ, P, R, k, q, hP, hR⟩⟩

/-! ### dict of pairs -/
def kD : Key → D
  | .inl i => .int i
  | .inr s => .str s
def dDict : DB
  | [.lst ds], P => ∃ kvs : List (Key × D), ds = kvs.map (fun kv => .tup [kD kv.1, kv.2]) ∧ (kvs.map (·.1)).Nodup ∧ P (.dic (kvs.map (·.1)) (kvs.map (·.2)))
  | _, _ => False
theorem kD_rep {K : PySem.W.Frag} {H : Hp} {k : Key} {v : V} (r : Rep K C H (kD k) v) : v = kV k := by
  cases k with
  | inl i => exact r
  | inr s => exact r
theorem pairs_rep {K : PySem.W.Frag} {H : Hp} {O : List Addr} : ∀ {kvs : List (Key × D)} {vs : List V}, RepL K C (wo H O) (kvs.map fun kv => .tup [kD kv.1, kv.2]) vs →
    ∃ (ps : List Addr) (ws : List V), vs = ps.map V.ref ∧ RepL K C (wo H O) (kvs.map (·.2)) ws ∧ ws.length = kvs.length ∧ Paired (fun p (kv : Key × V) => SqT K H p [kV kv.1, kv.2]) ps ((kvs.map (·.1)).zip ws)
  | [], _, r => ⟨[], [], r, rfl, rfl, .nil⟩
  | kv :: kvs, vs, r => by
    obtain ⟨v, w', rfl, ⟨p, xs, rfl, e1, x1, y1, rfl, r1, x2, y2, rfl, r2, e3⟩, r'⟩ := r
    have e3' : y2 = [] := e3
    subst e3'
    have ek := kD_rep r1
    subst ek
    obtain ⟨ps, ws, rfl, h1, h2, h3⟩ := pairs_rep r'
    exact ⟨p :: ps, x2 :: ws, rfl, ⟨x2, ws, rfl, r2, h1⟩, by rw [List.length_cons, List.length_cons, h2], .cons (SqT.of (wo_some e1)) h3⟩
theorem ab_dict {K : PySem.W.Frag} : AbC K C (fun xs H Q => ∃ (a : Addr) (ps : List Addr) (kvs : List (Key × V)), xs = [.ref a] ∧ SqL K H a (ps.map V.ref) ∧ Paired (fun p kv => SqT K H p [kV kv.1, kv.2]) ps kvs ∧ ∀ p, H p = none → Q (.ref p) (upd H p (.dK (mergeK [] kvs)))) dDict := by
  intro O H vs ds P Q al r q k
  unfold dDict at q
  split at q
  · obtain ⟨v, _, rfl, ⟨a, ws, rfl, e1, e2⟩, rfl⟩ := r
    obtain ⟨kvs, rfl, hn, q⟩ := q
    obtain ⟨ps, us, rfl, h1, h2, h3⟩ := pairs_rep e2
    refine ⟨a, ps, _, rfl, SqL.of (wo_some e1), h3, fun p hp => ?_⟩
    have em : mergeK [] ((kvs.map (·.1)).zip us) = (kvs.map (·.1)).zip us := by
      rw [merge_nodup _ [] (by rw [List.nil_append, List.map_fst_zip (by rw [List.length_map, h2]; exact Nat.le_refl _)]; exact hn), List.nil_append]
    rw [em]
    exact k (.ref p) (.dic (kvs.map (·.1)) (kvs.map (·.2))) _ (Same.new hp) ⟨p, us, rfl, wo_of upd_same (al.new hp), RepL.mono (wo_same O (Same.new hp)) _ h1, by rw [List.length_map, List.length_map]⟩ q
  · exact q.elim
theorem bt_dict : bootBuiltins "dict" = some (.type "dict") := by decide +kernel
theorem pd_dict {es : List Expr} {q : DA} {p : Pos} (nb : X.mg "dict" = none) (ha : PA X (a :: es) (liftA X.K C E q)) (hc : X.calm = true := by rfl) (hg : Gl X "dict" := by rfl) (he : starEach (a :: es) X.env = (false, eval a X.env) :: starEach es X.env := by rfl) (hpl : (backTo pos (starEach es X.env)).any (·.1) = false := by rfl) : PE X (.Call (.Name "dict" p) (a :: es) [] pos) (lift X.K C E (dBi dDict q)) :=
  pd_bt (call_dictP hc) ab_dict hg nb bt_dict ha (by decide) (by decide) he hpl
/-- i in a dict -/
def hasK (k : Key) (ks : List Key) : Bool := ks.any fun z => decide (z = k)
theorem hasK_val : ∀ {ks : List Key} {vs : List V} {k : Key}, ks.length = vs.length → (valV (ks.zip vs) k).isSome = hasK k ks
  | [], _, _, _ => rfl
  | k' :: ks, [], _, h => by cases h
  | k' :: ks, v :: vs, k, h => by
    show (valV ((k', v) :: ks.zip vs) k).isSome = _
    by_cases e : k' = k
    · rw [valV_pos e]
      simp [hasK, e]
    · rw [valV_neg e, hasK_val (Nat.succ.inj h)]
      simp [hasK, e]
def dInD (p q : DE) : DE := fun ρ P R => p ρ (fun y => q ρ (fun x => match x with
  | .dic ks _ => ∃ k, keyD y = some k ∧ P (.bl (hasK k ks))
  | _ => False) R) R
theorem pd_ind {i : Expr} {p q : DE} (hu : X.A.units + 1 < cLine) (hi : PE X i (lift X.K C E p)) (ho : PE X o (lift X.K C E q)) (hm : behindInMarks .In o = false := by rfl) : PE X (.Compare i [.In] [o] pos) (lift X.K C E (dInD p q)) := (pe_cmp (pc_din hu hi ho) hm).wk fun σ H Q q => by
  obtain ⟨B, O0, O, ρ, P, R, k, q, hP, hR⟩ := q
  refine ⟨B, O0, O, ρ, _, R, k, q, fun y dy H1 s1 r1 q1 => ⟨B, O0, O, ρ, _, R, k.ext s1, q1, fun x dx H2 s2 r2 q2 => ?_, fun c H' s' z => hR c H' (s1.trans s') z⟩, hR⟩
  cases dx with
  | dic ks ds =>
    obtain ⟨k', e1, q3⟩ := q2
    obtain ⟨a, vs, rfl, h1, h2, h3⟩ := r2
    have ek := keyD_rep e1 r1
    subst ek
    refine ⟨a, _, rfl, DGet.k (wo_some h1), ?_⟩
    rw [hasK_val (by rw [RepL.length h2]; exact h3)]
    exact hP (.bl _) (.bl _) H2 (s1.trans s2) rfl q3
  | _ => exact q2.elim

/-! ### a new Keeper -/
def spInit (C : Addr) : Sp := fun vs H Q _ => ∃ p dx, vs = [.ref p] ∧ H p = some (.ins C dx []) ∧ ∀ l H', H l = none → Same (wo H [p]) H' → H' p = some (.ins C dx (kf false l)) → H' l = some (.lst []) → Q .non H'
structure Kn (P : Program) (w : World) (K : PySem.W.Frag) (mg : Str → Option Value) (base : Heap) (C : Addr) (k : Nat) : Prop where
  g : mg "Keeper" = some (.ref C)
  ex : ∃ (f : Addr) (fd : FuncData) (ps : List Str), Mk K C f ∧ FnOk P w K mg base (L2.CX P w) k f fd ps (spInit C) ∧ Binds K fd ps []
/-- x = Keeper(): slot i stands for it, slot j tells of it -/
def dNewK (i j : Nat) : DS := fun ρ N _ _ => ∀ p, N ((ρ.set i (some (.v (.adr p)))).set j (some (.kst p false [])))
theorem sd_newK {i j n : Nat} {x : Str} {p p2 pos' : Pos} (T : Kn X.prog X.w X.K X.mg X.base C n) (hr : Room (n + 1) X.A) (hx' : Passes (L2.CX X.prog X.w) X E) (hN : X.N.Nodup) (hi : X.N[i]? = some x) (hx : Loc X.env.scope x) (hg : Gl X "Keeper" := by rfl)
    (hs : swapsWith (.Call (.Name "Keeper" p) [] [] p2) (some (.Name x pos')) pos.line X.env = pure false := by rfl) (hf : X.fn x = true ∨ X.env.scope.names.lookup x = some .local := by first | exact .inl rfl | exact .inr rfl | assumption) (hdb : (("Keeper" : Str) == ("__debug__" : Str)) = false := by decide) :
    PS X (.Assign [.Name x pos'] (.Call (.Name "Keeper" p) [] [] p2) pos) (liftS X.K C E (dNewK i j)) := by
  obtain ⟨f, fd, ps, M, F, hb⟩ := T.ex
  refine (ps_set hN hi hx (pe_make0 M F hr hg T.g hb .nil hx' hdb) hs hf).wk fun T' σ H q => ?_
  obtain ⟨B, O0, O, ρ, N, R, Z, k, q, hN, hR, hZ⟩ := q
  intro y dx hy hdx ne
  have hdx' : (upd H dx (.own y)) y = none := by rw [upd_ne (Ne.symm ne)]; exact hy
  refine ⟨y, dx, rfl, upd_same, fun l H' hl s' h1 h2 => ⟨rfl, ?_⟩⟩
  have hl0 : H l = none := by
    have n1 : l ≠ y := fun z => by rw [z, upd_same] at hl; cases hl
    have n2 : l ≠ dx := fun z => by rw [z, upd_ne ne, upd_same] at hl; cases hl
    rw [upd_ne n1, upd_ne n2] at hl
    exact hl
  have ly : l ≠ y := fun z => by rw [z, upd_same] at hl; cases hl
  have s0 : Same H H' := fun b o e => s' b o (wo_of (by
    have n1 : b ≠ y := ne_of_none e hy
    have n2 : b ≠ dx := ne_of_none e hdx
    rw [upd_ne n1, upd_ne n2]
    exact e) (by simpa using ne_of_none e hy))
  -- y is kept apart from here on
  have hyO : y ∉ O := k.al.new hy
  have k0 := k.apart (o := .ins C dx []) hy
  have sw : Same (wo H O) (wo H' (y :: O)) := fun b o e => by
    have e1 := wo_some e
    have nO : b ∉ O := fun z => by
      unfold wo at e
      rw [if_pos z] at e
      cases e
    exact wo_of (s0 _ _ e1) (by simp [ne_of_none e1 hy, nO])
  have k1 : Ok X.K C B O0 (y :: O) H' σ ρ := by
    refine ⟨k.base.trans s0, k.al0, fun a ha => ?_, fun a ha => List.mem_cons_of_mem _ (k.sub0 a ha), k0.new, k.len, fun m d e => ?_, fun m es e => ?_, k.uniq, k.st.to (fun _ _ _ _ e => e) (fun _ _ _ h _ => List.mem_cons_of_mem _ h) (fun _ _ _ _ _ e _ => s0 _ _ e) sw (fun _ _ h => h), k.ls.to (fun _ _ _ e => e) (fun _ _ _ _ _ _ h => List.mem_cons_of_mem _ h) (fun _ _ _ _ _ _ _ e => s0 _ _ e) sw (fun _ _ h => h) k.ls.no, k.tb.to (fun _ _ _ e => e) (fun _ _ _ h => List.mem_cons_of_mem _ h) (SameX.of s0) (fun _ _ h => h)⟩
    · rcases List.mem_cons.mp ha with rfl | ha
      · rw [h1]; intro z; cases z
      · exact (k.al.mono s0) a ha
    · obtain ⟨x, e1, e2⟩ := k.val m d e
      exact ⟨x, e1, Rep.mono sw d e2⟩
    · obtain ⟨q, vs, e1, e2, e3, e4, e5⟩ := k.own m es e
      exact ⟨q, vs, e1, List.mem_cons_of_mem _ e2, e3, s0 _ _ e4, RepL.mono sw es e5⟩
  have k2 := k1.set i (d := .adr y) (x := .ref y) rfl
  have k3 := k2.tell j (p := y) (l := l) (dx := dx) (b := false) (ts := []) List.mem_cons_self (k.base.free hy) h1 (wo_of h2 (by simp [ly, k.al.new hl0])) (fun m b' ts' e => by
    have e' := set_kst (fun _ _ _ h => by cases h) _ _ _ _ e
    obtain ⟨z, _⟩ := k.st.at_ m y b' ts' e'
    exact absurd z hyO)
  exact hN _ H' _ _ k3 (q y)
end
end L2.DL
/-! # Fresh lists, ranges, lending of own lists -/
namespace L2.DL
open PySem PySem.Spec PyProof.Rows L2.SK
def asgVal : Stmt → Expr
  | .Assign _ v _ => v
  | _ => .Constant .none 0 ⟨0, 0, 0, 0⟩
def lcScope : Expr → Scope
  | .ListComp _ _ sc _ => sc
  | _ => defScope (.Pass ⟨0, 0, 0, 0⟩)

section
variable {K : PySem.W.Frag} {C : Addr} {B H H' : Hp} {O0 O : List Addr} {σ : St} {ρ : Env}
/-- a new list, its items as they are told, comes into a slot as the def's own -/
theorem Ok.setOwn' (k : Ok K C B O0 O H σ ρ) {i : Nat} {a : Addr} {es : List D} {ws : List V} (s : Same H H') (ha : H a = none) (hl : H' a = some (.lst ws)) (r : RepL K C (wo H' (a :: O)) es ws) :
    Ok K C B O0 (a :: O) H' (σ.set i (some (.ref a))) (ρ.set i (some (.own es))) := by
  have e0 : wo H' [a] a = none := by unfold wo; rw [if_pos (by simp)]
  have s1 : Same H (wo H' [a]) := fun b o e => wo_of (s b o e) (by simpa using ne_of_none e ha)
  have k1 := k.ext s1
  have r1 : RepL K C (wo (wo H' [a]) O) es ws := RepL.mono (fun b o e => by
    have n : b ∉ a :: O := fun z => by
      unfold wo at e
      rw [if_pos z] at e
      cases e
    have n' := n
    rw [List.mem_cons, not_or] at n'
    exact wo_of (wo_of (wo_some e) (by simpa using n'.1)) n'.2) es r
  have k2 := k1.setOwn (i := i) (p := a) e0 r1
  have eH : upd (wo H' [a]) a (.lst ws) = H' := by
    funext b
    by_cases z : b = a
    · rw [z, upd_same, hl]
    · rw [upd_ne z]
      unfold wo
      rw [if_neg (by simpa using z)]
  rwa [eH] at k2
end
section
variable {X : Cx} {C : Addr} {E : XK} {pos : Pos} {a e o : Expr}
/-! ### lending an own list -/
def dLendO (i : Nat) (t : DT) : DT := fun ρ P R => match ρ[i]? with
  | some (some (.own ds)) => t (ρ.set i (some (.v (.lst ds)))) P R
  | _ => False
theorem qd_lendO {t : DT} (i : Nat) (h : PT X e (liftT X.K C E t)) : PT X e (liftT X.K C E (dLendO i t)) := h.wk fun σ H Q q => by
  obtain ⟨B, O0, O, ρ, P, R, k, q, hP, hR⟩ := q
  unfold dLendO at q
  split at q
  · rename_i ds hi
    obtain ⟨O', k'⟩ := k.freeze hi
    exact ⟨B, O0, O', _, P, R, k', q, hP, hR⟩
  · exact q.elim
/-! ### own lists cleared -/
def dClear (i : Nat) : DS := fun ρ N _ _ => match ρ[i]? with
  | some (some (.own _)) => N (ρ.set i (some (.own [])))
  | _ => False
theorem Ok.clear {K : PySem.W.Frag} {B H : Hp} {O0 O : List Addr} {σ : St} {ρ : Env} (k : Ok K C B O0 O H σ ρ) {i : Nat} {ds : List D} {p : Addr} {vs : List V} (hi : ρ[i]? = some (some (.own ds))) (hp : σ[i]? = some (some (.ref p))) (hl : H p = some (.lst vs)) :
    Ok K C B O0 O (upd H p (.lst [])) σ (ρ.set i (some (.own []))) := by
  obtain ⟨p', vs', e1, e2, e3, e4, e5⟩ := k.own i ds hi
  rw [hp] at e1
  have ep : p = p' := by simpa using e1
  subst ep
  have hil : i < ρ.length := by
    rcases Nat.lt_or_ge i ρ.length with h | h
    · exact h
    · rw [List.getElem?_eq_none h] at hi; cases hi
  have sw : Same (wo H O) (wo (upd H p (.lst [])) O) := fun b o e => wo_upd e2 e
  refine ⟨fun b o e => ?_, k.al0, fun a ha => ?_, k.sub0, k.new, by rw [List.length_set]; exact k.len, fun j d' e => ?_, fun j es e => ?_, fun a b es fs h1 h2 h3 => ?_, k.st.to (set_kst fun _ _ _ h => by cases h) (fun _ _ _ h _ => h) (fun a dx fs _ _ e _ => by
    rw [upd_ne fun q => by rw [q, hl] at e; cases e]
    exact e) sw (fun _ _ h => h), k.ls.to (set_ls fun _ _ h => by cases h) (fun _ _ _ _ _ _ h => h) (fun j a ds' vs' z _ _ e => by
    rw [upd_ne (show a ≠ p from fun q => k.ls.no j i a ds' ds z hi (by rw [hp, q]))]
    exact e) sw (fun _ _ h => h) fun a b q ds' es e e' => by
    by_cases h : i = b
    · subst h
      exact k.ls.no a i q ds' ds e hi
    · rw [List.getElem?_set_ne h] at e'
      exact k.ls.no a b q ds' es e e', k.tb.to (set_tb fun _ _ h => by cases h) (fun _ _ _ h => h) (SameX.upd hl) (fun _ _ h => h)⟩
  · rw [upd_ne (ne_of_none e e3)]
    exact k.base b o e
  · by_cases h : a = p
    · rw [h, upd_same]; intro z; cases z
    · rw [upd_ne h]; exact k.al a ha
  · have h : i ≠ j := fun z => by
      subst z
      rw [List.getElem?_set_self hil] at e
      simp at e
    rw [List.getElem?_set_ne h] at e
    obtain ⟨y, a1, a2⟩ := k.val j d' e
    exact ⟨y, a1, Rep.mono sw d' a2⟩
  · by_cases h : i = j
    · subst h
      rw [List.getElem?_set_self hil] at e
      have e' : ([] : List D) = es := by simpa using e
      subst e'
      exact ⟨p, [], hp, e2, e3, upd_same, rfl⟩
    · rw [List.getElem?_set_ne h] at e
      obtain ⟨q, ws, a1, a2, a3, a4, a5⟩ := k.own j es e
      have nq : q ≠ p := fun z => h (k.uniq i j ds es hi e (by rw [hp, a1, z]))
      exact ⟨q, ws, a1, a2, a3, by rw [upd_ne nq]; exact a4, RepL.mono sw es a5⟩
  · have old : ∀ (j : Nat) (es : List D), (ρ.set i (some (DV.own [])))[j]? = some (some (.own es)) → ∃ fs, ρ[j]? = some (some (.own fs)) := fun j es e => by
      by_cases h : i = j
      · exact ⟨ds, by rw [← h]; exact hi⟩
      · rw [List.getElem?_set_ne h] at e
        exact ⟨es, e⟩
    obtain ⟨es', h1⟩ := old a es h1
    obtain ⟨fs', h2⟩ := old b fs h2
    exact k.uniq a b es' fs' h1 h2 h3
theorem sd_clear {i : Nat} {x : Str} {np apos cpos : Pos} (hv : PE X (.Name x np) (tVar i)) (hs : swapsWith (.Call (.Attribute (.Name x np) "clear" apos) [] [] cpos) none pos.line X.env = pure false := by rfl)
    (hb : attributeBase (.Name x np) "clear" X.env (eval (.Name x np) X.env) = eval (.Name x np) X.env := by rfl) (hl : (apos.endLine == cpos.line) = true := by rfl) : PS X (.Expr (.Call (.Attribute (.Name x np) "clear" apos) [] [] cpos) pos) (liftS X.K C E (dClear i)) :=
  (ps_expr (pe_bm0 PySem.F.plainAttrs_list PySem.F.slot_list_clear PySem.F.type_list_clear mt_clear hv hb hl) hs).wk fun D σ H q => by
    obtain ⟨B, O0, O, ρ, N, R, Z, k, q, hN, hR, hZ⟩ := q
    unfold dClear at q
    split at q
    · rename_i ds ho
      obtain ⟨a, vs, e1, e2, e3, e4, e5⟩ := k.own i ds ho
      exact ⟨.ref a, e1, .inl ⟨rfl, vs, SqL.of e4⟩, a, vs, rfl, rfl, e4, hN σ _ _ O (k.clear ho e1 e4) q⟩
    · exact q.elim
/-! ### range -/
def dRng (q : DA) : DA := fun ρ P R => q ρ (fun ds => match ds with
  | [.int j] => -(2 ^ 62) ≤ j ∧ j < 2 ^ 62 ∧ P ((List.range j.toNat).map fun i => .int (i : Nat))
  | _ => False) R
theorem wk_range {K : PySem.W.Frag} {O : List Addr} {H : Hp} {n : Nat} : Wk K C O H (Itr 0 n) ((List.range n).map fun i => D.int (i : Nat)) := fun H' s => by
  refine ⟨fun i d hd => ?_, by show n ≤ _; rw [List.length_map, List.length_range]; exact Nat.le_refl _⟩
  have hi : i < n := by
    have := (List.getElem?_eq_some_iff.mp hd).1
    rwa [List.length_map, List.length_range] at this
  rw [List.getElem?_map, List.getElem?_range hi] at hd
  have ed : D.int (i : Nat) = d := Option.some.inj hd
  subst ed
  refine ⟨hi, fun x H'' y => ?_⟩
  obtain ⟨rfl, rfl⟩ := y
  exact ⟨Same.refl _, fun O' so al => by show V.int (0 + (i : Nat)) = V.int (i : Nat); rw [Int.zero_add]⟩
theorem id_range1 {tg : Expr} {q : DA} {p : Pos} (hg : Gl X "range") (hm : X.mg "range" = none) (ha : PA X [a] (liftA X.K C E q)) (hs : starEach [a] X.env = [(false, eval a X.env)] := by rfl) : PI X tg (.Call (.Name "range" p) [a] [] pos) (liftI X.K C E (dRng q)) := (pi_range1 hg hm ha hs).wk fun σ H Q q => by
  obtain ⟨B, O0, O, ρ, P, R, k, q, hP, hR⟩ := q
  refine ⟨B, O0, O, ρ, _, R, k, q, fun vs ds H' s' r p => ?_, hR⟩
  split at p
  · obtain ⟨v, _, rfl, rfl, rfl⟩ := r
    exact ⟨_, rfl, p.1, p.2.1, hP _ _ H' s' wk_range p.2.2⟩
  · exact p.elim
/-! ### a def that returns a list that it made -/
abbrev DR := Env → (List D → Prop) → Prop
def liftR (K : PySem.W.Frag) (C : Addr) (E : XK) (p : DR) : TS := fun T σ H => ∃ B O0 O ρ RO, Ok K C B O0 O H σ ρ ∧ p ρ RO ∧
  ∀ a ws es H', Same B H' → B a = none → H' a = some (.lst ws) → RepL K C (wo H' (a :: O0)) es ws → RO es → T.rt (.ref a) H'
def dSeqR (p : DS) (q : DR) : DR := fun ρ RO => p ρ (fun ρ' => q ρ' RO) (fun _ => False) (fun _ => False)
def dRetO (i : Nat) : DR := fun ρ RO => match ρ[i]? with
  | some (some (.own ds)) => RO ds
  | _ => False
theorem sr_cons {st : Stmt} {rest : List Stmt} {p : DS} {q : DR} (h1 : PS X st (liftS X.K C E p)) (h2 : PSs X rest (liftR X.K C E q)) : PSs X (st :: rest) (liftR X.K C E (dSeqR p q)) := (pss_cons h1 h2).wk fun T σ H q => by
  obtain ⟨B, O0, O, ρ, RO, k, q, hR⟩ := q
  exact ⟨B, O0, O, ρ, _, _, _, k, q, fun σ' H' ρ' O' k' n' => ⟨B, O0, O', ρ', RO, k', n', hR⟩, fun v d H' s' r z => z.elim, fun c H' s' z => z.elim⟩
theorem sr_ret {i : Nat} {x : Str} {np : Pos} (hv : PE X (.Name x np) (tVar i)) : PSs X [.Return (some (.Name x np)) pos] (liftR X.K C E (dRetO i)) := (pss_one (ps_ret hv)).wk fun T σ H q => by
  obtain ⟨B, O0, O, ρ, RO, k, q, hR⟩ := q
  unfold dRetO at q
  split at q
  · rename_i ds hi
    obtain ⟨p, vs, e1, e2, e3, e4, e5⟩ := k.own i ds hi
    refine ⟨.ref p, e1, hR p vs ds H k.base e3 e4 (RepL.mono (wo_sub H fun b hb => ?_) ds e5) q⟩
    rcases List.mem_cons.mp hb with rfl | hb
    · exact e2
    · exact k.sub0 b hb
  · exact q.elim
abbrev DFp := List D → (List D → Prop) → Prop
def spF (K : PySem.W.Frag) (C : Addr) (t : DFp) : Sp := fun vs H Q _ => ∃ O ds P, Al O H ∧ RepL K C (wo H O) ds vs ∧ t ds P ∧
  ∀ a ws es H', Same H H' → H a = none → H' a = some (.lst ws) → RepL K C (wo H' (a :: O)) es ws → P es → Q (.ref a) H'
/-- the same def, its list as a value -/
theorem spF_spD {K : PySem.W.Frag} (t : DFp) : ∀ vs H Q E, spD K C (fun ds P _ => t ds (fun es => P (.lst es))) vs H Q E → spF K C t vs H Q E := fun vs H Q E q => by
  obtain ⟨O, ds, P, R, al, r, q, hP, _⟩ := q
  refine ⟨O, ds, _, al, r, q, fun a ws es H' s ha hl rr p => hP _ (.lst es) H' s ⟨a, ws, rfl, wo_of hl (al.new ha), RepL.mono (wo_sub H' fun b hb => List.mem_cons_of_mem _ hb) es rr⟩ p⟩
end
section
variable {P : Program} {w : World} {K : PySem.W.Frag} {mg : Str → Option Value} {base : Heap} {C : Addr}
theorem fnF {x qual : Str} {st : Stmt} {f : Addr} {fd : FuncData} {N ps : List Str} {k : Nat} {t : DFp} {p : DR} (F : Fun K x qual st f fd) (S : FnScope N ps (defScope st))
    (body : ∀ (cdv : Value) (A : Around) (outer : List PySem.Env) (s : Shared) (H : Hp) (E : XK), Room k (A.deeper (envOfC qual (defScope st) s.heap.objs.size f cdv)) → PSs (cxD P w K mg base N qual (defScope st) f cdv A outer s H E) (defBody st) (liftR K C E p))
    (h : ∀ (ds : List D) (T : List D → Prop), t ds T → ds.length = ps.length ∧ p (startE N ds) T) : FnOk P w K mg base (L2.CX P w) (k + 1) f fd ps (spF K C t) := by
  refine F.okX S (fun vs H Q E q => ?_) (fun cdv A outer s H vs Q E hr q => ⟨_, body cdv A outer s H E hr, ?_⟩)
  · obtain ⟨O, ds, T, al, r, q, _⟩ := q
    rw [RepL.length r]
    exact (h ds T q).1
  · obtain ⟨O, ds, T, al, r, q, hT⟩ := q
    exact ⟨H, O, O, startE N ds, _, start_ok al r N, (h ds T q).2, hT⟩
/-- a method of Keeper that makes a list -/
structure Mf (P : Program) (w : World) (K : PySem.W.Frag) (mg : Str → Option Value) (base : Heap) (C : Addr) (k : Nat) (m : Str) (t : DFp) : Prop where
  ex : ∃ (f : Addr) (fd : FuncData) (ps : List Str), FnOk P w K mg base (L2.CX P w) k f fd ps (spF K C t) ∧ Meth K C m f ∧ Binds K fd ps []
theorem Mf.mc {k : Nat} {m : Str} {t : DFp} (h : Mf P w K mg base C k m t) : Mc P w K mg base C k m (fun ds P _ => t ds (fun es => P (.lst es))) := by
  obtain ⟨f, fd, ps, F, hm, hb⟩ := h.ex
  exact ⟨f, fd, ps, F.imp (spF_spD t), hm, hb⟩
/-- a method of Keeper that changes it -/
structure Mm (P : Program) (w : World) (K : PySem.W.Frag) (mg : Str → Option Value) (base : Heap) (C : Addr) (k : Nat) (m : Str) (t : DM) : Prop where
  ex : ∃ (f : Addr) (fd : FuncData) (ps : List Str), FnOk P w K mg base (L2.CX P w) k f fd ps (spM K C t) ∧ Meth K C m f ∧ Binds K fd ps []
/-- a def that changes its first argument, a Keeper -/
structure Fm (P : Program) (w : World) (K : PySem.W.Frag) (mg : Str → Option Value) (base : Heap) (C : Addr) (k : Nat) (name : Str) (t : DM) : Prop where
  ex : ∃ (f : Addr) (fd : FuncData) (ps : List Str), FnOk P w K mg base (L2.CX P w) k f fd ps (spM K C t) ∧ mg name = some (.ref f) ∧ PySem.W.keepIn K (.ref f) = true ∧ Binds K fd ps []
end
section
variable {X : Cx} {C : Addr} {E : XK} {pos : Pos} {a e o : Expr}
theorem pm_m {apos : Pos} {m : Str} {n : Nat} {es : List Expr} {t : DM} {pe : DE} {q : DA} (j : Nat) (T : Kp X.K X.mg C) (M : Mm X.prog X.w X.K X.mg X.base C n m t) (hr : Room n X.A) (hx : Passes (L2.CX X.prog X.w) X E)
    (ho : PE X o (lift X.K C E pe)) (ha : PA X (e :: es) (liftA X.K C E q)) (hm1 : ¬ m = "begins" := by decide) (hm2 : ¬ m = "turns" := by decide)
    (hst : starEach (e :: es) X.env = (false, eval e X.env) :: starEach es X.env := by rfl) (hpl : (backTo pos (starEach es X.env)).any (·.1) = false := by rfl) {pl : Sem Bool}
    (ht : eval (.Call (.Attribute o m apos) (e :: es) [] pos) X.env = (do
      let ov ← eval o X.env
      standAt apos.atName
      let (f, first) ← holding [ov] (getMethod ov m pl)
      callWith pos f first (backTo pos (starEach (e :: es) X.env)) (backToKw pos (keywordEach [] X.env))) := by rfl) :
    PE X (.Call (.Attribute o m apos) (e :: es) [] pos) (liftM X.K C E (dMutM j t pe q)) := by
  obtain ⟨f, fd, ps, F, hm, hb⟩ := M.ex
  exact pm_mt j T F hm hb hr hx ho ha hm1 hm2 hst hpl ht
theorem pm_m0 {apos : Pos} {m : Str} {n : Nat} {t : DM} {pe : DE} (j : Nat) (T : Kp X.K X.mg C) (M : Mm X.prog X.w X.K X.mg X.base C n m t) (hr : Room n X.A) (hx : Passes (L2.CX X.prog X.w) X E)
    (ho : PE X o (lift X.K C E pe)) (hm1 : ¬ m = "begins" := by decide) (hm2 : ¬ m = "turns" := by decide) {pl : Sem Bool}
    (ht : eval (.Call (.Attribute o m apos) [] [] pos) X.env = (do
      let ov ← eval o X.env
      standAt apos.atName
      let (f, first) ← holding [ov] (getMethod ov m pl)
      callWith pos f first (backTo pos (starEach [] X.env)) (backToKw pos (keywordEach [] X.env))) := by rfl) :
    PE X (.Call (.Attribute o m apos) [] [] pos) (liftM X.K C E (dMutM j t pe dNil)) := by
  obtain ⟨f, fd, ps, F, hm, hb⟩ := M.ex
  exact pm_mt0 j T F hm hb hr hx ho hm1 hm2 ht
theorem pm_f {p : Pos} {x : Str} {n : Nat} {es : List Expr} {t : DM} {pe : DE} {q : DA} (j : Nat) (F : Fm X.prog X.w X.K X.mg X.base C n x t) (hr : Room n X.A) (hg : Gl X x)
    (hx : Passes (L2.CX X.prog X.w) X E) (he : PE X a (lift X.K C E pe)) (ha : PA X es (liftA X.K C E q)) (hs : starEach (a :: es) X.env = (false, eval a X.env) :: starEach es X.env := by rfl)
    (hdb : (x == ("__debug__" : Str)) = false := by decide) (hpl : (backTo pos (starEach es X.env)).any (·.1) = false := by rfl) :
    PE X (.Call (.Name x p) (a :: es) [] pos) (liftM X.K C E (dMut j t pe q)) := by
  obtain ⟨f, fd, ps, F, hm, hk, hb⟩ := F.ex
  exact pm_fn j F hr hg hm hk hb hx he ha hs hdb hpl
/-- x = o.m(), a list that the method makes; o: the Keeper of slot io, told of in slot j -/
def dSetF (i io j : Nat) (t : DFp) : DS := fun ρ N _ _ => match ρ[io]?, ρ[j]? with
  | some (some (.v (.adr a))), some (some (.kst q b ts)) => a = q ∧ t [.kp b ts] (fun es => (∀ d ∈ es, d.free) ∧ N (ρ.set i (some (.own es))))
  | _, _ => False
theorem sd_setF {i io j n : Nat} {x y m : Str} {t : DFp} {apos cpos np pos' : Pos} (T : Kp X.K X.mg C) (M : Mf X.prog X.w X.K X.mg X.base C n m t) (hr : Room n X.A) (hx' : Passes (L2.CX X.prog X.w) X E) (hN : X.N.Nodup) (hi : X.N[i]? = some x) (hx : Loc X.env.scope x) (hv : PE X (.Name y np) (tVar io))
    (hm1 : ¬ m = "begins" := by decide) (hm2 : ¬ m = "turns" := by decide)
    (hs : swapsWith (.Call (.Attribute (.Name y np) m apos) [] [] cpos) (some (.Name x pos')) pos.line X.env = pure false := by rfl) (hf : X.fn x = true ∨ X.env.scope.names.lookup x = some .local := by first | exact .inl rfl | exact .inr rfl | assumption) {pl : Sem Bool}
    (ht : eval (.Call (.Attribute (.Name y np) m apos) [] [] cpos) X.env = (do
      let ov ← eval (.Name y np) X.env
      standAt apos.atName
      let (f, first) ← holding [ov] (getMethod ov m pl)
      callWith cpos f first (backTo cpos (starEach [] X.env)) (backToKw cpos (keywordEach [] X.env))) := by rfl) :
    PS X (.Assign [.Name x pos'] (.Call (.Attribute (.Name y np) m apos) [] [] cpos) pos) (liftS X.K C E (dSetF i io j t)) := by
  obtain ⟨f, fd, ps, F, hm, hb⟩ := M.ex
  refine (ps_set hN hi hx (pe_meth0 hv T.cl hm F hr hb .nil hx' ht) hs hf).wk fun T' σ H q => ?_
  obtain ⟨B, O0, O, ρ, N, R, Z, k, q, hN, hR, hZ⟩ := q
  unfold dSetF at q
  split at q
  · rename_i a q' b ts hio hj
    obtain ⟨rfl, q⟩ := q
    obtain ⟨hp, hb', dx, l, h1, h2⟩ := k.st.at_ j a b ts hj
    obtain ⟨z, e1, e2⟩ := k.val io _ hio
    have ez : z = V.ref a := e2
    subst ez
    refine ⟨.ref a, e1, a, dx, _, rfl, h1, kf_no b l hm1 hm2, ?_⟩
    refine ⟨less1 O a, [.kp b ts], _, fun x hx => k.al x (less1_sub hx), ⟨.ref a, [], rfl, ⟨a, dx, l, rfl, wo_of h1 less1_ne, wo_sub H (fun x hx => less1_sub hx) _ _ h2⟩, rfl⟩, q, fun y ws es H' s ha hl rr p => ?_⟩
    have h1' := s _ _ h1
    have rr' : RepL X.K C (wo H' (y :: O)) es ws := RepL.over (fun c o e n => wo_of (wo_some e) fun z => by
      by_cases q : c = a
      · subst q
        have := wo_some e
        rw [h1'] at this
        exact n _ _ _ (Option.some.inj this).symm
      · have hn : c ∈ y :: less1 O a := by
          rcases List.mem_cons.mp z with z | z
          · rw [z]; exact List.mem_cons_self
          · exact List.mem_cons_of_mem _ (less1_mem z q)
        unfold wo at e
        rw [if_pos hn] at e
        cases e) es p.1 rr
    exact hN _ H' _ _ (k.setOwn' s ha hl rr') p.2
  · exact q.elim
end
end L2.DL

namespace L2.SK
theorem step_in {b : Bool} {ts : List Int} {lo s : Int} (h : Up ts) (hs : ∀ t ∈ ts, t ≤ lo ∨ s ≤ t) (hl : lo < s) : (isIn b ts lo != decide (s ∈ ts)) = isIn b ts s := by
  have e : isIn b ts (s - 1) = isIn b ts lo := level' (f := isIn b ts) (S := ts) (fun n hn => (mem_turn (b := b) h).mpr hn) (by omega) fun t ht => by
    rcases hs t ht with z | z
    · exact .inl z
    · right; omega
  rw [← e]
  by_cases c : s ∈ ts
  · have := (mem_turn (b := b) h).mp c
    rw [decide_eq_true c]
    cases h1 : isIn b ts s <;> cases h2 : isIn b ts (s - 1) <;> simp_all
  · have : isIn b ts s = isIn b ts (s - 1) := Classical.not_not.mp fun z => c ((mem_turn (b := b) h).mpr z)
    rw [decide_eq_false c, this]
    simp
end L2.SK
namespace L2.DL
open PySem PySem.Spec PyProof.Rows L2.SK
theorem bne_dec (a b : Bool) : (a != b) = !decide (a = b) := by cases a <;> cases b <;> rfl
def idic (ts : List Int) : D := .dic (ts.map .inl) (ts.map fun _ => .bl true)
theorem hasK_int (x : Int) (ts : List Int) : hasK (.inl x) (ts.map .inl) = decide (x ∈ ts) := by
  unfold hasK
  rw [List.any_map]
  induction ts with
  | nil => rfl
  | cons t ts ih =>
    rw [List.any_cons, ih]
    have e : ((Sum.inl t : Key) = Sum.inl x) = (t = x) := by simp
    simp only [Function.comp, e, List.mem_cons]
    by_cases c : x = t
    · simp [c]
    · simp [c, Ne.symm c]
theorem dDict_ints {ts : List Int} {P : D → Prop} (h : ts.Nodup) (q : P (idic ts)) : dDict [.lst (ts.map fun n => .tup [.int n, .bl true])] P := by
  refine ⟨ts.map fun n => (.inl n, .bl true), by rw [List.map_map]; rfl, ?_, ?_⟩
  · rw [List.map_map]
    exact List.Pairwise.map _ (fun a b hab z => hab (Sum.inl.inj z)) h
  · rw [List.map_map, List.map_map]
    exact q
end L2.DL

namespace L2.DL
open PySem PySem.Spec PyProof.Rows L2.SK
def dm_ruled (f : Bool → Bool → Bool) (fr : Addr) : DM := fun b ts ds T _ => ∃ r r2 : KRow, b = r.b ∧ ts = r.ts ∧ ds = [rowD r2, .adr fr] ∧ Few r r2 ∧ T (mergeR f r r2).b (mergeR f r r2).ts .non
def dm_put (f : Bool → Bool → Bool) (bs : Addr) : DM := fun b ts ds T R => ∃ (r : KRow) (d : D), b = r.b ∧ ts = r.ts ∧ ds = [d] ∧ ((∃ (s : Str2) (h : okS s = true), d = sD s ∧ Few r (sRow s h) ∧ T (mergeR f r (sRow s h)).b (mergeR f r (sRow s h)).ts .non) ∨ (okThing d ∧ isStr d = false ∧ R bs b ts))
def _root_.L2.SK.KRow.moved (r : KRow) (k : Int) : KRow := ⟨r.b, r.ts.map (· + k), moved_up r.up k⟩
def _root_.L2.SK.KRow.mirrored (r : KRow) : KRow := ⟨r.b != (r.ts.length % 2 == 1), r.ts.reverse.map fun t => 1 - t, mirror_up r.up⟩
theorem _root_.L2.SK.KRow.moved_has (r : KRow) (k n : Int) : (r.moved k).has n = r.has (n - k) := moved_in r.b r.ts k n
theorem _root_.L2.SK.KRow.mirrored_has (r : KRow) (n : Int) : r.mirrored.has n = r.has (0 - n) := mirror_in r.up
def dm_move (bn : Addr) : DM := fun b ts ds T R => ∃ (r : KRow) (d : D), b = r.b ∧ ts = r.ts ∧ ds = [d] ∧ r.ts.length ≤ 1000000 ∧ ((∃ k, d = .int k ∧ T (r.moved k).b (r.moved k).ts .non) ∨ ((tyD d).isSome = true ∧ isNum d = false ∧ R bn b ts))
def dm_mirror : DM := fun b ts ds T _ => ∃ r : KRow, b = r.b ∧ ts = r.ts ∧ ds = [] ∧ r.ts.length ≤ 1000000 ∧ T r.mirrored.b r.mirrored.ts .non
end L2.DL

namespace L2.DL
open PySem PySem.Spec PyProof.Rows L2.SK
theorem spotsS_one {acc : List Int} {d : Deed} (h : lenD d ≤ 1) : (spotsS acc d).length ≤ acc.length + 2 := by
  have four : ∀ ss : List Str2, ss.length ≤ 1 → (acc ++ ends ss).length ≤ acc.length + 2 := fun ss hs => by
    have l1 : (ss.filterMap (·.1)).length ≤ ss.length := List.length_filterMap_le _ _
    have l2 : (ss.filterMap (·.2)).length ≤ ss.length := List.length_filterMap_le _ _
    unfold ends
    rw [List.length_append, List.length_append, List.length_map]
    omega
  cases d with
  | put ss => exact four ss h
  | take ss => exact four ss h
  | keep ss => exact four ss h
  | turn ss => exact four ss h
  | move k => rw [spotsS, List.length_map]; omega
  | mirror => rw [spotsS, List.length_map]; omega
theorem spots_one : ∀ (rs : List Deed), (∀ d ∈ rs, lenD d ≤ 1) → (spots rs.reverse).length ≤ 2 * rs.length
  | [], _ => Nat.le_refl _
  | d :: rs, h => by
    rw [List.reverse_cons, spots_snoc, List.length_cons]
    have := spotsS_one (acc := spots rs.reverse) (h d List.mem_cons_self)
    have := spots_one rs fun e he => h e (List.mem_cons_of_mem _ he)
    omega
/-- the row stands for the deeds, each of one stretch at most -/
structure Inv1 (r : KRow) (dds : List Deed) : Prop where
  has : ∀ n, r.has n = inD dds n
  one : ∀ d ∈ dds, lenD d ≤ 1
theorem Inv1.len {r : KRow} {dds : List Deed} (h : Inv1 r dds) : (spots dds).length ≤ 2 * dds.length := by
  have := spots_one dds.reverse fun d hd => h.one d (List.mem_reverse.mp hd)
  rwa [List.reverse_reverse, List.length_reverse] at this
theorem Inv1.sub {r : KRow} {dds : List Deed} (h : Inv1 r dds) : ∀ t ∈ r.ts, t ∈ spots dds := fun t ht => by
  have := (mem_turn (b := r.b) r.up).mp ht
  refine inD_spot ?_
  rw [← h.has, ← h.has]
  exact this
theorem Inv1.tlen {r : KRow} {dds : List Deed} (h : Inv1 r dds) (hl : dds.length ≤ 1000) : r.ts.length ≤ 2000 := by
  have := nodup_few (r.up.imp fun a => Int.ne_of_lt a) h.sub
  have := h.len
  omega
theorem Inv1.fit {r : KRow} {dds : List Deed} (h : Inv1 r dds) (hl : dds.length ≤ 1000) : Fit dds := by
  have := h.len
  exact ⟨by omega, fun d hd => Nat.le_trans (h.one d hd) (by decide), by omega, spots dds, fun _ hk => hk, by omega⟩
theorem sRow_has {s : Str2} {h : okS s = true} (n : Int) : (sRow s h).has n = lies s n := turnsS_in h n
theorem Inv1.few {r : KRow} {dds : List Deed} (h : Inv1 r dds) (hl : dds.length ≤ 1000) (s : Str2) (hs : okS s = true) : Few r (sRow s hs) := by
  have := h.len
  have l : (turnsS s).length ≤ 2 := by
    obtain ⟨a, c⟩ := s
    cases a <;> cases c <;> simp [turnsS]
  exact ⟨spots dds ++ turnsS s, fun k hk => List.mem_append.mpr (.inl (h.sub k hk)), fun k hk => List.mem_append.mpr (.inr hk), by rw [List.length_append]; omega⟩
theorem Inv1.nil : Inv1 ⟨false, [], .nil⟩ [] := ⟨fun _ => rfl, fun _ h => nomatch h⟩
theorem Inv1.one' {dds : List Deed} {d : Deed} (h : ∀ d ∈ dds, lenD d ≤ 1) (hd : lenD d ≤ 1) : ∀ e ∈ dds ++ [d], lenD e ≤ 1 := fun e he => by
  rcases List.mem_append.mp he with z | z
  · exact h e z
  · have : e = d := by simpa using z
    rw [this]; exact hd
theorem owns_one (s : Str2) (n : Int) : owns [s] n = lies s n := by simp [owns]
theorem Inv1.put {r : KRow} {dds : List Deed} (h : Inv1 r dds) (s : Str2) (hs : okS s = true) : Inv1 (mergeR f_either r (sRow s hs)) (dds ++ [.put [s]]) := ⟨fun n => by rw [mergeR_has, inD_snoc, sRow_has, h.has]; show _ = (inD dds n || owns [s] n); rw [owns_one]; rfl, Inv1.one' h.one (Nat.le_refl _)⟩
theorem Inv1.take {r : KRow} {dds : List Deed} (h : Inv1 r dds) (s : Str2) (hs : okS s = true) : Inv1 (mergeR f_alone r (sRow s hs)) (dds ++ [.take [s]]) := ⟨fun n => by rw [mergeR_has, inD_snoc, sRow_has, h.has]; show _ = (inD dds n && !owns [s] n); rw [owns_one]; rfl, Inv1.one' h.one (Nat.le_refl _)⟩
theorem Inv1.keep {r : KRow} {dds : List Deed} (h : Inv1 r dds) (s : Str2) (hs : okS s = true) : Inv1 (mergeR f_both r (sRow s hs)) (dds ++ [.keep [s]]) := ⟨fun n => by rw [mergeR_has, inD_snoc, sRow_has, h.has]; show _ = (inD dds n && owns [s] n); rw [owns_one]; rfl, Inv1.one' h.one (Nat.le_refl _)⟩
theorem Inv1.turn {r : KRow} {dds : List Deed} (h : Inv1 r dds) (s : Str2) (hs : okS s = true) : Inv1 (mergeR f_unlike r (sRow s hs)) (dds ++ [.turn [s]]) := ⟨fun n => by rw [mergeR_has, inD_snoc, sRow_has, h.has]; show _ = (inD dds n != owns [s] n); rw [owns_one]; rfl, Inv1.one' h.one (Nat.le_refl _)⟩
theorem Inv1.move {r : KRow} {dds : List Deed} (h : Inv1 r dds) (k : Int) : Inv1 (r.moved k) (dds ++ [.move k]) := ⟨fun n => by rw [KRow.moved_has, inD_snoc, h.has]; rfl, Inv1.one' h.one (Nat.zero_le _)⟩
theorem Inv1.mirror {r : KRow} {dds : List Deed} (h : Inv1 r dds) : Inv1 r.mirrored (dds ++ [.mirror]) := ⟨fun n => by rw [KRow.mirrored_has, inD_snoc, h.has]; rfl, Inv1.one' h.one (Nat.zero_le _)⟩
def dp_law : DP := fun ds P _ => ∃ ns : List Int, ds = [.scr ns] ∧ ns.length ≤ 63 ∧ P (.bl true)
theorem cut_take (ns : List Int) (k : Nat) : cutD (ns.map D.int) none (some (k : Int)) = (ns.take k).map .int := by
  unfold cutD
  rw [HT.sIx_none, HT.sIx_nat, List.length_map, List.drop_zero, Nat.sub_zero, List.map_take, List.take_eq_take_iff, List.length_map]
  omega
theorem enum_map (ns : List Int) : ((ns.map D.int).mapIdx fun i d => D.tup [.int (i : Nat), d]) = (ns.mapIdx fun i n => ((i : Int), n)).map fun p => D.tup [.int p.1, .int p.2] := by
  refine List.ext_getElem? fun i => ?_
  rw [List.getElem?_mapIdx, List.getElem?_map, List.getElem?_map, List.getElem?_mapIdx]
  cases ns[i]? <;> rfl
end L2.DL

namespace L2.DL
open PySem PySem.Spec PyProof.Rows L2.SK
theorem free_oi (o : Option Int) : (oi o).free := by cases o <;> simp [oi, D.free]
theorem free_sD (s : Str2) : (sD s).free := by
  unfold sD
  rw [D.free]
  intro d hd
  simp only [List.mem_cons, List.not_mem_nil, or_false] at hd
  rcases hd with rfl | rfl <;> exact free_oi _
theorem free_sDs (ss : List Str2) : ∀ d ∈ ss.map sD, d.free := fun d hd => by
  obtain ⟨s, _, rfl⟩ := List.mem_map.mp hd
  exact free_sD s
theorem free_ssD (ss : List Str2) : (ssD ss).free := by
  unfold ssD
  rw [D.free]
  exact free_sDs ss
theorem strL_len : ∀ (ts : List Int) (o : Bool) (f : Option Int), (strL o f ts).length ≤ ts.length + 1
  | [], true, _ => Nat.le_refl _
  | [], false, _ => Nat.zero_le _
  | t :: ts, true, f => by
    rw [strL, List.length_cons, List.length_cons]
    have := strL_len ts false (some t)
    omega
  | t :: ts, false, f => by
    rw [strL, List.length_cons]
    have := strL_len ts true (some t)
    omega
theorem strs_len {r : KRow} (h : r.ts.length ≤ 2000) : r.strs.length ≤ 1000000 := by
  have := strL_len r.ts r.b none
  unfold KRow.strs
  omega
end L2.DL
/-! # Deeds done by name -/
namespace L2.SK
open L2.DL
theorem merge_sub {f : Bool → Bool → Bool} {r1 r2 : KRow} {t : Int} (h : t ∈ (mergeR f r1 r2).ts) : t ∈ r1.ts ∨ t ∈ r2.ts := by
  have h1 : t ∈ sset (r1.ts ++ r2.ts) := scan_sub.subset h
  rwa [mem_sset, List.mem_append] at h1
/-- a deed that is done, and what it makes -/
inductive Step : KRow → Deed → KRow → Prop
  | put (r : KRow) (s : Str2) (h : okS s = true) (f : Few r (sRow s h)) : Step r (.put [s]) (mergeR f_either r (sRow s h))
  | take (r : KRow) (s : Str2) (h : okS s = true) (f : Few r (sRow s h)) : Step r (.take [s]) (mergeR f_alone r (sRow s h))
  | keep (r : KRow) (s : Str2) (h : okS s = true) (f : Few r (sRow s h)) : Step r (.keep [s]) (mergeR f_both r (sRow s h))
  | turn (r : KRow) (s : Str2) (h : okS s = true) (f : Few r (sRow s h)) : Step r (.turn [s]) (mergeR f_unlike r (sRow s h))
  | move (r : KRow) (k : Int) (h : r.ts.length ≤ 1000000) : Step r (.move k) (r.moved k)
  | mirror (r : KRow) (h : r.ts.length ≤ 1000000) : Step r .mirror r.mirrored
def Bd (z : Int) : Prop := -(10 ^ 480 + 100) ≤ z ∧ z ≤ 10 ^ 480 + 100
def BdO (o : Option Int) : Prop := ∀ z, o = some z → Bd z
/-- a deed of the laws -/
def okDeed : Deed → Prop
  | .put [s] => okS s = true ∧ BdO s.1 ∧ BdO s.2
  | .take [s] => okS s = true ∧ BdO s.1 ∧ BdO s.2
  | .keep [s] => okS s = true ∧ BdO s.1 ∧ BdO s.2
  | .turn [s] => okS s = true ∧ BdO s.1 ∧ BdO s.2
  | .move k => Bd k
  | .mirror => True
  | _ => False
theorem _root_.L2.DL.Inv1.step {r : KRow} {dds : List Deed} (h : Inv1 r dds) (hl : dds.length ≤ 1000) : ∀ {d : Deed}, okDeed d → ∃ r', Step r d r' ∧ Inv1 r' (dds ++ [d])
  | .put [s], hd => ⟨_, .put r s hd.1 (h.few hl s hd.1), h.put s hd.1⟩
  | .take [s], hd => ⟨_, .take r s hd.1 (h.few hl s hd.1), h.take s hd.1⟩
  | .keep [s], hd => ⟨_, .keep r s hd.1 (h.few hl s hd.1), h.keep s hd.1⟩
  | .turn [s], hd => ⟨_, .turn r s hd.1 (h.few hl s hd.1), h.turn s hd.1⟩
  | .move k, _ => ⟨_, .move r k (by have := h.tlen hl; omega), h.move k⟩
  | .mirror, _ => ⟨_, .mirror r (by have := h.tlen hl; omega), h.mirror⟩
  | .put [], hd => hd.elim
  | .put (_ :: _ :: _), hd => hd.elim
  | .take [], hd => hd.elim
  | .take (_ :: _ :: _), hd => hd.elim
  | .keep [], hd => hd.elim
  | .keep (_ :: _ :: _), hd => hd.elim
  | .turn [], hd => hd.elim
  | .turn (_ :: _ :: _), hd => hd.elim
theorem undo (r : KRow) (k : Int) : ((((r.moved k).mirrored).moved k).mirrored) = r := KRow.ext' fun n => by
  rw [KRow.mirrored_has, KRow.moved_has, KRow.mirrored_has, KRow.moved_has]
  congr 1
  omega
theorem twice (r s : KRow) : mergeR f_unlike (mergeR f_unlike r s) s = r := KRow.ext' fun n => by
  rw [mergeR_has, mergeR_has]
  unfold f_unlike
  cases r.has n <;> cases s.has n <;> rfl
def Runs : List Deed → KRow → KRow → Prop
  | [], r, t => r = t
  | d :: ds, r, t => ∃ r', Step r d r' ∧ Runs ds r' t
end L2.SK
namespace L2.DL
open PySem PySem.Spec PyProof.Rows L2.SK
def dm_done : DM := fun b ts ds T _ => ∃ (r r' : KRow) (d : Deed), b = r.b ∧ ts = r.ts ∧ ds = [dD d] ∧ Step r d r' ∧ T r'.b r'.ts (.bl true)
def dp_deed : DP := fun ds P _ => ∃ c k, ds = [.int c, .int k] ∧ ∀ d, okDeed d → P (dD d)
theorem sq_put_take : decide (("put" : Str) = "take") = false := by decide +kernel
theorem sq_put_keep : decide (("put" : Str) = "keep") = false := by decide +kernel
theorem sq_put_turn : decide (("put" : Str) = "turn") = false := by decide +kernel
theorem sq_put_move : decide (("put" : Str) = "move") = false := by decide +kernel
theorem sq_put_mirror : decide (("put" : Str) = "mirror") = false := by decide +kernel
theorem sq_take_put : decide (("take" : Str) = "put") = false := by decide +kernel
theorem sq_take_keep : decide (("take" : Str) = "keep") = false := by decide +kernel
theorem sq_take_turn : decide (("take" : Str) = "turn") = false := by decide +kernel
theorem sq_take_move : decide (("take" : Str) = "move") = false := by decide +kernel
theorem sq_take_mirror : decide (("take" : Str) = "mirror") = false := by decide +kernel
theorem sq_keep_put : decide (("keep" : Str) = "put") = false := by decide +kernel
theorem sq_keep_take : decide (("keep" : Str) = "take") = false := by decide +kernel
theorem sq_keep_turn : decide (("keep" : Str) = "turn") = false := by decide +kernel
theorem sq_keep_move : decide (("keep" : Str) = "move") = false := by decide +kernel
theorem sq_keep_mirror : decide (("keep" : Str) = "mirror") = false := by decide +kernel
theorem sq_turn_put : decide (("turn" : Str) = "put") = false := by decide +kernel
theorem sq_turn_take : decide (("turn" : Str) = "take") = false := by decide +kernel
theorem sq_turn_keep : decide (("turn" : Str) = "keep") = false := by decide +kernel
theorem sq_turn_move : decide (("turn" : Str) = "move") = false := by decide +kernel
theorem sq_turn_mirror : decide (("turn" : Str) = "mirror") = false := by decide +kernel
theorem sq_move_put : decide (("move" : Str) = "put") = false := by decide +kernel
theorem sq_move_take : decide (("move" : Str) = "take") = false := by decide +kernel
theorem sq_move_keep : decide (("move" : Str) = "keep") = false := by decide +kernel
theorem sq_move_turn : decide (("move" : Str) = "turn") = false := by decide +kernel
theorem sq_move_mirror : decide (("move" : Str) = "mirror") = false := by decide +kernel
theorem sq_mirror_put : decide (("mirror" : Str) = "put") = false := by decide +kernel
theorem sq_mirror_take : decide (("mirror" : Str) = "take") = false := by decide +kernel
theorem sq_mirror_keep : decide (("mirror" : Str) = "keep") = false := by decide +kernel
theorem sq_mirror_turn : decide (("mirror" : Str) = "turn") = false := by decide +kernel
theorem sq_mirror_move : decide (("mirror" : Str) = "move") = false := by decide +kernel
end L2.DL
/-! # Slices by a step of 1 or -1; comprehensions whose items are told by what they keep -/
namespace L2.DL
open PySem PySem.Spec PyProof.Rows L2.SK
theorem pick_one (items : Array Value) : slicePick items none none (some 1) = items := by
  unfold slicePick
  show ((sliceRange 0 (items.size : Int) 1).filterMap (items[·]?)).toArray = _
  have e : sliceRange 0 (items.size : Int) 1 = List.range items.size := by
    unfold sliceRange
    by_cases h : (0 : Int) < items.size
    · simp only [show (1 : Int) > 0 by decide, if_true, h]
      rw [show ((items.size : Int) - 0 + 1 - 1) / 1 = (items.size : Int) by rw [Int.ediv_one]; omega, Int.toNat_natCast]
      conv => rhs; rw [← List.map_id (List.range items.size)]
      apply List.map_congr_left
      intro k _
      show (0 + 1 * (k : Int)).toNat = k
      omega
    · have e : items.size = 0 := by omega
      simp [e]
  rw [e, PySem.W.krv_all]
def tStepL (K : PySem.W.Frag) (te ts : TE) : TE := fun σ H Q => te σ H fun x H1 => ts σ H1 fun k H2 => ∃ a xs, x = .ref a ∧ SqL K H2 a xs ∧ ((k = .int 1 ∧ ∀ p, H2 p = none → Q (.ref p) (upd H2 p (.lst xs))) ∨ (k = .int (-1) ∧ ∀ p, H2 p = none → Q (.ref p) (upd H2 p (.lst xs.reverse))))
section
variable {X : Cx} {C : Addr} {E : XK} {pos : Pos}
theorem pe_stepL {e st : Expr} {te ts : TE} {p3 : Pos} (he : PE X e te) (hs : PE X st ts) (htl : ∀ (v p : Value), ∃ ops, subscripted (.Slice none none (some st) p3) false v p = operate ops (getItem v p) := by exact fun _ _ => ⟨_, by with_unfolding_all rfl⟩) : PE X (.Subscript e (.Slice none none (some st) p3) pos) (tStepL X.K te ts) := by
  refine ⟨fun pins s σ H Q I h => ?_⟩
  refine Subscript_ (thn (he.run pins s σ H _ I h) fun v s1 ⟨x, H1, I1, r1, q1⟩ => ?_)
  have hst : PO X (some st) (tPart ts) := po_some hs
  refine wpAny_Slice (thn (po_none.run pins s1 σ H1 (fun o H2 => o = none ∧ H2 = H1) I1 ⟨rfl, rfl⟩) fun vl s2 ⟨l, H2, I2, pl, el, e2⟩ => ?_)
  subst el e2
  refine thn (po_none.run pins s2 σ H2 (fun o H3 => o = none ∧ H3 = H2) I2 ⟨rfl, rfl⟩) fun vu s3 ⟨u, H3, I3, pu, eu, e3⟩ => ?_
  subst eu e3
  -- the step is known only behind it: what is asked of it is put into the reading
  have hst2 : PO X (some st) (fun σ H Q => ts σ H fun x H1 => ∃ i, x = .int i ∧ Q (some i) H1) := hst
  have go : wpAny (model X.prog X.w) X.A (evalPart (some st) X.env) (fun v s' => ∃ o H', Inv X pins σ H' s' ∧ IsPart v o ∧ ∃ a xs, x = V.ref a ∧ SqL X.K H' a xs ∧
      ((o = some 1 ∧ ∀ p, H' p = none → Q (V.ref p) (upd H' p (.lst xs))) ∨ (o = some (-1) ∧ ∀ p, H' p = none → Q (V.ref p) (upd H' p (.lst xs.reverse))))) X.xe s3 := by
    rw [evalPart_some]
    refine thn (hs.run pins s3 σ H3 _ I3 q1) fun u s4 ⟨k, H4, I4, r4, a, xs, ex, hx, q⟩ => ?_
    rcases q with ⟨rfl, q⟩ | ⟨rfl, q⟩
    · obtain ⟨t, rfl⟩ := r4
      exact ⟨some 1, H4, I4, .int 1 t, a, xs, ex, hx, .inl ⟨rfl, q⟩⟩
    · obtain ⟨t, rfl⟩ := r4
      exact ⟨some (-1), H4, I4, .int (-1) t, a, xs, ex, hx, .inr ⟨rfl, q⟩⟩
  refine thn go fun vs s4 ⟨o, H4, I4, ps, a, xs, ex, hx, q⟩ => ?_
  subst ex
  cases r1
  have I5 : Inv X pins σ H4 { s4 with heap := s4.heap.push { cls := .type "slice", data := .fields #[vl, vu, vs] } } := I4.kept (t' := s4.toks) fun b ob q => Heap.get?_push_of_some _ q
  obtain ⟨its, r, ht, hz⟩ := I5.list hx
  have hlen := r.length
  show wpAny (model X.prog X.w) X.A (subscriptTail e (.Slice none none (some st) p3) (.ref a) (.ref s4.heap.objs.size)) (EP X pins σ Q) X.xe { s4 with heap := s4.heap.push { cls := .type "slice", data := .fields #[vl, vu, vs] } }
  obtain ⟨ops, hops⟩ := htl (.ref a) (.ref s4.heap.objs.size)
  refine tail_any (ops := ops) ht.isList.typeIs (PySem.slot_list_getitem.lookup) ?_ hops
  rcases q with ⟨rfl, q⟩ | ⟨rfl, q⟩
  · refine wpAny_getItem_list_slice ht.isList (Heap.IsSliceOf.new _ vl vu vs) pl pu ps (by decide) ?_ (by rw [List.size_toArray]; omega)
    rw [pick_one]
    refine ⟨.ref _, _, I5.laid (t' := s4.toks) (o := .lst xs) (fun b ob q => Heap.get?_push_of_some _ q) (Nat.le_refl _) ?_, rfl, q _ (I5.hok.fresh (Nat.le_refl _))⟩
    exact ⟨hz, _, 0, r, Heap.get?_push_size _ rfl⟩
  · refine wpAny_getItem_list_slice ht.isList (Heap.IsSliceOf.new _ vl vu vs) pl pu ps (by decide) ?_ (by rw [List.size_toArray]; omega)
    rw [PySem.W.krv_pick]
    refine ⟨.ref _, _, I5.laid (t' := s4.toks) (o := .lst xs.reverse) (fun b ob q => Heap.get?_push_of_some _ q) (Nat.le_refl _) ?_, rfl, q _ (I5.hok.fresh (Nat.le_refl _))⟩
    exact ⟨by rw [List.length_reverse]; exact hz, _, 0, r.reverse, Heap.get?_push_size _ rfl⟩
/-- xs[::k], k 1 or -1 -/
def dStep (p s : DE) : DE := fun ρ P R => p ρ (fun d => s ρ (fun k => match d, k with
  | .lst ds, .int i => (i = 1 ∧ P (.lst ds)) ∨ (i = -1 ∧ P (.lst ds.reverse))
  | _, _ => False) R) R
theorem pd_step {e st : Expr} {p s : DE} {p3 : Pos} (he : PE X e (lift X.K C E p)) (hs : PE X st (lift X.K C E s)) (htl : ∀ (v p : Value), ∃ ops, subscripted (.Slice none none (some st) p3) false v p = operate ops (getItem v p) := by exact fun _ _ => ⟨_, by with_unfolding_all rfl⟩) :
    PE X (.Subscript e (.Slice none none (some st) p3) pos) (lift X.K C E (dStep p s)) := (pe_stepL he hs htl).wk fun σ H Q q => by
  obtain ⟨B, O0, O, ρ, P, R, k, q, hP, hR⟩ := q
  refine ⟨B, O0, O, ρ, _, R, k, q, fun x d H1 s1 r1 q1 => ⟨B, O0, O, ρ, _, R, k.ext s1, q1, fun y e2 H2 s2 r2 q2 => ?_, fun c H' s' z => hR c H' (s1.trans s') z⟩, hR⟩
  have s12 := s1.trans s2
  have r1' := Rep.mono (wo_same O s2) d r1
  split at q2
  · obtain ⟨a, vs, rfl, e1, e3⟩ := r1'
    refine ⟨a, vs, rfl, SqL.of (wo_some e1), ?_⟩
    rcases q2 with ⟨rfl, q2⟩ | ⟨rfl, q2⟩
    · exact .inl ⟨r2, fun p hp => hP _ _ _ (s12.trans (Same.new hp)) (rep_new_lst hp (k.al.mono s12) e3) q2⟩
    · exact .inr ⟨r2, fun p hp => hP _ _ _ (s12.trans (Same.new hp)) (rep_new_lst hp (k.al.mono s12) e3.reverse) q2⟩
  · exact q2.elim
end
/-- items told by what they keep -/
theorem lcD_rel {α β : Type} {g : DG} {t : DT} {p : DE} {ρ : Env} {enc : α → D} {ey : β → D} {R : α → β → Prop} : ∀ (xs : List α) {acc : List D} {P : List D → Prop},
    (∀ x ∈ xs, ∀ (k1 : D → Prop) (k2 : Prop), (∀ y, R x y → k1 (ey y)) → g (enc x) ρ (fun ρ2 => t ρ2 (fun b => if b = true then p ρ2 k1 (fun _ => False) else k2) (fun _ => False))) →
    (∀ ys : List β, ys.length = xs.length → (∀ y ∈ ys, ∃ x ∈ xs, R x y) → P (acc ++ ys.map ey)) → lcD g t p ρ P (xs.map enc) acc
  | [], acc, P, _, h => by
    have := h [] rfl (fun _ h => nomatch h)
    rw [List.map_nil, List.append_nil] at this
    exact this
  | x :: xs, acc, P, hs, h => by
    refine hs x List.mem_cons_self _ _ fun y hy => ?_
    exact lcD_rel xs (fun z hz => hs z (List.mem_cons_of_mem _ hz)) fun ys hl hR => by
      have := h (y :: ys) (by rw [List.length_cons, List.length_cons, hl]) fun z hz => by
        rcases List.mem_cons.mp hz with rfl | hz
        · exact ⟨x, List.mem_cons_self, hy⟩
        · obtain ⟨x', h1, h2⟩ := hR z hz
          exact ⟨x', List.mem_cons_of_mem _ h1, h2⟩
      rw [List.append_assoc]
      exact this
end L2.DL
/-! # Questions: promises and their plain laws -/
namespace L2.SK
open L2.DL
theorem ahead_filterMap (ts : List Int) (n : Int) : ((ts.filterMap fun t => if t ≤ n then some (D.int t) else none).length : Int) = (ahead ts n : Nat) := by
  unfold ahead
  induction ts with
  | nil => rfl
  | cons t ts ih =>
    by_cases c : t ≤ n
    · rw [List.filterMap_cons_some (b := D.int t) (by rw [if_pos c]), List.filter_cons, if_pos (by simpa using c), List.length_cons, List.length_cons]
      omega
    · rw [List.filterMap_cons_none (by rw [if_neg c]), List.filter_cons, if_neg (by simpa using c)]
      exact ih
theorem has_ahead (r : KRow) (n : Int) : r.has n = !decide (r.b = decide (((ahead r.ts n : Nat) : Int) % 2 = 1)) := by
  show isIn r.b r.ts n = _
  rw [isIn_ahead r.up, bne_dec]
  congr 2
  rcases Nat.mod_two_eq_zero_or_one (ahead r.ts n) with h | h
  · have : ¬ ((ahead r.ts n : Nat) : Int) % 2 = 1 := by omega
    rw [h, decide_eq_false this]
    rfl
  · have : ((ahead r.ts n : Nat) : Int) % 2 = 1 := by omega
    rw [h, decide_eq_true this]
    rfl
theorem strL_owns (n : Int) : ∀ (ts : List Int) (o : Bool) (f : Option Int), Up ts → (∀ a, f = some a → ∀ t ∈ ts, a < t) → owns (strL o f ts) n = (match f with | none => isIn o ts n | some a => if n < a then false else isIn o ts n)
  | [], true, none, _, _ => by simp [strL, owns, lies, isIn]
  | [], true, some a, _, _ => by
    by_cases c : n < a
    · simp [strL, owns, lies, isIn, c]
    · simp [strL, owns, lies, isIn, c, Int.not_lt.mp c]
  | [], false, none, _, _ => rfl
  | [], false, some a, _, _ => by simp [strL, owns, isIn]
  | t :: ts, true, f, h, hf => by
    have h' := List.pairwise_cons.mp h
    have ih := strL_owns n ts false (some t) h'.2 (fun a e => by cases e; exact h'.1)
    have e1 : owns (strL true f (t :: ts)) n = (lies (f, some (t - 1)) n || owns (strL false (some t) ts) n) := rfl
    rw [e1, ih]
    by_cases c : n < t
    · have c2 : ¬ t ≤ n := by omega
      have c3 : n ≤ t - 1 := by omega
      cases f with
      | none => simp [lies, isIn, c, c2, c3]
      | some a => by_cases d : n < a <;> simp [lies, isIn, c, c2, c3, d] <;> omega
    · have c2 : t ≤ n := by omega
      have c3 : ¬ n ≤ t - 1 := by omega
      cases f with
      | none => simp [lies, isIn, c, c2, c3]
      | some a =>
        have := hf a rfl t List.mem_cons_self
        have d : ¬ n < a := by omega
        simp [lies, isIn, c, c2, c3, d]
  | t :: ts, false, f, h, hf => by
    have h' := List.pairwise_cons.mp h
    have ih := strL_owns n ts true (some t) h'.2 (fun a e => by cases e; exact h'.1)
    have e1 : owns (strL false f (t :: ts)) n = owns (strL true (some t) ts) n := rfl
    rw [e1, ih]
    by_cases c : n < t
    · have c2 : ¬ t ≤ n := by omega
      cases f with
      | none => simp [isIn, c, c2]
      | some a => by_cases d : n < a <;> simp [isIn, c, c2, d]
    · have c2 : t ≤ n := by omega
      cases f with
      | none => simp [isIn, c, c2]
      | some a =>
        have := hf a rfl t List.mem_cons_self
        have d : ¬ n < a := by omega
        simp [isIn, c, c2, d]
theorem owns_strs (r : KRow) (n : Int) : owns r.strs n = r.has n := strL_owns n r.ts r.b none r.up (fun a e => by cases e)
def hasNone (ss : List Str2) : Bool := ss.any fun s => s.1.isNone || s.2.isNone
theorem strL_none : ∀ (ts : List Int) (o : Bool) (f : Option Int), hasNone (strL o f ts) = if o = true then (f.isNone || (ts.length % 2 == 0)) else (ts.length % 2 == 1)
  | [], true, f => by simp [strL, hasNone]
  | [], false, f => rfl
  | t :: ts, true, f => by
    have ih := strL_none ts false (some t)
    show (((f.isNone || (some (t - 1)).isNone) || hasNone (strL false (some t) ts)) : Bool) = _
    rw [ih, List.length_cons]
    rcases Nat.mod_two_eq_zero_or_one ts.length with h | h
    · have : (ts.length + 1) % 2 = 1 := by omega
      simp [h, this]
    · have : (ts.length + 1) % 2 = 0 := by omega
      simp [h, this]
  | t :: ts, false, f => by
    have ih := strL_none ts true (some t)
    show hasNone (strL true (some t) ts) = _
    rw [ih, List.length_cons]
    rcases Nat.mod_two_eq_zero_or_one ts.length with h | h
    · have : (ts.length + 1) % 2 = 1 := by omega
      simp [h, this]
    · have : (ts.length + 1) % 2 = 0 := by omega
      simp [h, this]
theorem strs_none (r : KRow) : hasNone r.strs = (r.b || (r.ts.length % 2 == 1)) := by
  unfold KRow.strs
  rw [strL_none]
  cases r.b <;> rfl
def sizes (ss : List Str2) : List Int := ss.filterMap fun s => match s with
  | (some a, some c) => some (c - a + 1)
  | _ => none
def sizeD (s : Str2) : Option D := match s with
  | (some a, some c) => some (D.int (c - a + 1))
  | _ => none
theorem sizes_map {ss : List Str2} : ss.filterMap sizeD = (sizes ss).map D.int := by
  unfold sizes
  rw [List.map_filterMap]
  congr 1
  funext s
  obtain ⟨a, c⟩ := s
  cases a <;> cases c <;> rfl
theorem none_ends {ss : List Str2} (h : hasNone ss = false) : ∀ s ∈ ss, ∃ a c, s = (some a, some c) := fun s hs => by
  have := List.any_eq_false.mp h s hs
  obtain ⟨a, c⟩ := s
  cases a <;> cases c <;> simp at this
  exact ⟨_, _, rfl⟩
/-- how many are in some stretches, where there is an end -/
def manyL (ss : List Str2) : Option Int := if hasNone ss = true then none else some (sizes ss).sum
/-- how many of some stretches lie below a number, where there is an end -/
def belowF (n : Int) : Int → List Str2 → Option Int
  | acc, [] => some acc
  | _, (none, _) :: _ => none
  | acc, (some a, c) :: ss => belowF n (acc + max 0 ((match c with | none => n | some c => min n (c + 1)) - a)) ss
theorem filterMap_if {α : Type} (p : α → Bool) (f : α → D) : ∀ xs : List α, (xs.filterMap fun x => if p x = true then some (f x) else none) = (xs.filter p).map f
  | [] => rfl
  | x :: xs => by
    by_cases h : p x = true
    · rw [List.filterMap_cons_some (b := f x) (by rw [if_pos h]), List.filter_cons, if_pos h, List.map_cons, filterMap_if p f xs]
    · rw [List.filterMap_cons_none (by rw [if_neg h]), List.filter_cons, if_neg h, filterMap_if p f xs]
theorem strL_first : ∀ (ts : List Int) (o : Bool) (f : Option Int), (o = true → f ≠ none) → ∀ s ∈ strL o f ts, s.1 ≠ none
  | [], true, f, h, s, hs => by
    have : s = (f, none) := by simpa [strL] using hs
    rw [this]; exact h rfl
  | [], false, f, _, s, hs => by cases hs
  | t :: ts, true, f, h, s, hs => by
    rcases List.mem_cons.mp hs with rfl | hs
    · exact h rfl
    · exact strL_first ts false (some t) (fun z => by cases z) s hs
  | t :: ts, false, f, _, s, hs => strL_first ts true (some t) (fun _ => by simp) s hs
theorem strs_first {r : KRow} (h : r.b = false) : ∀ s ∈ r.strs, s.1 ≠ none := strL_first r.ts r.b none (fun z => by rw [h] at z; cases z)
theorem below_begins {r : KRow} (n : Int) (h : r.b = true) : belowF n 0 r.strs = none := by
  unfold KRow.strs
  rw [h]
  cases r.ts <;> rfl
end L2.SK
namespace L2.DL
open PySem PySem.Spec PyProof.Rows L2.SK
def dp_ahead : DP := fun ds P _ => ∃ (r : KRow) (n : Int), ds = [kpD r, .int n] ∧ r.ts.length ≤ 1000000 ∧ P (.int (ahead r.ts n : Nat))
def dp_isin : DP := fun ds P _ => ∃ (r : KRow) (n : Int), ds = [kpD r, .int n] ∧ r.ts.length ≤ 1000000 ∧ P (.bl (r.has n))
def dp_has (bn : Addr) : DP := fun ds P R => ∃ (r : KRow) (d : D), ds = [kpD r, d] ∧ r.ts.length ≤ 1000000 ∧ (tyD d).isSome = true ∧ (∀ n, d = .int n → P (.bl (r.has n))) ∧ (isNum d = false → R bn)
def dp_many : DP := fun ds P _ => ∃ r : KRow, ds = [kpD r] ∧ r.ts.length ≤ 1000000 ∧ P (oi (manyL r.strs))
def dp_below (bn : Addr) : DP := fun ds P R => ∃ (r : KRow) (d : D), ds = [kpD r, d] ∧ r.ts.length ≤ 1000000 ∧ (tyD d).isSome = true ∧ (∀ n, d = .int n → P (oi (belowF n 0 r.strs))) ∧ (isNum d = false → R bn)
def dp_lbelow : DP := fun ds P _ => ∃ (ss : List Str2) (n : Int), ds = [ssD ss, .int n] ∧ P (oi (belowF n 0 ss))
def dp_lmany : DP := fun ds P _ => ∃ ss : List Str2, ds = [ssD ss] ∧ ss.length ≤ 1000000 ∧ P (oi (manyL ss))
def dp_probes : DP := fun ds P _ => ∃ (ss : List Str2) (ns : List Int), ds = [ssD ss, .scr ns] ∧ ss.length ≤ 100000 ∧ ∀ zs : List Int, zs.length ≤ 1000000 → P (insD zs)
def dp_made : DP := fun ds P _ => ∃ dds : List Deed, ds = [dsD dds] ∧ dds.length ≤ 1000 ∧ (∀ d ∈ dds, okDeed d) ∧ ∀ r : KRow, Inv1 r dds → P (kpD r)
def dp_keeper : DP := fun ds P _ => ∃ (ns : List Int) (m : Nat), ds = [.scr ns, .int m] ∧ m ≤ 1000 ∧ ∀ (r : KRow) (dds : List Deed), Inv1 r dds → (∀ d ∈ dds, okDeed d) → dds.length ≤ m → P (.tup [kpD r, ssD r.strs])
end L2.DL
/-! # The next ones, and places: promises and their plain laws -/
namespace L2.SK
open L2.DL
theorem ahead_cons_le {t : Int} {ts : List Int} {n : Int} (h : t ≤ n) : ahead (t :: ts) n = ahead ts n + 1 := by
  unfold ahead
  rw [List.filter_cons, if_pos (by simpa using h)]
  rfl
theorem ahead_drop : ∀ {ts : List Int} {n : Int}, Up ts → ts.drop (ahead ts n) = ts.filter fun t => decide (n < t)
  | [], _, _ => rfl
  | t :: ts, n, h => by
    have h' := List.pairwise_cons.mp h
    by_cases c : t ≤ n
    · rw [ahead_cons_le c, List.drop_succ_cons, ahead_drop h'.2, List.filter_cons, if_neg (by simp; omega)]
    · have e : ahead (t :: ts) n = 0 := ahead_none fun u hu => by
        rcases List.mem_cons.mp hu with rfl | hu
        · omega
        · have := h'.1 u hu; omega
      rw [e, List.drop_zero]
      exact (List.filter_eq_self.mpr fun u hu => by
        rcases List.mem_cons.mp hu with rfl | hu
        · simp; omega
        · have := h'.1 u hu; simp; omega).symm
theorem ahead_take : ∀ {ts : List Int} {n : Int}, Up ts → ts.take (ahead ts n) = ts.filter fun t => decide (t ≤ n)
  | [], _, _ => rfl
  | t :: ts, n, h => by
    have h' := List.pairwise_cons.mp h
    by_cases c : t ≤ n
    · rw [ahead_cons_le c, List.take_succ_cons, ahead_take h'.2, List.filter_cons, if_pos (by simpa using c)]
    · have e : ahead (t :: ts) n = 0 := ahead_none fun u hu => by
        rcases List.mem_cons.mp hu with rfl | hu
        · omega
        · have := h'.1 u hu; omega
      rw [e, List.take_zero]
      exact (List.filter_eq_nil_iff.mpr fun u hu => by
        rcases List.mem_cons.mp hu with rfl | hu
        · simp; omega
        · have := h'.1 u hu; simp; omega).symm
/-- the first turn beyond a number; the last one up to it -/
def upT (ts : List Int) (n : Int) : Option Int := (ts.filter fun t => decide (n < t)).head?
def dnT (ts : List Int) (n : Int) : Option Int := (ts.filter fun t => decide (t ≤ n)).getLast?
def upD (r : KRow) (n : Int) (w : Bool) : Option Int := if r.has n = w then some n else upT r.ts n
def downD (r : KRow) (n : Int) (w : Bool) : Option Int := if r.has n = w then some n else (dnT r.ts n).map (· - 1)
theorem ahead_len (ts : List Int) (n : Int) : ahead ts n ≤ ts.length := List.length_filter_le _ _
theorem dnT_at {ts : List Int} {n : Int} (h : Up ts) (hp : 0 < ahead ts n) : ∃ t, ts[ahead ts n - 1]? = some t ∧ dnT ts n = some t := by
  have hl := ahead_len ts n
  have hlt : ahead ts n - 1 < ts.length := by omega
  refine ⟨ts[ahead ts n - 1], List.getElem?_eq_getElem hlt, ?_⟩
  unfold dnT
  rw [← ahead_take h, List.getLast?_eq_getElem?, List.length_take, Nat.min_eq_left hl, List.getElem?_take, if_pos (by omega)]
  exact List.getElem?_eq_getElem hlt
theorem dnT_none {ts : List Int} {n : Int} (hp : ahead ts n = 0) : dnT ts n = none := by
  unfold dnT
  rw [List.eq_nil_of_length_eq_zero (l := ts.filter fun t => decide (t ≤ n)) hp]
  rfl
end L2.SK
namespace L2.DL
open PySem PySem.Spec PyProof.Rows L2.SK
theorem cut_drop (ns : List Int) (k : Nat) (h : k ≤ ns.length) : cutD (ns.map D.int) (some (k : Int)) none = (ns.drop k).map .int := by
  unfold cutD
  rw [HT.sIx_none, HT.sIx_nat, List.length_map, Nat.min_eq_left h, List.take_of_length_le (by rw [List.length_drop, List.length_map]; exact Nat.le_refl _), List.map_drop]
theorem plains_ints : ∀ bs : List Int, plains (bs.map .int) = true ∧ deps (bs.map .int) = 0
  | [] => ⟨rfl, rfl⟩
  | b :: bs => by
    obtain ⟨h1, h2⟩ := plains_ints bs
    rw [List.map_cons, plains, deps, h1, h2]
    exact ⟨rfl, rfl⟩
theorem okE_ints (bs : List Int) : okE (.lst (bs.map .int)) := by
  obtain ⟨h1, h2⟩ := plains_ints bs
  exact okE_plain (by rw [plain]; exact h1) (by rw [dep, h2]; omega)
theorem eqD_nil (bs : List Int) : eqD (.lst (bs.map .int)) (.lst []) = decide (bs = []) := by
  cases bs with
  | nil => decide +kernel
  | cons b bs => rfl
theorem okE_nil : okE (.lst []) := okE_plain rfl (by show 1 ≤ 64; decide)
theorem atI_nat {α : Type} {xs : List α} {i : Nat} {d : α} (h : xs[i]? = some d) : atI xs (i : Int) = some d := by
  have hl : i < xs.length := (List.getElem?_eq_some_iff.mp h).1
  unfold atI ixN
  rw [if_pos (by omega), if_pos (by omega)]
  exact h
def dp_going (f : KRow → Int → Bool → Option Int) : DP := fun ds P _ => ∃ (r : KRow) (n : Int) (w : Bool), ds = [kpD r, .int n, .bl w] ∧ r.ts.length ≤ 1000000 ∧ P (oi (f r n w))
def dp_next (f : KRow → Int → Bool → Option Int) (w : Bool) (bn : Addr) : DP := fun ds P R => ∃ (r : KRow) (d : D), ds = [kpD r, d] ∧ r.ts.length ≤ 1000000 ∧ (tyD d).isSome = true ∧ (∀ n, d = .int n → P (oi (f r n w))) ∧ (isNum d = false → R bn)
end L2.DL
namespace L2.SK
open L2.DL
theorem upT_some {ts : List Int} {n t : Int} (h : Up ts) (e : upT ts n = some t) : t ∈ ts ∧ n < t ∧ ∀ u ∈ ts, u ≤ n ∨ t ≤ u := by
  unfold upT at e
  cases f : ts.filter fun t => decide (n < t) with
  | nil => rw [f] at e; cases e
  | cons a l =>
    rw [f] at e
    have ea : a = t := Option.some.inj e
    subst ea
    have hm : a ∈ ts.filter fun t => decide (n < t) := by rw [f]; exact List.mem_cons_self
    have hm' := List.mem_filter.mp hm
    refine ⟨hm'.1, of_decide_eq_true hm'.2, fun u hu => ?_⟩
    by_cases c : u ≤ n
    · exact .inl c
    · right
      have hu' : u ∈ a :: l := by rw [← f]; exact List.mem_filter.mpr ⟨hu, decide_eq_true (by omega)⟩
      have hs : Up (a :: l) := by rw [← f]; exact h.sublist List.filter_sublist
      rcases List.mem_cons.mp hu' with rfl | hu'
      · exact Int.le_refl _
      · have := (List.pairwise_cons.mp hs).1 u hu'; omega
theorem upT_no {ts : List Int} {n : Int} (e : upT ts n = none) : ∀ u ∈ ts, u ≤ n := fun u hu => by
  unfold upT at e
  have := List.filter_eq_nil_iff.mp (List.head?_eq_none_iff.mp e) u hu
  simpa using this
theorem dnT_some {ts : List Int} {n t : Int} (h : Up ts) (e : dnT ts n = some t) : t ∈ ts ∧ t ≤ n ∧ ∀ u ∈ ts, n < u ∨ u ≤ t := by
  unfold dnT at e
  have hs : Up (ts.filter fun t => decide (t ≤ n)) := h.sublist List.filter_sublist
  obtain ⟨l, f⟩ := List.getLast?_eq_some_iff.mp e
  have hm : t ∈ ts.filter fun t => decide (t ≤ n) := by rw [f]; simp
  have hm' := List.mem_filter.mp hm
  refine ⟨hm'.1, of_decide_eq_true hm'.2, fun u hu => ?_⟩
  by_cases c : n < u
  · exact .inl c
  · right
    have hu' : u ∈ l ++ [t] := by rw [← f]; exact List.mem_filter.mpr ⟨hu, decide_eq_true (by omega)⟩
    rw [f] at hs
    rcases List.mem_append.mp hu' with z | z
    · have := (List.pairwise_append.mp hs).2.2 u z t (by simp); omega
    · have : u = t := by simpa using z
      omega
theorem dnT_no {ts : List Int} {n : Int} (e : dnT ts n = none) : ∀ u ∈ ts, n < u := fun u hu => by
  unfold dnT at e
  have := List.filter_eq_nil_iff.mp (List.getLast?_eq_none_iff.mp e) u hu
  simpa using this
theorem has_turn {r : KRow} {t : Int} (h : t ∈ r.ts) : r.has t ≠ r.has (t - 1) := (mem_turn (b := r.b) r.up).mp h
theorem has_level {r : KRow} {a n : Int} (h : a ≤ n) (hs : ∀ t ∈ r.ts, t ≤ a ∨ n < t) : r.has n = r.has a := level' (f := r.has) (S := r.ts) (fun n hn => (mem_turn (b := r.b) r.up).mpr hn) h hs
theorem up_before {r : KRow} {n t : Int} (e : upT r.ts n = some t) : r.has (t - 1) = r.has n := by
  obtain ⟨h1, h2, h3⟩ := upT_some r.up e
  exact has_level (by omega) fun u hu => by rcases h3 u hu with z | z; exact .inl z; right; omega
theorem dn_at {r : KRow} {n t : Int} (e : dnT r.ts n = some t) : r.has t = r.has n := by
  obtain ⟨h1, h2, h3⟩ := dnT_some r.up e
  exact (has_level h2 fun u hu => by rcases h3 u hu with z | z; right; exact z; exact .inl z).symm
/-- the stretch that a number lies in, by the turns about it -/
def about (r : KRow) (n : Int) : Str2 := (dnT r.ts n, (upT r.ts n).map (· - 1))
theorem upT_cons_le {t : Int} {ts : List Int} {n : Int} (h : t ≤ n) : upT (t :: ts) n = upT ts n := by
  unfold upT
  rw [List.filter_cons, if_neg (by simp; omega)]
theorem dnT_cons_le {t : Int} {ts : List Int} {n : Int} (h : t ≤ n) : dnT (t :: ts) n = (dnT ts n).or (some t) := by
  unfold dnT
  rw [List.filter_cons, if_pos (by simpa using h), List.getLast?_cons]
  cases (ts.filter fun t => decide (t ≤ n)).getLast? <;> rfl
theorem strL_about (n : Int) : ∀ (ts : List Int) (o : Bool) (f : Option Int), Up ts → isIn o ts n = true → (((dnT ts n).or f, (upT ts n).map (· - 1)) : Str2) ∈ strL o f ts
  | [], true, f, _, _ => List.mem_cons_self
  | [], false, f, _, h => by cases h
  | t :: ts, o, f, h, hi => by
    have h' := List.pairwise_cons.mp h
    unfold isIn at hi
    by_cases c : t ≤ n
    · rw [if_pos c] at hi
      have ih := strL_about n ts (!o) (some t) h'.2 hi
      rw [upT_cons_le c, dnT_cons_le c, Option.or_assoc]
      have e : (some t).or f = some t := rfl
      rw [e]
      cases o with
      | true => exact List.mem_cons_of_mem _ ih
      | false => exact ih
    · rw [if_neg c] at hi
      subst hi
      have e1 : dnT (t :: ts) n = none := dnT_none (ahead_none fun u hu => by
        rcases List.mem_cons.mp hu with rfl | hu
        · omega
        · have := h'.1 u hu; omega)
      have e2 : upT (t :: ts) n = some t := by
        unfold upT
        rw [List.filter_cons, if_pos (by simp; omega)]
        rfl
      rw [e1, e2]
      exact List.mem_cons_self
theorem about_in (r : KRow) (n : Int) : (about r n ∈ r.strs) ↔ r.has n = true := by
  constructor
  · intro h
    rw [← owns_strs]
    refine List.any_eq_true.mpr ⟨_, h, ?_⟩
    unfold about lies
    cases e1 : dnT r.ts n with
    | none =>
      cases e2 : upT r.ts n with
      | none => rfl
      | some u =>
        have := (upT_some r.up e2).2.1
        simp; omega
    | some d =>
      have := (dnT_some r.up e1).2.1
      cases e2 : upT r.ts n with
      | none => simpa using this
      | some u =>
        have := (upT_some r.up e2).2.1
        simp; omega
  · intro h
    have := strL_about n r.ts r.b none r.up h
    rw [Option.or_none] at this
    exact this
/-- stretches with a first, rising, the last one alone without an end -/
def Srt : Int → List Str2 → Prop
  | _, [] => True
  | _, (none, _) :: _ => False
  | lo, (some a, none) :: ss => lo ≤ a ∧ ss = []
  | lo, (some a, some c) :: ss => lo ≤ a ∧ a ≤ c ∧ Srt (c + 1) ss
theorem strL_srt : ∀ (ts : List Int) (o : Bool) (f : Option Int) (lo : Int), Up ts → (o = true → ∃ a, f = some a ∧ lo ≤ a ∧ ∀ t ∈ ts, a < t) → (o = false → ∀ t ∈ ts, lo ≤ t) → Srt lo (strL o f ts)
  | [], true, f, lo, _, h, _ => by
    obtain ⟨a, rfl, h1, _⟩ := h rfl
    exact ⟨h1, rfl⟩
  | [], false, f, lo, _, _, _ => trivial
  | t :: ts, true, f, lo, h, h1, _ => by
    have h' := List.pairwise_cons.mp h
    obtain ⟨a, rfl, h2, h3⟩ := h1 rfl
    have := h3 t List.mem_cons_self
    refine ⟨h2, by omega, strL_srt ts false (some t) _ h'.2 (fun z => by cases z) fun _ u hu => ?_⟩
    have := h'.1 u hu
    omega
  | t :: ts, false, f, lo, h, _, h2 => by
    have h' := List.pairwise_cons.mp h
    exact strL_srt ts true (some t) lo h'.2 (fun _ => ⟨t, rfl, h2 rfl t List.mem_cons_self, h'.1⟩) (fun z => by cases z)
theorem strs_srt {r : KRow} (h : r.b = false) : ∃ lo, Srt lo r.strs := by
  obtain ⟨lo, hlo⟩ := exists_below r.ts
  exact ⟨lo, strL_srt r.ts r.b none lo r.up (fun z => by rw [h] at z; cases z) fun _ t ht => Int.le_of_lt (hlo t ht)⟩
/-- how many lie below a number -/
def B (n : Int) : List Str2 → Int
  | [] => 0
  | s :: ss => max 0 ((match s.2 with | none => n | some c => min n (c + 1)) - s.1.getD 0) + B n ss
theorem belowF_B (n : Int) : ∀ (ss : List Str2) (lo acc : Int), Srt lo ss → belowF n acc ss = some (acc + B n ss)
  | [], _, acc, _ => by rw [belowF, B, Int.add_zero]
  | (none, _) :: _, _, _, h => h.elim
  | (some a, none) :: ss, lo, acc, h => by
    obtain ⟨_, rfl⟩ := h
    simp only [belowF, B, Option.getD_some]
    congr 1
    omega
  | (some a, some c) :: ss, lo, acc, h => by
    simp only [belowF]
    rw [belowF_B n ss (c + 1) _ h.2.2]
    simp only [B, Option.getD_some]
    congr 1
    omega
theorem B_low {n : Int} : ∀ {ss : List Str2} {lo : Int}, Srt lo ss → n ≤ lo → B n ss = 0
  | [], _, _, _ => rfl
  | (none, _) :: _, _, h, _ => h.elim
  | (some a, none) :: ss, lo, h, hn => by
    obtain ⟨h1, rfl⟩ := h
    simp only [B, Option.getD_some]
    omega
  | (some a, some c) :: ss, lo, h, hn => by
    have := B_low (n := n) h.2.2 (by have := h.1; have := h.2.1; omega)
    simp only [B, Option.getD_some, this]
    have := h.1
    omega
theorem B_pos {n : Int} : ∀ {ss : List Str2}, 0 ≤ B n ss
  | [] => Int.le_refl _
  | s :: ss => by
    have := B_pos (n := n) (ss := ss)
    rw [B]
    omega
theorem owns_low {n : Int} : ∀ {ss : List Str2} {lo : Int}, Srt lo ss → n < lo → owns ss n = false
  | [], _, _, _ => rfl
  | (none, _) :: _, _, h, _ => h.elim
  | (some a, none) :: ss, lo, h, hn => by
    obtain ⟨h1, rfl⟩ := h
    simp only [owns, List.any_cons, List.any_nil, lies, Bool.or_false, Bool.and_true]
    exact decide_eq_false (by omega)
  | (some a, some c) :: ss, lo, h, hn => by
    have ih := owns_low (n := n) h.2.2 (by have := h.1; have := h.2.1; omega)
    unfold owns at ih ⊢
    rw [List.any_cons, ih]
    have : ¬ a ≤ n := by have := h.1; omega
    simp [lies, this]
theorem B_next {n : Int} : ∀ {ss : List Str2} {lo : Int}, Srt lo ss → B (n + 1) ss = B n ss + (if owns ss n = true then 1 else 0)
  | [], _, _ => rfl
  | (none, _) :: _, _, h => h.elim
  | (some a, none) :: ss, lo, h => by
    obtain ⟨h1, rfl⟩ := h
    simp only [B, Option.getD_some, owns, List.any_cons, List.any_nil, lies, Bool.or_false, Bool.and_true]
    by_cases c : a ≤ n
    · simp only [decide_eq_true c, if_true]
      omega
    · simp only [decide_eq_false c, Bool.false_eq_true, if_false]
      omega
  | (some a, some c) :: ss, lo, h => by
    have ih := B_next (n := n) h.2.2
    simp only [B, Option.getD_some]
    have e : owns ((some a, some c) :: ss) n = (lies (some a, some c) n || owns ss n) := rfl
    rw [ih, e]
    have hac := h.2.1
    by_cases c1 : n < a
    · have : ¬ a ≤ n := by omega
      simp only [lies, decide_eq_false this, Bool.false_and, Bool.false_or]
      omega
    · by_cases c2 : n ≤ c
      · have h0 : owns ss n = false := owns_low h.2.2 (by omega)
        simp only [lies, decide_eq_true (show a ≤ n by omega), decide_eq_true c2, Bool.true_and, Bool.true_or, if_true, h0, Bool.false_eq_true, if_false]
        omega
      · simp only [lies, decide_eq_false c2, Bool.and_false, Bool.false_or]
        omega
/-- the number at a place -/
def atF : Int → List Str2 → Option Int
  | _, [] => none
  | _, (none, _) :: _ => none
  | p, (some a, none) :: _ => some (a + p)
  | p, (some a, some c) :: ss => if p ≤ c - a then some (a + p) else atF (p - (c - a + 1)) ss
theorem at_B {n : Int} : ∀ {ss : List Str2} {lo : Int}, Srt lo ss → owns ss n = true → atF (B n ss) ss = some n
  | [], _, _, h => by cases h
  | (none, _) :: _, _, h, _ => h.elim
  | (some a, none) :: ss, lo, h, ho => by
    obtain ⟨h1, rfl⟩ := h
    have : a ≤ n := by simpa [owns, lies] using ho
    simp only [B, Option.getD_some, atF]
    congr 1
    omega
  | (some a, some c) :: ss, lo, h, ho => by
    have hac := h.2.1
    have eB : B n ((some a, some c) :: ss) = max 0 (min n (c + 1) - a) + B n ss := rfl
    rw [eB, atF]
    have e : owns ((some a, some c) :: ss) n = (lies (some a, some c) n || owns ss n) := rfl
    rw [e] at ho
    by_cases c2 : n ≤ c
    · have h0 : owns ss n = false := owns_low h.2.2 (by omega)
      rw [h0, Bool.or_false] at ho
      have : a ≤ n := by
        by_cases z : a ≤ n
        · exact z
        · simp [lies, z] at ho
      have b0 : B n ss = 0 := B_low h.2.2 (by omega)
      rw [b0, if_pos (by omega)]
      congr 1
      omega
    · have l0 : lies (some a, some c) n = false := by simp [lies, c2]
      rw [l0, Bool.false_or] at ho
      have hp := B_pos (n := n) (ss := ss)
      rw [if_neg (by omega), ← at_B h.2.2 ho]
      congr 1
      omega
theorem sizes_cons {a c : Int} {ss : List Str2} : (sizes ((some a, some c) :: ss)).sum = (c - a + 1) + (sizes ss).sum := rfl
theorem at_ok : ∀ {ss : List Str2} {lo p : Int}, Srt lo ss → hasNone ss = false → 0 ≤ p → p < (sizes ss).sum → ∃ v, atF p ss = some v ∧ owns ss v = true ∧ B v ss = p
  | [], _, p, _, _, h1, h2 => by
    have : (sizes []).sum = 0 := rfl
    omega
  | (none, _) :: _, _, _, h, _, _, _ => h.elim
  | (some a, none) :: ss, _, _, h, hn, _, _ => by simp [hasNone] at hn
  | (some a, some c) :: ss, lo, p, h, hn, h1, h2 => by
    have hac := h.2.1
    rw [sizes_cons] at h2
    have hn' : hasNone ss = false := by simpa [hasNone] using hn
    by_cases z : p ≤ c - a
    · refine ⟨a + p, by rw [atF, if_pos z], ?_, ?_⟩
      · show (lies (some a, some c) (a + p) || owns ss (a + p)) = true
        simp only [lies, decide_eq_true (show a ≤ a + p by omega), decide_eq_true (show a + p ≤ c by omega), Bool.true_and, Bool.true_or]
      · simp only [B, Option.getD_some]
        rw [B_low h.2.2 (by omega)]
        omega
    · obtain ⟨v, e1, e2, e3⟩ := at_ok (p := p - (c - a + 1)) h.2.2 hn' (by omega) (by omega)
      have hv : c < v := by
        by_cases y : c < v
        · exact y
        · rw [owns_low h.2.2 (by omega)] at e2
          cases e2
      refine ⟨v, by rw [atF, if_neg z]; exact e1, ?_, ?_⟩
      · show (lies (some a, some c) v || owns ss v) = true
        rw [e2, Bool.or_true]
      · simp only [B, Option.getD_some, e3]
        omega
end L2.SK
/-! # isinstance of Keeper, defs that return a Keeper that they made -/
namespace L2.DL
open PySem PySem.Spec PyProof.Rows L2.SK
structure Kis (K : PySem.W.Frag) (C : Addr) : Prop where
  ha : PySem.W.findIn K (.ref C) "__class__" = some (some (.builtin "object.__class__"))
  hn : PySem.W.specialIn K (.builtin "object.__class__") "__get__" = some (some (.builtin "getset_descriptor.__get__"))
  htk : PySem.W.takesIn K (.builtin "object.__class__") = some true
  hm : PySem.W.mroIn K C (.type "object") = some true
  k0 : PySem.W.kitCls K (.type "NoneType") (.ref C) = some false
  k1 : PySem.W.kitCls K (.type "bool") (.ref C) = some false
  k2 : PySem.W.kitCls K (.type "int") (.ref C) = some false
  k3 : PySem.W.kitCls K (.type "str") (.ref C) = some false
  k4 : PySem.W.kitCls K (.type "list") (.ref C) = some false
  k5 : PySem.W.kitCls K (.type "tuple") (.ref C) = some false
  k6 : PySem.W.kitCls K (.type "dict") (.ref C) = some false
theorem kitCls_sub {K : PySem.W.Frag} {C : Addr} {t : Value} {b : Bool} (i : PySem.W.isClsIn K C = true) (ty : PySem.W.typeIn K (.ref C) = some (.type "type")) (h : PySem.W.subIn K t (.ref C) = some b) : PySem.W.kitCls K t (.ref C) = some b := by
  have i' : (PySem.W.clsIn K C).isSome = true := i
  show (if ((PySem.W.clsIn K C).isSome && PySem.W.typeIn K (.ref C) == some (.type "type")) = true then PySem.W.subIn K t (.ref C) else none) = some b
  rw [if_pos (by rw [i', ty]; rfl), h]
theorem Kis.no {K : PySem.W.Frag} {C : Addr} (k : Kis K C) {d : D} {t : String} (h : tyD d = some t) : PySem.W.kitOne K (.type t) (.ref C) = some false := by
  unfold PySem.W.kitOne
  rw [if_neg (by
    intro z
    have := beq_iff_eq.mp z
    cases this)]
  cases d <;> simp only [tyD, Option.some.injEq] at h <;> first | (subst h; first | exact k.k0 | exact k.k1 | exact k.k2 | exact k.k3 | exact k.k4 | exact k.k5 | exact k.k6) | cases h
section
variable {X : Cx} {C : Addr} {E : XK} {pos : Pos} {a e o : Expr}
/-- isinstance(d, Keeper) -/
def dIsK (C : Addr) : DB
  | [.kp _ _, .adr c], P => c = C ∧ P (.bl true)
  | [d, .adr c], P => (tyD d).isSome = true ∧ c = C ∧ P (.bl false)
  | _, _ => False
theorem ab_isK {K : PySem.W.Frag} (cl : Cls K C) (ki : Kis K C) : AbC K C (rIsi K) (dIsK C) := by
  intro O H vs ds P Q al r q k
  unfold dIsK at q
  split at q
  · obtain ⟨v, _, rfl, ⟨a, dx, l, rfl, e1, e2⟩, v2, _, rfl, r2, rfl⟩ := r
    obtain ⟨rfl, q⟩ := q
    have e3 : v2 = V.ref _ := r2
    subst e3
    refine ⟨.ref a, .ref _, .ref _, .ref _, true, rfl, .own _, .base (.ins (wo_some e1) cl ki.ha ki.hn ki.htk ki.hm), ?_, kB k q⟩
    unfold PySem.W.kitOne
    rw [if_pos (beq_self_eq_true _)]
  · obtain ⟨v, _, rfl, r1, v2, _, rfl, r2, rfl⟩ := r
    obtain ⟨h, rfl, q⟩ := q
    have e3 : v2 = V.ref _ := r2
    subst e3
    obtain ⟨t, ht⟩ := Option.isSome_iff_exists.mp h
    exact ⟨v, .ref _, .type t, .ref _, false, rfl, .own _, ty_rep ht (Rep.mono (wo_le H O) _ r1), ki.no ht, kB k q⟩
  · exact q.elim
theorem pd_isK {es : List Expr} {q : DA} {p : Pos} (T : Kp X.K X.mg C) (ki : Kis X.K C) (nb : X.mg "isinstance" = none) (ha : PA X (a :: es) (liftA X.K C E q)) (hg : Gl X "isinstance" := by rfl) (he : starEach (a :: es) X.env = (false, eval a X.env) :: starEach es X.env := by rfl) (hpl : (backTo pos (starEach es X.env)).any (·.1) = false := by rfl) : PE X (.Call (.Name "isinstance" p) (a :: es) [] pos) (lift X.K C E (dBi (dIsK C) q)) :=
  pd_bi call_isi (ab_isK T.cl ki) hg nb bt_isinstance ha (by decide) (by decide) he hpl

/-! ### a def that returns a Keeper that it made -/
abbrev DN := Env → (Bool → List Int → Prop) → Prop
def liftN (K : PySem.W.Frag) (C : Addr) (E : XK) (p : DN) : TS := fun T σ H => ∃ B O0 O ρ RO, Ok K C B O0 O H σ ρ ∧ p ρ RO ∧
  ∀ a dx l b ts H', Same B H' → B a = none → H' a = some (.ins C dx (kf b l)) → wo H' (a :: O0) l = some (.lst (ts.map V.int)) → RO b ts → T.rt (.ref a) H'
def dSeqN (p : DS) (q : DN) : DN := fun ρ RO => p ρ (fun ρ' => q ρ' RO) (fun _ => False) (fun _ => False)
def dRetK (i j : Nat) : DN := fun ρ RO => match ρ[i]?, ρ[j]? with
  | some (some (.v (.adr a))), some (some (.kst q b ts)) => a = q ∧ RO b ts
  | _, _ => False
theorem sn_cons {st : Stmt} {rest : List Stmt} {p : DS} {q : DN} (h1 : PS X st (liftS X.K C E p)) (h2 : PSs X rest (liftN X.K C E q)) : PSs X (st :: rest) (liftN X.K C E (dSeqN p q)) := (pss_cons h1 h2).wk fun T σ H q => by
  obtain ⟨B, O0, O, ρ, RO, k, q, hR⟩ := q
  exact ⟨B, O0, O, ρ, _, _, _, k, q, fun σ' H' ρ' O' k' n' => ⟨B, O0, O', ρ', RO, k', n', hR⟩, fun v d H' s' r z => z.elim, fun c H' s' z => z.elim⟩
theorem sn_ret {i j : Nat} {x : Str} {np : Pos} (hv : PE X (.Name x np) (tVar i)) : PSs X [.Return (some (.Name x np)) pos] (liftN X.K C E (dRetK i j)) := (pss_one (ps_ret hv)).wk fun T σ H q => by
  obtain ⟨B, O0, O, ρ, RO, k, q, hR⟩ := q
  unfold dRetK at q
  split at q
  · rename_i a q' b ts hi hj
    obtain ⟨rfl, q⟩ := q
    obtain ⟨z, e1, e2⟩ := k.val i _ hi
    have ez : z = V.ref a := e2
    subst ez
    obtain ⟨h1, h2, dx, l, h3, h4⟩ := k.st.at_ j a b ts hj
    refine ⟨.ref a, e1, hR a dx l b ts H k.base h2 h3 (wo_sub H (fun c hc => ?_) _ _ h4) q⟩
    rcases List.mem_cons.mp hc with rfl | hc
    · exact h1
    · exact k.sub0 c hc
  · exact q.elim
abbrev DNp := List D → (Bool → List Int → Prop) → Prop
def spN (K : PySem.W.Frag) (C : Addr) (t : DNp) : Sp := fun vs H Q _ => ∃ O ds P, Al O H ∧ RepL K C (wo H O) ds vs ∧ t ds P ∧
  ∀ a dx l b ts H', Same H H' → H a = none → H' a = some (.ins C dx (kf b l)) → wo H' (a :: O) l = some (.lst (ts.map V.int)) → P b ts → Q (.ref a) H'
theorem spN_spD {K : PySem.W.Frag} (t : DNp) : ∀ vs H Q E, spD K C (fun ds P _ => t ds (fun b ts => P (.kp b ts))) vs H Q E → spN K C t vs H Q E := fun vs H Q E q => by
  obtain ⟨O, ds, P, R, al, r, q, hP, _⟩ := q
  exact ⟨O, ds, _, al, r, q, fun a dx l b ts H' s ha h1 h2 p => hP _ (.kp b ts) H' s ⟨a, dx, l, rfl, wo_of h1 (al.new ha), wo_sub H' (fun b hb => List.mem_cons_of_mem _ hb) _ _ h2⟩ p⟩
theorem Ok.setN {K : PySem.W.Frag} {B H H' : Hp} {O0 O : List Addr} {σ : St} {ρ : Env} (k : Ok K C B O0 O H σ ρ) {i j : Nat} {y l dx : Addr} {b : Bool} {ts : List Int} (s0 : Same H H') (hy : H y = none) (h1 : H' y = some (.ins C dx (kf b l))) (h2 : wo H' (y :: O) l = some (.lst (ts.map V.int))) :
    Ok K C B O0 (y :: O) H' (σ.set i (some (.ref y))) ((ρ.set i (some (.v (.adr y)))).set j (some (.kst y b ts))) := by
  have hyO : y ∉ O := k.al.new hy
  have k0 := k.apart (o := .ins C dx []) hy
  have sw : Same (wo H O) (wo H' (y :: O)) := fun b o e => by
    have e1 := wo_some e
    have nO : b ∉ O := fun z => by
      unfold wo at e
      rw [if_pos z] at e
      cases e
    exact wo_of (s0 _ _ e1) (by simp [ne_of_none e1 hy, nO])
  have k1 : Ok K C B O0 (y :: O) H' σ ρ := by
    refine ⟨k.base.trans s0, k.al0, fun a ha => ?_, fun a ha => List.mem_cons_of_mem _ (k.sub0 a ha), k0.new, k.len, fun m d e => ?_, fun m es e => ?_, k.uniq, k.st.to (fun _ _ _ _ e => e) (fun _ _ _ h _ => List.mem_cons_of_mem _ h) (fun _ _ _ _ _ e _ => s0 _ _ e) sw (fun _ _ h => h), k.ls.to (fun _ _ _ e => e) (fun _ _ _ _ _ _ h => List.mem_cons_of_mem _ h) (fun _ _ _ _ _ _ _ e => s0 _ _ e) sw (fun _ _ h => h) k.ls.no, k.tb.to (fun _ _ _ e => e) (fun _ _ _ h => List.mem_cons_of_mem _ h) (SameX.of s0) (fun _ _ h => h)⟩
    · rcases List.mem_cons.mp ha with rfl | ha
      · rw [h1]; intro z; cases z
      · exact (k.al.mono s0) a ha
    · obtain ⟨x, e1, e2⟩ := k.val m d e
      exact ⟨x, e1, Rep.mono sw d e2⟩
    · obtain ⟨q, vs, e1, e2, e3, e4, e5⟩ := k.own m es e
      exact ⟨q, vs, e1, List.mem_cons_of_mem _ e2, e3, s0 _ _ e4, RepL.mono sw es e5⟩
  have k2 := k1.set i (d := .adr y) (x := .ref y) rfl
  exact k2.tell j (p := y) (l := l) (dx := dx) List.mem_cons_self (k.base.free hy) h1 h2 (fun m b' ts' e => by
    have e' := set_kst (fun _ _ _ h => by cases h) _ _ _ _ e
    obtain ⟨z, _⟩ := k.st.at_ m y b' ts' e'
    exact absurd z hyO)
end
section
variable {P : Program} {w : World} {K : PySem.W.Frag} {mg : Str → Option Value} {base : Heap} {C : Addr}
theorem fnN {x qual : Str} {st : Stmt} {f : Addr} {fd : FuncData} {N ps : List Str} {k : Nat} {t : DNp} {p : DN} (F : Fun K x qual st f fd) (S : FnScope N ps (defScope st))
    (body : ∀ (cdv : Value) (A : Around) (outer : List PySem.Env) (s : Shared) (H : Hp) (E : XK), Room k (A.deeper (envOfC qual (defScope st) s.heap.objs.size f cdv)) → PSs (cxD P w K mg base N qual (defScope st) f cdv A outer s H E) (defBody st) (liftN K C E p))
    (h : ∀ (ds : List D) (T : Bool → List Int → Prop), t ds T → ds.length = ps.length ∧ p (startE N ds) T) : FnOk P w K mg base (L2.CX P w) (k + 1) f fd ps (spN K C t) := by
  refine F.okX S (fun vs H Q E q => ?_) (fun cdv A outer s H vs Q E hr q => ⟨_, body cdv A outer s H E hr, ?_⟩)
  · obtain ⟨O, ds, T, al, r, q, _⟩ := q
    rw [RepL.length r]
    exact (h ds T q).1
  · obtain ⟨O, ds, T, al, r, q, hT⟩ := q
    exact ⟨H, O, O, startE N ds, _, start_ok al r N, (h ds T q).2, hT⟩
/-- a method that makes a Keeper; a def that makes one -/
structure Mn (P : Program) (w : World) (K : PySem.W.Frag) (mg : Str → Option Value) (base : Heap) (C : Addr) (k : Nat) (m : Str) (t : DNp) : Prop where
  ex : ∃ (f : Addr) (fd : FuncData) (ps : List Str), FnOk P w K mg base (L2.CX P w) k f fd ps (spN K C t) ∧ Meth K C m f ∧ Binds K fd ps []
structure Fn (P : Program) (w : World) (K : PySem.W.Frag) (mg : Str → Option Value) (base : Heap) (C : Addr) (k : Nat) (name : Str) (t : DNp) : Prop where
  ex : ∃ (f : Addr) (fd : FuncData) (ps : List Str), FnOk P w K mg base (L2.CX P w) k f fd ps (spN K C t) ∧ mg name = some (.ref f) ∧ PySem.W.keepIn K (.ref f) = true ∧ Binds K fd ps []
end
section
variable {X : Cx} {C : Addr} {E : XK} {pos : Pos} {a e o : Expr}
/-- x = o.m(): a new Keeper; slot i stands for it, slot j tells of it -/
def dSetNm (i j : Nat) (t : DNp) (p : DE) : DS := fun ρ N _ Z => p ρ (fun d => d.isKp ∧ t [d] (fun b ts => ∀ y, N ((ρ.set i (some (.v (.adr y)))).set j (some (.kst y b ts))))) Z
theorem sd_setNm {i j n : Nat} {x m : Str} {t : DNp} {p : DE} {apos cpos pos' : Pos} (T : Kp X.K X.mg C) (M : Mn X.prog X.w X.K X.mg X.base C n m t) (hr : Room n X.A) (hx' : Passes (L2.CX X.prog X.w) X E) (hN : X.N.Nodup) (hi : X.N[i]? = some x) (hx : Loc X.env.scope x) (ho : PE X o (lift X.K C E p))
    (hm1 : ¬ m = "begins" := by decide) (hm2 : ¬ m = "turns" := by decide)
    (hs : swapsWith (.Call (.Attribute o m apos) [] [] cpos) (some (.Name x pos')) pos.line X.env = pure false := by rfl) (hf : X.fn x = true ∨ X.env.scope.names.lookup x = some .local := by first | exact .inl rfl | exact .inr rfl | assumption) {pl : Sem Bool}
    (ht : eval (.Call (.Attribute o m apos) [] [] cpos) X.env = (do
      let ov ← eval o X.env
      standAt apos.atName
      let (f, first) ← holding [ov] (getMethod ov m pl)
      callWith cpos f first (backTo cpos (starEach [] X.env)) (backToKw cpos (keywordEach [] X.env))) := by rfl) :
    PS X (.Assign [.Name x pos'] (.Call (.Attribute o m apos) [] [] cpos) pos) (liftS X.K C E (dSetNm i j t p)) := by
  obtain ⟨f, fd, ps, F, hm, hb⟩ := M.ex
  refine (ps_set hN hi hx (pe_meth0 ho T.cl hm F hr hb .nil hx' ht) hs hf).wk fun T' σ H q => ?_
  obtain ⟨B, O0, O, ρ, N, R, Z, k, q, hN, hR, hZ⟩ := q
  refine ⟨B, O0, O, ρ, _, _, k, q, fun v d H1 s1 r1 q1 => ?_, fun c H' s' z => hZ c H' (k.base.trans s') z⟩
  have k1 := k.ext s1
  cases d with
  | kp b ts =>
    obtain ⟨z, dx, l, rfl, e1, e2⟩ := r1
    refine ⟨z, dx, _, rfl, wo_some e1, kf_no b l hm1 hm2, ?_⟩
    refine ⟨O, [.kp b ts], _, k1.al, ⟨.ref z, [], rfl, ⟨z, dx, l, rfl, e1, e2⟩, rfl⟩, q1.2, fun y dx' l' b' ts' H' s hy h1 h2 p => ?_⟩
    exact hN _ H' _ _ (k1.setN s hy h1 h2) (p y)
  | _ => exact q1.1.elim
/-- x = f(e, ..): a new Keeper -/
def dSetNf (i j : Nat) (t : DNp) (q : DA) : DS := fun ρ N _ Z => q ρ (fun ds => t ds (fun b ts => ∀ y, N ((ρ.set i (some (.v (.adr y)))).set j (some (.kst y b ts))))) Z
theorem sd_setNf {i j n : Nat} {x f : Str} {t : DNp} {q : DA} {es : List Expr} {fpos cpos pos' : Pos} (M : Fn X.prog X.w X.K X.mg X.base C n f t) (hr : Room n X.A) (hx' : Passes (L2.CX X.prog X.w) X E) (hN : X.N.Nodup) (hi : X.N[i]? = some x) (hx : Loc X.env.scope x) (hg : Gl X f) (ha : PA X (a :: es) (liftA X.K C E q))
    (hs : swapsWith (.Call (.Name f fpos) (a :: es) [] cpos) (some (.Name x pos')) pos.line X.env = pure false := by rfl) (hf : X.fn x = true ∨ X.env.scope.names.lookup x = some .local := by first | exact .inl rfl | exact .inr rfl | assumption)
    (hdb : (f == ("__debug__" : Str)) = false := by decide) (he : starEach (a :: es) X.env = (false, eval a X.env) :: starEach es X.env := by rfl) (hpl : (backTo cpos (starEach es X.env)).any (·.1) = false := by rfl) :
    PS X (.Assign [.Name x pos'] (.Call (.Name f fpos) (a :: es) [] cpos) pos) (liftS X.K C E (dSetNf i j t q)) := by
  obtain ⟨fa, fd, ps, F, hm, hk, hb⟩ := M.ex
  refine (ps_set hN hi hx (pe_call F hr hg hm hk hb .nil hx' ha hdb he hpl) hs hf).wk fun T' σ H q => ?_
  obtain ⟨B, O0, O, ρ, N, R, Z, k, q, hN, hR, hZ⟩ := q
  refine ⟨B, O0, O, ρ, _, _, k, q, fun vs ds H1 s1 r1 q1 => ?_, fun c H' s' z => hZ c H' (k.base.trans s') z⟩
  have k1 := k.ext s1
  show spN X.K C t (vs ++ []) H1 _ E
  rw [List.append_nil]
  exact ⟨O, ds, _, k1.al, r1, q1, fun y dx' l' b' ts' H' s hy h1 h2 p => hN _ H' _ _ (k1.setN s hy h1 h2) (p y)⟩
end
def dm_gain (f : Bool → Bool → Bool) (bk : Addr) : DM := fun b ts ds T R => ∃ (r : KRow) (d : D), b = r.b ∧ ts = r.ts ∧ ds = [d] ∧ ((∃ r2 : KRow, d = kpD r2 ∧ Few r r2 ∧ T (mergeR f r r2).b (mergeR f r r2).ts .non) ∨ ((tyD d).isSome = true ∧ R bk b ts))
def dp_need_keeper (bk : Addr) : DP := fun ds P R => ∃ d, ds = [d] ∧ (((∃ r : KRow, d = kpD r) ∧ P .non) ∨ ((tyD d).isSome = true ∧ R bk))
def dn_copied : DNp := fun ds P => ∃ r : KRow, ds = [kpD r] ∧ r.ts.length ≤ 3000 ∧ P r.b r.ts
def dp_at (bn ns : Addr) : DP := fun ds P R => ∃ (r : KRow) (d : D), ds = [kpD r, d] ∧ r.ts.length ≤ 1000000 ∧ (tyD d).isSome = true ∧
  (∀ n, d = .int n → 0 ≤ n → (∀ v, r.b = false → atF n r.strs = some v → P (.int v)) ∧ (r.b = true ∨ atF n r.strs = none → R ns)) ∧ (isNum d = false ∨ (∃ n, d = .int n ∧ n < 0) → R bn)
def dp_ngood : DP := fun ds P _ => ∃ (r : KRow) (n : Int), ds = [kpD r, .int n] ∧ r.ts.length ≤ 3000 ∧ P (.bl true)
theorem copy_row (r : KRow) : mergeR f_either ⟨false, [], .nil⟩ r = r := KRow.ext' fun n => by
  rw [mergeR_has]
  rfl
end L2.DL
namespace L2.DL
open PySem PySem.Spec PyProof.Rows L2.SK
theorem any_sD (s : Str2) : ∀ ss : List Str2, ((ss.map sD).any fun z => eqD z (sD s)) = decide (s ∈ ss)
  | [] => rfl
  | t :: ss => by
    rw [List.map_cons, List.any_cons, eqD_sD, any_sD s ss]
    by_cases c : t = s
    · simp [c]
    · simp [c, Ne.symm c]
theorem okE_sD (s : Str2) : okE (sD s) := okE_plain (plain_sD s).1 (by rw [(plain_sD s).2]; decide)
theorem about_any (r : KRow) (n : Int) : ((r.strs.map sD).any fun z => eqD z (sD (about r n))) = r.has n := by
  rw [any_sD]
  have := about_in r n
  cases h : r.has n
  · rw [h] at this
    exact decide_eq_false fun z => by have := this.mp z; cases this
  · rw [h] at this
    exact decide_eq_true (this.mpr rfl)
theorem bF (r : KRow) (n : Int) : belowF n 0 r.strs = if r.b = true then none else some (B n r.strs) := by
  by_cases h : r.b = true
  · rw [if_pos h, below_begins n h]
  · have hb : r.b = false := by cases e : r.b <;> simp_all
    obtain ⟨lo, hs⟩ := strs_srt hb
    rw [if_neg h, belowF_B n r.strs lo 0 hs, Int.zero_add]
theorem has_up {r : KRow} {n t : Int} (e : upT r.ts n = some t) : r.has t = !r.has n := by
  have h1 := has_turn (r := r) (upT_some r.up e).1
  rw [up_before e] at h1
  cases a : r.has t <;> cases b : r.has n <;> simp_all
theorem has_dn {r : KRow} {n t : Int} (e : dnT r.ts n = some t) : r.has (t - 1) = !r.has n := by
  have h1 := has_turn (r := r) (dnT_some r.up e).1
  rw [dn_at e] at h1
  cases a : r.has (t - 1) <;> cases b : r.has n <;> simp_all
end L2.DL
namespace L2.SK
open L2.DL
def shS (k : Int) (s : Str2) : Str2 := (s.1.map (· + k), s.2.map (· + k))
theorem strL_moved (k : Int) : ∀ (ts : List Int) (o : Bool) (f : Option Int), strL o (f.map (· + k)) (ts.map (· + k)) = (strL o f ts).map (shS k)
  | [], true, f => rfl
  | [], false, f => rfl
  | t :: ts, true, f => by
    have := strL_moved k ts false (some t)
    simp only [List.map_cons, strL, shS, Option.map_some] at this ⊢
    rw [← this, show t + k - 1 = t - 1 + k by omega]
  | t :: ts, false, f => by
    have := strL_moved k ts true (some t)
    simp only [List.map_cons, strL, Option.map_some] at this ⊢
    exact this
theorem moved_strs (r : KRow) (k : Int) : (r.moved k).strs = r.strs.map (shS k) := strL_moved k r.ts r.b none
theorem belowF_moved (k n : Int) : ∀ (ss : List Str2) (acc : Int), belowF (n + k) acc (ss.map (shS k)) = belowF n acc ss
  | [], acc => rfl
  | (none, c) :: ss, acc => rfl
  | (some a, none) :: ss, acc => by
    simp only [List.map_cons, shS, Option.map_some, Option.map_none, belowF]
    rw [show acc + max 0 (n + k - (a + k)) = acc + max 0 (n - a) by omega]
    exact belowF_moved k n ss _
  | (some a, some c) :: ss, acc => by
    simp only [List.map_cons, shS, Option.map_some, belowF]
    rw [show acc + max 0 (min (n + k) (c + k + 1) - (a + k)) = acc + max 0 (min n (c + 1) - a) by omega]
    exact belowF_moved k n ss _
theorem upT_moved (ts : List Int) (k n : Int) : upT (ts.map (· + k)) (n + k) = (upT ts n).map (· + k) := by
  unfold upT
  rw [List.filter_map, List.head?_map]
  congr 2
  refine List.filter_congr fun t _ => ?_
  simp only [Function.comp]
  by_cases c : n < t
  · rw [decide_eq_true c, decide_eq_true (by omega)]
  · rw [decide_eq_false c, decide_eq_false (by omega)]
theorem moved_has' (r : KRow) (k n : Int) : (r.moved k).has (n + k) = r.has n := by
  rw [KRow.moved_has]
  congr 1
  omega
theorem upD_moved (r : KRow) (k n : Int) (w : Bool) : upD (r.moved k) (n + k) w = (upD r n w).map (· + k) := by
  unfold upD
  rw [moved_has']
  by_cases c : r.has n = w
  · rw [if_pos c, if_pos c]
    rfl
  · rw [if_neg c, if_neg c]
    exact upT_moved r.ts k n
end L2.SK

namespace L2.DL
theorem eqD_nn : eqD .non .non = true := by decide +kernel
theorem free_bl (b : Bool) : (D.bl b).free := by simp [D.free]
end L2.DL
/-! # Lists and Keepers that other lists hold: the store by address -/
namespace L2.DL
open PySem PySem.Spec PyProof.Rows L2.SK

section
variable {K : PySem.W.Frag} {C : Addr} {B H H' : Hp} {O0 O : List Addr} {σ : St} {ρ : Env}
/-- a slot comes to tell of a list -/
theorem Ok.tellL (k : Ok K C B O0 O H σ ρ) (j : Nat) {p : Addr} {ds : List D} {vs : List V} (hp : p ∈ O) (hb : B p = none) (h1 : H p = some (.lst vs)) (h2 : RepL K C (wo H O) ds vs)
    (hn : ∀ (i : Nat) (es : List D), ρ[i]? = some (some (.ls p es)) → i = j) (ho : ∀ (i : Nat) (es : List D), ρ[i]? = some (some (.own es)) → σ[i]? ≠ some (some (.ref p))) : Ok K C B O0 O H σ (ρ.set j (some (.ls p ds))) := by
  have old : ∀ {i : Nat} {x : DV}, (ρ.set j (some (.ls p ds)))[i]? = some (some x) → (i = j ∧ x = .ls p ds) ∨ (i ≠ j ∧ ρ[i]? = some (some x)) := fun {i x} e => by
    by_cases h : j = i
    · subst h
      by_cases hl : j < ρ.length
      · rw [List.getElem?_set_self hl] at e
        exact .inl ⟨rfl, (Option.some.inj (Option.some.inj e)).symm⟩
      · rw [List.getElem?_eq_none (by rw [List.length_set]; omega)] at e
        cases e
    · rw [List.getElem?_set_ne h] at e
      exact .inr ⟨fun z => h z.symm, e⟩
  refine ⟨k.base, k.al0, k.al, k.sub0, k.new, by rw [List.length_set]; exact k.len, fun i d e => ?_, fun i es e => ?_, fun a a' es fs e1 e2 e3 => ?_, k.st.to (set_kst fun _ _ _ h => by cases h) (fun _ _ _ h _ => h) (fun _ _ _ _ _ e _ => e) (Same.refl _) (fun _ _ h => h), ⟨fun i q es e => ?_, fun i i' q es fs e1 e2 => ?_, fun i i' q es fs e1 e2 => ?_⟩, k.tb.to (set_tb fun _ _ h => by cases h) (fun _ _ _ h => h) (SameX.refl _) (fun _ _ h => h)⟩
  · rcases old e with ⟨_, z⟩ | ⟨_, e⟩
    · cases z
    · exact k.val i d e
  · rcases old e with ⟨_, z⟩ | ⟨_, e⟩
    · cases z
    · exact k.own i es e
  · rcases old e1 with ⟨_, z⟩ | ⟨_, e1⟩
    · cases z
    · rcases old e2 with ⟨_, z⟩ | ⟨_, e2⟩
      · cases z
      · exact k.uniq a a' es fs e1 e2 e3
  · rcases old e with ⟨_, z⟩ | ⟨_, e⟩
    · cases z
      exact ⟨hp, hb, vs, h1, h2⟩
    · exact k.ls.at_ i q es e
  · rcases old e1 with ⟨z1, z⟩ | ⟨n1, e1⟩
    · cases z
      rcases old e2 with ⟨z2, _⟩ | ⟨n2, e2⟩
      · rw [z1, z2]
      · exact absurd (hn _ _ e2) n2
    · rcases old e2 with ⟨z2, z⟩ | ⟨n2, e2⟩
      · cases z
        exact absurd (hn _ _ e1) n1
      · exact k.ls.one i i' q es fs e1 e2
  · rcases old e2 with ⟨_, z⟩ | ⟨_, e2⟩
    · cases z
    · rcases old e1 with ⟨_, z⟩ | ⟨_, e1⟩
      · cases z
        exact ho _ _ e2
      · exact k.ls.no i i' q es fs e1 e2
/-- the list that slot j tells of changes -/
theorem Ok.mutL (k : Ok K C B O0 O H σ ρ) {j : Nat} {p : Addr} {ds es : List D} {ws : List V} (hj : ρ[j]? = some (some (.ls p ds))) (r : RepL K C (wo H O) es ws) : Ok K C B O0 O (upd H p (.lst ws)) σ (ρ.set j (some (.ls p es))) := by
  obtain ⟨hp, hb, vs, h3, h4⟩ := k.ls.at_ j p ds hj
  have s1 : ∀ q o, q ≠ p → H q = some o → upd H p (.lst ws) q = some o := fun q o n e => by rw [upd_ne n]; exact e
  have sw : Same (wo H O) (wo (upd H p (.lst ws)) O) := fun q o e => wo_upd hp e
  have k1 : Ok K C B O0 O (upd H p (.lst ws)) σ (ρ.set j none) := by
    have old : ∀ {i : Nat} {x : DV}, (ρ.set j none)[i]? = some (some x) → ρ[i]? = some (some x) ∧ j ≠ i := fun {i x} e => by
      by_cases h : j = i
      · subst h
        by_cases hl : j < ρ.length
        · rw [List.getElem?_set_self hl] at e
          simp at e
        · rw [List.getElem?_eq_none (by rw [List.length_set]; omega)] at e
          cases e
      · rw [List.getElem?_set_ne h] at e
        exact ⟨e, h⟩
    refine ⟨fun q o e => s1 q o (fun z => by rw [z, hb] at e; cases e) (k.base q o e), k.al0, fun a ha => ?_, k.sub0, k.new, by rw [List.length_set]; exact k.len, fun i d e => ?_, fun i es e => ?_, fun a a' es fs e1 e2 e3 => ?_,
      k.st.to (set_kst fun _ _ _ h => by cases h) (fun _ _ _ h _ => h) (fun a dx fs _ _ e _ => s1 a _ (fun z => by rw [z, h3] at e; cases e) e) sw (fun _ _ h => h), ⟨fun i q es e => ?_, fun i i' q es fs e1 e2 => ?_, fun i i' q es fs e1 e2 => ?_⟩, k.tb.to (set_tb fun _ _ h => by cases h) (fun _ _ _ h => h) (SameX.upd h3) (fun _ _ h => h)⟩
    · by_cases z : a = p
      · rw [z, upd_same]; intro y; cases y
      · obtain ⟨o, ho⟩ := Option.ne_none_iff_exists'.mp (k.al a ha)
        rw [s1 a o z ho]; intro y; cases y
    · obtain ⟨x, e1, e2⟩ := k.val i d (old e).1
      exact ⟨x, e1, Rep.mono sw d e2⟩
    · obtain ⟨q, us, e1, e2, e3, e4, e5⟩ := k.own i es (old e).1
      exact ⟨q, us, e1, e2, e3, s1 q _ (fun z => k.ls.no j i p ds es hj (old e).1 (by rw [e1, z])) e4, RepL.mono sw es e5⟩
    · exact k.uniq a a' es fs (old e1).1 (old e2).1 e3
    · obtain ⟨e, n⟩ := old e
      obtain ⟨a1, a2, us, a3, a4⟩ := k.ls.at_ i q es e
      exact ⟨a1, a2, us, s1 q _ (fun z => n (k.ls.one j i p ds es hj (z ▸ e))) a3, RepL.mono sw es a4⟩
    · exact k.ls.one i i' q es fs (old e1).1 (old e2).1
    · exact k.ls.no i i' q es fs (old e1).1 (old e2).1
  have k2 := k1.tellL j hp hb upd_same (RepL.mono sw es r) (fun i fs e => by
    by_cases h : j = i
    · exact h.symm
    · rw [List.getElem?_set_ne h] at e
      exact absurd (k.ls.one j i p ds fs hj e) h) (fun i fs e => by
    by_cases h : j = i
    · subst h
      by_cases hl : j < ρ.length
      · rw [List.getElem?_set_self hl] at e
        simp at e
      · rw [List.getElem?_eq_none (by rw [List.length_set]; omega)] at e
        cases e
    · rw [List.getElem?_set_ne h] at e
      exact k.ls.no j i p ds fs hj e)
  rwa [List.set_set] at k2
/-- a new list is told of -/
theorem Ok.newL (k : Ok K C B O0 O H σ ρ) (j : Nat) {a : Addr} {ds : List D} {vs : List V} (ha : H a = none) (r : RepL K C (wo H O) ds vs) : Ok K C B O0 (a :: O) (upd H a (.lst vs)) σ (ρ.set j (some (.ls a ds))) := by
  have k1 := k.apart (o := .lst vs) ha
  have sw : Same (wo H O) (wo (upd H a (.lst vs)) (a :: O)) := fun b o e => by
    have h1 : H b = some o := wo_some e
    have nb : b ≠ a := ne_of_none h1 ha
    have nO : b ∉ O := fun z => by
      unfold wo at e
      rw [if_pos z] at e
      cases e
    exact wo_of (by rw [upd_ne nb]; exact h1) (by simp [nb, nO])
  refine k1.tellL j List.mem_cons_self (k.base.free ha) upd_same (RepL.mono sw ds r) (fun i es e => ?_) fun i es e z => ?_
  · obtain ⟨_, _, us, h3, _⟩ := k.ls.at_ i a es e
    rw [ha] at h3
    cases h3
  · obtain ⟨q, us, e1, e2, e3, e4, e5⟩ := k.own i es e
    rw [z] at e1
    have : a = q := by simpa using e1
    rw [← this, ha] at e4
    cases e4
/-- a new Keeper is told of -/
theorem Ok.newK (k : Ok K C B O0 O H σ ρ) (j : Nat) {y l dx : Addr} {b : Bool} {ts : List Int} (s0 : Same H H') (hy : H y = none) (h1 : H' y = some (.ins C dx (kf b l))) (h2 : wo H' (y :: O) l = some (.lst (ts.map V.int))) :
    Ok K C B O0 (y :: O) H' σ (ρ.set j (some (.kst y b ts))) := by
  have hyO : y ∉ O := k.al.new hy
  have k0 := k.apart (o := .ins C dx []) hy
  have sw : Same (wo H O) (wo H' (y :: O)) := fun b o e => by
    have e1 := wo_some e
    have nO : b ∉ O := fun z => by
      unfold wo at e
      rw [if_pos z] at e
      cases e
    exact wo_of (s0 _ _ e1) (by simp [ne_of_none e1 hy, nO])
  have k1 : Ok K C B O0 (y :: O) H' σ ρ := by
    refine ⟨k.base.trans s0, k.al0, fun a ha => ?_, fun a ha => List.mem_cons_of_mem _ (k.sub0 a ha), k0.new, k.len, fun m d e => ?_, fun m es e => ?_, k.uniq, k.st.to (fun _ _ _ _ e => e) (fun _ _ _ h _ => List.mem_cons_of_mem _ h) (fun _ _ _ _ _ e _ => s0 _ _ e) sw (fun _ _ h => h), k.ls.to (fun _ _ _ e => e) (fun _ _ _ _ _ _ h => List.mem_cons_of_mem _ h) (fun _ _ _ _ _ _ _ e => s0 _ _ e) sw (fun _ _ h => h) k.ls.no, k.tb.to (fun _ _ _ e => e) (fun _ _ _ h => List.mem_cons_of_mem _ h) (SameX.of s0) (fun _ _ h => h)⟩
    · rcases List.mem_cons.mp ha with rfl | ha
      · rw [h1]; intro z; cases z
      · exact (k.al.mono s0) a ha
    · obtain ⟨x, e1, e2⟩ := k.val m d e
      exact ⟨x, e1, Rep.mono sw d e2⟩
    · obtain ⟨q, vs, e1, e2, e3, e4, e5⟩ := k.own m es e
      exact ⟨q, vs, e1, List.mem_cons_of_mem _ e2, e3, s0 _ _ e4, RepL.mono sw es e5⟩
  exact k1.tell j (p := y) (l := l) (dx := dx) List.mem_cons_self (k.base.free hy) h1 h2 (fun m b' ts' e => by
    obtain ⟨z, _⟩ := k.st.at_ m y b' ts' e
    exact absurd z hyO)
end
section
variable {X : Cx} {C : Addr} {E : XK} {pos : Pos} {a e o : Expr}
/-- o[i], o a list that slot l tells of -/
def dIxS (l : Nat) (p q : DE) : DE := fun ρ P R => p ρ (fun x => q ρ (fun i => match x, i, ρ[l]? with
  | .adr a, .int n, some (some (.ls b ds)) => a = b ∧ ∃ d, atI ds n = some d ∧ P d
  | _, _, _ => False) R) R
theorem pd_ixS {b : Expr} {p q : DE} (l : Nat) (ha : PE X a (lift X.K C E p)) (hb : PE X b (lift X.K C E q)) (hs : PlainIx b) : PE X (.Subscript a b pos) (lift X.K C E (dIxS l p q)) := (pe_ix ix_seq ha hb hs).wk fun σ H Q h => by
  obtain ⟨B, O0, O, ρ, P, R, k, h, hP, hR⟩ := h
  refine ⟨B, O0, O, ρ, _, R, k, h, fun x dx H1 s1 r1 h1 => ⟨B, O0, O, ρ, _, R, k.ext s1, h1, fun y dy H2 s2 r2 h2 => ?_, fun c H' s' z => hR c H' (s1.trans s') z⟩, hR⟩
  have k2 := (k.ext s1).ext s2
  have r1' := Rep.mono (wo_same O s2) dx r1
  split at h2
  · rename_i a' n b' ds hl
    obtain ⟨rfl, d, e1, e2⟩ := h2
    obtain ⟨_, _, vs, h3, h4⟩ := k2.ls.at_ l _ ds hl
    obtain ⟨v, h5, h6⟩ := atI_rep h4 e1
    exact .inl ⟨_, vs, n, v, r1', r2, SqL.of h3, h5, hP v d H2 (s1.trans s2) h6 e2⟩
  · exact h2.elim
/-- o.m() with o a Keeper in the store; the result is free of Keepers -/
def dMethX (t : DP) (p : DE) : DE := fun ρ P R => p ρ (fun x => ∃ (j : Nat) (q : Addr) (b : Bool) (ts : List Int), x = .adr q ∧ ρ[j]? = some (some (.kst q b ts)) ∧ t [.kp b ts] (fun d => d.free ∧ P d) R) R
theorem pd_mtX {apos : Pos} {m : Str} {n : Nat} {t : DP} {p : DE} (T : Kp X.K X.mg C) (M : Mc X.prog X.w X.K X.mg X.base C n m t) (hr : Room n X.A) (hx : Passes (L2.CX X.prog X.w) X E) (ho : PE X o (lift X.K C E p))
    (hm1 : ¬ m = "begins" := by decide) (hm2 : ¬ m = "turns" := by decide) {pl : Sem Bool}
    (ht : eval (.Call (.Attribute o m apos) [] [] pos) X.env = (do
      let ov ← eval o X.env
      standAt apos.atName
      let (f, first) ← holding [ov] (getMethod ov m pl)
      callWith pos f first (backTo pos (starEach [] X.env)) (backToKw pos (keywordEach [] X.env))) := by rfl) :
    PE X (.Call (.Attribute o m apos) [] [] pos) (lift X.K C E (dMethX t p)) := by
  obtain ⟨f, fd, ps, G, hm, hb⟩ := M.ex
  refine (pe_meth0 ho T.cl hm G hr hb .nil hx ht).wk fun σ H Q q => ?_
  obtain ⟨B, O0, O, ρ, P, R, k, q, hP, hR⟩ := q
  refine ⟨B, O0, O, ρ, _, R, k, q, fun x d H1 s1 r1 q1 => ?_, hR⟩
  obtain ⟨j, y, b, ts, rfl, hj, q2⟩ := q1
  have k1 := k.ext s1
  obtain ⟨hp, hb', dx, l, h1, h2⟩ := k1.st.at_ j y b ts hj
  have ex : x = V.ref y := r1
  subst ex
  refine ⟨y, dx, _, rfl, h1, kf_no b l hm1 hm2, ?_⟩
  exact ⟨less1 O y, [.kp b ts], _, R, fun c hc => k1.al c (less1_sub hc), ⟨.ref y, [], rfl, ⟨y, dx, l, rfl, wo_of h1 less1_ne, wo_sub H1 (fun c hc => less1_sub hc) _ _ h2⟩, rfl⟩, q2, fun v d H3 s3 r3 p3 => hP v d H3 (s1.trans s3) (Rep.back (s3 _ _ h1) p3.1 r3) p3.2, fun c H' s' z => hR c H' (s1.trans s') z⟩
/-- isinstance(o, Keeper), o a Keeper in the store -/
def dIsX (C : Addr) (p q : DE) : DE := fun ρ P R => p ρ (fun x => q ρ (fun y => ∃ (j : Nat) (a : Addr) (b : Bool) (ts : List Int), x = .adr a ∧ ρ[j]? = some (some (.kst a b ts)) ∧ y = .adr C ∧ P (.bl true)) R) R
theorem pd_isX {b : Expr} {p q : DE} {np : Pos} (T : Kp X.K X.mg C) (ki : Kis X.K C) (nb : X.mg "isinstance" = none) (ha : PE X a (lift X.K C E p)) (hb : PE X b (lift X.K C E q)) (hg : Gl X "isinstance" := by rfl) (hs1 : starEach [a, b] X.env = (false, eval a X.env) :: starEach [b] X.env := by rfl) (hs2 : starEach [b] X.env = (false, eval b X.env) :: starEach [] X.env := by rfl) (hpl : (backTo pos (starEach [b] X.env)).any (·.1) = false := by rfl) :
    PE X (.Call (.Name "isinstance" np) [a, b] [] pos) (lift X.K C E (dIsX C p q)) := (pe_callB call_isi hg nb bt_isinstance (pa_cons ha (pa_cons hb pa_nil hs2) hs1) (by decide) (by decide) hs1 hpl).wk fun σ H Q h => by
  obtain ⟨B, O0, O, ρ, P, R, k, h, hP, hR⟩ := h
  refine ⟨B, O0, O, ρ, _, R, k, h, fun x dx H1 s1 r1 h1 => ⟨B, O0, O, ρ, _, R, k.ext s1, h1, fun y dy H2 s2 r2 h2 => ?_, fun c H' s' z => hR c H' (s1.trans s') z⟩, hR⟩
  obtain ⟨j, c, b', ts, rfl, hj, rfl, h3⟩ := h2
  have k2 := (k.ext s1).ext s2
  obtain ⟨_, _, dx, l, g1, _⟩ := k2.st.at_ j c b' ts hj
  have ex : x = V.ref c := r1
  have ey : y = V.ref C := r2
  subst ex ey
  refine ⟨.ref c, .ref C, .ref C, .ref C, true, rfl, .own _, .base (.ins g1 T.cl ki.ha ki.hn ki.htk ki.hm), ?_, hP (.bl true) (.bl true) H2 (s1.trans s2) rfl h3⟩
  unfold PySem.W.kitOne
  rw [if_pos (beq_self_eq_true _)]

/-! ### stateful expressions and arguments -/
abbrev DAM := Env → (List D → Env → Prop) → (Addr → Env → Prop) → Prop
def liftAM (K : PySem.W.Frag) (C : Addr) (E : XK) (p : DAM) : TA := fun σ H Q => ∃ B O0 O ρ P R, Ok K C B O0 O H σ ρ ∧ p ρ P R ∧
  (∀ vs ds H' ρ' O', Ok K C B O0 O' H' σ ρ' → Same (wo H O) (wo H' O') → RepL K C (wo H' O') ds vs → P ds ρ' → Q vs H') ∧ ∀ c H' σ' ρ' O', Ok K C B O0 O' H' σ' ρ' → R c ρ' → E (.ref c) none H'
end
end L2.DL
/-! # Stateful displays, items set, lists in the store that grow -/
namespace L2.DL
open PySem PySem.Spec PyProof.Rows L2.SK
section
variable {X : Cx} {C : Addr} {E : XK} {pos : Pos} {a e o : Expr}
/-- Keeper() as an expression -/
def dNewE : DEM := fun ρ P _ => ∃ j : Nat, ∀ p, P (.adr p) (ρ.set j (some (.kst p false [])))
theorem pm_new {n : Nat} {p p2 : Pos} (T : Kn X.prog X.w X.K X.mg X.base C n) (hr : Room (n + 1) X.A) (hx' : Passes (L2.CX X.prog X.w) X E) (hg : Gl X "Keeper" := by rfl) (hdb : (("Keeper" : Str) == ("__debug__" : Str)) = false := by decide) :
    PE X (.Call (.Name "Keeper" p) [] [] p2) (liftM X.K C E dNewE) := by
  obtain ⟨f, fd, ps, M, F, hb⟩ := T.ex
  refine (pe_make0 M F hr hg T.g hb .nil hx' hdb).wk fun σ H Q q => ?_
  obtain ⟨B, O0, O, ρ, P, R, k, ⟨j, q⟩, hP, hR⟩ := q
  intro y dx hy hdx ne
  refine ⟨y, dx, rfl, upd_same, fun l H' hl s' h1 h2 => ⟨rfl, ?_⟩⟩
  have ly : l ≠ y := fun z => by rw [z, upd_same] at hl; cases hl
  have hl0 : H l = none := by
    have n2 : l ≠ dx := fun z => by rw [z, upd_ne ne, upd_same] at hl; cases hl
    rw [upd_ne ly, upd_ne n2] at hl
    exact hl
  have s0 : Same H H' := fun b o e => s' b o (wo_of (by
    have n1 : b ≠ y := ne_of_none e hy
    have n2 : b ≠ dx := ne_of_none e hdx
    rw [upd_ne n1, upd_ne n2]
    exact e) (by simpa using ne_of_none e hy))
  exact hP _ (.adr y) H' _ _ (k.newK j s0 hy h1 (ts := []) (wo_of h2 (by simp [ly, k.al.new hl0]))) rfl (q y)
/-- a new list that the store tells of -/
def dLsE (q : DA) : DEM := fun ρ P R => q ρ (fun ds => ds.length ≤ sizeLine ∧ ∃ j : Nat, ∀ p, P (.adr p) (ρ.set j (some (.ls p ds)))) (fun c => R c ρ)
theorem pm_ls {es : List Expr} {q : DA} (h : PA X es (liftA X.K C E q)) : PE X (.List es pos) (liftM X.K C E (dLsE q)) := (pe_lst h).wk fun σ H Q q => by
  obtain ⟨B, O0, O, ρ, P, R, k, q, hP, hR⟩ := q
  refine ⟨B, O0, O, ρ, _, _, k, q, fun vs ds H1 s1 r1 q1 => ⟨by rw [RepL.length r1]; exact q1.1, fun p hp => ?_⟩, fun c H' s' z => hR c H' σ ρ O (k.ext s') z⟩
  obtain ⟨j, q2⟩ := q1.2
  exact hP (.ref p) (.adr p) _ _ _ ((k.ext s1).newL j hp r1) rfl (q2 p)
/-- stateful items: each an address (nothing that they lean on changes) -/
def dNilM : DAM := fun ρ P _ => P [] ρ
def dConsM (p : DEM) (q : DAM) : DAM := fun ρ P R => p ρ (fun d ρ' => (∃ c, d = .adr c) ∧ q ρ' (fun ds ρ'' => P (d :: ds) ρ'') R) R
def liftAd (K : PySem.W.Frag) (C : Addr) (E : XK) (p : DAM) : TA := fun σ H Q => ∃ B O0 O ρ P R, Ok K C B O0 O H σ ρ ∧ p ρ P R ∧
  (∀ vs ds H' ρ' O', Ok K C B O0 O' H' σ ρ' → (∀ d ∈ ds, ∃ c, d = .adr c) → (∀ H'', RepL K C H'' ds vs) → P ds ρ' → Q vs H') ∧ ∀ c H' σ' ρ' O', Ok K C B O0 O' H' σ' ρ' → R c ρ' → E (.ref c) none H'
theorem am_nil : PA X [] (liftAd X.K C E dNilM) := pa_nil.wk fun σ H Q q => by
  obtain ⟨B, O0, O, ρ, P, R, k, q, hP, hR⟩ := q
  exact hP [] [] H ρ O k (fun _ h => nomatch h) (fun _ => rfl) q
theorem am_cons {es : List Expr} {p : DEM} {q : DAM} (ha : PE X a (liftM X.K C E p)) (hr : PA X es (liftAd X.K C E q)) (hs : starEach (a :: es) X.env = (false, eval a X.env) :: starEach es X.env := by rfl) : PA X (a :: es) (liftAd X.K C E (dConsM p q)) := (pa_cons ha hr hs).wk fun σ H Q q => by
  obtain ⟨B, O0, O, ρ, P, R, k, q, hP, hR⟩ := q
  refine ⟨B, O0, O, ρ, _, R, k, q, fun v d H1 ρ1 O1 k1 r1 q1 => ?_, hR⟩
  obtain ⟨⟨c, rfl⟩, q1⟩ := q1
  have ev : v = V.ref c := r1
  subst ev
  exact ⟨B, O0, O1, ρ1, _, R, k1, q1, fun vs ds H2 ρ2 O2 k2 hd r2 q2 => hP (.ref c :: vs) (.adr c :: ds) H2 ρ2 O2 k2 (fun d hm => by
    rcases List.mem_cons.mp hm with rfl | hm
    · exact ⟨c, rfl⟩
    · exact hd d hm) (fun H'' => ⟨.ref c, vs, rfl, rfl, r2 H''⟩) q2, hR⟩
def dLsM (q : DAM) : DEM := fun ρ P R => q ρ (fun ds ρ' => ds.length ≤ sizeLine ∧ ∃ j : Nat, ∀ p, P (.adr p) (ρ'.set j (some (.ls p ds)))) R
theorem pm_lsM {es : List Expr} {q : DAM} (h : PA X es (liftAd X.K C E q)) : PE X (.List es pos) (liftM X.K C E (dLsM q)) := (pe_lst h).wk fun σ H Q q => by
  obtain ⟨B, O0, O, ρ, P, R, k, q, hP, hR⟩ := q
  refine ⟨B, O0, O, ρ, _, R, k, q, fun vs ds H1 ρ1 O1 k1 hd r1 q1 => ?_, hR⟩
  refine ⟨by rw [RepL.length (r1 (fun _ => none))]; exact q1.1, fun p hp => ?_⟩
  obtain ⟨j, q2⟩ := q1.2
  exact hP (.ref p) (.adr p) _ _ _ (k1.newL j hp (r1 _)) rfl (q2 p)
/-- o[i] = e, o a list that slot l tells of -/
def dSetIx (l : Nat) (pe : DEM) (po pi : DE) : DSM := fun ρ N _ Z => pe ρ (fun v ρ' => po ρ' (fun x => pi ρ' (fun i => match x, i, ρ'[l]? with
  | .adr a, .int n, some (some (.ls b ds)) => a = b ∧ (∃ c, v = .adr c) ∧ ∃ m, ixN ds.length n = some m ∧ N (ρ'.set l (some (.ls b (ds.set m v))))
  | _, _, _ => False) (fun c => Z c ρ')) (fun c => Z c ρ')) Z
theorem RepL.set {K : PySem.W.Frag} {H : Hp} {d : D} {v : V} (r : Rep K C H d v) : ∀ {ds : List D} {vs : List V} (m : Nat), RepL K C H ds vs → RepL K C H (ds.set m d) (vs.set m v)
  | [], vs, m, h => by
    have e : _ = _ := h
    subst e
    rfl
  | x :: ds, vs, 0, h => by
    obtain ⟨w, us, rfl, h1, h2⟩ := h
    exact ⟨v, us, rfl, r, h2⟩
  | x :: ds, vs, m + 1, h => by
    obtain ⟨w, us, rfl, h1, h2⟩ := h
    exact ⟨w, us.set m v, rfl, h1, RepL.set r m h2⟩
theorem sm_setIx {i : Expr} {pe : DEM} {po pi : DE} {p2 : Pos} (l : Nat) (he : PE X e (liftM X.K C E pe)) (ho : PE X o (lift X.K C E po)) (hi : PE X i (lift X.K C E pi))
    (hs : swapsWithSole [.Subscript o i p2] e pos.line X.env = pure false := by rfl) (hw : swappedStores [.Subscript o i p2] e X.env = pure none := by rfl) (h1 : (assignEach [.Subscript o i p2] X.env).map (·.2) = [assign (.Subscript o i p2) X.env] := by rfl)
    (ha : ∀ v, assign (.Subscript o i p2) X.env v = (do
      let ov ← holding [v] (eval o X.env)
      let iv ← holding [v, ov] (eval i X.env)
      standAt p2
      holding [v, ov, iv] (setItem ov iv v)
      release [v, ov, iv] []) := by intro _; rfl) : PS X (.Assign [.Subscript o i p2] e pos) (liftSM X.K C E (dSetIx l pe po pi)) := (ps_asg he (pg_sub ho hi set_list ha) hs hw h1).wk fun T' σ H q => by
  obtain ⟨B, O0, O, ρ, N, R, Z, k, q, hN, hR, hZ⟩ := q
  refine ⟨B, O0, O, ρ, _, _, k, q, fun v d H1 ρ1 O1 k1 r1 q1 => ?_, hZ⟩
  refine ⟨B, O0, O1, ρ1, _, _, k1, q1, fun x dx H2 s2 r2 q2 => ⟨B, O0, O1, ρ1, _, _, k1.ext s2, q2, fun y dy H3 s3 r3 q3 => ?_, fun c H' s' z => hZ c H' σ ρ1 O1 ((k1.ext s2).ext s') z⟩, fun c H' s' z => hZ c H' σ ρ1 O1 (k1.ext s') z⟩
  have k3 := (k1.ext s2).ext s3
  have r2' := Rep.mono (wo_same O1 s3) dx r2
  split at q3
  · rename_i a' n b' ds hl
    obtain ⟨rfl, ⟨c, rfl⟩, m, hm, q4⟩ := q3
    obtain ⟨_, _, vs, g3, g4⟩ := k3.ls.at_ l _ ds hl
    have ev : v = V.ref c := r1
    subst ev
    exact ⟨_, vs, n, m, r2', r3, g3, by rw [RepL.length g4]; exact hm, hN σ _ _ O1 (k3.mutL hl (RepL.set (d := .adr c) (v := .ref c) rfl m g4)) q4⟩
  · exact q3.elim
end
end L2.DL
/-! # What the store's things are asked and told, by address -/
namespace L2.DL
open PySem PySem.Spec PyProof.Rows L2.SK
section
variable {X : Cx} {C : Addr} {E : XK} {pos : Pos} {a e o : Expr}
/-- o.append(e), o a list in the store -/
def dAppX (po pe : DE) : DS := fun ρ N _ Z => po ρ (fun x => ∃ (l : Nat) (q : Addr) (ds : List D), x = .adr q ∧ ρ[l]? = some (some (.ls q ds)) ∧ pe ρ (fun d => ds.length < sizeLine ∧ N (ρ.set l (some (.ls q (ds ++ [d]))))) Z) Z
theorem sd_appX {po pe : DE} {apos cpos : Pos} (ho : PE X o (lift X.K C E po)) (he : PE X e (lift X.K C E pe))
    (hw : ∀ (t : TE), PE X e t → PE X (.Call (.Attribute o "append" apos) [e] [] cpos) (tBM X.K "list" rAppend (lift X.K C E po) (tCons t tNil)))
    (hs : swapsWith (.Call (.Attribute o "append" apos) [e] [] cpos) none pos.line X.env = pure false := by rfl) : PS X (.Expr (.Call (.Attribute o "append" apos) [e] [] cpos) pos) (liftS X.K C E (dAppX po pe)) := (ps_expr (hw _ he) hs).wk fun T' σ H q => by
  obtain ⟨B, O0, O, ρ, N, R, Z, k, q, hN, hR, hZ⟩ := q
  refine ⟨B, O0, O, ρ, _, _, k, q, fun x dx H1 s1 r1 q1 => ?_, fun c H' s' z => hZ c H' (k.base.trans s') z⟩
  obtain ⟨l, y, ds, rfl, hl, q2⟩ := q1
  have k1 := k.ext s1
  have ex : x = V.ref y := r1
  subst ex
  obtain ⟨_, _, vs, h3, h4⟩ := k1.ls.at_ l y ds hl
  refine ⟨.inl ⟨rfl, vs, SqL.of h3⟩, B, O0, O, ρ, _, _, k1, q2, fun v d H2 s2 r2 q3 => ?_, fun c H' s' z => hZ c H' (k1.base.trans s') z⟩
  have k2 := k1.ext s2
  obtain ⟨_, _, vs', h5, h6⟩ := k2.ls.at_ l y ds hl
  refine ⟨y, vs', v, rfl, rfl, h5, by rw [RepL.length h6]; exact q3.1, ?_⟩
  exact hN σ _ _ O (k2.mutL hl (h6.append (RepL.one r2))) q3.2
/-- list(o), o a list in the store: a new one in the store -/
def dCopyL (po : DE) : DEM := fun ρ P R => po ρ (fun x => ∃ (l : Nat) (q : Addr) (ds : List D), x = .adr q ∧ ρ[l]? = some (some (.ls q ds)) ∧ ∃ j : Nat, ∀ p, P (.adr p) (ρ.set j (some (.ls p ds)))) (fun c => R c ρ)
theorem pm_copyL {po : DE} {np : Pos} (nb : X.mg "list" = none) (ho : PE X o (lift X.K C E po)) (hg : Gl X "list" := by rfl) (hs : starEach [o] X.env = (false, eval o X.env) :: starEach [] X.env := by rfl) (hpl : (backTo pos (starEach [] X.env)).any (·.1) = false := by rfl) :
    PE X (.Call (.Name "list" np) [o] [] pos) (liftM X.K C E (dCopyL po)) := (pe_callTy call_list_of hg nb bt_list (pa_cons ho pa_nil hs) (by decide) (by decide) hs hpl).wk fun σ H Q q => by
  obtain ⟨B, O0, O, ρ, P, R, k, q, hP, hR⟩ := q
  refine ⟨B, O0, O, ρ, _, _, k, q, fun x dx H1 s1 r1 q1 => ?_, fun c H' s' z => hR c H' σ ρ O (k.ext s') z⟩
  obtain ⟨l, y, ds, rfl, hl, j, q2⟩ := q1
  have k1 := k.ext s1
  have ex : x = V.ref y := r1
  subst ex
  obtain ⟨_, _, vs, h3, h4⟩ := k1.ls.at_ l y ds hl
  exact ⟨y, vs, rfl, .inl (SqL.of h3), fun p hp => hP (.ref p) (.adr p) _ _ _ (k1.newL j hp h4) rfl (q2 p)⟩
/-- o.copied(), o a Keeper in the store: a new one in the store -/
def dCopyK (t : DNp) (po : DE) : DEM := fun ρ P R => po ρ (fun x => ∃ (i : Nat) (q : Addr) (b : Bool) (ts : List Int), x = .adr q ∧ ρ[i]? = some (some (.kst q b ts)) ∧ t [.kp b ts] (fun b' ts' => ∃ j : Nat, ∀ y, P (.adr y) (ρ.set j (some (.kst y b' ts'))))) (fun c => R c ρ)
theorem pm_copyK {n : Nat} {m : Str} {t : DNp} {po : DE} {apos : Pos} (T : Kp X.K X.mg C) (M : Mn X.prog X.w X.K X.mg X.base C n m t) (hr : Room n X.A) (hx : Passes (L2.CX X.prog X.w) X E) (ho : PE X o (lift X.K C E po))
    (hm1 : ¬ m = "begins" := by decide) (hm2 : ¬ m = "turns" := by decide) {pl : Sem Bool}
    (ht : eval (.Call (.Attribute o m apos) [] [] pos) X.env = (do
      let ov ← eval o X.env
      standAt apos.atName
      let (f, first) ← holding [ov] (getMethod ov m pl)
      callWith pos f first (backTo pos (starEach [] X.env)) (backToKw pos (keywordEach [] X.env))) := by rfl) :
    PE X (.Call (.Attribute o m apos) [] [] pos) (liftM X.K C E (dCopyK t po)) := by
  obtain ⟨f, fd, ps, G, hm, hb⟩ := M.ex
  refine (pe_meth0 ho T.cl hm G hr hb .nil hx ht).wk fun σ H Q q => ?_
  obtain ⟨B, O0, O, ρ, P, R, k, q, hP, hR⟩ := q
  refine ⟨B, O0, O, ρ, _, _, k, q, fun x d H1 s1 r1 q1 => ?_, fun c H' s' z => hR c H' σ ρ O (k.ext s') z⟩
  obtain ⟨i, y, b, ts, rfl, hj, q2⟩ := q1
  have k1 := k.ext s1
  obtain ⟨hp, hb', dx, l, h1, h2⟩ := k1.st.at_ i y b ts hj
  have ex : x = V.ref y := r1
  subst ex
  refine ⟨y, dx, _, rfl, h1, kf_no b l hm1 hm2, ?_⟩
  refine ⟨less1 O y, [.kp b ts], _, fun c hc => k1.al c (less1_sub hc), ⟨.ref y, [], rfl, ⟨y, dx, l, rfl, wo_of h1 less1_ne, wo_sub H1 (fun c hc => less1_sub hc) _ _ h2⟩, rfl⟩, q2, fun z dx' l' b' ts' H' s hz g1 g2 p => ?_⟩
  obtain ⟨j, p⟩ := p
  -- the new one's list leans on no Keeper's place
  have hy' : H' y = some (.ins C dx (kf b l)) := s _ _ h1
  have g2' : wo H' (z :: O) l' = some (.lst (ts'.map V.int)) := wo_of (wo_some g2) fun m => by
    by_cases q : l' = y
    · have := wo_some g2
      rw [q, hy'] at this
      cases this
    · have hn : l' ∈ z :: less1 O y := by
        rcases List.mem_cons.mp m with m | m
        · rw [m]; exact List.mem_cons_self
        · exact List.mem_cons_of_mem _ (less1_mem m q)
      unfold wo at g2
      rw [if_pos hn] at g2
      cases g2
  exact hP _ (.adr z) H' _ _ (k1.newK j s hz g1 g2') rfl (p z)
/-- a call that changes its first argument, a Keeper in the store -/
def dMutX (t : DM) (pe : DE) (q : DA) : DEM := fun ρ P R => pe ρ (fun x => q ρ (fun ds => ∃ j, mutQ j t ds P R ρ x) (fun c => R c ρ)) (fun c => R c ρ)
theorem pm_fX {p : Pos} {x : Str} {n : Nat} {es : List Expr} {t : DM} {pe : DE} {q : DA} (F : Fm X.prog X.w X.K X.mg X.base C n x t) (hr : Room n X.A) (hg : Gl X x)
    (hx : Passes (L2.CX X.prog X.w) X E) (he : PE X a (lift X.K C E pe)) (ha : PA X es (liftA X.K C E q)) (hs : starEach (a :: es) X.env = (false, eval a X.env) :: starEach es X.env := by rfl)
    (hdb : (x == ("__debug__" : Str)) = false := by decide) (hpl : (backTo pos (starEach es X.env)).any (·.1) = false := by rfl) :
    PE X (.Call (.Name x p) (a :: es) [] pos) (liftM X.K C E (dMutX t pe q)) := by
  obtain ⟨f, fd, ps, G, hm, hk, hb⟩ := F.ex
  refine (pe_call G hr hg hm hk hb .nil hx (pa_cons he ha hs) hdb hs hpl).wk fun σ H Q h => ?_
  obtain ⟨B, O0, O, ρ, P, R, k, h, hP, hR⟩ := h
  refine ⟨B, O0, O, ρ, _, _, k, h, fun x d H1 s1 r1 h1 => ⟨B, O0, O, ρ, _, _, k.ext s1, h1, fun vs ds H2 s2 r2 h2 => ?_, fun c H' s' z => hR c H' σ ρ O ((k.ext s1).ext s') z⟩, fun c H' s' z => hR c H' σ ρ O (k.ext s') z⟩
  obtain ⟨j, h2⟩ := h2
  show spM X.K C t ((x :: vs) ++ []) H2 Q E
  rw [List.append_nil]
  exact mut_call ((k.ext s1).ext s2) (Rep.mono (wo_same O s2) d r1) r2 h2 hP hR
/-- the list in slot i, in the store, as a value -/
theorem Ok.lendL {K : PySem.W.Frag} {B H : Hp} {O0 O : List Addr} {σ : St} {ρ : Env} (k : Ok K C B O0 O H σ ρ) {i j : Nat} {p : Addr} {ds : List D} (hi : ρ[i]? = some (some (.v (.adr p)))) (hj : ρ[j]? = some (some (.ls p ds))) :
    Ok K C B O0 (less1 O p) H σ ((ρ.set i (some (.v (.lst ds)))).set j none) := by
  obtain ⟨hp, hb, vs, h1, h2⟩ := k.ls.at_ j p ds hj
  have jl : j < ρ.length := by
    rcases Nat.lt_or_ge j ρ.length with h | h
    · exact h
    · rw [List.getElem?_eq_none h] at hj; cases hj
  have sw : Same (wo H O) (wo H (less1 O p)) := wo_sub H fun a ha => less1_sub ha
  have old : ∀ {m : Nat} {x : DV}, ((ρ.set i (some (.v (.lst ds)))).set j none)[m]? = some (some x) → (m = i ∧ x = .v (.lst ds)) ∨ (ρ[m]? = some (some x) ∧ m ≠ j ∧ m ≠ i) := fun {m x} e => by
    by_cases h : j = m
    · subst h
      rw [List.getElem?_set_self (by rw [List.length_set]; exact jl)] at e
      simp at e
    · rw [List.getElem?_set_ne h] at e
      by_cases h' : i = m
      · subst h'
        by_cases hl : i < ρ.length
        · rw [List.getElem?_set_self hl] at e
          exact .inl ⟨rfl, (Option.some.inj (Option.some.inj e)).symm⟩
        · rw [List.getElem?_eq_none (by rw [List.length_set]; omega)] at e
          cases e
      · rw [List.getElem?_set_ne h'] at e
        exact .inr ⟨e, fun z => h z.symm, fun z => h' z.symm⟩
  obtain ⟨y, e1, e2⟩ := k.val i _ hi
  have ey : y = V.ref p := e2
  subst ey
  refine ⟨k.base, k.al0, fun a ha => k.al a (less1_sub ha), fun a ha => less1_mem (k.sub0 a ha) fun z => k.apart0 hb (z ▸ ha), fun a ha n => k.new a (less1_sub ha) n, by rw [List.length_set, List.length_set]; exact k.len, fun m d e => ?_, fun m es e => ?_, fun a a' es fs e1 e2 e3 => ?_, ?_, ?_, k.tb.to (fun m P q e => ?_) (fun P ps e h => less1_mem h fun z => by rw [z, h1] at e; cases e) (SameX.refl _) (fun _ _ h => h)⟩
  rotate_right
  · rcases old e with ⟨_, z⟩ | ⟨e, _, _⟩
    · cases z
    · exact e
  · rcases old e with ⟨rfl, z⟩ | ⟨e, _, _⟩
    · cases z
      exact ⟨.ref p, e1, p, vs, rfl, wo_of h1 less1_ne, RepL.mono sw ds h2⟩
    · obtain ⟨x, a1, a2⟩ := k.val m d e
      exact ⟨x, a1, Rep.mono sw d a2⟩
  · rcases old e with ⟨_, z⟩ | ⟨e, _, _⟩
    · cases z
    · obtain ⟨q, us, a1, a2, a3, a4, a5⟩ := k.own m es e
      exact ⟨q, us, a1, less1_mem a2 (fun z => k.ls.no j m p ds es hj e (by rw [a1, z])), a3, a4, RepL.mono sw es a5⟩
  · rcases old e1 with ⟨_, z⟩ | ⟨e1, _, _⟩
    · cases z
    · rcases old e2 with ⟨_, z⟩ | ⟨e2, _, _⟩
      · cases z
      · exact k.uniq a a' es fs e1 e2 e3
  · refine k.st.to (fun m q c cs e => ?_) (fun q dx fs h e => less1_mem h fun z => by rw [z, h1] at e; cases e) (fun _ _ _ _ _ e _ => e) sw (fun _ _ h => h)
    rcases old e with ⟨_, z⟩ | ⟨e, _, _⟩
    · cases z
    · exact e
  · refine ⟨fun m q es e => ?_, fun m m' q es fs e1 e2 => ?_, fun m m' q es fs e1 e2 => ?_⟩
    · rcases old e with ⟨_, z⟩ | ⟨e, n, _⟩
      · cases z
      · obtain ⟨a1, a2, us, a3, a4⟩ := k.ls.at_ m q es e
        exact ⟨less1_mem a1 fun z => n (k.ls.one m j p es ds (z ▸ e) hj), a2, us, a3, RepL.mono sw es a4⟩
    · rcases old e1 with ⟨_, z⟩ | ⟨e1, _, _⟩
      · cases z
      · rcases old e2 with ⟨_, z⟩ | ⟨e2, _, _⟩
        · cases z
        · exact k.ls.one m m' q es fs e1 e2
    · rcases old e1 with ⟨_, z⟩ | ⟨e1, _, _⟩
      · cases z
      · rcases old e2 with ⟨_, z⟩ | ⟨e2, _, _⟩
        · cases z
        · exact k.ls.no m m' q es fs e1 e2
/-- slot i's list lent to a test; to an expression that is a flat thing -/
def dLendXT (i : Nat) (t : DT) : DT := fun ρ P R => ∃ (j : Nat) (p : Addr) (ds : List D), ρ[i]? = some (some (.v (.adr p))) ∧ ρ[j]? = some (some (.ls p ds)) ∧ t ((ρ.set i (some (.v (.lst ds)))).set j none) P R
theorem qd_lendX {t : DT} (i : Nat) (h : PT X e (liftT X.K C E t)) : PT X e (liftT X.K C E (dLendXT i t)) := h.wk fun σ H Q q => by
  obtain ⟨B, O0, O, ρ, P, R, k, ⟨j, p, ds, hi, hj, q⟩, hP, hR⟩ := q
  exact ⟨B, O0, _, _, P, R, k.lendL hi hj, q, hP, hR⟩
def dLendX (i : Nat) (t : DE) : DE := fun ρ P R => ∃ (j : Nat) (p : Addr) (ds : List D), ρ[i]? = some (some (.v (.adr p))) ∧ ρ[j]? = some (some (.ls p ds)) ∧ t ((ρ.set i (some (.v (.lst ds)))).set j none) (fun d => flatD d = true ∧ P d) R
theorem rep_flat {K : PySem.W.Frag} {H H' : Hp} {d : D} {v : V} (h : flatD d = true) (r : Rep K C H d v) : Rep K C H' d v := by
  cases d <;> first | exact r | cases h
theorem pd_lendX {t : DE} (i : Nat) (h : PE X e (lift X.K C E t)) : PE X e (lift X.K C E (dLendX i t)) := h.wk fun σ H Q q => by
  obtain ⟨B, O0, O, ρ, P, R, k, ⟨j, p, ds, hi, hj, q⟩, hP, hR⟩ := q
  exact ⟨B, O0, _, _, _, R, k.lendL hi hj, q, fun v d H' s' r p => hP v d H' s' (rep_flat p.1 r) p.2, hR⟩
end
end L2.DL
/-! # for x, y in zip(a, b), a and b lists in the store -/
namespace L2.DL
open PySem PySem.Spec PyProof.Rows L2.SK
def forZ (l1 l2 : Nat) (a b : Addr) (g : DG) (bd : DS) (N : Env → Prop) (R : D → Prop) (Z : Addr → Prop) : Nat → Nat → Env → Prop
  | 0, i, ρ => (∃ ds es : List D, ρ[l1]? = some (some (.ls a ds)) ∧ ρ[l2]? = some (some (.ls b es)) ∧ (ds.length ≤ i ∨ es.length ≤ i)) ∧ N ρ
  | n + 1, i, ρ => ∃ (ds es : List D) (x y : D), ρ[l1]? = some (some (.ls a ds)) ∧ ρ[l2]? = some (some (.ls b es)) ∧ ds[i]? = some x ∧ es[i]? = some y ∧ g (.tup [x, y]) ρ (fun ρ' => bd ρ' (fun ρ'' => forZ l1 l2 a b g bd N R Z n (i + 1) ρ'') R Z)
def dForZ (l1 l2 : Nat) (q : DA) (g : DG) (bd : DS) : DS := fun ρ N R Z => q ρ (fun ds => match ds with
  | [.adr a, .adr b] => (∃ ds es : List D, ρ[l1]? = some (some (.ls a ds)) ∧ ρ[l2]? = some (some (.ls b es))) ∧ ∃ n, forZ l1 l2 a b g bd N R Z n 0 ρ
  | _ => False) Z
section
variable {X : Cx} {C : Addr} {E : XK} {pos : Pos}
theorem sd_forZ {e1 e2 : Expr} {elts : List Expr} {kk : Nat} {tpos p cpos : Pos} {body : List Stmt} {q : DA} {js : List Nat} {g : DG} {bd : DS} (l1 l2 : Nat) (hp : PassesOwn (model X.prog X.w) X.A X.env X.xe) (hc : X.calm = true) (hm : X.mg "zip" = none) (ha : PA X [e1, e2] (liftA X.K C E q)) (hg : PG X (.Tuple elts kk tpos) (liftG X.K C js g)) (hb : PSs X body (liftS X.K C E bd)) (hgl : Gl X "zip" := by rfl)
    (hs0 : starEach [e1, e2] X.env = (false, eval e1 X.env) :: starEach [e2] X.env := by rfl) (hpl : (backTo cpos (starEach [e2] X.env)).any (·.1) = false := by rfl) (hs : ∀ x, foldedSetIterable (.Call (.Name "zip" p) [e1, e2] [] cpos) X.env x = pure x := by intro _; rfl) :
    PS X (.For (.Tuple elts kk tpos) (.Call (.Name "zip" p) [e1, e2] [] cpos) body [] pos) (liftS X.K C E (dForZ l1 l2 q g bd)) := (ps_for hp hc (pi_zip hgl hm ha hs0 hpl) hg hb hs).wk fun T' σ H q => by
  obtain ⟨B, O0, O, ρ, N, R, Z, k, q, hN, hR, hZ⟩ := q
  refine ⟨B, O0, O, ρ, _, Z, k, q, fun vs ds H1 s1 r1 q1 => ?_, fun c H' s' z => hZ c H' (k.base.trans s') z⟩
  split at q1
  · rename_i a b
    obtain ⟨⟨ds1, es1, h1, h2⟩, n, hf⟩ := q1
    obtain ⟨v, _, rfl, ra, v2, _, rfl, rb, r3⟩ := r1
    have e3 : _ = _ := r3
    subst e3
    have ev : v = V.ref a := ra
    have ev2 : v2 = V.ref b := rb
    subst ev ev2
    have k1 := k.ext s1
    obtain ⟨_, _, xs, g1, _⟩ := k1.ls.at_ l1 a ds1 h1
    obtain ⟨_, _, ys, g2, _⟩ := k1.ls.at_ l2 b es1 h2
    have kB : Same B (mid B H1 O) := k1.base_mid
    refine ⟨a, b, xs, ys, rfl, SqL.of g1, SqL.of g2, ?_⟩
    refine ⟨fun i m σ' H' => ∃ O' ρ', Ok X.K C (mid B H1 O) O0 O' H' σ' ρ' ∧ forZ l1 l2 a b g bd N R Z m i ρ', ⟨n, O, ρ, k1.mid, hf⟩, ?_⟩
    rintro i m σ' H' ⟨O', ρ', k', hf'⟩
    cases m with
    | zero =>
      obtain ⟨⟨ds, es, z1, z2, z3⟩, hf'⟩ := hf'
      obtain ⟨_, _, xs', g3, g4⟩ := k'.ls.at_ l1 a ds z1
      obtain ⟨_, _, ys', g5, g6⟩ := k'.ls.at_ l2 b es z2
      exact .inl ⟨⟨xs', ys', SqL.of g3, SqL.of g5, by rw [RepL.length g4, RepL.length g6]; exact z3⟩, hN σ' H' ρ' O' (k'.less kB k1.al0) hf'⟩
    | succ m =>
      obtain ⟨ds, es, x, y, z1, z2, z3, z4, hf'⟩ := hf'
      obtain ⟨_, _, xs', g3, g4⟩ := k'.ls.at_ l1 a ds z1
      obtain ⟨_, _, ys', g5, g6⟩ := k'.ls.at_ l2 b es z2
      obtain ⟨vx, w1, w2⟩ := RepL.get g4 z3
      obtain ⟨vy, w3, w4⟩ := RepL.get g6 z4
      refine .inr ⟨⟨xs', ys', vx, vy, SqL.of g3, SqL.of g5, w1, w3⟩, fun σ2 H2 => ∃ O2 ρ2, Ok X.K C (mid B H1 O) O0 O2 H2 σ2 ρ2 ∧ forZ l1 l2 a b g bd N R Z m (i + 1) ρ2, fun σ2 H2 ⟨O2, ρ2, k2, h2⟩ => ⟨m, Nat.lt_succ_self _, O2, ρ2, k2, h2⟩, fun v H'' yd => ?_⟩
      obtain ⟨T, x', y', rfl, hT, rfl, y1, y2⟩ := yd
      have ex : x' = vx := Option.some.inj ((y1 xs' (SqL.of g3)).symm.trans w1)
      have ey : y' = vy := Option.some.inj ((y2 ys' (SqL.of g5)).symm.trans w3)
      subst ex ey
      have rx := rep_new_tup hT k'.al (show RepL X.K C (wo H' O') [x, y] [x', y'] from ⟨x', [y'], rfl, w2, RepL.one w4⟩)
      refine ⟨_, O0, O', ρ', _, _, k'.ext (Same.new hT), rx, hf', fun σ3 ρ3 k3 _ h3 => ?_⟩
      exact ⟨_, O0, O', ρ3, _, R, Z, k3, h3, fun σ4 H4 ρ4 O4 k4 h4 => ⟨O4, ρ4, k4, h4⟩, fun v d H4 s4 r p => hR v d H4 (kB.trans s4) r p, fun c H4 s4 z => hZ c H4 (kB.trans s4) z⟩
  · exact q1.elim
end
end L2.DL
namespace L2.DL
open PySem PySem.Spec PyProof.Rows L2.SK
section
variable {X : Cx} {C : Addr} {E : XK} {pos : Pos}
/-- x = o.m(), a list that the method makes; o: a Keeper in the store -/
def dSetFX (i io : Nat) (t : DFp) : DS := fun ρ N R Z => ∃ j : Nat, dSetF i io j t ρ N R Z
theorem sd_setFX {i io n : Nat} {x y m : Str} {t : DFp} {apos cpos np pos' : Pos} (T : Kp X.K X.mg C) (M : Mf X.prog X.w X.K X.mg X.base C n m t) (hr : Room n X.A) (hx' : Passes (L2.CX X.prog X.w) X E) (hN : X.N.Nodup) (hi : X.N[i]? = some x) (hx : Loc X.env.scope x) (hv : PE X (.Name y np) (tVar io))
    (hm1 : ¬ m = "begins" := by decide) (hm2 : ¬ m = "turns" := by decide)
    (hs : swapsWith (.Call (.Attribute (.Name y np) m apos) [] [] cpos) (some (.Name x pos')) pos.line X.env = pure false := by rfl) (hf : X.fn x = true ∨ X.env.scope.names.lookup x = some .local := by first | exact .inl rfl | exact .inr rfl | assumption) {pl : Sem Bool}
    (ht : eval (.Call (.Attribute (.Name y np) m apos) [] [] cpos) X.env = (do
      let ov ← eval (.Name y np) X.env
      standAt apos.atName
      let (f, first) ← holding [ov] (getMethod ov m pl)
      callWith cpos f first (backTo cpos (starEach [] X.env)) (backToKw cpos (keywordEach [] X.env))) := by rfl) :
    PS X (.Assign [.Name x pos'] (.Call (.Attribute (.Name y np) m apos) [] [] cpos) pos) (liftS X.K C E (dSetFX i io t)) :=
  ⟨fun pins s σ H D I q => by
    obtain ⟨B, O0, O, ρ, N, R, Z, k, ⟨j, q⟩, h⟩ := q
    exact (sd_setF (j := j) T M hr hx' hN hi hx hv hm1 hm2 hs hf ht).run pins s σ H D I ⟨B, O0, O, ρ, N, R, Z, k, q, h⟩⟩
end
end L2.DL
namespace L2.DL
open PySem PySem.Spec PyProof.Rows L2.SK
theorem atI_2 {α : Type} (x y z : α) (xs : List α) : atI (x :: y :: z :: xs) 2 = some z := by
  unfold atI ixN
  rw [if_pos (by decide), if_pos (by simp only [List.length_cons]; omega)]
  rfl
/-- the slots of law k10: three Keepers, three lists of deeds -/
abbrev env10 (cs : List Int) (a b p0 p1 p2 q0 q1 q2 : Addr) (r0 r1 r2 : KRow) (d0 d1 d2 : List Deed) (u3 u4 u5 u6 u7 u8 u9 u10 u11 : Option DV) : Env :=
  [some (.v (.scr cs)), some (.v (.adr a)), some (.v (.adr b)), u3, u4, u5, u6, u7, u8, u9, u10, u11, some (.ls a [.adr p0, .adr p1, .adr p2]), some (.ls b [.adr q0, .adr q1, .adr q2]),
    some (.kst p0 r0.b r0.ts), some (.kst p1 r1.b r1.ts), some (.kst p2 r2.b r2.ts), some (.ls q0 (d0.map dD)), some (.ls q1 (d1.map dD)), some (.ls q2 (d2.map dD))]
end L2.DL
/-! # Promises that tell the Keeper's address; two Keepers in the store; fresh lists by a sum; either of two readings -/
namespace L2.DL
open PySem PySem.Spec PyProof.Rows L2.SK
/-! ### either of two readings -/
section
variable {X : Cx} {C : Addr} {E : XK} {pos : Pos} {a e o : Expr} {st : Stmt}
def dOrE (p q : DEM) : DEM := fun ρ P R => p ρ P R ∨ q ρ P R
theorem pm_or {p q : DEM} (h1 : PE X e (liftM X.K C E p)) (h2 : PE X e (liftM X.K C E q)) : PE X e (liftM X.K C E (dOrE p q)) :=
  ⟨fun pins s σ H Q I h => by
    obtain ⟨B, O0, O, ρ, P, R, k, h | h, hP, hR⟩ := h
    · exact h1.run pins s σ H Q I ⟨B, O0, O, ρ, P, R, k, h, hP, hR⟩
    · exact h2.run pins s σ H Q I ⟨B, O0, O, ρ, P, R, k, h, hP, hR⟩⟩
def dOrS (p q : DS) : DS := fun ρ N R Z => p ρ N R Z ∨ q ρ N R Z
theorem sd_or {p q : DS} (h1 : PS X st (liftS X.K C E p)) (h2 : PS X st (liftS X.K C E q)) : PS X st (liftS X.K C E (dOrS p q)) :=
  ⟨fun pins s σ H D I h => by
    obtain ⟨B, O0, O, ρ, N, R, Z, k, h | h, hN, hR, hZ⟩ := h
    · exact h1.run pins s σ H D I ⟨B, O0, O, ρ, N, R, Z, k, h, hN, hR, hZ⟩
    · exact h2.run pins s σ H D I ⟨B, O0, O, ρ, N, R, Z, k, h, hN, hR, hZ⟩⟩
end

/-! ### promises that tell the Keeper's address -/
abbrev DMA := Addr → DM
def spMA (K : PySem.W.Frag) (C : Addr) (t : DMA) : Sp := fun vs H Q E => ∃ p vs', vs = .ref p :: vs' ∧ spM K C (t p) vs H Q E
section
variable {P : Program} {w : World} {K : PySem.W.Frag} {mg : Str → Option Value} {base : Heap} {C : Addr}
theorem fnMA {x qual : Str} {st : Stmt} {f : Addr} {fd : FuncData} {N ps : List Str} {k : Nat} {t : DMA} {p : DSM} (j : Nat) (F : Fun K x qual st f fd) (S : FnScope N ps (defScope st))
    (body : ∀ (cdv : Value) (A : Around) (outer : List PySem.Env) (s : Shared) (H : Hp) (E : XK), Room k (A.deeper (envOfC qual (defScope st) s.heap.objs.size f cdv)) → PSs (cxD P w K mg base N qual (defScope st) f cdv A outer s H E) (defBody st) (liftSM K C E p))
    (h : ∀ (a : Addr) (b : Bool) (ts : List Int) (ds : List D) (T : Bool → List Int → D → Prop) (R : Addr → Bool → List Int → Prop), t a b ts ds T R → ds.length + 1 = ps.length ∧ p (startM N j a b ts ds)
      (fun ρ' => ∃ b' ts', ρ'[j]? = some (some (.kst a b' ts')) ∧ T b' ts' .non) (fun d ρ' => ∃ b' ts', ρ'[j]? = some (some (.kst a b' ts')) ∧ T b' ts' d) (fun c ρ' => ∃ b' ts', ρ'[j]? = some (some (.kst a b' ts')) ∧ R c b' ts')) : FnOk P w K mg base (L2.CX P w) (k + 1) f fd ps (spMA K C t) := by
  refine F.okX S (fun vs H Q E q => ?_) (fun cdv A outer s H vs Q E hr q => ⟨_, body cdv A outer s H E hr, ?_⟩)
  · obtain ⟨p0, v0, e0, O, p', vs', ds, b, ts, dx, l, T, R, rfl, hp, al, r, h1, h2, q, _⟩ := q
    cases e0
    rw [List.length_cons, RepL.length r]
    exact (h _ b ts ds T R q).1
  · obtain ⟨p0, v0, e0, O, a, vs', ds, b, ts, dx, l, T, R, rfl, hp, al, r, h1, h2, q, hT, hR⟩ := q
    have ea : a = p0 := by cases e0; rfl
    subst ea
    have fin : ∀ {H' : Hp} {σ' : St} {ρ' : Env} {O' : List Addr} {b' : Bool} {ts' : List Int}, Ok K C (wo H [a]) (less1 O a) O' H' σ' ρ' → ρ'[j]? = some (some (.kst a b' ts')) → ∃ dx' l', Same (wo H [a]) H' ∧ H' a = some (.ins C dx' (kf b' l')) ∧ wo H' O l' = some (.lst (ts'.map V.int)) ∧ Same (wo H' O') (wo H' O) := fun {H' σ' ρ' O' b' ts'} k' e => by
      obtain ⟨a1, a2, dx', l', a3, a4⟩ := k'.st.at_ j a b' ts' e
      have sub : ∀ q ∈ O, q ∈ O' := fun q hq => by
        by_cases z : q = a
        · rw [z]; exact a1
        · exact k'.sub0 q (less1_mem hq z)
      exact ⟨dx', l', k'.base, a3, wo_sub H' sub _ _ a4, wo_sub H' sub⟩
    refine ⟨wo H [a], less1 O a, O, _, _, _, _, startM_ok hp al r h1 h2 N j, (h a b ts ds T R q).2, fun σ' H' ρ' O' k' n => ?_, fun v d H' σ' ρ' O' k' r n => ?_, fun c H' σ' ρ' O' k' n => ?_⟩
    · obtain ⟨b', ts', e, n⟩ := n
      obtain ⟨dx', l', a1, a2, a3, a4⟩ := fin k' e
      exact hT .non .non H' b' ts' l' dx' a1 a2 a3 rfl n
    · obtain ⟨b', ts', e, n⟩ := n
      obtain ⟨dx', l', a1, a2, a3, a4⟩ := fin k' e
      exact hT v d H' b' ts' l' dx' a1 a2 a3 (Rep.mono a4 d r) n
    · obtain ⟨b', ts', e, n⟩ := n
      obtain ⟨dx', l', a1, a2, a3, a4⟩ := fin k' e
      exact hR c H' b' ts' l' dx' a1 a2 a3 n
/-- a method of Keeper that changes it, the promise knows its address -/
structure MmA (P : Program) (w : World) (K : PySem.W.Frag) (mg : Str → Option Value) (base : Heap) (C : Addr) (k : Nat) (m : Str) (t : DMA) : Prop where
  ex : ∃ (f : Addr) (fd : FuncData) (ps : List Str), FnOk P w K mg base (L2.CX P w) k f fd ps (spMA K C t) ∧ Meth K C m f ∧ Binds K fd ps []
structure FmA (P : Program) (w : World) (K : PySem.W.Frag) (mg : Str → Option Value) (base : Heap) (C : Addr) (k : Nat) (name : Str) (t : DMA) : Prop where
  ex : ∃ (f : Addr) (fd : FuncData) (ps : List Str), FnOk P w K mg base (L2.CX P w) k f fd ps (spMA K C t) ∧ mg name = some (.ref f) ∧ PySem.W.keepIn K (.ref f) = true ∧ Binds K fd ps []
end
section
variable {X : Cx} {C : Addr} {E : XK} {pos : Pos} {a e o : Expr}
/-- what is left when the Keeper d, told of in some slot, is handed to t -/
def mutA (t : DMA) (ds : List D) (P : D → Env → Prop) (R : Addr → Env → Prop) (ρ : Env) : D → Prop
  | .adr a => ∃ j, mutQ j (t a) ds P R ρ (.adr a)
  | _ => False
theorem mut_callA {K : PySem.W.Frag} {B : Hp} {O0 O : List Addr} {σ : St} {ρ : Env} {H : Hp} {Q : VK} {P : D → Env → Prop} {R : Addr → Env → Prop} {t : DMA} {x : V} {d : D} {vs : List V} {ds : List D} (k : Ok K C B O0 O H σ ρ) (rx : Rep K C (wo H O) d x) (rs : RepL K C (wo H O) ds vs)
    (q : mutA t ds P R ρ d) (hP : ∀ v d H' ρ' O', Ok K C B O0 O' H' σ ρ' → Rep K C (wo H' O') d v → P d ρ' → Q v H') (hR : ∀ c H' σ' ρ' O', Ok K C B O0 O' H' σ' ρ' → R c ρ' → E (.ref c) none H') :
    spMA K C t (x :: vs) H Q E := by
  cases d with
  | adr a =>
    obtain ⟨j, q⟩ := q
    have ex : x = V.ref a := rx
    subst ex
    exact ⟨a, vs, rfl, mut_call k rx rs q hP hR⟩
  | _ => exact q.elim
def dMutXA (t : DMA) (pe : DE) (q : DA) : DEM := fun ρ P R => pe ρ (fun x => q ρ (fun ds => mutA t ds P R ρ x) (fun c => R c ρ)) (fun c => R c ρ)
theorem pm_fXA {p : Pos} {x : Str} {n : Nat} {es : List Expr} {t : DMA} {pe : DE} {q : DA} (F : FmA X.prog X.w X.K X.mg X.base C n x t) (hr : Room n X.A) (hg : Gl X x)
    (hx : Passes (L2.CX X.prog X.w) X E) (he : PE X a (lift X.K C E pe)) (ha : PA X es (liftA X.K C E q)) (hs : starEach (a :: es) X.env = (false, eval a X.env) :: starEach es X.env := by rfl)
    (hdb : (x == ("__debug__" : Str)) = false := by decide) (hpl : (backTo pos (starEach es X.env)).any (·.1) = false := by rfl) :
    PE X (.Call (.Name x p) (a :: es) [] pos) (liftM X.K C E (dMutXA t pe q)) := by
  obtain ⟨f, fd, ps, G, hm, hk, hb⟩ := F.ex
  refine (pe_call G hr hg hm hk hb .nil hx (pa_cons he ha hs) hdb hs hpl).wk fun σ H Q h => ?_
  obtain ⟨B, O0, O, ρ, P, R, k, h, hP, hR⟩ := h
  refine ⟨B, O0, O, ρ, _, _, k, h, fun x d H1 s1 r1 h1 => ⟨B, O0, O, ρ, _, _, k.ext s1, h1, fun vs ds H2 s2 r2 h2 => ?_, fun c H' s' z => hR c H' σ ρ O ((k.ext s1).ext s') z⟩, fun c H' s' z => hR c H' σ ρ O (k.ext s') z⟩
  show spMA X.K C t ((x :: vs) ++ []) H2 Q E
  rw [List.append_nil]
  exact mut_callA ((k.ext s1).ext s2) (Rep.mono (wo_same O s2) d r1) r2 h2 hP hR
/-- a Keeper that some slot tells of -/
def recvX (ρ : Env) (d : D) : Prop := ∃ j, recv j ρ d
def dMutMXA (t : DMA) (e : DE) (q : DA) : DEM := fun ρ P R => e ρ (fun x => recvX ρ x ∧ q ρ (fun ds => mutA t ds P R ρ x) (fun c => R c ρ)) (fun c => R c ρ)
theorem pm_mXA {apos : Pos} {m : Str} {n : Nat} {es : List Expr} {t : DMA} {pe : DE} {q : DA} (T : Kp X.K X.mg C) (M : MmA X.prog X.w X.K X.mg X.base C n m t) (hr : Room n X.A) (hx : Passes (L2.CX X.prog X.w) X E)
    (ho : PE X o (lift X.K C E pe)) (ha : PA X (e :: es) (liftA X.K C E q)) (hm1 : ¬ m = "begins" := by decide) (hm2 : ¬ m = "turns" := by decide)
    (hst : starEach (e :: es) X.env = (false, eval e X.env) :: starEach es X.env := by rfl) (hpl : (backTo pos (starEach es X.env)).any (·.1) = false := by rfl) {pl : Sem Bool}
    (ht : eval (.Call (.Attribute o m apos) (e :: es) [] pos) X.env = (do
      let ov ← eval o X.env
      standAt apos.atName
      let (f, first) ← holding [ov] (getMethod ov m pl)
      callWith pos f first (backTo pos (starEach (e :: es) X.env)) (backToKw pos (keywordEach [] X.env))) := by rfl) :
    PE X (.Call (.Attribute o m apos) (e :: es) [] pos) (liftM X.K C E (dMutMXA t pe q)) := by
  obtain ⟨f, fd, ps, F, hm, hb⟩ := M.ex
  refine (pe_meth ho T.cl hm F hr hb .nil hx ha hst hpl ht).wk fun σ H Q h => ?_
  obtain ⟨B, O0, O, ρ, P, R, k, h, hP, hR⟩ := h
  refine ⟨B, O0, O, ρ, _, _, k, h, fun x d H1 s1 r1 h1 => ?_, fun c H' s' z => hR c H' σ ρ O (k.ext s') z⟩
  have k1 := k.ext s1
  obtain ⟨⟨j, hrec⟩, h1⟩ := h1
  obtain ⟨p, dx, b, l, rfl, e1⟩ := recv_at k1 r1 hrec
  refine ⟨p, dx, _, rfl, e1, kf_no b l hm1 hm2, B, O0, O, ρ, _, _, k1, h1, fun vs ds H2 s2 r2 h2 => ?_, fun c H' s' z => hR c H' σ ρ O (k1.ext s') z⟩
  show spMA X.K C t (V.ref p :: (vs ++ [])) H2 Q E
  rw [List.append_nil]
  exact mut_callA (k1.ext s2) (Rep.mono (wo_same O s2) d r1) r2 h2 hP hR
/-- f(x, y, ..): x and y two Keepers in the store, x changes -/
def mutXX (t : DM) (P : D → Env → Prop) (R : Addr → Env → Prop) (ρ : Env) (ds : List D) (x y : D) : Prop := ∃ (j j2 : Nat) (p q : Addr) (b b2 : Bool) (ts ts2 : List Int), x = .adr p ∧ y = .adr q ∧ j ≠ j2 ∧ ρ[j]? = some (some (.kst p b ts)) ∧ ρ[j2]? = some (some (.kst q b2 ts2)) ∧
  t b ts (.kp b2 ts2 :: ds) (fun b' ts' d => d.free ∧ P d (ρ.set j (some (.kst p b' ts')))) (fun c b' ts' => R c (ρ.set j (some (.kst p b' ts'))))
theorem mut_callXX {K : PySem.W.Frag} {B : Hp} {O0 O : List Addr} {σ : St} {ρ : Env} {H : Hp} {Q : VK} {P : D → Env → Prop} {R : Addr → Env → Prop} {t : DM} {x y : V} {d d2 : D} {vs : List V} {ds : List D} (k : Ok K C B O0 O H σ ρ) (rx : Rep K C (wo H O) d x) (ry : Rep K C (wo H O) d2 y) (rs : RepL K C (wo H O) ds vs)
    (q : mutXX t P R ρ ds d d2) (hP : ∀ v d H' ρ' O', Ok K C B O0 O' H' σ ρ' → Rep K C (wo H' O') d v → P d ρ' → Q v H') (hR : ∀ c H' σ' ρ' O', Ok K C B O0 O' H' σ' ρ' → R c ρ' → E (.ref c) none H') :
    spM K C t (x :: y :: vs) H Q E := by
  obtain ⟨j, j2, p, q', b, b2, ts, ts2, rfl, rfl, jj, hj, hj2, h⟩ := q
  have ex : x = V.ref p := rx
  have ey : y = V.ref q' := ry
  subst ex ey
  have pq : p ≠ q' := fun z => by
    subst z
    exact jj (k.st.one j j2 p b b2 ts ts2 hj hj2)
  obtain ⟨hp, hb, dx, l, h1, h2⟩ := k.st.at_ j p b ts hj
  obtain ⟨gp, gb, dx2, l2, g1, g2⟩ := k.st.at_ j2 q' b2 ts2 hj2
  have sw : Same (wo H O) (wo H (less1 O q')) := wo_sub H fun a ha => less1_sub ha
  have key : ∀ {H' : Hp} {l' : Addr} {ts' : List Int}, Same (wo H [p]) H' → wo H' (less1 O q') l' = some (.lst (ts'.map V.int)) → wo H' O l' = some (.lst (ts'.map V.int)) := fun {H' l' ts'} s' e2 => wo_of (wo_some e2) fun m => by
    have hq' : H' q' = some (.ins C dx2 (kf b2 l2)) := s' _ _ (wo_of g1 (by simpa using fun z => pq z.symm))
    by_cases z : l' = q'
    · have := wo_some e2
      rw [z, hq'] at this
      cases this
    · unfold wo at e2
      rw [if_pos (less1_mem m z)] at e2
      cases e2
  refine ⟨less1 O q', p, V.ref q' :: vs, .kp b2 ts2 :: ds, b, ts, dx, l, _, _, rfl, less1_mem hp pq, fun a ha => k.al a (less1_sub ha), ⟨V.ref q', vs, rfl, ⟨q', dx2, l2, rfl, wo_of g1 less1_ne, sw _ _ g2⟩, RepL.mono sw ds rs⟩, h1, sw _ _ h2, h, fun v d H' b' ts' l' dx' s' e1 e2 r p => ?_, fun c H' b' ts' l' dx' s' e1 e2 p => ?_⟩
  · have hq' : H' q' = some (.ins C dx2 (kf b2 l2)) := s' _ _ (wo_of g1 (by simpa using fun z => pq z.symm))
    exact hP v d H' _ O (k.mut hj s' e1 (key s' e2)) (Rep.back hq' p.1 r) p.2
  · exact hR c H' σ _ O (k.mut hj s' e1 (key s' e2)) p
def dMutXX (t : DM) (pe pe2 : DE) (q : DA) : DEM := fun ρ P R => pe ρ (fun x => pe2 ρ (fun y => q ρ (fun ds => mutXX t P R ρ ds x y) (fun c => R c ρ)) (fun c => R c ρ)) (fun c => R c ρ)
theorem pm_fXX {p : Pos} {x : Str} {n : Nat} {e2 : Expr} {es : List Expr} {t : DM} {pe pe2 : DE} {q : DA} (F : Fm X.prog X.w X.K X.mg X.base C n x t) (hr : Room n X.A) (hg : Gl X x)
    (hx : Passes (L2.CX X.prog X.w) X E) (he : PE X a (lift X.K C E pe)) (he2 : PE X e2 (lift X.K C E pe2)) (ha : PA X es (liftA X.K C E q)) (hs : starEach (a :: e2 :: es) X.env = (false, eval a X.env) :: starEach (e2 :: es) X.env := by rfl) (hs2 : starEach (e2 :: es) X.env = (false, eval e2 X.env) :: starEach es X.env := by rfl)
    (hdb : (x == ("__debug__" : Str)) = false := by decide) (hpl : (backTo pos (starEach (e2 :: es) X.env)).any (·.1) = false := by rfl) :
    PE X (.Call (.Name x p) (a :: e2 :: es) [] pos) (liftM X.K C E (dMutXX t pe pe2 q)) := by
  obtain ⟨f, fd, ps, G, hm, hk, hb⟩ := F.ex
  refine (pe_call G hr hg hm hk hb .nil hx (pa_cons he (pa_cons he2 ha hs2) hs) hdb hs hpl).wk fun σ H Q h => ?_
  obtain ⟨B, O0, O, ρ, P, R, k, h, hP, hR⟩ := h
  refine ⟨B, O0, O, ρ, _, _, k, h, fun x d H1 s1 r1 h1 => ⟨B, O0, O, ρ, _, _, k.ext s1, h1, fun y d2 H2 s2 r2 h2 => ⟨B, O0, O, ρ, _, _, (k.ext s1).ext s2, h2, fun vs ds H3 s3 r3 h3 => ?_, fun c H' s' z => hR c H' σ ρ O (((k.ext s1).ext s2).ext s') z⟩, fun c H' s' z => hR c H' σ ρ O ((k.ext s1).ext s') z⟩, fun c H' s' z => hR c H' σ ρ O (k.ext s') z⟩
  show spM X.K C t ((x :: y :: vs) ++ []) H3 Q E
  rw [List.append_nil]
  exact mut_callXX (((k.ext s1).ext s2).ext s3) (Rep.mono (wo_same O (s2.trans s3)) d r1) (Rep.mono (wo_same O s3) d2 r2) r3 h3 hP hR
end

/-! ### a def that returns the sum of two lists -/
section
variable {X : Cx} {C : Addr} {E : XK} {pos bpos : Pos} {a b e : Expr}
def dFrzR (i : Nat) (q : DR) : DR := fun ρ RO => match ρ[i]? with
  | some (some (.own ds)) => q (ρ.set i (some (.v (.lst ds)))) RO
  | _ => False
theorem sr_frz {st : List Stmt} {q : DR} (i : Nat) (h : PSs X st (liftR X.K C E q)) : PSs X st (liftR X.K C E (dFrzR i q)) := h.wk fun T σ H q => by
  obtain ⟨B, O0, O, ρ, RO, k, q, hR⟩ := q
  unfold dFrzR at q
  split at q
  · rename_i ds hi
    obtain ⟨O', k'⟩ := k.freeze hi
    exact ⟨B, O0, O', _, RO, k', q, hR⟩
  · exact q.elim
def dRetAdd (pa pb : DE) : DR := fun ρ RO => pa ρ (fun x => pb ρ (fun y => match x, y with
  | .lst ds, .lst es => ds.length + es.length ≤ sizeLine ∧ RO (ds ++ es)
  | _, _ => False) (fun _ => False)) (fun _ => False)
theorem sr_retAdd {pa pb : DE} (ha : PE X a (lift X.K C E pa)) (hb : PE X b (lift X.K C E pb)) : PSs X [.Return (some (.BinOp a .Add b bpos)) pos] (liftR X.K C E (dRetAdd pa pb)) :=
  (pss_one (ps_ret (pe_op (op_cat (X := X)) ha hb))).wk fun T σ H q => by
  obtain ⟨B, O0, O, ρ, RO, k, q, hR⟩ := q
  refine ⟨B, O0, O, ρ, _, _, k, q, fun x dx H1 s1 r1 q1 => ⟨B, O0, O, ρ, _, _, k.ext s1, q1, fun y dy H2 s2 r2 q2 => ?_, fun c H' s' z => z.elim⟩, fun c H' s' z => z.elim⟩
  have k2 := (k.ext s1).ext s2
  have r1' := Rep.mono (wo_same O s2) dx r1
  split at q2
  · rename_i ds es
    obtain ⟨x1, vs, rfl, e1, e2⟩ := r1'
    obtain ⟨y1, ws, rfl, e3, e4⟩ := r2
    refine ⟨x1, y1, vs, ws, rfl, rfl, wo_some e1, wo_some e3, by rw [RepL.length e2, RepL.length e4]; exact q2.1, fun p hp => ?_⟩
    have s3 : Same H2 (upd H2 p (.lst (vs ++ ws))) := Same.new hp
    have sw : Same (wo H2 O) (wo (upd H2 p (.lst (vs ++ ws))) (p :: O0)) := fun c o e => by
      have h1 := wo_some e
      have nc : c ≠ p := ne_of_none h1 hp
      refine wo_of (by rw [upd_ne nc]; exact h1) fun z => ?_
      rcases List.mem_cons.mp z with z | z
      · exact nc z
      · unfold wo at e
        rw [if_pos (k.sub0 c z)] at e
        cases e
    exact hR p (vs ++ ws) (ds ++ es) _ (k2.base.trans s3) (k2.base.free hp) upd_same (RepL.mono sw _ (e2.append e4)) q2.2
  · exact q2.elim
end

/-! ### a list in the store handed to a def that makes a list -/
/-- data in which no list stands -/
def D.noL : D → Prop
  | .tup ds => ∀ d ∈ ds, d.noL
  | .lst _ => False
  | .dic _ _ => False
  | .kp _ _ => False
  | .scr _ => False
  | _ => True
section
variable {K : PySem.W.Frag} {C : Addr}
mutual
theorem Rep.overL {H1 H2 : Hp} (hs : ∀ a o, H1 a = some o → (∀ xs, o ≠ .lst xs) → H2 a = some o) : ∀ (d : D) {v : V}, d.noL → Rep K C H1 d v → Rep K C H2 d v
  | .non, _, _, h => h
  | .bl _, _, _, h => h
  | .int _, _, _, h => h
  | .str _, _, _, h => h
  | .adr _, _, _, h => h
  | .ty _, _, _, h => h
  | .lst ds, v, f, h => by rw [D.noL] at f; exact f.elim
  | .tup ds, v, f, h => by
    obtain ⟨a, vs, e, h1, h2⟩ := h
    rw [D.noL] at f
    exact ⟨a, vs, e, hs _ _ h1 (fun _ z => by cases z), RepL.overL hs ds f h2⟩
  | .dic ks ds, v, f, h => by rw [D.noL] at f; exact f.elim
  | .kp b ts, v, f, h => by rw [D.noL] at f; exact f.elim
  | .scr ns, v, f, h => by rw [D.noL] at f; exact f.elim
  | .exc c, v, f, h => by
    obtain ⟨a, e, h1⟩ := h
    exact ⟨a, e, hs _ _ h1 (fun _ z => by cases z)⟩
theorem RepL.overL {H1 H2 : Hp} (hs : ∀ a o, H1 a = some o → (∀ xs, o ≠ .lst xs) → H2 a = some o) : ∀ (ds : List D) {vs : List V}, (∀ d ∈ ds, d.noL) → RepL K C H1 ds vs → RepL K C H2 ds vs
  | [], _, _, h => h
  | d :: ds, vs, f, h => by
    obtain ⟨v, r, e, h1, h2⟩ := h
    exact ⟨v, r, e, Rep.overL hs d (f d List.mem_cons_self) h1, RepL.overL hs ds (fun x hx => f x (List.mem_cons_of_mem _ hx)) h2⟩
end
end
theorem noL_sD (s : Str2) : (sD s).noL := by
  unfold sD
  rw [D.noL]
  intro d hd
  simp only [List.mem_cons, List.not_mem_nil, or_false] at hd
  rcases hd with rfl | rfl
  · cases s.1 <;> simp [oi, D.noL]
  · cases s.2 <;> simp [oi, D.noL]
theorem noL_sDs (ss : List Str2) : ∀ d ∈ ss.map sD, d.noL := fun d hd => by
  obtain ⟨s, _, rfl⟩ := List.mem_map.mp hd
  exact noL_sD s
/-- a def that makes a list -/
structure Ff (P : Program) (w : World) (K : PySem.W.Frag) (mg : Str → Option Value) (base : Heap) (C : Addr) (k : Nat) (name : Str) (t : DFp) : Prop where
  ex : ∃ (f : Addr) (fd : FuncData) (ps : List Str), FnOk P w K mg base (L2.CX P w) k f fd ps (spF K C t) ∧ mg name = some (.ref f) ∧ PySem.W.keepIn K (.ref f) = true ∧ Binds K fd ps []
theorem Ff.fc {P : Program} {w : World} {K : PySem.W.Frag} {mg : Str → Option Value} {base : Heap} {C : Addr} {k : Nat} {m : Str} {t : DFp} (h : Ff P w K mg base C k m t) : Fc P w K mg base C k m (fun ds P _ => t ds (fun es => P (.lst es))) := by
  obtain ⟨f, fd, ps, F, hm, hk, hb⟩ := h.ex
  exact ⟨f, fd, ps, F.imp (spF_spD t), hm, hk, hb⟩
section
variable {X : Cx} {C : Addr} {E : XK} {pos : Pos} {a e : Expr}
def dCallXL (t : DFp) (pe : DE) : DE := fun ρ P R => pe ρ (fun x => ∃ (j : Nat) (q : Addr) (ds : List D), x = .adr q ∧ ρ[j]? = some (some (.ls q ds)) ∧ t [.lst ds] (fun es => (∀ d ∈ es, d.noL) ∧ P (.lst es))) R
theorem pd_fnXL {p : Pos} {x : Str} {n : Nat} {t : DFp} {pe : DE} (F : Ff X.prog X.w X.K X.mg X.base C n x t) (hr : Room n X.A) (hg : Gl X x) (hx : Passes (L2.CX X.prog X.w) X E) (he : PE X a (lift X.K C E pe))
    (hs : starEach [a] X.env = (false, eval a X.env) :: starEach [] X.env := by rfl) (hdb : (x == ("__debug__" : Str)) = false := by decide) (hpl : (backTo pos (starEach [] X.env)).any (·.1) = false := by rfl) :
    PE X (.Call (.Name x p) [a] [] pos) (lift X.K C E (dCallXL t pe)) := by
  obtain ⟨f, fd, ps, G, hm, hk, hb⟩ := F.ex
  refine (pe_call G hr hg hm hk hb .nil hx (pa_cons he pa_nil hs) hdb hs hpl).wk fun σ H Q h => ?_
  obtain ⟨B, O0, O, ρ, P, R, k, h, hP, hR⟩ := h
  refine ⟨B, O0, O, ρ, _, R, k, h, fun x d H1 s1 r1 h1 => ?_, hR⟩
  obtain ⟨j, q, ds, rfl, hj, h2⟩ := h1
  have k1 := k.ext s1
  obtain ⟨hq, hb', vs, e1, e2⟩ := k1.ls.at_ j q ds hj
  have ex : x = V.ref q := r1
  subst ex
  show spF X.K C t ([V.ref q] ++ []) H1 Q E
  have sw : Same (wo H1 O) (wo H1 (less1 O q)) := wo_sub H1 fun a ha => less1_sub ha
  refine ⟨less1 O q, [.lst ds], _, fun a ha => k1.al a (less1_sub ha), ⟨V.ref q, [], rfl, ⟨q, vs, rfl, wo_of e1 less1_ne, RepL.mono sw ds e2⟩, rfl⟩, h2, fun y ws es H' s hy hl rr p => ?_⟩
  refine hP (.ref y) (.lst es) H' (s1.trans s) ⟨y, ws, rfl, wo_of hl (k1.al.new hy), RepL.overL (fun c o ho hn => wo_of (wo_some ho) fun z => ?_) es p.1 rr⟩ p.2
  by_cases cq : c = q
  · have := wo_some ho
    rw [cq, s _ _ e1] at this
    exact hn _ (Option.some.inj this).symm
  · unfold wo at ho
    rw [if_pos (List.mem_cons_of_mem _ (less1_mem z cq))] at ho
    cases ho
end
end L2.DL
/-! # Two Keepers that gain, lose, meet, part one another: how many spots there may be -/
namespace L2.SK
open L2.DL PySem
abbrev T3 := Nat × Nat × Nat
def succ3 (t : T3) : List T3 := [(t.1 + 2, t.2.1, t.2.2 + 2), (t.1, t.2.1 + 2, t.2.2 + 2), (t.1, t.2.1, t.1 + t.2.1), (t.2.2, t.2.1, t.2.2), (t.1, t.2.2, t.2.2)]
def le3 (s t : T3) : Bool := decide (s.1 ≤ t.1) && decide (s.2.1 ≤ t.2.1) && decide (s.2.2 ≤ t.2.2)
/-- the greatest sizes behind so many deeds: the one's spots, the other one's, both together -/
def tab3 : List (List T3) := [[(0, 0, 0)],
  [(2, 0, 2), (0, 2, 2)],
  [(4, 0, 4), (2, 2, 4), (0, 4, 4)],
  [(6, 0, 6), (4, 4, 4), (4, 2, 6), (2, 4, 6), (0, 6, 6)],
  [(8, 0, 8), (6, 6, 6), (6, 2, 8), (4, 4, 8), (2, 6, 8), (0, 8, 8)],
  [(10, 0, 10), (8, 8, 8), (8, 2, 10), (6, 6, 12), (2, 8, 10), (0, 10, 10)],
  [(12, 6, 12), (10, 10, 10), (8, 8, 16), (6, 12, 12)],
  [(16, 8, 16), (12, 12, 12), (12, 6, 18), (10, 10, 20), (8, 16, 16), (6, 12, 18)],
  [(20, 10, 20), (18, 12, 18), (16, 16, 16), (16, 8, 24), (12, 18, 18), (12, 12, 24), (10, 20, 20), (8, 16, 24)],
  [(24, 16, 24), (20, 20, 20), (20, 10, 30), (18, 12, 30), (16, 24, 24), (16, 16, 32), (12, 18, 30), (10, 20, 30)],
  [(32, 16, 32), (30, 20, 30), (24, 24, 24), (24, 16, 40), (20, 30, 30), (20, 20, 40), (16, 32, 32), (16, 24, 40)],
  [(40, 24, 40), (32, 32, 32), (32, 16, 48), (30, 20, 50), (24, 40, 40), (24, 24, 48), (20, 30, 50), (16, 32, 48)],
  [(50, 30, 50), (48, 32, 48), (40, 40, 40), (40, 24, 64), (32, 48, 48), (32, 32, 64), (30, 50, 50), (24, 40, 64)],
  [(64, 40, 64), (50, 50, 50), (50, 30, 80), (48, 32, 80), (40, 64, 64), (40, 40, 80), (32, 48, 80), (30, 50, 80)],
  [(80, 50, 80), (64, 64, 64), (64, 40, 104), (50, 80, 80), (50, 50, 100), (40, 64, 104)],
  [(104, 64, 104), (80, 80, 80), (80, 50, 130), (64, 104, 104), (64, 64, 128), (50, 80, 130)],
  [(130, 80, 130), (104, 104, 104), (104, 64, 168), (80, 130, 130), (80, 80, 160), (64, 104, 168)],
  [(168, 104, 168), (130, 130, 130), (130, 80, 210), (104, 168, 168), (104, 104, 208), (80, 130, 210)],
  [(210, 130, 210), (168, 168, 168), (168, 104, 272), (130, 210, 210), (130, 130, 260), (104, 168, 272)],
  [(272, 168, 272), (210, 210, 210), (210, 130, 340), (168, 272, 272), (168, 168, 336), (130, 210, 340)],
  [(340, 210, 340), (272, 272, 272), (272, 168, 440), (210, 340, 340), (210, 210, 420), (168, 272, 440)],
  [(440, 272, 440), (340, 340, 340), (340, 210, 550), (272, 440, 440), (272, 272, 544), (210, 340, 550)],
  [(550, 340, 550), (440, 440, 440), (440, 272, 712), (340, 550, 550), (340, 340, 680), (272, 440, 712)],
  [(712, 440, 712), (550, 550, 550), (550, 340, 890), (440, 712, 712), (440, 440, 880), (340, 550, 890)],
  [(890, 550, 890), (712, 712, 712), (712, 440, 1152), (550, 890, 890), (550, 550, 1100), (440, 712, 1152)],
  [(1152, 712, 1152), (890, 890, 890), (890, 550, 1440), (712, 1152, 1152), (712, 712, 1424), (550, 890, 1440)],
  [(1440, 890, 1440), (1152, 1152, 1152), (1152, 712, 1864), (890, 1440, 1440), (890, 890, 1780), (712, 1152, 1864)],
  [(1864, 1152, 1864), (1440, 1440, 1440), (1440, 890, 2330), (1152, 1864, 1864), (1152, 1152, 2304), (890, 1440, 2330)],
  [(2330, 1440, 2330), (1864, 1864, 1864), (1864, 1152, 3016), (1440, 2330, 2330), (1440, 1440, 2880), (1152, 1864, 3016)],
  [(3016, 1864, 3016), (2330, 2330, 2330), (2330, 1440, 3770), (1864, 3016, 3016), (1864, 1864, 3728), (1440, 2330, 3770)],
  [(3770, 2330, 3770), (3016, 3016, 3016), (3016, 1864, 4880), (2330, 3770, 3770), (2330, 2330, 4660), (1864, 3016, 4880)]]
def row3 (n : Nat) : List T3 := tab3.getD n []
theorem tab_step : ∀ n < 30, ∀ t ∈ row3 n, ∀ s ∈ succ3 t, ∃ t' ∈ row3 (n + 1), le3 s t' = true := by decide +kernel
theorem tab_swap : ∀ n < 31, ∀ t ∈ row3 n, (t.2.1, t.1, t.2.2) ∈ row3 n := by decide +kernel
theorem tab_few : ∀ n < 31, ∀ t ∈ row3 n, t.1 ≤ 3770 ∧ t.2.1 ≤ 3770 ∧ (n < 30 → t.2.2 ≤ 3770) := by decide +kernel
def Bd3 (n a b u : Nat) : Prop := ∃ t ∈ row3 n, a ≤ t.1 ∧ b ≤ t.2.1 ∧ u ≤ t.2.2
theorem Bd3.zero : Bd3 0 0 0 0 := ⟨(0, 0, 0), by decide, Nat.le_refl _, Nat.le_refl _, Nat.le_refl _⟩
theorem Bd3.swap {n a b u : Nat} (hn : n < 31) (h : Bd3 n a b u) : Bd3 n b a u := by
  obtain ⟨t, ht, h1, h2, h3⟩ := h
  exact ⟨_, tab_swap n hn t ht, h2, h1, h3⟩
theorem Bd3.to {n a b u a' b' u' : Nat} (hn : n < 30) (h : Bd3 n a b u) {f : T3 → T3} (hf : ∀ t, f t ∈ succ3 t) (hm : ∀ t : T3, a ≤ t.1 → b ≤ t.2.1 → u ≤ t.2.2 → a' ≤ (f t).1 ∧ b' ≤ (f t).2.1 ∧ u' ≤ (f t).2.2) : Bd3 (n + 1) a' b' u' := by
  obtain ⟨t, ht, h1, h2, h3⟩ := h
  obtain ⟨t', ht', hl⟩ := tab_step n hn t ht _ (hf t)
  obtain ⟨g1, g2, g3⟩ := hm t h1 h2 h3
  unfold le3 at hl
  simp only [Bool.and_eq_true, decide_eq_true_eq] at hl
  exact ⟨t', ht', by omega, by omega, by omega⟩
theorem Bd3.add {n a b u : Nat} (hn : n < 30) (h : Bd3 n a b u) : Bd3 (n + 1) (a + 2) b (u + 2) :=
  h.to hn (f := fun t => (t.1 + 2, t.2.1, t.2.2 + 2)) (fun t => by simp [succ3]) fun t h1 h2 h3 => ⟨by show _ ≤ t.1 + 2; omega, h2, by show _ ≤ t.2.2 + 2; omega⟩
theorem Bd3.far {n a b u : Nat} (hn : n < 30) (h : Bd3 n a b u) : Bd3 (n + 1) a b (a + b) :=
  h.to hn (f := fun t => (t.1, t.2.1, t.1 + t.2.1)) (fun t => by simp [succ3]) fun t h1 h2 h3 => ⟨h1, h2, by show _ ≤ t.1 + t.2.1; omega⟩
theorem Bd3.join {n a b u a' : Nat} (hn : n < 30) (h : Bd3 n a b u) (ha : a' ≤ u) : Bd3 (n + 1) a' b u :=
  h.to hn (f := fun t => (t.2.2, t.2.1, t.2.2)) (fun t => by simp [succ3]) fun t h1 h2 h3 => ⟨by show _ ≤ t.2.2; omega, h2, h3⟩
theorem Bd3.few {n a b u : Nat} (hn : n < 31) (h : Bd3 n a b u) : a ≤ 3770 ∧ b ≤ 3770 ∧ (n < 30 → u ≤ 3770) := by
  obtain ⟨t, ht, h1, h2, h3⟩ := h
  obtain ⟨g1, g2, g3⟩ := tab_few n hn t ht
  exact ⟨by omega, by omega, fun z => by have := g3 z; omega⟩

/-! ### the four words -/
inductive W4 where
  | put | take | keep | turn
def W4.f : W4 → Bool → Bool → Bool
  | .put => f_either
  | .take => f_alone
  | .keep => f_both
  | .turn => f_unlike
def W4.deed : W4 → List Str2 → Deed
  | .put => .put
  | .take => .take
  | .keep => .keep
  | .turn => .turn
def W4.word : W4 → Str
  | .put => "put"
  | .take => "take"
  | .keep => "keep"
  | .turn => "turn"
theorem W4.dDeed (w : W4) (ss : List Str2) : dD (w.deed ss) = .tup [.str w.word, ssD ss] := by cases w <;> rfl
theorem W4.len (w : W4) (ss : List Str2) : lenD (w.deed ss) = ss.length := by cases w <;> rfl
theorem W4.spots (w : W4) (acc : List Int) (ss : List Str2) : spotsS acc (w.deed ss) = acc ++ ends ss := by cases w <;> rfl
theorem W4.has (w : W4) (r r2 : KRow) (n : Int) : (mergeR w.f r r2).has n = inD [.put r.strs, w.deed r2.strs] n := by
  rw [mergeR_has]
  show _ = inD ([.put r.strs] ++ [w.deed r2.strs]) n
  rw [inD_snoc]
  have e : ∀ n, inD [.put r.strs] n = r.has n := fun n => by
    show inD ([] ++ [.put r.strs]) n = _
    rw [inD_snoc]
    show (inD [] n || owns r.strs n) = _
    rw [owns_strs]
    rfl
  cases w <;> (simp only [W4.deed, behind, back, W4.f]; rw [e, owns_strs]; rfl)
theorem strL_ends : ∀ (ts : List Int) (o : Bool) (f : Option Int) (k : Int), k ∈ ends (strL o f ts) → k ∈ ts ∨ (o = true ∧ f = some k)
  | [], true, f, k, h => by
    cases f with
    | none => simp [strL, ends] at h
    | some x =>
      simp [strL, ends] at h
      exact .inr ⟨rfl, by rw [h]⟩
  | [], false, f, k, h => by simp [strL, ends] at h
  | t :: ts, true, f, k, h => by
    have e : k = t ∨ f = some k ∨ k ∈ ends (strL false (some t) ts) := by
      unfold strL ends at h
      unfold ends
      cases f with
      | none =>
        simp only [List.filterMap_cons, List.map_cons, List.mem_append, List.mem_cons] at h ⊢
        rcases h with h | h | h
        · exact .inr (.inr (.inl h))
        · exact .inl (by omega)
        · exact .inr (.inr (.inr h))
      | some x =>
        simp only [List.filterMap_cons, List.map_cons, List.mem_append, List.mem_cons] at h ⊢
        rcases h with (h | h) | h | h
        · exact .inr (.inl (by rw [h]))
        · exact .inr (.inr (.inl h))
        · exact .inl (by omega)
        · exact .inr (.inr (.inr h))
    rcases e with e | e | e
    · exact .inl (by rw [e]; exact List.mem_cons_self)
    · exact .inr ⟨rfl, e⟩
    · rcases strL_ends ts false (some t) k e with z | ⟨z, _⟩
      · exact .inl (List.mem_cons_of_mem _ z)
      · cases z
  | t :: ts, false, f, k, h => by
    rcases strL_ends ts true (some t) k h with z | ⟨_, z⟩
    · exact .inl (List.mem_cons_of_mem _ z)
    · exact .inl (by cases z; exact List.mem_cons_self)
theorem ends_strs {r : KRow} {k : Int} (h : k ∈ ends r.strs) : k ∈ r.ts := by
  rcases strL_ends r.ts r.b none k h with z | ⟨_, z⟩
  · exact z
  · cases z
theorem ends_len (ss : List Str2) : (ends ss).length ≤ 2 * ss.length := by
  have l1 : (ss.filterMap (·.1)).length ≤ ss.length := List.length_filterMap_le _ _
  have l2 : (ss.filterMap (·.2)).length ≤ ss.length := List.length_filterMap_le _ _
  unfold ends
  rw [List.length_append, List.length_map]
  omega

/-! ### what stands through the deeds -/
structure Szs (n : Nat) (d : List Deed) : Prop where
  each : ∀ x ∈ d, lenD x ≤ 5000
  many : d.length ≤ n + 2
  sp : (spots d).length ≤ 20000 + 2 * n
theorem Szs.mono {n : Nat} {d : List Deed} (h : Szs n d) : Szs (n + 1) d := ⟨h.each, by have := h.many; omega, by have := h.sp; omega⟩
structure Inv4 (n : Nat) (r0 r1 : KRow) (d0 d1 : List Deed) : Prop where
  h0 : ∀ m, r0.has m = inD d0 m
  h1 : ∀ m, r1.has m = inD d1 m
  big : ∃ A B U : List Int, (∀ k ∈ spots d0, k ∈ A) ∧ (∀ k ∈ spots d1, k ∈ B) ∧ (∀ k ∈ spots d0, k ∈ U) ∧ (∀ k ∈ spots d1, k ∈ U) ∧ Bd3 n A.length B.length U.length
  c0 : Szs n d0
  c1 : Szs n d1
theorem Szs.nil : Szs 0 [] := ⟨(fun _ h => nomatch h), Nat.zero_le _, Nat.zero_le _⟩
theorem Inv4.nil : Inv4 0 ⟨false, [], .nil⟩ ⟨false, [], .nil⟩ [] [] :=
  ⟨fun _ => rfl, fun _ => rfl, ⟨[], [], [], (fun _ h => nomatch h), (fun _ h => nomatch h), (fun _ h => nomatch h), (fun _ h => nomatch h), Bd3.zero⟩, .nil, .nil⟩
theorem Inv4.swap {n : Nat} {r0 r1 : KRow} {d0 d1 : List Deed} (hn : n < 31) (h : Inv4 n r0 r1 d0 d1) : Inv4 n r1 r0 d1 d0 := by
  obtain ⟨A, B, U, a1, a2, a3, a4, a5⟩ := h.big
  exact ⟨h.h1, h.h0, ⟨B, A, U, a2, a1, a4, a3, a5.swap hn⟩, h.c1, h.c0⟩
theorem sub_row {r : KRow} {d : List Deed} (h : ∀ m, r.has m = inD d m) : ∀ t ∈ r.ts, t ∈ spots d := fun t ht => by
  have := (mem_turn (b := r.b) r.up).mp ht
  refine inD_spot ?_
  rw [← h, ← h]
  exact this
theorem row_len {r : KRow} {U : List Int} (h : ∀ t ∈ r.ts, t ∈ U) : r.ts.length ≤ U.length := nodup_few (r.up.imp fun a => Int.ne_of_lt a) h
theorem Inv4.tlen {n : Nat} {r0 r1 : KRow} {d0 d1 : List Deed} (h : Inv4 n r0 r1 d0 d1) (hn : n < 31) : r0.ts.length ≤ 3770 := by
  obtain ⟨A, B, U, a1, a2, a3, a4, a5⟩ := h.big
  have := row_len fun t ht => a1 t (sub_row h.h0 t ht)
  have := (a5.few hn).1
  omega
theorem Inv4.fit {n : Nat} {r0 r1 : KRow} {d0 d1 : List Deed} (h : Inv4 n r0 r1 d0 d1) (hn : n < 31) : Fit d0 := by
  obtain ⟨A, B, U, a1, a2, a3, a4, a5⟩ := h.big
  have h1 := (a5.few hn).1
  have h2 := h.c0.many
  have h3 := h.c0.sp
  exact ⟨by omega, fun d hd => Nat.le_trans (h.c0.each d hd) (by decide), by omega, A, a1, by omega⟩
theorem Inv4.few {n : Nat} {r0 r1 : KRow} {d0 d1 : List Deed} (h : Inv4 n r0 r1 d0 d1) (hn : n < 30) : Few r0 r1 := by
  obtain ⟨A, B, U, a1, a2, a3, a4, a5⟩ := h.big
  have h1 := (a5.few (by omega)).2.2 hn
  exact ⟨U, fun k hk => a3 k (sub_row h.h0 k hk), fun k hk => a4 k (sub_row h.h1 k hk), by omega⟩
theorem Inv4.self {n : Nat} {r0 r1 : KRow} {d0 d1 : List Deed} (h : Inv4 n r0 r1 d0 d1) (hn : n < 31) : Few r0 r0 := by
  have := h.tlen hn
  exact ⟨r0.ts, fun _ h => h, fun _ h => h, by omega⟩
theorem strs_le (r : KRow) : r.strs.length ≤ r.ts.length + 1 := strL_len r.ts r.b none
theorem szs_two {n : Nat} {r r2 : KRow} {w : W4} (h1 : r.ts.length ≤ 3770) (h2 : r2.ts.length ≤ 3770) : Szs n [.put r.strs, w.deed r2.strs] := by
  have l1 := strs_le r
  have l2 := strs_le r2
  refine ⟨fun x hx => ?_, by simp, ?_⟩
  · simp only [List.mem_cons, List.not_mem_nil, or_false] at hx
    rcases hx with rfl | rfl
    · show r.strs.length ≤ _; omega
    · rw [W4.len]; omega
  · show (spotsS (spotsS [] (.put r.strs)) (w.deed r2.strs)).length ≤ _
    rw [W4.spots]
    show (([] ++ ends r.strs) ++ ends r2.strs).length ≤ _
    have := ends_len r.strs
    have := ends_len r2.strs
    simp only [List.nil_append, List.length_append]
    omega
theorem spots_two {r r2 : KRow} {w : W4} {k : Int} (h : k ∈ spots [.put r.strs, w.deed r2.strs]) : k ∈ r.ts ∨ k ∈ r2.ts := by
  have h' : k ∈ spotsS (spotsS [] (.put r.strs)) (w.deed r2.strs) := h
  rw [W4.spots] at h'
  have h2 : k ∈ ([] ++ ends r.strs) ++ ends r2.strs := h'
  rw [List.nil_append, List.mem_append] at h2
  exact h2.imp ends_strs ends_strs
/-- the one gains, loses, meets, parts the other one -/
theorem Inv4.join {n : Nat} {r0 r1 : KRow} {d0 d1 : List Deed} (h : Inv4 n r0 r1 d0 d1) (hn : n < 30) (w : W4) : Inv4 (n + 1) (mergeR w.f r0 r1) r1 [.put r0.strs, w.deed r1.strs] d1 := by
  obtain ⟨A, B, U, a1, a2, a3, a4, a5⟩ := h.big
  have t1 := (h.swap (by omega)).tlen (by omega)
  refine ⟨W4.has w r0 r1, h.h1, ⟨U, B, U, fun k hk => ?_, a2, fun k hk => ?_, a4, a5.join hn (Nat.le_refl _)⟩, szs_two (h.tlen (by omega)) t1, h.c1.mono⟩
  · exact (spots_two hk).elim (fun z => a3 k (sub_row h.h0 k z)) fun z => a4 k (sub_row h.h1 k z)
  · exact (spots_two hk).elim (fun z => a3 k (sub_row h.h0 k z)) fun z => a4 k (sub_row h.h1 k z)
theorem Inv4.alone {n : Nat} {r0 r1 : KRow} {d0 d1 : List Deed} (h : Inv4 n r0 r1 d0 d1) (hn : n < 30) (w : W4) : Inv4 (n + 1) (mergeR w.f r0 r0) r1 [.put r0.strs, w.deed r0.strs] d1 := by
  obtain ⟨A, B, U, a1, a2, a3, a4, a5⟩ := h.big
  have t0 := h.tlen (by omega)
  have s0 := row_len fun t ht => a3 t (sub_row h.h0 t ht)
  refine ⟨W4.has w r0 r0, h.h1, ⟨r0.ts, B, U, fun k hk => (spots_two hk).elim id id, a2, fun k hk => a3 k (sub_row h.h0 k ((spots_two hk).elim id id)), a4, a5.join hn s0⟩, szs_two t0 t0, h.c1.mono⟩
theorem szs_snoc {n : Nat} {d : List Deed} {x : Deed} (h : Szs n d) (hx : lenD x ≤ 1) : Szs (n + 1) (d ++ [x]) := by
  refine ⟨fun y hy => ?_, ?_, ?_⟩
  · rcases List.mem_append.mp hy with z | z
    · exact h.each y z
    · have : y = x := by simpa using z
      rw [this]; omega
  · rw [List.length_append]; simp only [List.length_singleton]; have := h.many; omega
  · rw [spots_snoc]
    have := spotsS_one (acc := spots d) hx
    have := h.sp
    omega
/-- a deed of the one alone -/
theorem Inv4.step {n : Nat} {r0 r1 : KRow} {d0 d1 : List Deed} (h : Inv4 n r0 r1 d0 d1) (hn : n < 30) {d : Deed} (hd : okDeed d) : ∃ r', Step r0 d r' ∧ Inv4 (n + 1) r' r1 (d0 ++ [d]) d1 := by
  obtain ⟨A, B, U, a1, a2, a3, a4, a5⟩ := h.big
  have t0 := h.tlen (by omega)
  have lt : ∀ s : Str2, (turnsS s).length ≤ 2 := fun s => by
    obtain ⟨a, c⟩ := s
    cases a <;> cases c <;> simp [turnsS]
  have eE : ∀ (s : Str2) (k : Int), k ∈ ends [s] → k ∈ turnsS s := fun s k hk => by
    obtain ⟨a, c⟩ := s
    cases a <;> cases c <;> simp [ends, turnsS] at hk ⊢
    · omega
    · exact hk
    · rcases hk with rfl | rfl
      · exact .inl rfl
      · exact .inr (by omega)
  have fw : ∀ (s : Str2) (hs : okS s = true), Few r0 (sRow s hs) := fun s hs => by
    have := (a5.few (by omega)).1
    have := lt s
    exact ⟨A ++ turnsS s, fun k hk => List.mem_append.mpr (.inl (a1 k (sub_row h.h0 k hk))), fun k hk => List.mem_append.mpr (.inr hk), by rw [List.length_append]; omega⟩
  have one : ∀ (w : W4) (s : Str2) (hs : okS s = true), Inv4 (n + 1) (mergeR w.f r0 (sRow s hs)) r1 (d0 ++ [w.deed [s]]) d1 := fun w s hs => by
    have l2 := lt s
    refine ⟨fun m => ?_, h.h1, ⟨A ++ turnsS s, B, U ++ turnsS s, fun k hk => ?_, a2, fun k hk => ?_, fun k hk => List.mem_append.mpr (.inl (a4 k hk)), ?_⟩, szs_snoc h.c0 (by rw [W4.len]; exact Nat.le_refl _), h.c1.mono⟩
    · rw [mergeR_has, inD_snoc, sRow_has, h.h0]
      cases w <;> (simp only [W4.deed, behind, back, W4.f]; rw [owns_one]; rfl)
    · rw [spots_snoc, W4.spots] at hk
      exact List.mem_append.mpr ((List.mem_append.mp hk).imp (a1 k) (eE s k))
    · rw [spots_snoc, W4.spots] at hk
      exact List.mem_append.mpr ((List.mem_append.mp hk).imp (a3 k) (eE s k))
    · obtain ⟨t, ht, g1, g2, g3⟩ := a5.add hn
      exact ⟨t, ht, by rw [List.length_append]; omega, g2, by rw [List.length_append]; omega⟩
  have mv : ∀ {r' : KRow} {x : Deed} (g : Int → Int), (∀ acc, spotsS acc x = acc.map g) → lenD x ≤ 1 → (∀ m, r'.has m = inD (d0 ++ [x]) m) → Inv4 (n + 1) r' r1 (d0 ++ [x]) d1 := fun {r' x} g hg hx hh => by
    refine ⟨hh, h.h1, ⟨A.map g, B, A.map g ++ B, fun k hk => ?_, a2, fun k hk => ?_, fun k hk => List.mem_append.mpr (.inr (a2 k hk)), ?_⟩, szs_snoc h.c0 hx, h.c1.mono⟩
    · rw [spots_snoc, hg] at hk
      obtain ⟨z, hz, rfl⟩ := List.mem_map.mp hk
      exact List.mem_map.mpr ⟨z, a1 z hz, rfl⟩
    · rw [spots_snoc, hg] at hk
      obtain ⟨z, hz, rfl⟩ := List.mem_map.mp hk
      exact List.mem_append.mpr (.inl (List.mem_map.mpr ⟨z, a1 z hz, rfl⟩))
    · have := a5.far hn
      rwa [List.length_append, List.length_map]
  match d, hd with
  | .put [s], hd => exact ⟨_, .put r0 s hd.1 (fw s hd.1), one .put s hd.1⟩
  | .take [s], hd => exact ⟨_, .take r0 s hd.1 (fw s hd.1), one .take s hd.1⟩
  | .keep [s], hd => exact ⟨_, .keep r0 s hd.1 (fw s hd.1), one .keep s hd.1⟩
  | .turn [s], hd => exact ⟨_, .turn r0 s hd.1 (fw s hd.1), one .turn s hd.1⟩
  | .move k, _ => exact ⟨_, .move r0 k (by omega), mv (fun z => z + k) (fun _ => rfl) (Nat.zero_le _) fun m => by rw [KRow.moved_has, inD_snoc, h.h0]; rfl⟩
  | .mirror, _ => exact ⟨_, .mirror r0 (by omega), mv (fun z => 1 - z) (fun _ => rfl) (Nat.zero_le _) fun m => by rw [KRow.mirrored_has, inD_snoc, h.h0]; rfl⟩
  | .put [], hd => exact hd.elim
  | .put (_ :: _ :: _), hd => exact hd.elim
  | .take [], hd => exact hd.elim
  | .take (_ :: _ :: _), hd => exact hd.elim
  | .keep [], hd => exact hd.elim
  | .keep (_ :: _ :: _), hd => exact hd.elim
  | .turn [], hd => exact hd.elim
  | .turn (_ :: _ :: _), hd => exact hd.elim
end L2.SK
namespace L2.DL
open PySem PySem.Spec PyProof.Rows L2.SK
def dm_tog : DM := fun b ts ds T _ => ∃ (r r2 : KRow) (w : W4), b = r.b ∧ ts = r.ts ∧ ds = [kpD r2, .str w.word] ∧ Few r r2 ∧ T (mergeR w.f r r2).b (mergeR w.f r r2).ts (.bl true)
def dm_togS : DMA := fun a b ts ds T _ => ∃ (r : KRow) (w : W4), b = r.b ∧ ts = r.ts ∧ ds = [.adr a, .str w.word] ∧ Few r r ∧ T (mergeR w.f r r).b (mergeR w.f r r).ts (.bl true)
def dm_gainS (f : Bool → Bool → Bool) : DMA := fun a b ts ds T _ => ∃ r : KRow, b = r.b ∧ ts = r.ts ∧ ds = [.adr a] ∧ Few r r ∧ T (mergeR f r r).b (mergeR f r r).ts .non
def df_due : DFp := fun ds P => ∃ dds, ds = [dsD dds] ∧ Fit dds ∧ P ((due dds).map sD)
theorem free_non : D.non.free := by simp [D.free]
theorem strs_len4 {r : KRow} (h : r.ts.length ≤ 4000) : r.strs.length ≤ 1000000 := by
  have := strs_le r
  omega
theorem isW4 {d : D} (h : d ∈ [D.str "put", D.str "take", D.str "turn", D.str "keep", D.str "turn"]) : ∃ w : W4, d = .str w.word := by
  simp only [List.mem_cons, List.not_mem_nil, or_false] at h
  rcases h with rfl | rfl | rfl | rfl | rfl
  · exact ⟨.put, rfl⟩
  · exact ⟨.take, rfl⟩
  · exact ⟨.turn, rfl⟩
  · exact ⟨.keep, rfl⟩
  · exact ⟨.turn, rfl⟩
theorem two_dD (w : W4) (ss tt : List Str2) : [D.tup [D.str "put", D.lst (ss.map sD)], D.tup [D.str w.word, D.lst (tt.map sD)]] = List.map dD [.put ss, w.deed tt] := by
  rw [List.map_cons, List.map_cons, W4.dDeed]
  rfl
abbrev env4 (cs : List Int) (a b p0 p1 q0 q1 : Addr) (r0 r1 : KRow) (d0 d1 : List Deed) (u3 u4 u5 u6 u7 u8 u9 u10 u11 u12 u13 : Option DV) : Env :=
  [some (.v (.scr cs)), some (.v (.adr a)), some (.v (.adr b)), u3, u4, u5, u6, u7, u8, u9, u10, u11, u12, u13, some (.ls a [.adr p0, .adr p1]), some (.ls b [.adr q0, .adr q1]),
    some (.kst p0 r0.b r0.ts), some (.kst p1 r1.b r1.ts), some (.ls q0 (d0.map dD)), some (.ls q1 (d1.map dD))]
end L2.DL
/-! # Texts: rules of methods, numbers and stretches as they are written -/
namespace L2.DL
open PySem PySem.Spec PyProof.Rows L2.SK TL
section
variable {X : Cx} {C : Addr} {E : XK} {pos apos : Pos} {o e : Expr}
/-- a method of a text with one argument -/
abbrev DM1 := Str → D → (D → Prop) → Prop
def AbM (K : PySem.W.Frag) (C : Addr) (r : V → List V → Hp → VK → Prop) (f : DM1) : Prop := ∀ (O : List Addr) (H : Hp) (a : Str) (y : V) (dy : D) (P : D → Prop) (Q : VK), Al O H → Rep K C (wo H O) dy y → f a dy P →
  (∀ v d H', Same H H' → Rep K C (wo H' O) d v → P d → Q v H') → r (.str a) [y] H Q
def dM1 (f : DM1) (p q : DE) : DE := fun ρ P R => p ρ (fun x => match x with
  | .str a => q ρ (fun y => f a y P) R
  | _ => False) R
theorem pd_m1 {id : String} {name : Str} {r : V → List V → Hp → VK → Prop} {f : DM1} {p q : DE} (slot : Slot "str" name id) (ty : typeOf (.builtin id) = pure (.type "method_descriptor")) (rule : MtR X id r) (ab : AbM X.K C r f) (ho : PE X o (lift X.K C E p)) (he : PE X e (lift X.K C E q))
    (hs : starEach [e] X.env = [(false, eval e X.env)] := by rfl) (hbase : attributeBase o name X.env (eval o X.env) = eval o X.env := by rfl) (hline : (apos.endLine == pos.line) = true := by rfl) :
    PE X (.Call (.Attribute o name apos) [e] [] pos) (lift X.K C E (dM1 f p q)) := (pe_m1 slot ty rule ho he hs hbase hline).wk fun σ H Q h => by
  obtain ⟨B, O0, O, ρ, P, R, k, h, hP, hR⟩ := h
  refine ⟨B, O0, O, ρ, _, R, k, h, fun x d H1 s1 r1 h1 => ?_, hR⟩
  cases d with
  | str a =>
    have ex : x = V.str a := r1
    subst ex
    exact ⟨⟨a, rfl⟩, B, O0, O, ρ, _, R, k.ext s1, h1, fun y dy H2 s2 r2 h2 => ab O H2 a y dy P Q ((k.al.mono s1).mono s2) r2 h2 fun v d H3 s3 r3 p => hP v d H3 ((s1.trans s2).trans s3) r3 p, fun c H' s' z => hR c H' (s1.trans s') z⟩
  | _ => exact h1.elim
def fSplit : DM1 := fun a y P => match y with
  | .str b => (b.length == 0) = false ∧ a.length + 2 ≤ sizeLine ∧ P (.lst ((Txt.split a b).map .str))
  | _ => False
def fPartn : DM1 := fun a y P => match y with
  | .str b => (b.length == 0) = false ∧ a.length ≤ sizeLine ∧ P (.tup [.str (Txt.partition a b).1, .str (Txt.partition a b).2.1, .str (Txt.partition a b).2.2])
  | _ => False
def fStarts : DM1 := fun a y P => match y with
  | .str b => P (.bl (Txt.startswith a b))
  | _ => False
def fJoin : DM1 := fun a y P => match y with
  | .lst ds => ∃ ys : List Str, ds = ys.map .str ∧ (ys.map (·.length)).sum + ys.length * a.length ≤ 16777216 ∧ P (.str (Txt.join a ys))
  | _ => False
theorem ab_split : AbM X.K C (fun x xs H Q => ∃ a b, x = .str a ∧ xs = [.str b] ∧ (b.length == 0) = false ∧ a.length + 2 ≤ sizeLine ∧ rNewStrs (Txt.split a b) H Q) fSplit := by
  intro O H a y dy P Q al r q k
  unfold fSplit at q
  split at q
  · have ey : y = _ := r
    subst ey
    exact ⟨_, _, rfl, rfl, q.1, q.2.1, fun p hp => k _ _ _ (Same.new hp) (rep_new_lst hp al (RepL.strs _ _)) q.2.2⟩
  · exact q.elim
theorem ab_partn : AbM X.K C (fun x xs H Q => ∃ a b, x = .str a ∧ xs = [.str b] ∧ (b.length == 0) = false ∧ a.length ≤ sizeLine ∧
    ∀ p, H p = none → Q (.ref p) (upd H p (.tup [.str (Txt.partition a b).1, .str (Txt.partition a b).2.1, .str (Txt.partition a b).2.2]))) fPartn := by
  intro O H a y dy P Q al r q k
  unfold fPartn at q
  split at q
  · have ey : y = _ := r
    subst ey
    exact ⟨_, _, rfl, rfl, q.1, q.2.1, fun p hp => k _ _ _ (Same.new hp) (rep_new_tup hp al (RepL.strs _ [_, _, _])) q.2.2⟩
  · exact q.elim
theorem ab_starts : AbM X.K C (fun x xs H Q => ∃ a b, x = .str a ∧ xs = [.str b] ∧ Q (.bl (Txt.startswith a b)) H) fStarts := by
  intro O H a y dy P Q al r q k
  unfold fStarts at q
  split at q
  · have ey : y = _ := r
    subst ey
    exact ⟨_, _, rfl, rfl, k _ (.bl _) H (Same.refl H) rfl q⟩
  · exact q.elim
theorem ab_join : AbM X.K C (fun x xs H Q => ∃ a p, ∃ ys : List Str, x = .str a ∧ xs = [.ref p] ∧ (SqL X.K H p (ys.map V.str) ∨ SqT X.K H p (ys.map V.str)) ∧
    (ys.map (·.length)).sum + ys.length * a.length ≤ 16777216 ∧ Q (.str (Txt.join a ys)) H) fJoin := by
  intro O H a y dy P Q al r q k
  unfold fJoin at q
  split at q
  · obtain ⟨ys, rfl, q1, q2⟩ := q
    obtain ⟨p, vs, rfl, e1, e2⟩ := r
    rw [RepL.of_strs e2] at e1
    exact ⟨a, p, ys, rfl, rfl, .inl (SqL.of (wo_some e1)), q1, k _ (.str _) H (Same.refl H) rfl q2⟩
  · exact q.elim
theorem pd_split {p q : DE} (ho : PE X o (lift X.K C E p)) (he : PE X e (lift X.K C E q)) (hs : starEach [e] X.env = [(false, eval e X.env)] := by rfl) (hbase : attributeBase o "split" X.env (eval o X.env) = eval o X.env := by rfl) (hline : (apos.endLine == pos.line) = true := by rfl) :
    PE X (.Call (.Attribute o "split" apos) [e] [] pos) (lift X.K C E (dM1 fSplit p q)) := pd_m1 F.slot_str_split F.type_str_split mt_split ab_split ho he hs hbase hline
theorem pd_partition {p q : DE} (ho : PE X o (lift X.K C E p)) (he : PE X e (lift X.K C E q)) (hs : starEach [e] X.env = [(false, eval e X.env)] := by rfl) (hbase : attributeBase o "partition" X.env (eval o X.env) = eval o X.env := by rfl) (hline : (apos.endLine == pos.line) = true := by rfl) :
    PE X (.Call (.Attribute o "partition" apos) [e] [] pos) (lift X.K C E (dM1 fPartn p q)) := pd_m1 F.slot_str_partition F.type_str_partition mt_partition ab_partn ho he hs hbase hline
theorem pd_startswith {p q : DE} (ho : PE X o (lift X.K C E p)) (he : PE X e (lift X.K C E q)) (hs : starEach [e] X.env = [(false, eval e X.env)] := by rfl) (hbase : attributeBase o "startswith" X.env (eval o X.env) = eval o X.env := by rfl) (hline : (apos.endLine == pos.line) = true := by rfl) :
    PE X (.Call (.Attribute o "startswith" apos) [e] [] pos) (lift X.K C E (dM1 fStarts p q)) := pd_m1 F.slot_str_startswith F.type_str_startswith mt_startswith ab_starts ho he hs hbase hline
theorem pd_join {p q : DE} (ho : PE X o (lift X.K C E p)) (he : PE X e (lift X.K C E q)) (hs : starEach [e] X.env = [(false, eval e X.env)] := by rfl) (hbase : attributeBase o "join" X.env (eval o X.env) = eval o X.env := by rfl) (hline : (apos.endLine == pos.line) = true := by rfl) :
    PE X (.Call (.Attribute o "join" apos) [e] [] pos) (lift X.K C E (dM1 fJoin p q)) := pd_m1 F.slot_str_join F.type_str_join mt_join ab_join ho he hs hbase hline
/-- int(text) -/
def dIntS : DB
  | [.str a], P => ∃ n, intText? a = some n ∧ a.length ≤ 640 ∧ P (.int n)
  | _, _ => False
theorem ab_intS {K : PySem.W.Frag} : AbC K C (fun xs H Q => ∃ a n, xs = [.str a] ∧ PySem.intText? a = some n ∧ a.length ≤ 640 ∧ Q (.int n) H) dIntS := by
  intro O H vs ds P Q al r q k
  unfold dIntS at q
  split at q
  · obtain ⟨v, _, rfl, rfl, rfl⟩ := r
    obtain ⟨n, h1, h2, h3⟩ := q
    exact ⟨_, n, rfl, h1, h2, k _ (.int n) H (Same.refl H) rfl h3⟩
  · exact q.elim
theorem pd_intS {a : Expr} {es : List Expr} {q : DA} {p : Pos} (nb : X.mg "int" = none) (ha : PA X (a :: es) (liftA X.K C E q)) (hg : Gl X "int" := by rfl) (he : starEach (a :: es) X.env = (false, eval a X.env) :: starEach es X.env := by rfl) (hpl : (backTo pos (starEach es X.env)).any (·.1) = false := by rfl) : PE X (.Call (.Name "int" p) (a :: es) [] pos) (lift X.K C E (dBi dIntS q)) :=
  pd_bt call_int_str ab_intS hg nb bt_int ha (by decide) (by decide) he hpl
/-- a text that the module names -/
def GlS (mg : Str → Option Value) (x s : Str) : Prop := ∃ u, mg x = some u ∧ RelV (.str s) u
theorem pd_globS {x s : Str} (h : GlS X.mg x s) (hg : Gl X x := by rfl) (hd : (x == ("__debug__" : Str)) = false := by decide) : PE X (.Name x pos) (lift X.K C E (dC (.str s))) := by
  obtain ⟨u, h1, h2⟩ := h
  exact (pe_glob hg h1 h2 hd).wk (lift_c (d := .str s) (v := .str s) fun _ => rfl)
/-- Keeper() as a value -/
def dNewD : DE := fun _ P _ => P (.kp false [])
theorem pd_new {n : Nat} {p p2 : Pos} (T : Kn X.prog X.w X.K X.mg X.base C n) (hr : Room (n + 1) X.A) (hx' : Passes (L2.CX X.prog X.w) X E) (hg : Gl X "Keeper" := by rfl) (hdb : (("Keeper" : Str) == ("__debug__" : Str)) = false := by decide) :
    PE X (.Call (.Name "Keeper" p) [] [] p2) (lift X.K C E dNewD) := by
  obtain ⟨f, fd, ps, M, F, hb⟩ := T.ex
  refine (pe_make0 M F hr hg T.g hb .nil hx' hdb).wk fun σ H Q q => ?_
  obtain ⟨B, O0, O, ρ, P, R, k, q, hP, hR⟩ := q
  intro y dx hy hdx ne
  refine ⟨y, dx, rfl, upd_same, fun l H' hl s' h1 h2 => ⟨rfl, ?_⟩⟩
  have ly : l ≠ y := fun z => by rw [z, upd_same] at hl; cases hl
  have hl0 : H l = none := by
    have n2 : l ≠ dx := fun z => by rw [z, upd_ne ne, upd_same] at hl; cases hl
    rw [upd_ne ly, upd_ne n2] at hl
    exact hl
  have s0 : Same H H' := fun b o e => s' b o (wo_of (by
    have n1 : b ≠ y := ne_of_none e hy
    have n2 : b ≠ dx := ne_of_none e hdx
    rw [upd_ne n1, upd_ne n2]
    exact e) (by simpa using ne_of_none e hy))
  exact hP (.ref y) (.kp false []) H' s0 ⟨y, dx, l, rfl, wo_of h1 (k.al.new hy), wo_of h2 (k.al.new hl0)⟩ q
end
/-- a def that makes a Keeper, its result as a value -/
theorem Fn.fc {P : Program} {w : World} {K : PySem.W.Frag} {mg : Str → Option Value} {base : Heap} {C : Addr} {k : Nat} {m : Str} {t : DNp} (h : Fn P w K mg base C k m t) : Fc P w K mg base C k m (fun ds P _ => t ds (fun b ts => P (.kp b ts))) := by
  obtain ⟨f, fd, ps, F, hm, hk, hb⟩ := h.ex
  refine ⟨f, fd, ps, F.imp fun vs H Q E q => ?_, hm, hk, hb⟩
  obtain ⟨O, ds, P, R, al, r, q, hP, _⟩ := q
  exact ⟨O, ds, _, al, r, q, fun y dx l b ts H' s hy h1 h2 p => hP _ (.kp b ts) H' s ⟨y, dx, l, rfl, wo_of h1 (al.new hy), wo_sub H' (fun c hc => List.mem_cons_of_mem _ hc) _ _ h2⟩ p⟩
end L2.DL

/-! ## numbers and stretches as they are written -/
namespace L2.SK
open L2.DL PySem TL
def mk (l : List Nat) : Str := ⟨l.toArray⟩
theorem tl_mk' (l : List Nat) : tl (mk l) = l := rfl
theorem mk_tl' (x : Str) : mk (tl x) = x := mk_tl x
theorem mk_inj {l m : List Nat} (h : mk l = mk m) : l = m := by
  have := congrArg tl h
  exact this
theorem mk_app (l m : List Nat) : mk l ++ mk m = mk (l ++ m) := ext_tl (by rw [tl_append]; rfl)
theorem mk_len (l : List Nat) : (mk l).length = l.length := len_tl (mk l)
def iL (i : Int) : List Nat := if 0 ≤ i then numL i.toNat else 45 :: numL (-i).toNat
theorem tl_int (i : Int) : tl (Str.ofString (toString i)) = iL i := by
  unfold iL
  cases i with
  | ofNat n =>
    rw [if_pos (show (0 : Int) ≤ Int.ofNat n from Int.natCast_nonneg n)]
    exact tl_num n
  | negSucc n =>
    rw [if_neg (by omega)]
    have e : (-(Int.negSucc n)).toNat = n + 1 := by omega
    rw [e, ← tl_num (n + 1), tl_ofString, tl_ofString]
    have h : toString (Int.negSucc n) = "-" ++ toString (((n + 1 : Nat) : Int)) := rfl
    rw [h, String.toList_append, List.map_append]
    rfl
theorem str_int (i : Int) : (Str.ofString (toString i)) = mk (iL i) := ext_tl (tl_int i)
/-- not too great to be written -/
def Sm (i : Int) : Prop := i.natAbs < 10 ^ 1990
def SmO (o : Option Int) : Prop := ∀ z, o = some z → Sm z
theorem Sm.lim {i : Int} (h : Sm i) : i.natAbs < 10 ^ 4300 := Nat.lt_of_lt_of_le h (Nat.pow_le_pow_right (by decide) (by decide))
theorem iL_len {i : Int} (h : Sm i) : (iL i).length ≤ 1991 := by
  unfold Sm at h
  unfold iL
  split
  · have := numL_len (n := i.toNat) (k := 1990) (by decide) (by omega)
    omega
  · rw [List.length_cons]
    have := numL_len (n := (-i).toNat) (k := 1990) (by decide) (by omega)
    omega
theorem iL_ne (i : Int) : iL i ≠ [] := by
  unfold iL
  split
  · exact numL_ne _
  · simp
/-- the signs of a number: a minus, figures -/
theorem iL_signs {i : Int} {c : Nat} (h : c ∈ iL i) : c = 45 ∨ (48 ≤ c ∧ c ≤ 57) := by
  unfold iL at h
  split at h
  · exact .inr (numL_digits _ c h)
  · rcases List.mem_cons.mp h with e | h
    · exact .inl e
    · exact .inr (numL_digits _ c h)
theorem iL_free {i : Int} {s : Nat} (h : s = 32 ∨ s = 46) : s ∉ iL i := fun z => by
  have := iL_signs z
  omega
theorem iL_inj {i j : Int} (h : iL i = iL j) : i = j := by
  unfold iL at h
  by_cases a : 0 ≤ i <;> by_cases b : 0 ≤ j
  · rw [if_pos a, if_pos b] at h
    have := numL_inj h
    omega
  · rw [if_pos a, if_neg b] at h
    have := numL_digits i.toNat 45 (by rw [h]; exact List.mem_cons_self)
    omega
  · rw [if_neg a, if_pos b] at h
    have := numL_digits j.toNat 45 (by rw [← h]; exact List.mem_cons_self)
    omega
  · rw [if_neg a, if_neg b] at h
    have := numL_inj (List.cons.inj h).2
    omega
def oL : Option Int → List Nat
  | none => []
  | some i => iL i
theorem oL_nil {o : Option Int} : oL o = [] ↔ o = none := by
  cases o with
  | none => simp [oL]
  | some i => simp [oL, iL_ne]
theorem oL_free {o : Option Int} {s : Nat} (h : s = 32 ∨ s = 46) : s ∉ oL o := by
  cases o with
  | none => simp [oL]
  | some i => exact iL_free h
theorem oL_len {o : Option Int} (h : SmO o) : (oL o).length ≤ 1991 := by
  cases o with
  | none => exact Nat.zero_le _
  | some i => exact iL_len (h i rfl)
/-- a stretch as it is written -/
def sL (s : Str2) : List Nat := if s.1 = s.2 ∧ s.1 ≠ none then oL s.1 else oL s.1 ++ [46, 46] ++ oL s.2
theorem sL_free {s : Str2} : 32 ∉ sL s := by
  unfold sL
  split
  · exact oL_free (.inl rfl)
  · intro h
    rcases List.mem_append.mp h with h | h
    · rcases List.mem_append.mp h with h | h
      · exact oL_free (.inl rfl) h
      · simp at h
    · exact oL_free (.inl rfl) h
theorem sL_len {s : Str2} (h1 : SmO s.1) (h2 : SmO s.2) : (sL s).length ≤ 3984 := by
  have a := oL_len h1
  have b := oL_len h2
  unfold sL
  split
  · omega
  · simp only [List.length_append, List.length_cons, List.length_nil]
    omega
theorem sL_ne (s : Str2) : sL s ≠ [] := by
  unfold sL
  split
  · rename_i h
    rw [ne_eq, oL_nil]
    exact h.2
  · simp
/-- stretches as they are written -/
def rL (ss : List Str2) : List Nat := joinL [32] (ss.map sL)
theorem rL_nil {ss : List Str2} : rL ss = [] ↔ ss = [] := by
  constructor
  · intro h
    match ss, h with
    | [], _ => rfl
    | [s], h => exact absurd h (sL_ne s)
    | s :: t :: r, h =>
      have : sL s ++ ([32] ++ joinL [32] (sL t :: r.map sL)) = [] := h
      simp at this
  · rintro rfl
    rfl
theorem join_words (ss : List Str2) : Txt.join " " (ss.map fun s => mk (sL s)) = mk (rL ss) := ext_tl (by
  rw [join_eq, tl_join, List.map_map]
  rfl)
theorem split_words {ss : List Str2} (h : ss ≠ []) : Txt.split (mk (rL ss)) " " = ss.map fun s => mk (sL s) := by
  rw [← join_words]
  refine split_join (s := 32) (S := []) rfl (by decide +kernel) (by simpa using h) fun p hp => ?_
  obtain ⟨s, _, rfl⟩ := List.mem_map.mp hp
  exact sL_free
theorem rL_len {ss : List Str2} (h : ∀ s ∈ ss, SmO s.1 ∧ SmO s.2) : (rL ss).length ≤ 3985 * ss.length := by
  unfold rL
  induction ss with
  | nil => exact Nat.le_refl _
  | cons s ss ih =>
    have a := sL_len (h s List.mem_cons_self).1 (h s List.mem_cons_self).2
    have b := ih fun t ht => h t (List.mem_cons_of_mem _ ht)
    cases ss with
    | nil =>
      show (sL s).length ≤ _
      rw [List.length_singleton]
      omega
    | cons t r =>
      show (sL s ++ ([32] ++ joinL [32] ((t :: r).map sL))).length ≤ _
      rw [List.length_append, List.length_append, List.length_singleton]
      simp only [List.length_cons] at b ⊢
      omega
theorem words_sum {ss : List Str2} (h : ∀ s ∈ ss, SmO s.1 ∧ SmO s.2) : ((ss.map fun s => mk (sL s)).map (·.length)).sum ≤ 3984 * ss.length := by
  induction ss with
  | nil => exact Nat.le_refl _
  | cons s ss ih =>
    have a := sL_len (h s List.mem_cons_self).1 (h s List.mem_cons_self).2
    have b := ih fun t ht => h t (List.mem_cons_of_mem _ ht)
    rw [List.map_cons, List.map_cons, List.sum_cons, List.length_cons, mk_len]
    omega
/-- a number that is written so -/
theorem int_read (i : Int) (h : (iL i).length ≤ 4300) : intText? (mk (iL i)) = some i := by
  unfold iL at h ⊢
  by_cases a : 0 ≤ i
  · rw [if_pos a] at h ⊢
    rw [intText_digits (x := mk (numL i.toNat)) (numL_digits _) (numL_ne _) (by rw [mk_len]; omega)]
    show some ((NumText.digitsVal (numL i.toNat) : Nat) : Int) = _
    rw [numL_val]
    congr 1
    omega
  · rw [if_neg a] at h ⊢
    rw [intText_neg (x := mk (45 :: numL (-i).toNat)) (cs := numL (-i).toNat) rfl (numL_digits _) (numL_ne _) (by rw [mk_len]; omega), numL_val]
    congr 1
    omega
/-- the figures of a word -/
def figs (l : List Nat) : List Nat := if l.head? = some 45 then l.drop 1 else l
theorem numL_head : ∀ n : Nat, (numL n).head? = some 48 → n = 0 := fun n => by
  induction n using Nat.strongRecOn with
  | _ n ih =>
    intro h
    by_cases c : n < 10
    · rw [numL_lt c] at h
      have : 48 + n = 48 := by simpa using h
      omega
    · rw [numL_step (by omega), List.head?_append] at h
      cases e : (numL (n / 10)).head? with
      | none => exact absurd (List.head?_eq_none_iff.mp e) (numL_ne _)
      | some d =>
        rw [e] at h
        have hd : d = 48 := by simpa using h
        have := ih (n / 10) (by omega) (by rw [e, hd])
        omega
theorem figs_iL (i : Int) : figs (iL i) ≠ [] ∧ NumText.AllDigits (figs (iL i)) ∧ ((figs (iL i)).head? = some 48 → iL i = [48]) := by
  unfold iL
  by_cases a : 0 ≤ i
  · rw [if_pos a]
    have e : figs (numL i.toNat) = numL i.toNat := by
      unfold figs
      rw [if_neg]
      intro h
      have := numL_digits i.toNat 45 (List.mem_of_head? h)
      omega
    rw [e]
    refine ⟨numL_ne _, numL_digits _, fun h => ?_⟩
    rw [numL_head _ h]
    rfl
  · rw [if_neg a]
    have e : figs (45 :: numL (-i).toNat) = numL (-i).toNat := rfl
    rw [e]
    refine ⟨numL_ne _, numL_digits _, fun h => ?_⟩
    have := numL_head _ h
    omega
/-- figures without a nought ahead are a number -/
theorem num_of : ∀ (k : Nat) (f : List Nat), f.length = k → f ≠ [] → NumText.AllDigits f → (f.head? = some 48 → f = [48]) → ∃ n : Nat, f = numL n ∧ (n = 0 → f = [48])
  | 0, f, h, hn, _, _ => absurd (List.length_eq_zero_iff.mp h) hn
  | k + 1, f, h, hn, hd, h0 => by
    have ef := (List.dropLast_concat_getLast hn).symm
    have dl : 48 ≤ f.getLast hn ∧ f.getLast hn ≤ 57 := hd _ (List.getLast_mem hn)
    generalize f.getLast hn = c at ef dl
    generalize hg : f.dropLast = g at ef
    cases g with
    | nil =>
      refine ⟨c - 48, ?_, fun z => ?_⟩
      · rw [numL_lt (by omega), ef, show 48 + (c - 48) = c by omega]
        rfl
      · rw [ef, show c = 48 by omega]
        rfl
    | cons d g' =>
      have hd48 : d ≠ 48 := fun z => by
        have := h0 (by rw [ef, z]; rfl)
        rw [this] at ef
        have := congrArg List.length ef
        simp at this
      obtain ⟨n, e1, e2⟩ := num_of k (d :: g') (by
        have := congrArg List.length ef
        simp only [List.length_append, List.length_cons, List.length_nil] at this ⊢
        omega) (by simp) (fun x hx => hd x (by rw [ef]; exact List.mem_append.mpr (.inl hx))) (fun z => absurd (by simpa using z) hd48)
      have n0 : n ≠ 0 := fun z => hd48 (by
        have := e2 z
        exact (List.cons.inj this).1)
      refine ⟨n * 10 + (c - 48), ?_, fun z => by omega⟩
      rw [numL_step (by omega), show (n * 10 + (c - 48)) / 10 = n by omega, show (n * 10 + (c - 48)) % 10 = c - 48 by omega, ← e1, show 48 + (c - 48) = c by omega]
      exact ef
theorem num_figs {l : List Nat} (h1 : figs l ≠ []) (h2 : NumText.AllDigits (figs l)) (h3 : (figs l).head? = some 48 → l = [48]) : ∃ i, l = iL i := by
  have h3' : (figs l).head? = some 48 → figs l = [48] := fun z => by
    rw [h3 z]
    rfl
  obtain ⟨n, e1, e2⟩ := num_of _ (figs l) rfl h1 h2 h3'
  unfold figs at e1 e2 h3
  by_cases c : l.head? = some 45
  · rw [if_pos c] at e1 e2 h3
    have el : l = 45 :: l.drop 1 := by
      cases l with
      | nil => cases c
      | cons x r =>
        have : x = 45 := by simpa using c
        rw [this]
        rfl
    have n0 : n ≠ 0 := fun z => by
      have := e2 z
      have := h3 (by rw [this]; rfl)
      rw [this] at c
      cases c
    refine ⟨-(n : Int), ?_⟩
    unfold iL
    rw [if_neg (by omega), el, e1, show (-(-(n : Int))).toNat = n by omega]
  · rw [if_neg c] at e1
    refine ⟨(n : Int), ?_⟩
    unfold iL
    rw [if_pos (by omega), e1]
    try rfl
end L2.SK
/-! # A new Keeper as an expression; a def that returns a new Keeper with a value -/
namespace L2.DL
open PySem PySem.Spec PyProof.Rows L2.SK TL
section
variable {X : Cx} {C : Addr} {E : XK} {pos : Pos} {a e : Expr}
/-- f(e, ..), a new Keeper in the store -/
def dNewF (t : DNp) (q : DA) : DEM := fun ρ P R => q ρ (fun ds => t ds (fun b ts => ∃ j : Nat, ∀ y, P (.adr y) (ρ.set j (some (.kst y b ts))))) (fun c => R c ρ)
theorem pm_fN {p : Pos} {x : Str} {n : Nat} {es : List Expr} {t : DNp} {q : DA} (F : Fn X.prog X.w X.K X.mg X.base C n x t) (hr : Room n X.A) (hg : Gl X x)
    (hx : Passes (L2.CX X.prog X.w) X E) (ha : PA X (a :: es) (liftA X.K C E q)) (hs : starEach (a :: es) X.env = (false, eval a X.env) :: starEach es X.env := by rfl)
    (hdb : (x == ("__debug__" : Str)) = false := by decide) (hpl : (backTo pos (starEach es X.env)).any (·.1) = false := by rfl) :
    PE X (.Call (.Name x p) (a :: es) [] pos) (liftM X.K C E (dNewF t q)) := by
  obtain ⟨f, fd, ps, G, hm, hk, hb⟩ := F.ex
  refine (pe_call G hr hg hm hk hb .nil hx ha hdb hs hpl).wk fun σ H Q h => ?_
  obtain ⟨B, O0, O, ρ, P, R, k, h, hP, hR⟩ := h
  refine ⟨B, O0, O, ρ, _, _, k, h, fun vs ds H1 s1 r1 h1 => ?_, fun c H' s' z => hR c H' σ ρ O (k.ext s') z⟩
  have k1 := k.ext s1
  show spN X.K C t (vs ++ []) H1 Q E
  rw [List.append_nil]
  refine ⟨O, ds, _, k1.al, r1, h1, fun y dx l b ts H' s hy g1 g2 p => ?_⟩
  obtain ⟨j, p⟩ := p
  exact hP _ (.adr y) H' _ _ (k1.newK j s hy g1 g2) rfl (p y)
/-! ### return f(..), e: a new Keeper, and a value -/
abbrev DNT := Env → (Bool → List Int → D → Prop) → Prop
def liftNT (K : PySem.W.Frag) (C : Addr) (E : XK) (p : DNT) : TS := fun T σ H => ∃ B O0 O ρ RO, Ok K C B O0 O H σ ρ ∧ p ρ RO ∧
  ∀ tp y dx l b ts d v H', Same B H' → B y = none → H' y = some (.ins C dx (kf b l)) → wo H' (y :: O0) l = some (.lst (ts.map V.int)) → Rep K C (wo H' (y :: O0)) d v → wo H' (y :: O0) tp = some (.tup [.ref y, v]) → RO b ts d → T.rt (.ref tp) H'
def dSeqNT (p : DS) (q : DNT) : DNT := fun ρ RO => p ρ (fun ρ' => q ρ' RO) (fun _ => False) (fun _ => False)
def dRetNT (p : DEM) (q : DE) : DNT := fun ρ RO => p ρ (fun x ρ' => q ρ' (fun d => ∃ (j : Nat) (y : Addr) (b : Bool) (ts : List Int), x = .adr y ∧ ρ'[j]? = some (some (.kst y b ts)) ∧ RO b ts d) (fun _ => False)) (fun _ _ => False)
theorem st_cons {st : Stmt} {rest : List Stmt} {p : DS} {q : DNT} (h1 : PS X st (liftS X.K C E p)) (h2 : PSs X rest (liftNT X.K C E q)) : PSs X (st :: rest) (liftNT X.K C E (dSeqNT p q)) := (pss_cons h1 h2).wk fun T σ H q => by
  obtain ⟨B, O0, O, ρ, RO, k, q, hR⟩ := q
  exact ⟨B, O0, O, ρ, _, _, _, k, q, fun σ' H' ρ' O' k' n' => ⟨B, O0, O', ρ', RO, k', n', hR⟩, fun v d H' s' r z => z.elim, fun c H' s' z => z.elim⟩
theorem st_ret {p : DEM} {q : DE} {x1} {tpos : Pos} (ha : PE X a (liftM X.K C E p)) (hb : PE X e (lift X.K C E q)) (hs : starEach [a, e] X.env = (false, eval a X.env) :: starEach [e] X.env := by rfl) (hs2 : starEach [e] X.env = (false, eval e X.env) :: starEach [] X.env := by rfl) :
    PSs X [.Return (some (.Tuple [a, e] x1 tpos)) pos] (liftNT X.K C E (dRetNT p q)) := (pss_one (ps_ret (pe_tup (pa_cons ha (pa_cons hb pa_nil hs2) hs)))).wk fun T σ H q => by
  obtain ⟨B, O0, O, ρ, RO, k, q, hR⟩ := q
  refine ⟨B, O0, O, ρ, _, _, k, q, fun v1 d1 H1 ρ1 O1 k1 r1 q1 => ⟨B, O0, O1, ρ1, _, _, k1, q1, fun v2 d2 H2 s2 r2 q2 => ⟨by show 2 ≤ sizeLine; decide, fun p hp => ?_⟩, fun c H' s' z => z.elim⟩, fun c H' σ' ρ' O' k' z => z.elim⟩
  obtain ⟨j, y, b, ts, rfl, hj, q3⟩ := q2
  have k2 := k1.ext s2
  have ex : v1 = V.ref y := r1
  subst ex
  obtain ⟨h1, h2, dx, l, h3, h4⟩ := k2.st.at_ j y b ts hj
  have s3 : Same H2 (upd H2 p (.tup [.ref y, v2])) := Same.new hp
  have sw : Same (wo H2 O1) (wo (upd H2 p (.tup [.ref y, v2])) (y :: O0)) := (wo_same O1 s3).trans (wo_sub _ fun c hc => by
    rcases List.mem_cons.mp hc with rfl | hc
    · exact h1
    · exact k2.sub0 c hc)
  have hpO : p ∉ y :: O0 := fun z => by
    rcases List.mem_cons.mp z with z | z
    · rw [z, h3] at hp; cases hp
    · exact k2.al.new hp (k2.sub0 p z)
  exact hR p y dx l b ts d2 v2 _ (k2.base.trans s3) h2 (s3 _ _ h3) (sw _ _ h4) (Rep.mono sw d2 r2) (wo_of upd_same hpO) q3
abbrev DNTp := List D → (Bool → List Int → D → Prop) → Prop
def spNT (K : PySem.W.Frag) (C : Addr) (t : DNTp) : Sp := fun vs H Q _ => ∃ O ds P, Al O H ∧ RepL K C (wo H O) ds vs ∧ t ds P ∧
  ∀ tp y dx l b ts d v H', Same H H' → H y = none → H' y = some (.ins C dx (kf b l)) → wo H' (y :: O) l = some (.lst (ts.map V.int)) → Rep K C (wo H' (y :: O)) d v → wo H' (y :: O) tp = some (.tup [.ref y, v]) → P b ts d → Q (.ref tp) H'
end
section
variable {P : Program} {w : World} {K : PySem.W.Frag} {mg : Str → Option Value} {base : Heap} {C : Addr}
theorem fnNT {x qual : Str} {st : Stmt} {f : Addr} {fd : FuncData} {N ps : List Str} {k : Nat} {t : DNTp} {p : DNT} (F : Fun K x qual st f fd) (S : FnScope N ps (defScope st))
    (body : ∀ (cdv : Value) (A : Around) (outer : List PySem.Env) (s : Shared) (H : Hp) (E : XK), Room k (A.deeper (envOfC qual (defScope st) s.heap.objs.size f cdv)) → PSs (cxD P w K mg base N qual (defScope st) f cdv A outer s H E) (defBody st) (liftNT K C E p))
    (h : ∀ (ds : List D) (T : Bool → List Int → D → Prop), t ds T → ds.length = ps.length ∧ p (startE N ds) T) : FnOk P w K mg base (L2.CX P w) (k + 1) f fd ps (spNT K C t) := by
  refine F.okX S (fun vs H Q E q => ?_) (fun cdv A outer s H vs Q E hr q => ⟨_, body cdv A outer s H E hr, ?_⟩)
  · obtain ⟨O, ds, T, al, r, q, _⟩ := q
    rw [RepL.length r]
    exact (h ds T q).1
  · obtain ⟨O, ds, T, al, r, q, hT⟩ := q
    exact ⟨H, O, O, startE N ds, _, start_ok al r N, (h ds T q).2, hT⟩
structure FnT (P : Program) (w : World) (K : PySem.W.Frag) (mg : Str → Option Value) (base : Heap) (C : Addr) (k : Nat) (name : Str) (t : DNTp) : Prop where
  ex : ∃ (f : Addr) (fd : FuncData) (ps : List Str), FnOk P w K mg base (L2.CX P w) k f fd ps (spNT K C t) ∧ mg name = some (.ref f) ∧ PySem.W.keepIn K (.ref f) = true ∧ Binds K fd ps []
end
section
variable {X : Cx} {C : Addr} {E : XK} {pos : Pos} {a e : Expr}
/-- x, y = f(e, ..): a new Keeper, and a value -/
def dAsgNT (j : Nat) (t : DNTp) (q : DA) (g : DG) : DS := fun ρ N _ Z => q ρ (fun ds => t ds (fun b ts d => ∀ y, g (.tup [.adr y, d]) (ρ.set j (some (.kst y b ts))) N)) Z
theorem sd_asgNT {j n : Nat} {tg : Expr} {f : Str} {t : DNTp} {q : DA} {es : List Expr} {fpos cpos : Pos} {js : List Nat} {g : DG} (M : FnT X.prog X.w X.K X.mg X.base C n f t) (hr : Room n X.A) (hx' : Passes (L2.CX X.prog X.w) X E) (hg : Gl X f) (ha : PA X (a :: es) (liftA X.K C E q)) (htg : PG X tg (liftG X.K C js g))
    (hs : swapsWithSole [tg] (.Call (.Name f fpos) (a :: es) [] cpos) pos.line X.env = pure false := by rfl) (hw : swappedStores [tg] (.Call (.Name f fpos) (a :: es) [] cpos) X.env = pure none := by rfl) (h1 : (assignEach [tg] X.env).map (·.2) = [assign tg X.env] := by rfl)
    (hdb : (f == ("__debug__" : Str)) = false := by decide) (he : starEach (a :: es) X.env = (false, eval a X.env) :: starEach es X.env := by rfl) (hpl : (backTo cpos (starEach es X.env)).any (·.1) = false := by rfl) :
    PS X (.Assign [tg] (.Call (.Name f fpos) (a :: es) [] cpos) pos) (liftS X.K C E (dAsgNT j t q g)) := by
  obtain ⟨fa, fd, ps, F, hm, hk, hb⟩ := M.ex
  refine (ps_asg (pe_call F hr hg hm hk hb .nil hx' ha hdb he hpl) htg hs hw h1).wk fun T' σ H q => ?_
  obtain ⟨B, O0, O, ρ, N, R, Z, k, q, hN, hR, hZ⟩ := q
  refine ⟨B, O0, O, ρ, _, _, k, q, fun vs ds H1 s1 r1 q1 => ?_, fun c H' s' z => hZ c H' (k.base.trans s') z⟩
  have k1 := k.ext s1
  show spNT X.K C t (vs ++ []) H1 _ E
  rw [List.append_nil]
  refine ⟨O, ds, _, k1.al, r1, q1, fun tp y dx l b ts d v H' s hy g1 g2 g3 g4 p => ?_⟩
  have k2 := k1.newK j s hy g1 g2
  exact ⟨B, O0, y :: O, _, .tup [.adr y, d], N, k2, ⟨tp, [.ref y, v], rfl, g4, .ref y, [v], rfl, rfl, v, [], rfl, g3, rfl⟩, p y, fun σ' ρ' k' _ n => hN σ' H' ρ' _ k' n⟩
end
end L2.DL
/-! # What the texts' defs promise -/
namespace L2.SK
open L2.DL PySem TL
theorem strL_ok : ∀ (ts : List Int) (o : Bool) (f : Option Int), Up ts → (∀ a, o = true → f = some a → ∀ t ∈ ts, a < t) → ∀ s ∈ strL o f ts, okS s = true
  | [], true, f, _, _, s, hs => by
    have : s = (f, none) := by simpa [strL] using hs
    rw [this]
    cases f <;> rfl
  | [], false, _, _, _, s, hs => by simp [strL] at hs
  | t :: ts, true, f, hu, hf, s, hs => by
    have hu' := List.pairwise_cons.mp hu
    rcases List.mem_cons.mp hs with e | hs
    · rw [e]
      cases f with
      | none => rfl
      | some a =>
        have := hf a rfl rfl t List.mem_cons_self
        show decide (a ≤ t - 1) = true
        exact decide_eq_true (by omega)
    · exact strL_ok ts false (some t) hu'.2 (fun _ z => nomatch z) s hs
  | t :: ts, false, f, hu, hf, s, hs => by
    have hu' := List.pairwise_cons.mp hu
    exact strL_ok ts true (some t) hu'.2 (fun a _ e u hu => by cases e; exact hu'.1 u hu) s hs
theorem strs_ok (r : KRow) : ∀ s ∈ r.strs, okS s = true := strL_ok r.ts r.b none r.up fun _ _ z => nomatch z
theorem strs_end {r : KRow} {s : Str2} (hs : s ∈ r.strs) : (∀ z, s.1 = some z → z ∈ r.ts) ∧ ∀ z, s.2 = some z → z + 1 ∈ r.ts := by
  constructor
  · intro z e
    exact ends_strs (by unfold ends; exact List.mem_append.mpr (.inl (List.mem_filterMap.mpr ⟨s, hs, e⟩)))
  · intro z e
    exact ends_strs (by unfold ends; exact List.mem_append.mpr (.inr (List.mem_map.mpr ⟨z, List.mem_filterMap.mpr ⟨s, hs, e⟩, rfl⟩)))
theorem owns_snoc (ss : List Str2) (s : Str2) (n : Int) : owns (ss ++ [s]) n = (owns ss n || lies s n) := by
  unfold owns
  rw [List.any_append]
  simp
theorem inD_puts : ∀ (rs : List Str2) (n : Int), inD (rs.reverse.map fun s => Deed.put [s]) n = owns rs.reverse n
  | [], _ => rfl
  | s :: rs, n => by
    rw [List.reverse_cons, List.map_append]
    show inD (_ ++ [Deed.put [s]]) n = _
    rw [inD_snoc, owns_snoc, ← inD_puts rs n]
    show (inD _ n || owns [s] n) = _
    rw [owns_one]
/-- what is put, stretch by stretch -/
theorem puts_row {r r' : KRow} (h : Inv1 r' (r.strs.map fun s => Deed.put [s])) : r' = r := KRow.ext' fun n => by
  rw [h.has]
  have := inD_puts r.strs.reverse n
  rw [List.reverse_reverse] at this
  rw [this, owns_strs]
/-- the numbers stay small enough -/
theorem spots_bd : ∀ (rs : List Deed), (∀ d ∈ rs, okDeed d) → ∀ k ∈ spots rs.reverse, k.natAbs ≤ rs.length * (10 ^ 480 + 200)
  | [], _, k, h => by cases h
  | d :: rs, hd, k, h => by
    have ih := spots_bd rs fun e he => hd e (List.mem_cons_of_mem _ he)
    have h0 := hd d List.mem_cons_self
    rw [List.reverse_cons, spots_snoc] at h
    rw [List.length_cons, Nat.add_mul, Nat.one_mul]
    have one : ∀ s : Str2, BdO s.1 → BdO s.2 → k ∈ spots rs.reverse ++ ends [s] → k.natAbs ≤ rs.length * (10 ^ 480 + 200) + (10 ^ 480 + 200) := fun s b1 b2 hk => by
      rcases List.mem_append.mp hk with z | z
      · have := ih k z
        omega
      · unfold ends at z
        rcases List.mem_append.mp z with z | z
        · obtain ⟨t, ht, e⟩ := List.mem_filterMap.mp z
          have : t = s := by simpa using ht
          subst this
          have := b1 k e
          unfold Bd at this
          omega
        · obtain ⟨y, hy, rfl⟩ := List.mem_map.mp z
          obtain ⟨t, ht, e⟩ := List.mem_filterMap.mp hy
          have : t = s := by simpa using ht
          subst this
          have := b2 y e
          unfold Bd at this
          omega
    match d, h0, h with
    | .put [s], h0, h => exact one s h0.2.1 h0.2.2 h
    | .take [s], h0, h => exact one s h0.2.1 h0.2.2 h
    | .keep [s], h0, h => exact one s h0.2.1 h0.2.2 h
    | .turn [s], h0, h => exact one s h0.2.1 h0.2.2 h
    | .move j, h0, h =>
      obtain ⟨y, hy, rfl⟩ := List.mem_map.mp h
      have := ih y hy
      have b : Bd j := h0
      unfold Bd at b
      omega
    | .mirror, h0, h =>
      obtain ⟨y, hy, rfl⟩ := List.mem_map.mp h
      have := ih y hy
      omega
    | .put [], h0, _ => exact h0.elim
    | .put (_ :: _ :: _), h0, _ => exact h0.elim
    | .take [], h0, _ => exact h0.elim
    | .take (_ :: _ :: _), h0, _ => exact h0.elim
    | .keep [], h0, _ => exact h0.elim
    | .keep (_ :: _ :: _), h0, _ => exact h0.elim
    | .turn [], h0, _ => exact h0.elim
    | .turn (_ :: _ :: _), h0, _ => exact h0.elim
/-- all ends can be written -/
def SmS (ss : List Str2) : Prop := ∀ s ∈ ss, SmO s.1 ∧ SmO s.2
theorem sm_of {z : Int} {k : Nat} (h : z.natAbs ≤ k * (10 ^ 480 + 200) + 1) (hk : k ≤ 1000) : Sm z := by
  unfold Sm
  have h1 : k * (10 ^ 480 + 200) ≤ 1000 * (10 ^ 480 + 200) := Nat.mul_le_mul_right _ hk
  have h2 : 1000 * (10 ^ 480 + 200) + 1 < 10 ^ 1990 := by decide +kernel
  omega
theorem _root_.L2.DL.Inv1.sm {r : KRow} {dds : List Deed} (h : Inv1 r dds) (hd : ∀ d ∈ dds, okDeed d) (hl : dds.length ≤ 1000) : SmS r.strs := fun s hs => by
  obtain ⟨h1, h2⟩ := strs_end hs
  have b : ∀ t ∈ r.ts, t.natAbs ≤ dds.length * (10 ^ 480 + 200) := fun t ht => by
    have := spots_bd dds.reverse (fun d hd' => hd d (List.mem_reverse.mp hd')) t
    rw [List.reverse_reverse, List.length_reverse] at this
    exact this (h.sub t ht)
  constructor
  · intro z e
    have := b z (h1 z e)
    exact sm_of (k := dds.length) (by omega) hl
  · intro z e
    have := b (z + 1) (h2 z e)
    exact sm_of (k := dds.length) (by omega) hl
theorem starts_minus (t : Str) : Txt.startswith t "-" = decide ((tl t).head? = some 45) := by
  unfold Txt.startswith
  rw [PySem.StrLaws.subAt_eq]
  have e1 : tl ("-" : Str) = [45] := by decide +kernel
  have e2 : ("-" : Str).length = 1 := by decide +kernel
  rw [show ("-" : Str).cps.toList = [45] from e1, e2, List.drop_zero]
  have hl := len_tl t
  show _ = decide ((t.cps.toList).head? = some 45)
  have hl' : t.length = t.cps.toList.length := hl
  cases h : t.cps.toList with
  | nil =>
    rw [h] at hl'
    rw [hl']
    rfl
  | cons c r =>
    rw [h, List.length_cons] at hl'
    have : (0 + 1 ≤ t.length) := by omega
    rw [decide_eq_true this, Bool.true_and]
    show ([c] == [45]) = decide (some c = some 45)
    by_cases z : c = 45
    · rw [z]; rfl
    · rw [decide_eq_false (fun q => z (by simpa using q))]
      simpa using z
theorem cut_1 (t : Str) : cutS t (some 1) none = mk ((tl t).drop 1) := by
  unfold cutS mk
  have hl : t.length = t.cps.toList.length := len_tl t
  have e1 : HT.sIx t.length 0 (some 1) = min 1 t.length := by
    unfold HT.sIx
    simp
    try omega
  rw [HT.sIx_none, e1, hl]
  congr 2
  show (t.cps.toList.drop (min 1 t.cps.toList.length)).take _ = _
  by_cases z : 1 ≤ t.cps.toList.length
  · rw [Nat.min_eq_left z, List.take_of_length_le (by rw [List.length_drop]; omega)]
  · have : t.cps.toList = [] := List.length_eq_zero_iff.mp (by omega)
    rw [show tl t = [] from this, this]
    rfl
end L2.SK
namespace L2.DL
open PySem PySem.Spec PyProof.Rows L2.SK TL
def dp_endtext : DP := fun ds P _ => ∃ o, ds = [oi o] ∧ SmO o ∧ P (.str (mk (oL o)))
def dp_stext : DP := fun ds P _ => ∃ s, ds = [sD s] ∧ SmO s.1 ∧ SmO s.2 ∧ P (.str (mk (sL s)))
def dp_text : DP := fun ds P _ => ∃ r : KRow, ds = [kpD r] ∧ r.ts.length ≤ 3000 ∧ SmS r.strs ∧ P (.str (mk (rL r.strs)))
def dp_numin (bt : Addr) : DP := fun ds P R => ∃ t : Str, ds = [.str t] ∧ t.length ≤ 4300 ∧ (∀ i, tl t = iL i → P (.int i)) ∧ ((∀ i, tl t ≠ iL i) → R bt)
def dp_strin : DP := fun ds P _ => ∃ s, ds = [.str (mk (sL s))] ∧ SmO s.1 ∧ SmO s.2 ∧ okS s = true ∧ P (sD s)
def dn_keeper_of : DNp := fun ds P => ∃ r : KRow, ds = [.str (mk (rL r.strs))] ∧ r.strs.length ≤ 1000 ∧ r.ts.length ≤ 2000 ∧ SmS r.strs ∧ P r.b r.ts
def dp_ltext : DP := fun ds P _ => ∃ ss, ds = [ssD ss] ∧ ss.length ≤ 3000 ∧ SmS ss ∧ P (.str (mk (rL ss)))
def dn_made : DNp := fun ds P => ∃ dds : List Deed, ds = [dsD dds] ∧ dds.length ≤ 1000 ∧ (∀ d ∈ dds, okDeed d) ∧ ∀ r : KRow, Inv1 r dds → P r.b r.ts
def dt_keeper : DNTp := fun ds P => ∃ (ns : List Int) (m : Nat), ds = [.scr ns, .int m] ∧ m ≤ 1000 ∧ ∀ (r : KRow) (dds : List Deed), Inv1 r dds → (∀ d ∈ dds, okDeed d) → dds.length ≤ m → P r.b r.ts (ssD r.strs)
theorem eqD_str (a b : Str) : eqD (.str a) (.str b) = decide (a = b) := by
  simp [eqD, D.toPy, PyData.eqv, Bool.beq_eq_decide_eq]
end L2.DL
namespace L2.SK
open L2.DL PySem TL
theorem dots : (Str.ofString "..") = mk [46, 46] := ext_tl (by decide +kernel)
theorem empt : (Str.ofString "") = mk [] := ext_tl (by decide +kernel)
theorem mk_eq {l m : List Nat} : (mk l = mk m) = (l = m) := propext ⟨mk_inj, fun h => by rw [h]⟩
theorem fig_mem (c : Nat) : c ∈ (Str.ofString "0123456789").cps.toList ↔ 48 ≤ c ∧ c ≤ 57 := by
  have e : (Str.ofString "0123456789").cps.toList = [48, 49, 50, 51, 52, 53, 54, 55, 56, 57] := by decide +kernel
  rw [e]
  simp only [List.mem_cons, List.not_mem_nil, or_false]
  omega
theorem sign_0 (c : Nat) : ({ cps := #[c] } : Str) = Str.ofString "0" ↔ c = 48 := by
  have e : tl (Str.ofString "0") = [48] := by decide +kernel
  constructor
  · intro h
    have h1 : tl ({ cps := #[c] } : Str) = [48] := by rw [h]; exact e
    have h2 : [c] = [48] := h1
    exact (List.cons.inj h2).1
  · rintro rfl
    exact ext_tl (by rw [e])
theorem str_0 : (Str.ofString "0") = mk (iL 0) := ext_tl (by decide +kernel)
theorem sL_one (a : Int) : sL (some a, some a) = iL a := if_pos ⟨rfl, by simp⟩
theorem sL_two {s : Str2} (h : ¬ (s.1 = s.2 ∧ s.1 ≠ none)) : sL s = oL s.1 ++ [46, 46] ++ oL s.2 := if_neg h
theorem part_one (a : Int) : Txt.partition (mk (iL a)) (Str.ofString "..") = (mk (iL a), Str.empty, Str.empty) :=
  partition_none (s := 46) (S := [46]) (by decide +kernel) (iL_free (.inr rfl))
theorem part_two (o p : Option Int) : Txt.partition (mk (oL o ++ [46, 46] ++ oL p)) (Str.ofString "..") = (mk (oL o), Str.ofString "..", mk (oL p)) := by
  rw [show mk (oL o ++ [46, 46] ++ oL p) = mk (oL o) ++ Str.ofString ".." ++ mk (oL p) by rw [dots, mk_app, mk_app]]
  exact partition_app (s := 46) (S := [46]) (by decide +kernel) (oL_free (o := o) (.inr rfl))
end L2.SK
namespace L2.DL
open PySem PySem.Spec PyProof.Rows L2.SK TL
theorem numin_good {bt : Addr} {i : Int} {P : D → Prop} {R : Addr → Prop} (h : Sm i) (q : P (.int i)) : dp_numin bt [.str (mk (iL i))] P R :=
  ⟨_, rfl, by rw [mk_len]; have := iL_len h; omega, fun j hj => by
    have := iL_inj hj
    rw [← this]
    exact q, fun z => absurd rfl (z i)⟩
end L2.DL
namespace L2.DL
open PySem PySem.Spec PyProof.Rows L2.SK TL
/-- a stretch as the law keeps it while it writes -/
def iD (s : Str2) : D := if s.1 = s.2 ∧ s.1 ≠ none then .str (mk (sL s)) else .lst [.str (mk (oL s.1)), .str (mk (oL s.2))]
theorem iD_one {s : Str2} (h : s.1 = s.2 ∧ s.1 ≠ none) : iD s = .str (mk (sL s)) := if_pos h
theorem iD_two {s : Str2} (h : ¬ (s.1 = s.2 ∧ s.1 ≠ none)) : iD s = .lst [.str (mk (oL s.1)), .str (mk (oL s.2))] := if_neg h
theorem free_str (s : Str) : (D.str s).free := by simp [D.free]
end L2.DL
namespace L2.SK
open L2.DL PySem TL
def rowT : KRow := ⟨true, [], .nil⟩
def rowF : KRow := ⟨false, [], .nil⟩
theorem okAll : okS (none, none) = true := rfl
theorem put_all (r : KRow) : mergeR f_either r (sRow (none, none) okAll) = rowT := KRow.ext' fun n => by
  rw [mergeR_has, sRow_has]
  show (r.has n || lies (none, none) n) = true
  cases r.has n <;> rfl
theorem few_all (r : KRow) (h : r.ts.length + 1 < 4096) : Few r (sRow (none, none) okAll) := ⟨r.ts, fun _ h => h, (fun _ h => nomatch h), h⟩
theorem strs_T : rowT.strs = [(none, none)] := rfl
theorem strs_F : rowF.strs = [] := rfl
theorem text_T : Str.ofString ".." = mk (rL rowT.strs) := ext_tl (by decide +kernel)
theorem text_F : Str.ofString "" = mk (rL rowF.strs) := ext_tl (by decide +kernel)
theorem sm_T : SmS rowT.strs := fun s hs => by
  have : s = (none, none) := by simpa [strs_T] using hs
  subst this
  exact ⟨(fun _ h => nomatch h), (fun _ h => nomatch h)⟩
theorem sm_F : SmS rowF.strs := fun s hs => by simp [strs_F] at hs
theorem turn_len (r : KRow) : (mergeR f_unlike r (sRow (none, none) okAll)).ts.length ≤ r.ts.length := row_len fun t ht => by
  rcases merge_sub ht with z | z
  · exact z
  · cases z
end L2.SK
/-! # Keepers in the store handed to defs as values; a def that changes two; slices by a step -/
namespace L2.DL
open PySem PySem.Spec PyProof.Rows L2.SK TL
/-! ### Keepers in the store, as values for the while of a call -/
def LendL (ρ : Env) : List D → List D → List Addr → Prop
  | [], es, os => es = [] ∧ os = []
  | d :: ds, es, os => ∃ e es' os', es = e :: es' ∧ LendL ρ ds es' os' ∧ ((d = e ∧ os = os') ∨ ∃ (j : Nat) (p : Addr) (b : Bool) (ts : List Int), d = .adr p ∧ ρ[j]? = some (some (.kst p b ts)) ∧ e = .kp b ts ∧ os = p :: os')
def lessL (O os : List Addr) : List Addr := O.filter fun a => decide (a ∉ os)
theorem lessL_sub {O os : List Addr} {a : Addr} (h : a ∈ lessL O os) : a ∈ O := (List.mem_filter.mp h).1
theorem lessL_no {O os : List Addr} {a : Addr} (h : a ∈ os) : a ∉ lessL O os := fun z => by simpa [h] using (List.mem_filter.mp z).2
theorem lessL_mem {O os : List Addr} {a : Addr} (h : a ∈ O) (n : a ∉ os) : a ∈ lessL O os := List.mem_filter.mpr ⟨h, decide_eq_true n⟩
section
variable {K : PySem.W.Frag} {C : Addr} {B H H' : Hp} {O0 O : List Addr} {σ : St} {ρ : Env}
theorem LendL.at (k : Ok K C B O0 O H σ ρ) : ∀ {ds es : List D} {os : List Addr}, LendL ρ ds es os → ∀ a ∈ os, ∃ dx b l, H a = some (.ins C dx (kf b l))
  | [], es, os, h, a, ha => by
    obtain ⟨_, rfl⟩ := h
    cases ha
  | d :: ds, es, os, h, a, ha => by
    obtain ⟨e, es', os', rfl, h', h⟩ := h
    rcases h with ⟨rfl, rfl⟩ | ⟨j, p, b, ts, rfl, hj, rfl, rfl⟩
    · exact LendL.at k h' a ha
    · rcases List.mem_cons.mp ha with rfl | ha
      · obtain ⟨_, _, dx, l, h1, _⟩ := k.st.at_ j a b ts hj
        exact ⟨dx, b, l, h1⟩
      · exact LendL.at k h' a ha
theorem LendL.rep (k : Ok K C B O0 O H σ ρ) (os0 : List Addr) : ∀ {ds es : List D} {os : List Addr} {vs : List V}, LendL ρ ds es os → (∀ a ∈ os, a ∈ os0) → RepL K C (wo H O) ds vs → RepL K C (wo H (lessL O os0)) es vs
  | [], es, os, vs, h, _, r => by
    obtain ⟨rfl, _⟩ := h
    exact r
  | d :: ds, es, os, vs, h, hs, r => by
    obtain ⟨e, es', os', rfl, h', h⟩ := h
    obtain ⟨v, vs', rfl, r1, r2⟩ := r
    have sw : Same (wo H O) (wo H (lessL O os0)) := wo_sub H fun a ha => lessL_sub ha
    rcases h with ⟨rfl, rfl⟩ | ⟨j, p, b, ts, rfl, hj, rfl, rfl⟩
    · exact ⟨v, vs', rfl, Rep.mono sw d r1, LendL.rep k os0 h' hs r2⟩
    · obtain ⟨_, _, dx, l, h1, h2⟩ := k.st.at_ j p b ts hj
      have ev : v = V.ref p := r1
      subst ev
      exact ⟨.ref p, vs', rfl, ⟨p, dx, l, rfl, wo_of h1 (lessL_no (hs p List.mem_cons_self)), sw _ _ h2⟩, LendL.rep k os0 h' (fun a ha => hs a (List.mem_cons_of_mem _ ha)) r2⟩
/-- what is no Keeper leans on none of the lent ones -/
theorem lent_same {os : List Addr} (hi : ∀ a ∈ os, ∃ dx b l, H' a = some (.ins C dx (kf b l))) : ∀ a o, wo H' (lessL O os) a = some o → (∀ c dx fs, o ≠ .ins c dx fs) → wo H' O a = some o := fun a o e n => wo_of (wo_some e) fun z => by
  by_cases q : a ∈ os
  · obtain ⟨dx, b, l, hh⟩ := hi a q
    have := wo_some e
    rw [hh] at this
    exact n _ _ _ (Option.some.inj this).symm
  · unfold wo at e
    rw [if_pos (lessL_mem z q)] at e
    cases e
theorem lent_list {os : List Addr} {y l : Addr} {xs : List V} (hi : ∀ a ∈ os, ∃ dx b l, H' a = some (.ins C dx (kf b l))) (h : wo H' (y :: lessL O os) l = some (.lst xs)) : wo H' (y :: O) l = some (.lst xs) := wo_of (wo_some h) fun z => by
  by_cases q : l ∈ os
  · obtain ⟨dx, b, l', hh⟩ := hi l q
    have := wo_some h
    rw [hh] at this
    cases this
  · unfold wo at h
    rw [if_pos (by
      rcases List.mem_cons.mp z with z | z
      · exact z ▸ List.mem_cons_self
      · exact List.mem_cons_of_mem _ (lessL_mem z q))] at h
    cases h
end
section
variable {X : Cx} {C : Addr} {E : XK} {pos : Pos} {a e o : Expr}
/-- f(..), some arguments Keepers in the store -/
def dCallS (t : DP) (q : DA) : DE := fun ρ P R => q ρ (fun ds => ∃ es os, LendL ρ ds es os ∧ t es (fun d => d.free ∧ P d) R) R
theorem pd_fnS {p : Pos} {k : Nat} {x : Str} {es : List Expr} {t : DP} {q : DA} (F : Fc X.prog X.w X.K X.mg X.base C k x t) (hr : Room k X.A) (hg : Gl X x) (hx : Passes (L2.CX X.prog X.w) X E) (ha : PA X (a :: es) (liftA X.K C E q))
    (hdb : (x == ("__debug__" : Str)) = false := by decide) (he : starEach (a :: es) X.env = (false, eval a X.env) :: starEach es X.env := by rfl) (hpl : (backTo pos (starEach es X.env)).any (·.1) = false := by rfl) :
    PE X (.Call (.Name x p) (a :: es) [] pos) (lift X.K C E (dCallS t q)) := by
  obtain ⟨f, fd, ps, G, hm, hk, hb⟩ := F.ex
  refine (pe_call G hr hg hm hk hb .nil hx ha hdb he hpl).wk fun σ H Q h => ?_
  obtain ⟨B, O0, O, ρ, P, R, k, h, hP, hR⟩ := h
  refine ⟨B, O0, O, ρ, _, R, k, h, fun vs ds H1 s1 r1 h1 => ?_, hR⟩
  obtain ⟨es', os, hL, h1⟩ := h1
  have k1 := k.ext s1
  show spD X.K C t (vs ++ []) H1 Q E
  rw [List.append_nil]
  refine ⟨lessL O os, es', _, R, fun c hc => k1.al c (lessL_sub hc), hL.rep k1 os (fun _ h => h) r1, h1, fun v d H' s' r p => hP v d H' (s1.trans s') (Rep.over (lent_same (C := C) fun c hc => ?_) d p.1 r) p.2, fun c H' s' z => hR c H' (s1.trans s') z⟩
  obtain ⟨dx, b, l, e⟩ := hL.at k1 c hc
  exact ⟨dx, b, l, s' _ _ e⟩
/-- f(..), a new Keeper as a value; some arguments Keepers in the store -/
def dCallNS (t : DNp) (q : DA) : DE := fun ρ P R => q ρ (fun ds => ∃ es os, LendL ρ ds es os ∧ t es (fun b ts => P (.kp b ts))) R
theorem pd_fnNS {p : Pos} {k : Nat} {x : Str} {es : List Expr} {t : DNp} {q : DA} (F : Fn X.prog X.w X.K X.mg X.base C k x t) (hr : Room k X.A) (hg : Gl X x) (hx : Passes (L2.CX X.prog X.w) X E) (ha : PA X (a :: es) (liftA X.K C E q))
    (hdb : (x == ("__debug__" : Str)) = false := by decide) (he : starEach (a :: es) X.env = (false, eval a X.env) :: starEach es X.env := by rfl) (hpl : (backTo pos (starEach es X.env)).any (·.1) = false := by rfl) :
    PE X (.Call (.Name x p) (a :: es) [] pos) (lift X.K C E (dCallNS t q)) := by
  obtain ⟨f, fd, ps, G, hm, hk, hb⟩ := F.ex
  refine (pe_call G hr hg hm hk hb .nil hx ha hdb he hpl).wk fun σ H Q h => ?_
  obtain ⟨B, O0, O, ρ, P, R, k, h, hP, hR⟩ := h
  refine ⟨B, O0, O, ρ, _, R, k, h, fun vs ds H1 s1 r1 h1 => ?_, hR⟩
  obtain ⟨es', os, hL, h1⟩ := h1
  have k1 := k.ext s1
  show spN X.K C t (vs ++ []) H1 Q E
  rw [List.append_nil]
  refine ⟨lessL O os, es', _, fun c hc => k1.al c (lessL_sub hc), hL.rep k1 os (fun _ h => h) r1, h1, fun y dx l b ts H' s' hy g1 g2 p => ?_⟩
  have g3 := lent_list (O := O) (fun c hc => by
    obtain ⟨dx, b, l, e⟩ := hL.at k1 c hc
    exact ⟨dx, b, l, s' _ _ e⟩) g2
  exact hP (.ref y) (.kp b ts) H' (s1.trans s') ⟨y, dx, l, rfl, wo_of g1 (k1.al.new hy), wo_sub H' (fun c hc => List.mem_cons_of_mem _ hc) _ _ g3⟩ p
/-- x = f(..), a new Keeper in the store; some arguments Keepers in the store -/
def dSetNS (i j : Nat) (t : DNp) (q : DA) : DS := fun ρ N _ Z => q ρ (fun ds => ∃ es os, LendL ρ ds es os ∧ t es (fun b ts => ∀ y, N ((ρ.set i (some (.v (.adr y)))).set j (some (.kst y b ts))))) Z
theorem sd_setNS {i j n : Nat} {x f : Str} {t : DNp} {q : DA} {es : List Expr} {fpos cpos pos' : Pos} (M : Fn X.prog X.w X.K X.mg X.base C n f t) (hr : Room n X.A) (hx' : Passes (L2.CX X.prog X.w) X E) (hN : X.N.Nodup) (hi : X.N[i]? = some x) (hx : Loc X.env.scope x) (hg : Gl X f) (ha : PA X (a :: es) (liftA X.K C E q))
    (hs : swapsWith (.Call (.Name f fpos) (a :: es) [] cpos) (some (.Name x pos')) pos.line X.env = pure false := by rfl) (hf : X.fn x = true ∨ X.env.scope.names.lookup x = some .local := by first | exact .inl rfl | exact .inr rfl | assumption)
    (hdb : (f == ("__debug__" : Str)) = false := by decide) (he : starEach (a :: es) X.env = (false, eval a X.env) :: starEach es X.env := by rfl) (hpl : (backTo cpos (starEach es X.env)).any (·.1) = false := by rfl) :
    PS X (.Assign [.Name x pos'] (.Call (.Name f fpos) (a :: es) [] cpos) pos) (liftS X.K C E (dSetNS i j t q)) := by
  obtain ⟨fa, fd, ps, F, hm, hk, hb⟩ := M.ex
  refine (ps_set hN hi hx (pe_call F hr hg hm hk hb .nil hx' ha hdb he hpl) hs hf).wk fun T' σ H q => ?_
  obtain ⟨B, O0, O, ρ, N, R, Z, k, q, hN, hR, hZ⟩ := q
  refine ⟨B, O0, O, ρ, _, _, k, q, fun vs ds H1 s1 r1 q1 => ?_, fun c H' s' z => hZ c H' (k.base.trans s') z⟩
  obtain ⟨es', os, hL, h1⟩ := q1
  have k1 := k.ext s1
  show spN X.K C t (vs ++ []) H1 _ E
  rw [List.append_nil]
  refine ⟨lessL O os, es', _, fun c hc => k1.al c (lessL_sub hc), hL.rep k1 os (fun _ h => h) r1, h1, fun y dx l b ts H' s' hy g1 g2 p => ?_⟩
  have g3 := lent_list (O := O) (fun c hc => by
    obtain ⟨dx, b, l, e⟩ := hL.at k1 c hc
    exact ⟨dx, b, l, s' _ _ e⟩) g2
  exact hN _ H' _ _ (k1.setN s' hy g1 g3) (p y)
/-- a promise that forgets the address -/
theorem Mm.mmA {P : Program} {w : World} {K : PySem.W.Frag} {mg : Str → Option Value} {base : Heap} {C : Addr} {k : Nat} {m : Str} {t : DM} (h : Mm P w K mg base C k m t) : MmA P w K mg base C k m (fun _ => t) := by
  obtain ⟨f, fd, ps, F, hm, hb⟩ := h.ex
  exact ⟨f, fd, ps, F.imp fun vs H Q E ⟨_, _, _, q⟩ => q, hm, hb⟩
def dMutM0A (t : DMA) (e : DE) : DEM := fun ρ P R => e ρ (fun x => recvX ρ x ∧ mutA t [] P R ρ x) (fun c => R c ρ)
theorem pm_m0XA {apos : Pos} {m : Str} {n : Nat} {t : DMA} {pe : DE} (T : Kp X.K X.mg C) (M : MmA X.prog X.w X.K X.mg X.base C n m t) (hr : Room n X.A) (hx : Passes (L2.CX X.prog X.w) X E)
    (ho : PE X o (lift X.K C E pe)) (hm1 : ¬ m = "begins" := by decide) (hm2 : ¬ m = "turns" := by decide) {pl : Sem Bool}
    (ht : eval (.Call (.Attribute o m apos) [] [] pos) X.env = (do
      let ov ← eval o X.env
      standAt apos.atName
      let (f, first) ← holding [ov] (getMethod ov m pl)
      callWith pos f first (backTo pos (starEach [] X.env)) (backToKw pos (keywordEach [] X.env))) := by rfl) :
    PE X (.Call (.Attribute o m apos) [] [] pos) (liftM X.K C E (dMutM0A t pe)) := by
  obtain ⟨f, fd, ps, F, hm, hb⟩ := M.ex
  refine (pe_meth0 ho T.cl hm F hr hb .nil hx ht).wk fun σ H Q h => ?_
  obtain ⟨B, O0, O, ρ, P, R, k, h, hP, hR⟩ := h
  refine ⟨B, O0, O, ρ, _, _, k, h, fun x d H1 s1 r1 h1 => ?_, fun c H' s' z => hR c H' σ ρ O (k.ext s') z⟩
  have k1 := k.ext s1
  obtain ⟨⟨j, hrec⟩, h1⟩ := h1
  obtain ⟨p, dx, b, l, rfl, e1⟩ := recv_at k1 r1 hrec
  refine ⟨p, dx, _, rfl, e1, kf_no b l hm1 hm2, ?_⟩
  show spMA X.K C t [V.ref p] H1 Q E
  exact mut_callA (vs := []) (ds := []) k1 r1 rfl h1 hP hR
/-- name.append(e), e a thing that comes into the store -/
def dAppM (i : Nat) (p : DEM) : DS := fun ρ N _ Z => ∃ ds, ρ[i]? = some (some (.own ds)) ∧ p ρ (fun d ρ' => ρ'[i]? = some (some (.own ds)) ∧ ds.length < sizeLine ∧ N (ρ'.set i (some (.own (ds ++ [d]))))) (fun c _ => Z c)
theorem sd_appM {i : Nat} {x : Str} {p : DEM} {np apos cpos : Pos} (hv : PE X (.Name x np) (tVar i)) (he : PE X e (liftM X.K C E p))
    (hw : ∀ (t : TE), PE X e t → PE X (.Call (.Attribute (.Name x np) "append" apos) [e] [] cpos) (tBM X.K "list" rAppend (tVar i) (tCons t tNil)))
    (hs : swapsWith (.Call (.Attribute (.Name x np) "append" apos) [e] [] cpos) none pos.line X.env = pure false := by rfl) : PS X (.Expr (.Call (.Attribute (.Name x np) "append" apos) [e] [] cpos) pos) (liftS X.K C E (dAppM i p)) := (ps_expr (hw _ he) hs).wk fun D σ H q => by
  obtain ⟨B, O0, O, ρ, N, R, Z, k, ⟨ds, ho, q⟩, hN, hR, hZ⟩ := q
  show ∃ v, σ[i]? = some (some v) ∧ (tyV X.K "list" v H ∧ liftM X.K C E p σ H fun y H1 => tNil σ H1 fun ys H2 => rAppend v (y :: ys) H2 fun _ H3 => D.nx σ H3)
  obtain ⟨a, vs, e1, e2, e3, e4, e5⟩ := k.own i ds ho
  refine ⟨.ref a, e1, .inl ⟨rfl, vs, SqL.of e4⟩, B, O0, O, ρ, _, _, k, q, fun v d H' ρ' O' k' r p => ?_, fun c H' σ' ρ' O' k' z => hZ c H' k'.base z⟩
  obtain ⟨a', vs', g1, g2, g3, g4, g5⟩ := k'.own i ds p.1
  rw [e1] at g1
  have ea : a = a' := by simpa using g1
  subst ea
  refine ⟨a, vs', v, rfl, rfl, g4, by rw [RepL.length g5]; exact p.2.1, ?_⟩
  exact hN σ _ _ O' (k'.grow p.1 e1 g4 r) p.2.2
end
/-! ### a def that changes two Keepers and returns a flat thing -/
abbrev DK2 := Bool → List Int → Bool → List Int → List D → (D → Prop) → Prop
def spK2 (K : PySem.W.Frag) (C : Addr) (t : DK2) : Sp := fun vs H Q E => ∃ O p q vs' ds b ts b2 ts2 dx l dx2 l2 P, vs = .ref p :: .ref q :: vs' ∧ p ≠ q ∧ p ∈ O ∧ q ∈ O ∧ Al O H ∧ RepL K C (wo H O) ds vs' ∧ H p = some (.ins C dx (kf b l)) ∧ wo H O l = some (.lst (ts.map V.int)) ∧ H q = some (.ins C dx2 (kf b2 l2)) ∧ wo H O l2 = some (.lst (ts2.map V.int)) ∧
  t b ts b2 ts2 ds P ∧ ∀ v d H', Same (wo H [p, q]) H' → flatD d = true → Rep K C H' d v → P d → Q v H'
section
variable {P : Program} {w : World} {K : PySem.W.Frag} {mg : Str → Option Value} {base : Heap} {C : Addr}
def startK2 (N : List Str) (j j2 : Nat) (p q : Addr) (b : Bool) (ts : List Int) (b2 : Bool) (ts2 : List Int) (ds : List D) : Env := ((startE N (.adr p :: .adr q :: ds)).set j (some (.kst p b ts))).set j2 (some (.kst q b2 ts2))
theorem startK2_ok {H : Hp} {O : List Addr} {p q l dx l2 dx2 : Addr} {b b2 : Bool} {ts ts2 : List Int} {ds : List D} {vs : List V} (pq : p ≠ q) (hp : p ∈ O) (hq : q ∈ O) (al : Al O H) (r : RepL K C (wo H O) ds vs) (h1 : H p = some (.ins C dx (kf b l))) (h2 : wo H O l = some (.lst (ts.map V.int))) (g1 : H q = some (.ins C dx2 (kf b2 l2))) (g2 : wo H O l2 = some (.lst (ts2.map V.int))) (N : List Str) (j j2 : Nat) :
    Ok K C (wo H [p, q]) [] [p, q] H (start N (.ref p :: .ref q :: vs)) (startK2 N j j2 p q b ts b2 ts2 ds) := by
  have sO : Same (wo H O) (wo H [p, q]) := wo_sub H fun a ha => by
    simp only [List.mem_cons, List.not_mem_nil, or_false] at ha
    rcases ha with rfl | rfl <;> assumption
  have al2 : Al [p, q] H := fun a ha => by
    simp only [List.mem_cons, List.not_mem_nil, or_false] at ha
    rcases ha with rfl | rfl
    · rw [h1]; intro z; cases z
    · rw [g1]; intro z; cases z
  have k := start_ok (K := K) (C := C) (ds := .adr p :: .adr q :: ds) (vs := .ref p :: .ref q :: vs) al2 ⟨.ref p, _, rfl, rfl, .ref q, vs, rfl, rfl, RepL.mono sO ds r⟩ N
  have bn : ∀ a, a ∈ [p, q] → wo H [p, q] a = none := fun a ha => by unfold wo; rw [if_pos ha]
  have k1 : Ok K C (wo H [p, q]) [] [p, q] H (start N (.ref p :: .ref q :: vs)) (startE N (.adr p :: .adr q :: ds)) := by
    refine ⟨wo_le H _, Al.nil _, al2, (fun _ h => nomatch h), fun a ha _ => bn a ha, k.len, k.val, fun i es e => ?_, k.uniq, ⟨fun i q c cs e => absurd e startE_kst, fun i i' q b1 b2 t1 t2 e1 e2 => absurd e1 startE_kst⟩, k.ls.to (fun _ _ _ e => e) (fun _ _ _ _ _ _ h => h) (fun _ _ _ _ _ _ _ e => e) (Same.refl _) (fun a h _ => bn a h) k.ls.no, k.tb.to (fun _ _ _ e => e) (fun _ _ _ h => h) (SameX.refl _) (fun a h _ => bn a h)⟩
    obtain ⟨q, ws, e1, e2, e3, e4, e5⟩ := k.own i es e
    exact ⟨q, ws, e1, e2, bn q e2, e4, e5⟩
  have k2 := k1.tell j (p := p) (by simp) (bn p (by simp)) h1 (sO _ _ h2) fun i b' ts' e => absurd e startE_kst
  refine k2.tell j2 (p := q) (by simp) (bn q (by simp)) g1 (sO _ _ g2) fun i b' ts' e => ?_
  by_cases hj : j = i
  · subst hj
    by_cases hl : j < (startE N (.adr p :: .adr q :: ds)).length
    · rw [List.getElem?_set_self hl] at e
      have : p = q := by
        have := Option.some.inj (Option.some.inj e)
        cases this
        rfl
      exact absurd this pq
    · rw [List.getElem?_eq_none (by rw [List.length_set]; omega)] at e
      cases e
  · rw [List.getElem?_set_ne hj] at e
    exact absurd e startE_kst
theorem fnK2 {x qual : Str} {st : Stmt} {f : Addr} {fd : FuncData} {N ps : List Str} {k : Nat} {t : DK2} {p : DS} (j j2 : Nat) (F : Fun K x qual st f fd) (S : FnScope N ps (defScope st))
    (body : ∀ (cdv : Value) (A : Around) (outer : List PySem.Env) (s : Shared) (H : Hp) (E : XK), Room k (A.deeper (envOfC qual (defScope st) s.heap.objs.size f cdv)) → PSs (cxD P w K mg base N qual (defScope st) f cdv A outer s H E) (defBody st) (liftS K C E p))
    (h : ∀ (a a2 : Addr) (b : Bool) (ts : List Int) (b2 : Bool) (ts2 : List Int) (ds : List D) (T : D → Prop), t b ts b2 ts2 ds T → ds.length + 2 = ps.length ∧ p (startK2 N j j2 a a2 b ts b2 ts2 ds) (fun _ => T .non) (fun d => flatD d = true ∧ T d) (fun _ => False)) : FnOk P w K mg base (L2.CX P w) (k + 1) f fd ps (spK2 K C t) := by
  refine F.okX S (fun vs H Q E q => ?_) (fun cdv A outer s H vs Q E hr q => ⟨_, body cdv A outer s H E hr, ?_⟩)
  · obtain ⟨O, p', q', vs', ds, b, ts, b2, ts2, dx, l, dx2, l2, T, rfl, pq, hp, hq, al, r, h1, h2, g1, g2, q, _⟩ := q
    rw [List.length_cons, List.length_cons, RepL.length r]
    exact (h p' q' b ts b2 ts2 ds T q).1
  · obtain ⟨O, p', q', vs', ds, b, ts, b2, ts2, dx, l, dx2, l2, T, rfl, pq, hp, hq, al, r, h1, h2, g1, g2, q, hT⟩ := q
    exact ⟨wo H [p', q'], [], [p', q'], _, _, _, _, startK2_ok pq hp hq al r h1 h2 g1 g2 N j j2, (h p' q' b ts b2 ts2 ds T q).2, fun σ' H' ρ' O' k' n => hT .non .non H' k'.base rfl rfl n, fun v d H' s' r p => hT v d H' s' p.1 (rep_flat p.1 r) p.2, fun c H' s' z => z.elim⟩
structure FK2 (P : Program) (w : World) (K : PySem.W.Frag) (mg : Str → Option Value) (base : Heap) (C : Addr) (k : Nat) (name : Str) (t : DK2) : Prop where
  ex : ∃ (f : Addr) (fd : FuncData) (ps : List Str), FnOk P w K mg base (L2.CX P w) k f fd ps (spK2 K C t) ∧ mg name = some (.ref f) ∧ PySem.W.keepIn K (.ref f) = true ∧ Binds K fd ps []
end
section
variable {X : Cx} {C : Addr} {E : XK} {pos : Pos} {a e o : Expr}
/-- return f(x, y, ..), x and y two Keepers in the store that change -/
def dRetK2 (t : DK2) (p1 p2 : DE) (q : DA) : DS := fun ρ _ R Z => p1 ρ (fun x => p2 ρ (fun y => q ρ (fun ds => ∃ (i j : Nat) (p q' : Addr) (b : Bool) (ts : List Int) (b2 : Bool) (ts2 : List Int), x = .adr p ∧ y = .adr q' ∧ i ≠ j ∧ ρ[i]? = some (some (.kst p b ts)) ∧ ρ[j]? = some (some (.kst q' b2 ts2)) ∧ t b ts b2 ts2 ds R) Z) Z) Z
theorem sd_retK2 {p : Pos} {x : Str} {n : Nat} {e2 : Expr} {es : List Expr} {t : DK2} {p1 p2 : DE} {q : DA} {cpos : Pos} (F : FK2 X.prog X.w X.K X.mg X.base C n x t) (hr : Room n X.A) (hg : Gl X x)
    (hx : Passes (L2.CX X.prog X.w) X E) (he : PE X a (lift X.K C E p1)) (he2 : PE X e2 (lift X.K C E p2)) (ha : PA X es (liftA X.K C E q)) (hs : starEach (a :: e2 :: es) X.env = (false, eval a X.env) :: starEach (e2 :: es) X.env := by rfl) (hs2 : starEach (e2 :: es) X.env = (false, eval e2 X.env) :: starEach es X.env := by rfl)
    (hdb : (x == ("__debug__" : Str)) = false := by decide) (hpl : (backTo cpos (starEach (e2 :: es) X.env)).any (·.1) = false := by rfl) :
    PS X (.Return (some (.Call (.Name x p) (a :: e2 :: es) [] cpos)) pos) (liftS X.K C E (dRetK2 t p1 p2 q)) := by
  obtain ⟨f, fd, ps, G, hm, hk, hb⟩ := F.ex
  refine (ps_ret (pe_call G hr hg hm hk hb .nil hx (pa_cons he (pa_cons he2 ha hs2) hs) hdb hs hpl)).wk fun T σ H q => ?_
  obtain ⟨B, O0, O, ρ, N, R, Z, k, h, hN, hR, hZ⟩ := q
  refine ⟨B, O0, O, ρ, _, Z, k, h, fun x d H1 s1 r1 h1 => ⟨B, O0, O, ρ, _, Z, k.ext s1, h1, fun y d2 H2 s2 r2 h2 => ⟨B, O0, O, ρ, _, Z, (k.ext s1).ext s2, h2, fun vs ds H3 s3 r3 h3 => ?_, fun c H' s' z => hZ c H' (((k.ext s1).ext s2).ext s').base z⟩, fun c H' s' z => hZ c H' ((k.ext s1).ext s').base z⟩, fun c H' s' z => hZ c H' (k.ext s').base z⟩
  obtain ⟨i, j, p', q', b, ts, b2, ts2, rfl, rfl, ij, hi, hj, h4⟩ := h3
  have k3 := ((k.ext s1).ext s2).ext s3
  have ex : x = V.ref p' := r1
  have ey : y = V.ref q' := r2
  subst ex ey
  have pq : p' ≠ q' := fun z => by
    subst z
    exact ij (k3.st.one i j p' b b2 ts ts2 hi hj)
  obtain ⟨a1, a2, dx, l, a3, a4⟩ := k3.st.at_ i p' b ts hi
  obtain ⟨c1, c2, dx2, l2, c3, c4⟩ := k3.st.at_ j q' b2 ts2 hj
  show spK2 X.K C t ((V.ref p' :: V.ref q' :: vs) ++ []) H3 _ E
  rw [List.append_nil]
  refine ⟨O, p', q', vs, ds, b, ts, b2, ts2, dx, l, dx2, l2, _, rfl, pq, a1, c1, k3.al, r3, a3, a4, c3, c4, h4, fun v d H' s' fl r p => ?_⟩
  refine hR v d H' (fun c o hc => ?_) (rep_flat fl r) p
  refine s' _ _ (wo_of (k3.base c o hc) ?_)
  simp only [List.mem_cons, List.not_mem_nil, or_false, not_or]
  exact ⟨(fun z => by rw [z, a2] at hc; cases hc), (fun z => by rw [z, c2] at hc; cases hc)⟩
/-! ### a slice of the script by a step -/
theorem vals_at : ∀ {vs : List V} {us : List Value}, Vals vs us → ∀ {i : Nat} {u : Value}, us[i]? = some u → ∃ v ∈ vs, RelV v u
  | _, _, .nil, i, u, e => by simp at e
  | _, u0 :: _, .cons r _, 0, u, e => by
    have : u0 = u := by simpa using e
    subst this
    exact ⟨_, List.mem_cons_self, r⟩
  | _, _, .cons _ t, i + 1, u, e => by
    obtain ⟨v, hv, r⟩ := vals_at t (i := i) (u := u) (by simpa using e)
    exact ⟨v, List.mem_cons_of_mem _ hv, r⟩
theorem pick_ints {ns : List Int} {its : List Value} (r : Vals (ns.map V.int) its) (lo hi st : Option Int) : ∃ ns' : List Int, ns'.length ≤ ns.length ∧ Vals (ns'.map V.int) (slicePick its.toArray lo hi st).toList := by
  have key : ∀ l : List Nat, ∃ ns' : List Int, Vals (ns'.map V.int) (l.filterMap (its.toArray[·]?)) := fun l => by
    induction l with
    | nil => exact ⟨[], .nil⟩
    | cons i l ih =>
      obtain ⟨ns', h⟩ := ih
      rw [List.filterMap_cons]
      cases e : its.toArray[i]? with
      | none => exact ⟨ns', h⟩
      | some u =>
        have e' : its[i]? = some u := by rw [← List.getElem?_toArray]; exact e
        have : ∃ n : Int, RelV (.int n) u := by
          clear e h
          obtain ⟨v, hv, r⟩ := vals_at r e'
          obtain ⟨n, _, rfl⟩ := List.mem_map.mp hv
          exact ⟨n, r⟩
        obtain ⟨n, hn⟩ := this
        exact ⟨n :: ns', .cons hn h⟩
  obtain ⟨ns', h⟩ := key (sliceRange (sliceBounds lo hi st its.toArray.size).1 (sliceBounds lo hi st its.toArray.size).2.1 (sliceBounds lo hi st its.toArray.size).2.2)
  refine ⟨ns', ?_, ?_⟩
  · have h' : Vals (ns'.map V.int) (slicePick its.toArray lo hi st).toList := h
    have l1 := h'.length
    have l2 := r.length
    have l3 := slicePick_size_le its.toArray lo hi st
    have l4 : (slicePick its.toArray lo hi st).toList.length = (slicePick its.toArray lo hi st).size := Array.length_toList
    have l5 : its.toArray.size = its.length := List.size_toArray
    rw [List.length_map] at l1 l2
    omega
  · exact h
def tSl3 (K : PySem.W.Frag) (te tl th ts : TE) : TE := fun σ H Q => te σ H fun x H1 => tl σ H1 fun l H2 => th σ H2 fun u H3 => ts σ H3 fun k H4 => ∃ (a : Addr) (ns : List Int) (i j s : Int), x = .ref a ∧ l = .int i ∧ u = .int j ∧ k = .int s ∧ s ≠ 0 ∧ SqL K H4 a (ns.map V.int) ∧ ∀ ns' : List Int, ns'.length ≤ ns.length → ∀ p, H4 p = none → Q (.ref p) (upd H4 p (.lst (ns'.map V.int)))
theorem pe_sl3 {e lo hi st : Expr} {te tl th ts : TE} {p3 : Pos} (he : PE X e te) (hl : PE X lo tl) (hh : PE X hi th) (hs : PE X st ts) (htl : ∀ (v p : Value), ∃ ops, subscripted (.Slice (some lo) (some hi) (some st) p3) false v p = operate ops (getItem v p) := by exact fun _ _ => ⟨_, by with_unfolding_all rfl⟩) : PE X (.Subscript e (.Slice (some lo) (some hi) (some st) p3) pos) (tSl3 X.K te tl th ts) := by
  refine ⟨fun pins s σ H Q I h => ?_⟩
  refine Subscript_ (thn (he.run pins s σ H _ I h) fun v s1 ⟨x, H1, I1, r1, q1⟩ => ?_)
  have part : ∀ {e : Expr} {t : TE} {s1 : Shared} {H1 : Hp} {Q1 : VK}, PE X e t → Inv X pins σ H1 s1 → t σ H1 Q1 → wpAny (model X.prog X.w) X.A (evalPart (some e) X.env) (EP X pins σ Q1) X.xe s1 := fun he I q => by
    rw [evalPart_some]
    exact he.run pins _ σ _ _ I q
  refine wpAny_Slice (thn (part hl I1 q1) fun vl s2 ⟨l, H2, I2, rl, q2⟩ => ?_)
  refine thn (part hh I2 q2) fun vu s3 ⟨u, H3, I3, ru, q3⟩ => ?_
  refine thn (part hs I3 q3) fun vs s4 ⟨k, H4, I4, rk, q4⟩ => ?_
  obtain ⟨a, ns, i, j, st', rfl, rfl, rfl, rfl, s0, hx, q⟩ := q4
  obtain ⟨t1, rfl⟩ := rl
  obtain ⟨t2, rfl⟩ := ru
  obtain ⟨t3, rfl⟩ := rk
  cases r1
  have I5 : Inv X pins σ H4 { s4 with heap := s4.heap.push { cls := .type "slice", data := .fields #[.int i t1, .int j t2, .int st' t3] } } := I4.kept (t' := s4.toks) fun b ob q => Heap.get?_push_of_some _ q
  obtain ⟨its, r, ht, hz⟩ := I5.list hx
  have hlen := r.length
  show wpAny (model X.prog X.w) X.A (subscriptTail e (.Slice (some lo) (some hi) (some st) p3) (.ref a) (.ref s4.heap.objs.size)) (EP X pins σ Q) X.xe { s4 with heap := s4.heap.push { cls := .type "slice", data := .fields #[.int i t1, .int j t2, .int st' t3] } }
  obtain ⟨ops, hops⟩ := htl (.ref a) (.ref s4.heap.objs.size)
  refine tail_any (ops := ops) ht.isList.typeIs (PySem.slot_list_getitem.lookup) ?_ hops
  refine wpAny_getItem_list_slice ht.isList (Heap.IsSliceOf.new _ (.int i t1) (.int j t2) (.int st' t3)) (.int i t1) (.int j t2) (.int st' t3) (fun z => s0 (Option.some.inj z)) ?_ (by rw [List.size_toArray]; omega)
  obtain ⟨ns', hl', hv⟩ := pick_ints r (some i) (some j) (some st')
  refine ⟨.ref _, _, I5.laid (t' := s4.toks) (o := .lst (ns'.map V.int)) (fun b ob q => Heap.get?_push_of_some _ q) (Nat.le_refl _) ?_, rfl, q ns' hl' _ (I5.hok.fresh (Nat.le_refl _))⟩
  exact ⟨by rw [List.length_map] at hz ⊢; omega, _, 0, hv, Heap.get?_push_size _ rfl⟩
def dSl3 (p l h s : DE) : DE := fun ρ P R => p ρ (fun d => l ρ (fun dl => h ρ (fun dh => s ρ (fun ds => ∃ (ns : List Int) (i j k : Int), d = .scr ns ∧ dl = .int i ∧ dh = .int j ∧ ds = .int k ∧ k ≠ 0 ∧ ∀ ns' : List Int, ns'.length ≤ ns.length → P (.lst (ns'.map .int))) R) R) R) R
theorem pd_sl3 {e lo hi st : Expr} {p l h s : DE} {p3 : Pos} (he : PE X e (lift X.K C E p)) (hl : PE X lo (lift X.K C E l)) (hh : PE X hi (lift X.K C E h)) (hs : PE X st (lift X.K C E s)) (htl : ∀ (v p : Value), ∃ ops, subscripted (.Slice (some lo) (some hi) (some st) p3) false v p = operate ops (getItem v p) := by exact fun _ _ => ⟨_, by with_unfolding_all rfl⟩) :
    PE X (.Subscript e (.Slice (some lo) (some hi) (some st) p3) pos) (lift X.K C E (dSl3 p l h s)) := (pe_sl3 he hl hh hs htl).wk fun σ H Q q => by
  obtain ⟨B, O0, O, ρ, P, R, k, q, hP, hR⟩ := q
  refine ⟨B, O0, O, ρ, _, R, k, q, fun x d H1 s1 r1 q1 => ⟨B, O0, O, ρ, _, R, k.ext s1, q1, fun y d2 H2 s2 r2 q2 => ⟨B, O0, O, ρ, _, R, (k.ext s1).ext s2, q2, fun z d3 H3 s3 r3 q3 => ⟨B, O0, O, ρ, _, R, ((k.ext s1).ext s2).ext s3, q3, fun u d4 H4 s4 r4 q4 => ?_, fun c H' s' z => hR c H' (((s1.trans s2).trans s3).trans s') z⟩, fun c H' s' z => hR c H' ((s1.trans s2).trans s') z⟩, fun c H' s' z => hR c H' (s1.trans s') z⟩, hR⟩
  obtain ⟨ns, i, j, m, rfl, rfl, rfl, rfl, m0, q⟩ := q4
  have s24 := (s2.trans s3).trans s4
  obtain ⟨a, rfl, e1⟩ := r1
  have k4 := (((k.ext s1).ext s2).ext s3).ext s4
  refine ⟨a, ns, i, j, m, rfl, r2, r3, r4, m0, s24.seq ((wo_le H1 O).seq e1), fun ns' hl p hp => ?_⟩
  exact hP _ _ _ ((s1.trans s24).trans (Same.new hp)) (rep_new_lst hp k4.al (RepL.ints _ ns')) (q ns' hl)
end
end L2.DL
/-! # try .. except X as n: y = n (the exception kept) -/
namespace L2
open PySem PySem.Spec PyProof.Rows
section
variable {X : Cx} {pz : List (Addr × Obj)} {σ : St} {H : Hp} {s : Shared}
theorem Inv.unsuiteK {a : Addr} {q : Addr × Obj} {pn' : List (Addr × Obj)} (I : Inv (X.suite a (q :: (X.pn ++ pz))) pn' σ H s) (ok : X.Ok) : Inv X (q :: pz) σ H s :=
  ⟨ok, I.os, I.bare, I.base, I.loc, I.cell, I.free, I.freeC, fun p hp => I.pin p (List.mem_append_left _ (by
    rcases List.mem_append.mp hp with h | h
    · exact List.mem_cons_of_mem _ (List.mem_append_left _ h)
    · rcases List.mem_cons.mp h with h | h
      · rw [h]; exact List.mem_cons_self
      · exact List.mem_cons_of_mem _ (List.mem_append_right _ h))), I.hok, I.len⟩
/-- the kept exception is tracked from now on -/
theorem Inv.trackX {a C0 : Addr} {ob : Obj} {vv : Array Value} (I : Inv X ((a, ob) :: pz) σ H s) (hz : Zc (.ref C0) none ob) (hd : ob.data = .fields vv) (a0 : X.s_0.heap.get? a = none) (np : ∀ p ∈ X.pn ++ pz, p.1 ≠ a) : Inv X pz σ (upd H a (DL.ExT C0 a)) s := by
  obtain ⟨ha, hn, aL, aF, nc⟩ := I.pin (a, ob) (List.mem_append_right _ List.mem_cons_self)
  dsimp only at ha hn aL aF nc
  have same_ : ∀ b, b ≠ a → upd H a (DL.ExT C0 a) b = H b := fun b hb => upd_ne hb
  have far0 : ∀ b o, X.s_0.heap.get? b = some o → b ≠ a := fun b o e z => by
    rw [z, a0] at e
    cases e
  have farS : ∀ b u, H b = some u → b ≠ a := fun b u e z => by
    rw [z, hn] at e
    cases e
  refine ⟨I.ok, I.os, I.bare, ⟨I.base.keep, I.base.slot, fun b o e n hx => by rw [same_ b (far0 b o e)]; exact I.base.free b o e n hx, I.base.there, fun b xs e => ?_, fun b o xs e => ?_, fun b ps e => ?_⟩, I.loc, I.cell, ?_, fun x c e => ?_, fun p hp => ?_, fun b u e => ?_, I.len⟩
  · have q := I.base.tups b xs e
    rw [same_ b (farS b _ q)]
    exact q
  · have q := I.base.frzs b o xs e
    rw [same_ b (farS b _ q)]
    exact q
  · obtain ⟨m, q⟩ := I.base.tbls b ps e
    exact ⟨m, by rw [same_ b (farS b _ q)]; exact q⟩
  · rw [same_ _ aL.symm]
    exact I.free
  · have hc := I.freeC x c e
    rw [same_ c]
    · exact hc
    · intro z
      obtain ⟨v, o, ho, hd'⟩ := I.cell x c e
      rw [z, ha] at ho
      cases ho
      exact nc v hd'
  · obtain ⟨e1, e2, e3⟩ := I.pin p (by
      rcases List.mem_append.mp hp with h | h
      · exact List.mem_append_left _ h
      · exact List.mem_append_right _ (List.mem_cons_of_mem _ h))
    exact ⟨e1, by rw [same_ _ (np p hp)]; exact e2, e3⟩
  · by_cases hb : b = a
    · subst hb
      rw [upd_same] at e
      cases e
      exact ⟨⟨ob, vv, ha, hz, hd⟩, ⟨ob, ha⟩, fun _ _ ⟨o, v, q, r⟩ k => ⟨o, v, k o q, r⟩⟩
    · rw [same_ b hb] at e
      exact (I.hok b u e).stay (fun c v _ q => q) (fun c q => by rw [same_ c (farS c _ q)]; exact q) fun c xs q => by rw [same_ c (farS c _ q)]; exact q
end
/-- what the clause 'except x as n: y = n' wishes of an exception of the body: slot i is n's, slot j y's -/
def wKept (X : Cx) (c : Value) (i j : Nat) (Wout : WX) (D : Ends) : WX := fun cls d σ H =>
  ∃ b, PySem.W.exmOne X.K cls c = some b ∧ (b = true → ∃ C0, cls = .ref C0 ∧ d = none ∧ ∀ a, H a = none → σ.length = X.N.length → D.nx (((σ.set i (some (.ref a))).set j (some (.ref a))).set i none) (upd H a (DL.ExT C0 a))) ∧ (b = false → Wout cls d σ H)
section
variable {X : Cx} {x n y : Str} {c : Value} {i j : Nat} {body : List Stmt} {np pos pos' p1 p2 p3 : Pos} {tb : WX → TS} {Wout : WX}
theorem ps_try_kept (hs : X.stack = X.env :: X.outer) (hf : X.env.frame = some X.env.locals) (nd : X.N.Nodup) (hi : X.N[i]? = some n) (kn : X.env.kindOf n = some .local) (hj : X.N[j]? = some y) (ky : X.env.kindOf y = some .local) (hc : Names X x c) (tk : Takes X Wout)
    (noex : X.ex = []) (hd : (n == ("__debug__" : Str)) = false) (dn2 : (n == ("__classdict__" : Str)) = false) (swp : ∀ a pn, swapsWith (.Name n p2) (some (.Name y p1)) p3.line (X.suite a pn).env = pure false)
    (hb : ∀ (W : WX) (pn : List (Addr × Obj)) (xe : Value → Shared → Prop), Takes (X.tr pn xe) W → PassesOwn (model X.prog X.w) X.A X.env xe → PSs (X.tr pn xe) body (tb W)) :
    PS X (.Try body [.ExceptHandler (some (.Name x np)) (some n) [.Assign [.Name y p1] (.Name n p2) p3] pos'] [] [] pos) (fun D σ H => tb (wKept X c i j Wout D) D σ H) := by
  refine ⟨fun pz s σ H D I h => ?_⟩
  have ok := I.ok
  have frs_ : X.A.frames = some (X.env :: X.outer) := by rw [ok.frames, hs]
  have locn : Loc X.env.scope n := .inl kn
  refine wpAny_Try_except ?_
  refine wpAny_mono ((hb (wKept X c i j Wout D) (X.pn ++ pz) (fun e s₁ => wpAny (model X.prog X.w) X.A (noteFrame e X.env) (fun _ s₂ => wpAny (model X.prog X.w) X.A (setFlight e none) (fun _ s₃ =>
    wpAny (model X.prog X.w) X.A (handleBy e X.env [.ExceptHandler (some (.Name x np)) (some n) [.Assign [.Name y p1] (.Name n p2) p3] pos']) (SP X pz D) X.xe s₃) X.xe s₂) X.xe s₁) (fun u s' exc_ => ?_) PassesOwn.looking).run [] s σ H D (I.toTry _) h) (fun f s1 post => ?_) (fun e s1 qe => qe)
  · -- the catch
    obtain ⟨a, B, sJ, pins', σ', H', cls, d, rfl, Jt, nbb, uw, sk, nA, oS, agr, b, hbb, yes_, no_⟩ := exc_
    have Jn : Inv X pz σ' H' sJ := Jt.ofTry ok
    have sk2 : Sky B (X.env :: X.outer) a (Zc cls d) X.env.locals s'.heap := by rw [← hs]; exact sk
    have bn : B.get? a = none := by
      rcases sk2 with ⟨_, hn, _⟩ | ff1 | gh0
      · exact hn
      · exact ff1.2.1
      · exact gh0.2.1
    show wpAny (model X.prog X.w) X.A (noteFrame (.ref a) X.env) _ _ _
    refine Sky.land Zc.steady frs_ hf sk2 fun ga fa ua => ?_
    have Ja : Inv X pz σ' H' { s' with heap := ga } := Jn.landed nbb fa.1 (uw.trans ua) oS agr
    obtain ⟨ea, va, qa, za, da⟩ := fa.there
    have frNo : ∀ {h : Heap} {o : Obj} {vv : Array Value}, h.FunFrames B (X.env :: X.outer) → h.get? a = some o → o.data = .fields vv → a ∉ frs (X.env :: X.outer) := fun {h o vv} ff e dd mm => by
      obtain ⟨_, o', e', hnf⟩ := ff.mem mm
      rw [e] at e'; cases e'
      exact hnf _ dd
    have noFr := frNo fa.2.2.1 qa da
    have aI : sJ.heap.get? a = none := by
      cases q : sJ.heap.get? a with
      | none => rfl
      | some o =>
        have := nbb a o q (by rw [hs]; exact noFr)
        rw [bn] at this
        cases this
    have aL : a ≠ X.env.locals := fun z => noFr (List.mem_filterMap.mpr ⟨X.env, List.mem_cons_self, by rw [hf, z]⟩)
    have aF : a ∉ X.fs := fun mm => by
      obtain ⟨e, qe, q⟩ := List.mem_filterMap.mp mm
      exact noFr (List.mem_filterMap.mpr ⟨e, List.mem_cons_of_mem _ qe, q⟩)
    have a0 : X.s_0.heap.get? a = none := by
      cases q : X.s_0.heap.get? a with
      | none => rfl
      | some o =>
        have hx : a ∉ X.ex := by rw [noex]; simp
        obtain ⟨o', e⟩ := Jn.base.there a o q hx
        rw [aI] at e
        cases e
    have Sa := Ja.suite qa da nA aL aF
    refine wpAny_handleBy_cons (codeAny_handlers_test ?_) (by intro q; cases q)
    have lookT : PySem.W.Looks (model X.prog X.w) ga (typeOf (.ref a)) cls := fun A Q E s k q => wpAny_typeOf_ref (k _ _ qa) (by rw [za.1]; exact q)
    have lookM := PySem.W.exm_one (M := model X.prog X.w) (Ja.kIn) lookT hbb
    have tst : ∀ {Q : Value → Shared → Prop} {E : Value → Shared → Prop}, Q c { s' with heap := ga } → wpAny (model X.prog X.w) (X.A.mark (some (.ref a))) (eval (.Name x np) X.env) Q E { s' with heap := ga } := fun {Q E} q => by
      obtain ⟨hg, dbg, mm | ⟨mm, hv, hnn⟩⟩ := hc
      · exact ld_glob (X := X.suite a ((a, ea) :: (X.pn ++ pz))) Sa hg mm q dbg
      · exact ld_blt (X := X.suite a ((a, ea) :: (X.pn ++ pz))) Sa hg mm hv q hnn dbg
    refine tst (lookM.here ?_)
    cases b with
    | true =>
      refine codeAny_handlers_suite_as (HandSPX.lands_againZ fa fun gb fb ub => ?_)
      have Jb : Inv X pz σ' H' { s' with heap := gb } := Jn.landed nbb fb.1 ((uw.trans ua).trans ub) oS agr
      obtain ⟨eb, vb, qb, zb, db⟩ := fb.there
      have Sb := Jb.suite qb db nA aL aF
      refine store_ok (X := X.suite a ((a, eb) :: (X.pn ++ pz))) (v := .ref a) Sb nd hi locn rfl (fun s5 Sc => ?_) (.inr kn)
      obtain ⟨C0, rfl, rfl, goes⟩ := yes_ rfl
      have lti : i < σ'.length := by rw [Jn.len]; exact (List.getElem?_eq_some_iff.mp hi).1
      have st : PSs (X.suite a ((a, eb) :: (X.pn ++ pz))) [.Assign [.Name y p1] (.Name n p2) p3] _ := pss_one (ps_set (X := X.suite a ((a, eb) :: (X.pn ++ pz))) nd hj (.inl ky) (pe_var (X := X.suite a ((a, eb) :: (X.pn ++ pz))) (pos := p2) hi (.inl kn) hd dn2) (swp a _) (.inr ky))
      refine wpAny_mono (st.run [] s5 _ H' { nx := fun σ6 H6 => σ6 = (σ'.set i (some (.ref a))).set j (some (.ref a)) ∧ H6 = H', rt := fun _ _ => False } Sc ⟨.ref a, List.getElem?_set_self lti, rfl, rfl⟩) (fun f s6 post => ?_) (fun _ _ z => False.elim z)
      have np : ∀ p ∈ X.pn ++ pz, p.1 ≠ a := fun p hp z => by
        obtain ⟨e, _⟩ := Jn.pin p hp
        rw [z, aI] at e
        cases e
      cases f with
      | next =>
        obtain ⟨σ6, H6, Sd, rfl, rfl⟩ := post
        refine gone_ok (Sd.unsuiteK ok) nd hi kn fun s7 Jc => ?_
        have p7 := (Jc.pin (a, eb) (List.mem_append_right _ List.mem_cons_self)).1
        exact ⟨_, _, Jc.trackX zb db a0 np, goes a nA Jn.len⟩
      | brk =>
        obtain ⟨_, _, _, z⟩ := post
        exact z.elim
      | cont =>
        obtain ⟨_, _, _, z⟩ := post
        exact z.elim
      | ret u =>
        obtain ⟨_, _, _, _, _, z⟩ := post
        exact z.elim
    | false =>
      show wpAny _ X.A (handleBy (.ref a) X.env []) _ _ _
      refine wpAny_handleBy_nil ?_
      obtain ⟨k1, k2, k3, ob, vv, T, oT, ts', qe, hz, hd', h1, hr⟩ := id fa
      unfold PySem.passOn
      refine wpAny_bind (wpAny_field qe hd' h1 ?_)
      rw [if_neg (show ¬ ((Value.ref T == Value.none) = true) from by simp)]
      have fini : wpAny (model X.prog X.w) X.A (setFlight (.ref a) X.env.frame) (fun _ s4 => wpAny (model X.prog X.w) X.A (throw (.ref a) : Sem Flow) (SP X pz D) X.xe s4) X.xe { s' with heap := ga } := by
        rw [hf]
        refine HandSPX.setFlight_upZ fa fun gb gh ub => wpAny_throw (tk _ _ ?_)
        exact ⟨a, B, sJ, pz, σ', H', cls, d, rfl, Jn, nbb, (uw.trans ua).trans ub, .inr (.inr (by rw [hs]; exact gh)), nA, oS, agr, no_ rfl⟩
      first
        | exact wpAny_bind (wpAny_pure (wpAny_bind fini))
        | exact wpAny_bind fini
  · cases f with
    | next =>
      obtain ⟨σ', H', Jt, q⟩ := post
      exact wpAny_execs_nil ⟨σ', H', Jt.ofTry ok, q⟩
    | brk =>
      obtain ⟨σ', H', Jt, q⟩ := post
      exact ⟨σ', H', Jt.ofTry ok, q⟩
    | cont =>
      obtain ⟨σ', H', Jt, q⟩ := post
      exact ⟨σ', H', Jt.ofTry ok, q⟩
    | ret u =>
      obtain ⟨v, σ', H', Jt, r, q⟩ := post
      exact ⟨v, σ', H', Jt.ofTry ok, r, q⟩
end
end L2
/-! # A lambda without parameters handed to a def: all but one table stays -/
namespace L2.DL
open PySem PySem.Spec PyProof.Rows LamX

/-- all but the table at tP stays -/
def ExtP (tP : Addr) (G G' : Hp) : Prop := ∀ b u, b ≠ tP → G b = some u → G' b = some u
theorem ExtP.rfl' (tP : Addr) (G : Hp) : ExtP tP G G := fun _ _ _ e => e
theorem ExtP.trans {tP : Addr} {G G1 G2 : Hp} (a : ExtP tP G G1) (b : ExtP tP G1 G2) : ExtP tP G G2 := fun c u n e => b c u n (a c u n e)
section
variable {X : Cx} {pn : List (Addr × Obj)} {τ : L2.St} {G : Hp} {t : Shared}
theorem lam_own {cM tP : Addr} {prs : Arguments} {lb : Expr} {sc : Scope} {lp : Pos} {nm : Str} {E Q : Value → Shared → Prop} (J : Inv X pn τ G t) (B : TabB X.base X.mg cM tP) (hcd : X.env.code = .ref cM) (hnm : nm = X.env.qual ++ "<lambda>")
    (hS : TabS G tP nm) (hdf : defaultsOf prs X.env = ([], [])) (hcl : ∀ y ∈ sc.names, y.2 = .free → ∃ c, X.env.cells.lookup y.1 = some c)
    (k : ∀ (f c1 : Addr) (pm ctv : Value) (G1 : Hp) (t1 : Shared), Inv X pn τ G1 t1 → ExtP tP G G1 → TabS G1 tP nm →
      t1.heap.get? f = some (PySem.W.kla_obj "<lambda>" nm prs lb sc (cloFrom X.env.cells sc.names []) pm c1 ctv) → G1 f = none → f ∉ frs X.stack → G1 c1 = some (CodeO c1 nm) → Q (.ref f) t1) :
    wpAny (model X.prog X.w) X.A (eval (.Lambda prs lb sc lp) X.env) Q E t := by
  subst hnm
  obtain ⟨tb, eP, tok, tcd⟩ := hS
  have bat := B.bm.keeps J.bk
  have eP' : t.heap.get? tP = some { cls := .none, data := .fields tb } := J.hok tP _ eP
  have outside : ∀ f, t.heap.objs.size ≤ f → f ∉ frs X.stack := fun f le hm => by
    rcases List.mem_cons.mp (J.stkSub _ hm) with z | z
    · exact absurd (Nat.lt_of_lt_of_le J.lt (by rw [← z]; exact le)) (Nat.lt_irrefl _)
    · exact J.nofs le z
  refine PySem.W.kla_eval hdf ?_
  generalize hlook : codeAmong lp tb.toList = look
  cases look with
  | some cv =>
    obtain ⟨c1, rfl, ec⟩ := tcd lp cv hlook
    refine PySem.W.kla_makeFunctionHit (P := tP) (c := cM) (mg := X.mg) (ps := tb) (closure_ok hcl) J.ok.glob (J.mod.glob.keeps J.bk) hcd (B.code.keeps J.bk) eP' tok hlook bat fun ctv g1 tk ke le => ?_
    exact k g1.objs.size c1 ((X.mg "__name__").getD .none) ctv G _ (J.kept fun b o e => Heap.get?_push_of_some _ (ke b o e)) (ExtP.rfl' tP G) ⟨tb, eP, tok, tcd⟩ (Heap.get?_push_size _ rfl) (J.hok.fresh le) (outside _ le) ec
  | none =>
    refine PySem.W.kla_makeFunction (P := tP) (c := cM) (mg := X.mg) (ps := tb) (closure_ok hcl) J.ok.glob (J.mod.glob.keeps J.bk) hcd (B.code.keeps J.bk) eP' tok hlook B.gP bat fun c1 ctv g1 tk ke ge lt rec_ etb => ?_
    obtain ⟨c2, oc, vs, tt, z, eoc, edc, evs⟩ := rec_
    cases z
    have fresh1 : G c1 = none := J.hok.fresh ge
    obtain ⟨G1, hG1⟩ : ∃ G1 : Hp, G1 = upd (upd G tP (.tbl (tb ++ #[rawInt lp.line, rawInt lp.col, .ref c1]))) c1 (CodeO c1 (X.env.qual ++ "<lambda>")) := ⟨_, rfl⟩
    have J1 := inv_table (more := #[rawInt lp.line, rawInt lp.col, .ref c1]) (t' := tk) (h' := g1.push (PySem.W.kla_obj "<lambda>" (X.env.qual ++ "<lambda>") prs lb sc (cloFrom X.env.cells sc.names []) ((X.mg "__name__").getD .none) c1 ctv)) J eP
      (fun b o n e => Heap.get?_push_of_some _ (ke b o n e)) (Heap.get?_push_of_some _ etb) ge ⟨oc, vs, tt, Heap.get?_push_of_some _ eoc, edc, evs⟩
    rw [← hG1] at J1
    have ext : ExtP tP G G1 := fun b u n e => by rw [hG1, upd_ne (ne_of_none e fresh1), upd_ne n]; exact e
    have atC : G1 c1 = some (CodeO c1 (X.env.qual ++ "<lambda>")) := by rw [hG1, upd_same]
    have notP : ∀ c0 nm0, G c0 = some (CodeO c0 nm0) → c0 ≠ tP := fun c0 nm0 e z => by
      rw [z, eP] at e
      exact codeO_ne _ (Option.some.inj e).symm
    have tab1 : TabS G1 tP (X.env.qual ++ "<lambda>") := by
      have el : (tb ++ #[rawInt lp.line, rawInt lp.col, .ref c1]).toList = tb.toList ++ [rawInt lp.line, rawInt lp.col, .ref c1] := by simp
      refine ⟨_, by rw [hG1, upd_ne (ne_of_none eP fresh1), upd_same], by rw [el]; exact PySem.TriplesOk_snoc _ _ _ _ tok, fun p2 cv hcv => ?_⟩
      rw [el] at hcv
      rcases among_app tb.toList tok hcv with old | new
      · obtain ⟨c0, h1, h2⟩ := tcd p2 cv old
        exact ⟨c0, h1, ext _ _ (notP _ _ h2) h2⟩
      · exact ⟨c1, new, atC⟩
    have size : t.heap.objs.size ≤ g1.objs.size := by omega
    refine k g1.objs.size c1 ((X.mg "__name__").getD .none) ctv G1 _ J1 ext tab1 (Heap.get?_push_size _ rfl) ?_ (outside _ size) atC
    rw [hG1, upd_ne (Nat.ne_of_gt lt), upd_ne (Nat.ne_of_gt (Nat.lt_of_lt_of_le (Heap.lt_size eP') size))]
    exact J.hok.fresh size
/-- x(lambda: lb): the reading -/
def tLamP (tP : Addr) (nm : Str) (TT : (XK → Hp → VK → Prop) → Hp → VK → Prop) (t : XK → TE) : TE := fun τ G Q => TabS G tP nm ∧ ∀ G1, ExtP tP G G1 → TabS G1 tP nm → TT (fun E G' Q' => t E τ G' Q') G1 Q
theorem pe_lamP {TT : (XK → Hp → VK → Prop) → Hp → VK → Prop} {x a nm : Str} {g cM tP : Addr} {k : Nat} {st : Stmt} {fd : FuncData} {Ng : List Str} {prs : Arguments} {lb : Expr} {sc : Scope} {t : XK → TE} {p lp pos : Pos}
    (Fg : Fun X.K x x st g fd) (Sg : FnScope Ng [a] (defScope st)) (hb : L2.Binds X.K fd [a] []) (hg : Gl X x) (hm : X.mg x = some (.ref g)) (h0 : Ng[0]? = some a) (hva : Vis (defScope st) a) (hG : ∀ cdg : Value, GivesTo X Ng x (defScope st) g cdg (defBody st) a (X.env.qual ++ "<lambda>") TT)
    (B : TabB X.base X.mg cM tP) (hcd : X.env.code = .ref cM) (hnm : nm = X.env.qual ++ "<lambda>") (hr : Room (k + 2) X.A) (L : LamS X.env.scope sc) (hdf : defaultsOf prs X.env = ([], []))
    (hbind : ∀ (q : Str) (cl : List (Str × Addr)) (pm cv ctv : Value), bindArgs (PySem.W.kla_fn "<lambda>" q prs lb sc cl pm cv ctv) ⟨[], []⟩ = pure [])
    (hlb : ∀ (A : Around) (outer : List PySem.Env) (s : Shared) (H : Hp) (E : XK) (f c1 : Addr), Room k (A.deeper (lamEnv X sc s.heap.objs.size f c1)) → PE (lamCx X A outer s H E sc f c1) lb (t E))
    (hdb : (x == ("__debug__" : Str)) = false := by decide) (hda : (a == ("__debug__" : Str)) = false := by decide) (hcda : (a == ("__classdict__" : Str)) = false := by decide) :
    PE X (.Call (.Name x p) [.Lambda prs lb sc lp] [] pos) (tLamP tP nm TT t) := by
  subst hnm
  refine ⟨fun pn s τ G Q J ⟨hT, hq⟩ => wpAny_Call_Name_kw (ld_glob J hg hm ?_ hdb)⟩
  refine PySem.W.callWith_K (h₀ := X.base) J.ok.mod.kin Fg.kp ?_ (by rfl) (by rfl)
  obtain ⟨oc, od, kV, doc, pm, an, cdg, ct, osl, rfl, lkg, hcg⟩ := Fg.ex
  show wpAny _ _ (spliced ((false, eval (.Lambda prs lb sc lp) X.env) :: backTo pos (starEach [] X.env))) _ _ s
  refine Calls.spliced_cons (lam_own J B hcd rfl hT hdf (L.has J.ok) fun f c1 pm1 ctv G1 s1 J1 ext T1 ef nf outf ec => Calls.spliced_nil ⟨J1.kIn, ?_⟩)
  have run : codeAny (model X.prog X.w) X.A (.call (.ref g) ⟨[.ref f], []⟩) (CR C8.CX0 X.stack X.prog X.w G1 s1 Q C8.E0) s1 := by
    refine run_ofS (ps := [a]) (N := Ng) (vs := [.ref f]) (us := [.ref f]) lkg hcg Sg hr J1.env0 (hb s1 [.ref f] J1.kIn rfl) (.cons rfl .nil) rfl fun hr1 => ?_
    obtain ⟨t2, ht2, hq2⟩ := hG cdg f c1 s1 G1 Q (fun E G' Q' => t E τ G' Q') (fun W pn xe E p1 p2 tk hW => pe_act (i := 0) J1 L ef nf outf (hbind _ _ _ _ _) tk hW hr1 (fun A outer s H hr2 => hlb A outer s H E f c1 hr2) h0 hva hda hcda) ec (hq G1 ext T1)
    exact ⟨t2, ht2.nox, hq2⟩
  refine wpAny_call (codeAny_mono run fun r s2 fin => ?_)
  match r, fin with
  | .error e, fin => exact (show False from fin).elim
  | .ok (.ret u), fin => exact J1.after fin
  | .ok .next, fin => exact False.elim fin
  | .ok .brk, fin => exact False.elim fin
  | .ok .cont, fin => exact False.elim fin
end
/-! ### the def that keeps the refusal -/
/-- kept = None / try: a() / except X as e: kept = e / return kept -/
def TKept (K : PySem.W.Frag) (KE : Addr) : (XK → Hp → VK → Prop) → Hp → VK → Prop := fun tl G Q =>
  tl (fun cls d G' => ∃ C0, cls = .ref C0 ∧ d = none ∧ PySem.W.exmOne K cls (.ref KE) = some true ∧ ∀ b, G' b = none → Q (.ref b) (upd G' b (ExT C0 b))) G fun _ G' => Q .non G'
theorem kept_gives {X : Cx} {Ng : List Str} {x a y n xe q : Str} {sg : Scope} {g KE : Addr} {cdg : Value} {jn : Nat} {p1 p2 p3 p4 p5 p6 p7 p8 p9 q1 q2 q3 q4 q5 : Pos} (hNd : Ng.Nodup) (h1 : Ng[1]? = some y) (h2 : Ng[2]? = some n) (hl : Ng.length = 3) (hy : sg.names.lookup y = some .local) (hn : sg.names.lookup n = some .local)
    (hge : sg.names.lookup xe = some .globalImplicit) (hme : X.mg xe = some (.ref KE)) (hde : (xe == ("__debug__" : Str)) = false := by decide) (hdy : (y == ("__debug__" : Str)) = false := by decide) (hcy : (y == ("__classdict__" : Str)) = false := by decide) (hdn : (n == ("__debug__" : Str)) = false := by decide) (hcn : (n == ("__classdict__" : Str)) = false := by decide) :
    GivesTo X Ng x sg g cdg [.Assign [.Name y q1] (.Constant .none jn q2) q3, .Try [.Expr (.Call (.Name a p1) [] [] p2) p3] [.ExceptHandler (some (.Name xe p4)) (some n) [.Assign [.Name y p5] (.Name n p6) p7] p8] [] [] p9, .Return (some (.Name y q4)) q5] a q (TKept X.K KE) := by
  intro f c1 s G Q tl act hc h
  have st : L2.start Ng [V.ref f] = [some (.ref f), none, none] := by
    unfold L2.start
    rw [hl]
    rfl
  refine ⟨_, pss_cons (ps_set (X := (cxOf C8.CX0 X.prog X.w X.K X.mg X.base Ng x sg g cdg X.A X.stack s G C8.E0).nox) hNd h1 (.inl hy) pe_non (by rfl) (.inr hy)) (pss_cons (ps_try_kept (X := (cxOf C8.CX0 X.prog X.w X.K X.mg X.base Ng x sg g cdg X.A X.stack s G C8.E0).nox) (i := 2) (j := 1) (c := .ref KE)
      (tb := fun W D σ H => ∃ Ech : XK, (∀ cls d σ' H', Ech cls d H' → W cls d σ' H') ∧ σ[0]? = some (some (.ref f)) ∧ H c1 = some (CodeO c1 q) ∧ tl Ech H fun _ H' => D.nx σ H')
      rfl rfl hNd h2 hn h1 hy ⟨hge, hde, .inl hme⟩ takes0 rfl hdn hcn (fun _ _ => rfl) (fun W pn xe tk _ => ?_)) (pss_one (ps_ret (pe_var (i := 1) h1 (.inl hy) hdy hcy)))), ?_⟩
  · refine ⟨fun pins s2 τ G2 D I ⟨Ech, hW, e0, ec, q⟩ => ?_⟩
    have pe := pss_one (ps_expr (pos := p3) (act W pn xe Ech p1 p2 tk hW) (by rfl))
    exact pe.run pins s2 τ G2 D I ⟨e0, ec, q⟩
  · have e : (fun (_ : V) (H' : Hp) => ∃ v, ((L2.start Ng [V.ref f]).set 1 (some V.non))[1]? = some (some v) ∧ Q v H') = fun _ G' => Q .non G' := by
      funext _ H'
      rw [st]
      exact propext ⟨fun ⟨v, e1, e2⟩ => by
        have e3 : V.non = v := Option.some.inj (Option.some.inj e1)
        rw [e3]
        exact e2, fun z => ⟨.non, rfl, z⟩⟩
    have h' := h
    unfold TKept at h'
    rw [← e] at h'
    refine ⟨_, fun cls d σ' H' ⟨C0, e1, e2, e3, e4⟩ => ⟨true, e3, fun _ => ⟨C0, e1, e2, fun b eb el => ?_⟩, fun z => nomatch z⟩, by rw [st]; rfl, hc, h'⟩
    have el' : σ'.length = 3 := el.trans hl
    refine ⟨.ref b, ?_, e4 b eb⟩
    rw [List.getElem?_set_ne (by decide), List.getElem?_set_self (by rw [List.length_set, el']; decide)]
end L2.DL
/-! # Refusals kept as data: lambdas handed to the def that keeps them; isinstance of a refusal; defs that change a table of code objects -/
namespace L2.DL
open PySem PySem.Spec PyProof.Rows LamX
section
variable {K : PySem.W.Frag} {C : Addr} {B H H' : Hp} {O0 O : List Addr} {σ : St} {ρ : Env}
theorem Ok.extP (k : Ok K C B O0 O H σ ρ) {j : Nat} {tP : Addr} {nm : Str} (hj : ρ[j]? = some (some (.tb tP nm))) (x : ExtP tP H H') (t1 : TabS H' tP nm) : Ok K C B O0 O H' σ ρ := by
  obtain ⟨hO, hB, ps, hP, _⟩ := k.tb.at_ j tP nm hj
  have ne : ∀ {b u}, H b = some u → (∀ ps, u ≠ .tbl ps) → b ≠ tP := fun {b u} e n z => by
    rw [z, hP] at e
    exact n ps (Option.some.inj e).symm
  have sw : Same (wo H O) (wo H' O) := fun b u e => by
    have nO : b ∉ O := fun z => by
      unfold wo at e
      rw [if_pos z] at e
      cases e
    exact wo_of (x b u (fun z => nO (z ▸ hO)) (wo_some e)) nO
  refine ⟨fun b u e => x b u (fun z => by rw [z, hB] at e; cases e) (k.base b u e), k.al0, fun a ha => ?_, k.sub0, k.new, k.len, fun i d e => ?_, fun i es e => ?_, k.uniq, k.st.to (fun _ _ _ _ e => e) (fun _ _ _ h _ => h) (fun a dx fs _ _ e _ => x a _ (ne e fun _ z => nomatch z) e) sw (fun _ _ h => h),
    k.ls.to (fun _ _ _ e => e) (fun _ _ _ _ _ _ h => h) (fun _ a _ _ _ _ _ e => x a _ (ne e fun _ z => nomatch z) e) sw (fun _ _ h => h) k.ls.no, ⟨fun i p q e => ?_, k.tb.one⟩⟩
  · by_cases z : a = tP
    · obtain ⟨ps', e, _⟩ := id t1
      rw [z, e]
      intro z
      cases z
    · cases e : H a with
      | none => exact absurd e (k.al a ha)
      | some u => rw [x a u z e]; intro z; cases z
  · obtain ⟨y, e1, e2⟩ := k.val i d e
    exact ⟨y, e1, Rep.mono sw d e2⟩
  · obtain ⟨q, ws, e1, e2, e3, e4, e5⟩ := k.own i es e
    exact ⟨q, ws, e1, e2, e3, x q _ (ne e4 fun _ z => nomatch z) e4, RepL.mono sw es e5⟩
  · obtain ⟨h1, h2, h3⟩ := k.tb.at_ i p q e
    refine ⟨h1, h2, ?_⟩
    by_cases z : p = tP
    · subst z
      rw [k.tb.one i j p q nm e hj]
      exact t1
    · obtain ⟨ps', a1, a2, a3⟩ := h3
      refine ⟨ps', x p _ z a1, a2, fun pos cv hc => ?_⟩
      obtain ⟨c, g1, g2⟩ := a3 pos cv hc
      exact ⟨c, g1, x c _ (ne g2 fun ps => codeO_ne ps) g2⟩
end
/-! ### the def that keeps a refusal, called with a lambda -/
structure Kd (K : PySem.W.Frag) (mg : Str → Option Value) (KE : Addr) (x : Str) : Prop where
  ex : ∃ (st : Stmt) (g : Addr) (fd : FuncData) (Ng : List Str) (a : Str), Fun K x x st g fd ∧ FnScope Ng [a] (defScope st) ∧ L2.Binds K fd [a] [] ∧ mg x = some (.ref g) ∧ Ng[0]? = some a ∧ Vis (defScope st) a ∧ (a == ("__debug__" : Str)) = false ∧ (a == ("__classdict__" : Str)) = false ∧
    ∀ (X : Cx) (cdg : Value) (q : Str), X.K = K → X.mg = mg → GivesTo X Ng x (defScope st) g cdg (defBody st) a q (TKept K KE)
def dKept (K : PySem.W.Frag) (tP KE : Addr) (nm : Str) (pb : DE) : DEM := fun ρ P _ => (∃ j : Nat, ρ[j]? = some (some (.tb tP nm))) ∧ pb ρ (fun _ => P .non ρ) (fun c => PySem.W.exmOne K (.ref c) (.ref KE) = some true ∧ P (.exc c) ρ)
theorem pxLam {X : Cx} {A : Around} {outer : List PySem.Env} {s : Shared} {H : Hp} {E : XK} {sc : Scope} {f c1 : Addr} : Passes (L2.CX X.prog X.w) (lamCx X A outer s H E sc f c1) E := passes_call (takes_of rfl rfl rfl rfl) fun _ _ _ _ h => h
theorem pm_kept0 {X : Cx} {C KE cM tP : Addr} {E : XK} {x nm : Str} {k : Nat} {prs : Arguments} {lb : Expr} {sc : Scope} {pb : DE} {p lp pos : Pos} (D : Kd X.K X.mg KE x) (hg : Gl X x) (TB : TabB X.base X.mg cM tP) (hcd : X.env.code = .ref cM) (hr : Room (k + 2) X.A) (hnm : nm = X.env.qual ++ "<lambda>") (L : LamS X.env.scope sc)
    (hlb : ∀ (A : Around) (outer : List PySem.Env) (s : Shared) (H : Hp) (E : XK) (f c1 : Addr), Room k (A.deeper (lamEnv X sc s.heap.objs.size f c1)) → Passes (L2.CX X.prog X.w) (lamCx X A outer s H E sc f c1) E → PE (lamCx X A outer s H E sc f c1) lb (lift X.K C E pb))
    (hdf : defaultsOf prs X.env = ([], []) := by rfl) (hbind : ∀ (q : Str) (cl : List (Str × Addr)) (pm cv ctv : Value), bindArgs (PySem.W.kla_fn "<lambda>" q prs lb sc cl pm cv ctv) ⟨[], []⟩ = pure [] := by intros; rfl) (hdb : (x == ("__debug__" : Str)) = false := by decide) :
    PE X (.Call (.Name x p) [.Lambda prs lb sc lp] [] pos) (liftM X.K C E (dKept X.K tP KE nm pb)) := by
  obtain ⟨st, g, fd, Ng, a, Fg, Sg, hb, hm, h0, hva, hda, hcda, G⟩ := D.ex
  refine (pe_lamP (t := fun E => lift X.K C E pb) Fg Sg hb hg hm h0 hva (fun cdg => G X cdg _ rfl rfl) TB hcd hnm hr L hdf hbind (fun A outer s H E f c1 hr => hlb A outer s H E f c1 hr pxLam) hdb hda hcda).wk fun σ H Q q => ?_
  obtain ⟨B, O0, O, ρ, P, R, k, ⟨⟨j, hj⟩, q⟩, hP, hR⟩ := q
  obtain ⟨_, _, hT⟩ := k.tb.at_ j tP nm hj
  refine ⟨hT, fun G1 ext T1 => ?_⟩
  have k1 := k.extP hj ext T1
  refine ⟨B, O0, O, ρ, _, _, k1, q, fun v d H' s' r p => hP .non .non H' ρ O (k1.ext s') rfl p, fun c H' s' ⟨he, p⟩ => ⟨c, rfl, rfl, he, fun b hb => ?_⟩⟩
  have k2 := k1.ext s'
  exact hP (.ref b) (.exc c) _ ρ O (k2.ext (Same.new hb)) ⟨b, rfl, wo_of upd_same (k2.al.new hb)⟩ p
theorem pm_kept {K : PySem.W.Frag} {X : Cx} {C KE cM tP : Addr} {E : XK} {x nm : Str} {k : Nat} {prs : Arguments} {lb : Expr} {sc : Scope} {pb : DE} {p lp pos : Pos} (hK : X.K = K) (D : Kd K X.mg KE x) (hg : Gl X x) (TB : TabB X.base X.mg cM tP) (hcd : X.env.code = .ref cM) (hr : Room (k + 2) X.A) (hnm : nm = X.env.qual ++ "<lambda>") (L : LamS X.env.scope sc)
    (hlb : ∀ (A : Around) (outer : List PySem.Env) (s : Shared) (H : Hp) (E : XK) (f c1 : Addr), Room k (A.deeper (lamEnv X sc s.heap.objs.size f c1)) → Passes (L2.CX X.prog X.w) (lamCx X A outer s H E sc f c1) E → PE (lamCx X A outer s H E sc f c1) lb (lift X.K C E pb))
    (hdf : defaultsOf prs X.env = ([], []) := by rfl) (hbind : ∀ (q : Str) (cl : List (Str × Addr)) (pm cv ctv : Value), bindArgs (PySem.W.kla_fn "<lambda>" q prs lb sc cl pm cv ctv) ⟨[], []⟩ = pure [] := by intros; rfl) (hdb : (x == ("__debug__" : Str)) = false := by decide) :
    PE X (.Call (.Name x p) [.Lambda prs lb sc lp] [] pos) (liftM X.K C E (dKept K tP KE nm pb)) := by
  subst hK
  exact pm_kept0 D hg TB hcd hr hnm L hlb hdf hbind hdb
/-! ### isinstance of a refusal -/
def rIsX (K : PySem.W.Frag) (C0 : Addr) : List V → Hp → VK → Prop := fun xs H Q => ∃ (a : Addr) (c : V) (cv : Value) (b : Bool), xs = [.ref a, c] ∧ H a = some (ExT C0 a) ∧ (∀ u, RelV c u → u = cv) ∧ PySem.W.kitOne K (.ref C0) cv = some b ∧ Q (.bl b) H
theorem call_isX {X : Cx} {C0 : Addr} (Y : ExcC X.K C0) : CallR X (.builtin "isinstance") (rIsX X.K C0) := by
  rintro pins s σ H xs us Q I (_ | ⟨r1, _ | ⟨r2, _ | _⟩⟩) ⟨a, c, cv, b, e, ha, hc, hk, q⟩
  all_goals first | cases e | skip
  obtain rfl := r1
  obtain rfl := hc _ r2
  obtain ⟨⟨oe, vs, eo, ⟨z1, z2⟩, ed⟩, _, _⟩ := I.hok a _ ha
  have J : PySem.W.InstAt s.heap a oe C0 none := by
    obtain ⟨oc, od, oda, osl⟩ := oe
    dsimp only at z1 z2 ed
    subst z1 z2 ed
    exact ⟨eo, rfl, rfl, trivial⟩
  exact PySem.W.kia_one (PySem.W.handS_kitx_exc Y.hg Y.hk Y.hs Y.hd Y.ha Y.hn Y.ht Y.hm) I.kIn J hk (fun z => nomatch z) fun tk => ⟨.bl b, H, I.kept (t' := tk) fun _ _ z => z, rfl, q⟩
def kitD (K : PySem.W.Frag) (c : Addr) : D → Option Bool
  | .adr a => PySem.W.kitOne K (.ref c) (.ref a)
  | .ty n => PySem.W.kitOne K (.ref c) (.type n)
  | _ => none
def dIsE (K : PySem.W.Frag) (p q : DE) : DE := fun ρ P R => p ρ (fun x => q ρ (fun y => ∃ c b, x = .exc c ∧ ExcC K c ∧ kitD K c y = some b ∧ P (.bl b)) R) R
theorem kitD_rel {K : PySem.W.Frag} {C c : Addr} {H : Hp} {y : D} {v : V} {b : Bool} (h : kitD K c y = some b) (r : Rep K C H y v) : ∃ cv, (∀ u, RelV v u → u = cv) ∧ PySem.W.kitOne K (.ref c) cv = some b := by
  cases y with
  | adr a =>
    obtain rfl : v = .ref a := r
    exact ⟨.ref a, fun u e => e, h⟩
  | ty n =>
    obtain rfl : v = .ty n := r
    exact ⟨.type n, fun u e => e, h⟩
  | _ => cases h
theorem pd_isE0 {X : Cx} {C : Addr} {E : XK} {a b : Expr} {p q : DE} {np pos : Pos} (nb : X.mg "isinstance" = none) (ha : PE X a (lift X.K C E p)) (hb : PE X b (lift X.K C E q)) (hg : Gl X "isinstance" := by rfl) (hs1 : starEach [a, b] X.env = (false, eval a X.env) :: starEach [b] X.env := by rfl) (hs2 : starEach [b] X.env = (false, eval b X.env) :: starEach [] X.env := by rfl) (hpl : (backTo pos (starEach [b] X.env)).any (·.1) = false := by rfl) :
    PE X (.Call (.Name "isinstance" np) [a, b] [] pos) (lift X.K C E (dIsE X.K p q)) := by
  have any : CallR X (.builtin "isinstance") (fun xs H Q => ∃ C0, ExcC X.K C0 ∧ rIsX X.K C0 xs H Q) := fun pins s σ H xs us Q I r ⟨C0, Y, h⟩ => call_isX Y pins s σ H xs us Q I r h
  refine (pe_callB any hg nb bt_isinstance (pa_cons ha (pa_cons hb pa_nil hs2) hs1) (by decide) (by decide) hs1 hpl).wk fun σ H Q h => ?_
  obtain ⟨B, O0, O, ρ, P, R, k, h, hP, hR⟩ := h
  refine ⟨B, O0, O, ρ, _, R, k, h, fun x dx H1 s1 r1 h1 => ⟨B, O0, O, ρ, _, R, k.ext s1, h1, fun y dy H2 s2 r2 h2 => ?_, fun c H' s' z => hR c H' (s1.trans s') z⟩, hR⟩
  obtain ⟨c, t, rfl, Y, hk, h3⟩ := h2
  obtain ⟨a', rfl, e1⟩ := r1
  obtain ⟨cv, hcv, hk2⟩ := kitD_rel hk r2
  exact ⟨c, Y, a', y, cv, t, rfl, s2 _ _ (wo_some e1), hcv, hk2, hP (.bl t) (.bl t) H2 (s1.trans s2) rfl h3⟩
/-- the same, the facts' own name ahead -/
theorem pd_isE {K : PySem.W.Frag} {X : Cx} {C : Addr} {E : XK} {a b : Expr} {p q : DE} {np pos : Pos} (hK : X.K = K) (nb : X.mg "isinstance" = none) (ha : PE X a (lift X.K C E p)) (hb : PE X b (lift X.K C E q)) (hg : Gl X "isinstance" := by rfl) (hs1 : starEach [a, b] X.env = (false, eval a X.env) :: starEach [b] X.env := by rfl) (hs2 : starEach [b] X.env = (false, eval b X.env) :: starEach [] X.env := by rfl) (hpl : (backTo pos (starEach [b] X.env)).any (·.1) = false := by rfl) :
    PE X (.Call (.Name "isinstance" np) [a, b] [] pos) (lift X.K C E (dIsE K p q)) := by
  subst hK
  exact pd_isE0 nb ha hb hg hs1 hs2 hpl
/-! ### stateful things among the others -/
section
variable {X : Cx} {C : Addr} {E : XK} {a b : Expr} {pos : Pos}
/-- f(e), e stateful, f a def that changes nothing -/
def dCallM (t : DP) (p : DEM) : DEM := fun ρ P R => p ρ (fun d ρ' => t [d] (fun r => P r ρ') (fun c => R c ρ')) R
theorem pm_callM {k : Nat} {x : Str} {t : DP} {p : DEM} {np : Pos} (F : Fc X.prog X.w X.K X.mg X.base C k x t) (hr : Room k X.A) (hg : Gl X x) (hx : Passes (L2.CX X.prog X.w) X E) (ha : PE X a (liftM X.K C E p))
    (hdb : (x == ("__debug__" : Str)) = false := by decide) (he : starEach [a] X.env = (false, eval a X.env) :: starEach [] X.env := by rfl) (hpl : (backTo pos (starEach [] X.env)).any (·.1) = false := by rfl) :
    PE X (.Call (.Name x np) [a] [] pos) (liftM X.K C E (dCallM t p)) := by
  obtain ⟨f, fd, ps, G, hm, hk, hb⟩ := F.ex
  refine (pe_call G hr hg hm hk hb .nil hx (pa_cons ha pa_nil he) hdb he hpl).wk fun σ H Q h => ?_
  obtain ⟨B, O0, O, ρ, P, R, k, h, hP, hR⟩ := h
  refine ⟨B, O0, O, ρ, _, _, k, h, fun v d H' ρ' O' k' r q => ?_, hR⟩
  show spD X.K C t [v] H' Q E
  exact ⟨O', [d], _, _, k'.al, ⟨v, [], rfl, r, rfl⟩, q, fun w e H2 s2 r2 p2 => hP w e H2 ρ' O' (k'.ext s2) r2 p2, fun c H2 s2 z => hR c H2 σ ρ' O' (k'.ext s2) z⟩
/-- an operation of a stateful thing with another one -/
def dBinM (f : D2) (p : DEM) (q : DE) : DEM := fun ρ P R => p ρ (fun x ρ' => q ρ' (fun y => f x y fun d => P d ρ') (fun c => R c ρ')) R
theorem pm_cmpM {op : CmpOp} {r : R2} {f : D2} (ho : OpR X (compareOp op) r) (ab : AbR X.K C r f) {p : DEM} {q : DE} (ha : PE X a (liftM X.K C E p)) (hb : PE X b (lift X.K C E q)) (hm : behindInMarks op b = false) : PE X (.Compare a [op] [b] pos) (liftM X.K C E (dBinM f p q)) :=
  (pe_cmpR ho ha hb hm).wk fun σ H Q h => by
    obtain ⟨B, O0, O, ρ, P, R, k, h, hP, hR⟩ := h
    refine ⟨B, O0, O, ρ, _, _, k, h, fun x dx H1 ρ1 O1 k1 r1 q1 => ⟨B, O0, O1, ρ1, _, _, k1, q1, fun y dy H2 s2 r2 q2 => ?_, fun c H' s' z => hR c H' σ ρ1 O1 (k1.ext s') z⟩, hR⟩
    exact ab O1 H2 x y dx dy _ Q ((k1.ext s2).al) (Rep.mono (wo_same O1 s2) dx r1) r2 q2 fun v d H' s' r p => hP v d H' ρ1 O1 ((k1.ext s2).ext s') r p
theorem qm_cmpM {op : CmpOp} {r : R2} {f : D2} (ho : OpR X (compareOp op) r) (ab : AbR X.K C r f) {p : DEM} {q : DE} (ha : PE X a (liftM X.K C E p)) (hb : PE X b (lift X.K C E q)) (hm : behindInMarks op b = false) : PT X (.Compare a [op] [b] pos) (liftTM X.K C E (dTruM (dBinM f p q))) :=
  (pt_cmpR ho ha hb hm).wk fun σ H Q h => by
    obtain ⟨B, O0, O, ρ, P, R, k, h, hP, hR⟩ := h
    refine ⟨B, O0, O, ρ, _, _, k, h, fun x dx H1 ρ1 O1 k1 r1 q1 => ⟨B, O0, O1, ρ1, _, _, k1, q1, fun y dy H2 s2 r2 q2 => ?_, fun c H' s' z => hR c H' σ ρ1 O1 (k1.ext s') z⟩, hR⟩
    refine ab O1 H2 x y dx dy _ _ ((k1.ext s2).al) (Rep.mono (wo_same O1 s2) dx r1) r2 q2 fun v d H' s' r p => ?_
    cases d with
    | bl t => exact ⟨t, r, hP t H' ρ1 O1 ((k1.ext s2).ext s') p⟩
    | _ => exact p.elim
/-- name = [e], e stateful -/
def dOwnM (i : Nat) (p : DEM) : DS := fun ρ N _ Z => p ρ (fun d ρ' => N (ρ'.set i (some (.own [d])))) (fun c _ => Z c)
theorem sd_ownM {i : Nat} {x : Str} {p : DEM} {pos' lpos : Pos} (hN : X.N.Nodup) (hi : X.N[i]? = some x) (hx : Loc X.env.scope x) (he : PE X a (liftM X.K C E p)) (hs : swapsWith (.List [a] lpos) (some (.Name x pos')) pos.line X.env = pure false := by rfl) (hf : X.fn x = true ∨ X.env.scope.names.lookup x = some .local := by first | exact .inl rfl | exact .inr rfl | assumption)
    (hst : starEach [a] X.env = (false, eval a X.env) :: starEach [] X.env := by rfl) :
    PS X (.Assign [.Name x pos'] (.List [a] lpos) pos) (liftS X.K C E (dOwnM i p)) := (ps_set hN hi hx (pe_lst (pa_cons he pa_nil hst)) hs hf).wk fun D σ H q => by
  obtain ⟨B, O0, O, ρ, N, R, Z, k, q, hN, hR, hZ⟩ := q
  refine ⟨B, O0, O, ρ, _, _, k, q, fun v d H' ρ' O' k' r p => ?_, fun c H' σ' ρ' O' k' z => hZ c H' k'.base z⟩
  exact ⟨by show 1 ≤ sizeLine; rw [sizeLine_eq]; omega, fun l hl => hN (σ.set i (some (.ref l))) _ _ (l :: O') (k'.setOwn hl (RepL.one r)) p⟩
end
/-! ### a def that changes a table of code objects, and returns a flat thing -/
structure FunC (K : PySem.W.Frag) (x qual : Str) (st : Stmt) (f : Addr) (fd : FuncData) (c : Addr) : Prop where
  ex : ∃ (oc : Value) (od : Option Addr) (kV doc pm : Value) (an : Option Addr) (ct : Value) (osl : Array (Option Value)), fd = PySem.W.fnOf x qual (defArgs st) (defBody st) (defScope st) .none kV doc pm an (.ref c) ct ∧ K.lookup f = some ⟨oc, od, .func fd, osl⟩ ∧ PySem.W.codeIn K (.ref c) qual = true
theorem funC_mk {K : PySem.W.Frag} {x qual : Str} {st : Stmt} {f c : Addr} {oc : Value} {od an : Option Addr} {osl : Array (Option Value)} {kV doc pm ct : Value} (l : K.lookup f = some ⟨oc, od, .func (PySem.W.fnOf x qual (defArgs st) (defBody st) (defScope st) .none kV doc pm an (.ref c) ct), osl⟩)
    (h : PySem.W.codeIn K (.ref c) qual = true) : FunC K x qual st f (PySem.W.fnOf x qual (defArgs st) (defBody st) (defScope st) .none kV doc pm an (.ref c) ct) c := ⟨⟨oc, od, kV, doc, pm, an, ct, osl, rfl, l, h⟩⟩
abbrev DBp := List D → (D → Prop) → Prop
def spB (K : PySem.W.Frag) (C tP : Addr) (nm : Str) (t : DBp) : Sp := fun vs H Q _ => ∃ O ds P, tP ∈ O ∧ Al O H ∧ RepL K C (wo H O) ds vs ∧ TabS H tP nm ∧ t ds P ∧ ∀ v d H', ExtP tP H H' → TabS H' tP nm → flatD d = true → Rep K C H' d v → P d → Q v H'
def startB (N : List Str) (j : Nat) (tP : Addr) (nm : Str) (ds : List D) : Env := (startE N ds).set j (some (.tb tP nm))
section
variable {K : PySem.W.Frag} {C : Addr} {B H H' : Hp} {O0 O : List Addr} {σ : St} {ρ : Env}
/-- a slot comes to tell of a table of code objects -/
theorem Ok.tellB (k : Ok K C B O0 O H σ ρ) (j : Nat) {tP : Addr} {nm : Str} (hp : tP ∈ O) (hb : B tP = none) (ht : TabS H tP nm) (hn : ∀ (i : Nat) (q : Str), ρ[i]? ≠ some (some (.tb tP q))) : Ok K C B O0 O H σ (ρ.set j (some (.tb tP nm))) := by
  have old : ∀ {i : Nat} {x : DV}, (ρ.set j (some (.tb tP nm)))[i]? = some (some x) → x = .tb tP nm ∨ ρ[i]? = some (some x) := fun {i x} e => by
    by_cases h : j = i
    · subst h
      by_cases hl : j < ρ.length
      · rw [List.getElem?_set_self hl] at e
        exact .inl (Option.some.inj (Option.some.inj e)).symm
      · rw [List.getElem?_eq_none (by rw [List.length_set]; omega)] at e
        cases e
    · rw [List.getElem?_set_ne h] at e
      exact .inr e
  have own : ∀ {i : Nat} {ds : List D}, (ρ.set j (some (.tb tP nm)))[i]? = some (some (.own ds)) → ρ[i]? = some (some (.own ds)) := fun {i ds} e => (old e).elim (fun z => nomatch z) id
  refine ⟨k.base, k.al0, k.al, k.sub0, k.new, by rw [List.length_set]; exact k.len, fun i d e => ?_, fun i ds e => k.own i ds (own e), fun a a' ds es e1 e2 e3 => k.uniq a a' ds es (own e1) (own e2) e3, k.st.to (set_kst fun _ _ _ h => by cases h) (fun _ _ _ h _ => h) (fun _ _ _ _ _ e _ => e) (Same.refl _) (fun _ _ h => h),
    k.ls.to (set_ls fun _ _ h => by cases h) (fun _ _ _ _ _ _ h => h) (fun _ _ _ _ _ _ _ e => e) (Same.refl _) (fun _ _ h => h) fun a b' q ds' es e e' => k.ls.no a b' q ds' es e (own e'), ⟨fun i p q e => ?_, fun i i' p q q' e e' => ?_⟩⟩
  · rcases old e with z | e
    · cases z
    · exact k.val i d e
  · rcases old e with z | e
    · cases z
      exact ⟨hp, hb, ht⟩
    · exact k.tb.at_ i p q e
  · rcases old e with z | e
    · cases z
      rcases old e' with z | e'
      · cases z
        rfl
      · exact absurd e' (hn _ _)
    · rcases old e' with z | e'
      · cases z
        exact absurd e (hn _ _)
      · exact k.tb.one i i' p q q' e e'
end
section
variable {P : Program} {w : World} {K : PySem.W.Frag} {mg : Str → Option Value} {base : Heap} {C cM tP : Addr} {nm : Str}
theorem startE_v {N : List Str} {ds : List D} {i : Nat} {x : DV} (e : (startE N ds)[i]? = some (some x)) : ∃ d, x = .v d := by
  unfold startE at e
  rw [List.getElem?_append] at e
  split at e
  · rw [List.getElem?_map] at e
    cases h : ds[i]? with
    | none => rw [h] at e; cases e
    | some d =>
      rw [h] at e
      exact ⟨d, by simpa using e.symm⟩
  · rw [List.getElem?_replicate] at e
    split at e
    · simp at e
    · cases e
theorem startB_ok {H : Hp} {O : List Addr} {ds : List D} {vs : List V} (hp : tP ∈ O) (al : Al O H) (r : RepL K C (wo H O) ds vs) (ht : TabS H tP nm) (N : List Str) (j : Nat) : Ok K C (wo H [tP]) (less1 O tP) O H (start N vs) (startB N j tP nm ds) := by
  have k := start_ok al r N
  have hb : wo H [tP] tP = none := by unfold wo; rw [if_pos (by simp)]
  have nov : ∀ {i : Nat} {x : DV}, (startE N ds)[i]? = some (some x) → (∀ d, x ≠ .v d) → False := fun e n => by
    obtain ⟨d, z⟩ := startE_v e
    exact n d z
  have k1 : Ok K C (wo H [tP]) (less1 O tP) O H (start N vs) (startE N ds) := by
    refine ⟨wo_le H _, fun a ha e => ?_, al, fun a ha => less1_sub ha, fun a ha n => ?_, k.len, k.val, fun i es e => (nov e fun d z => nomatch z).elim, k.uniq, ⟨fun i q c cs e => (nov e fun d z => nomatch z).elim, fun i i' q b1 b2 t1 t2 e1 e2 => (nov e1 fun d z => nomatch z).elim⟩,
      ⟨fun i q c e => (nov e fun d z => nomatch z).elim, fun i i' q a1 a2 e e' => (nov e fun d z => nomatch z).elim, fun i i' q a1 a2 e e' => (nov e fun d z => nomatch z).elim⟩, ⟨fun i p q e => (nov e fun d z => nomatch z).elim, fun i i' p q q' e e' => (nov e fun d z => nomatch z).elim⟩⟩
    · have n : a ≠ tP := fun z => less1_ne (z ▸ ha)
      unfold wo at e
      rw [if_neg (by simpa using n)] at e
      exact al a (less1_sub ha) e
    · by_cases z : a = tP
      · rw [z]; exact hb
      · exact absurd (less1_mem ha z) n
  exact k1.tellB j hp hb ht fun i q e => nov e fun d z => nomatch z
theorem base_ext {H H' : Hp} {tP : Addr} (s : Same (wo H [tP]) H') : ExtP tP H H' := fun b u n e => s b u (wo_of e (by simpa using n))
theorem fnB {x qual : Str} {st : Stmt} {f : Addr} {fd : FuncData} {N ps : List Str} {k : Nat} {t : DBp} {p : DSM} (j : Nat) (F : FunC K x qual st f fd cM) (S : FnScope N ps (defScope st))
    (body : ∀ (A : Around) (outer : List PySem.Env) (s : Shared) (H : Hp) (E : XK), Room k (A.deeper (envOfC qual (defScope st) s.heap.objs.size f (.ref cM))) → PSs (cxD P w K mg base N qual (defScope st) f (.ref cM) A outer s H E) (defBody st) (liftSM K C E p))
    (h : ∀ (ds : List D) (T : D → Prop), t ds T → ds.length = ps.length ∧ p (startB N j tP nm ds) (fun _ => False) (fun d ρ' => ρ'[j]? = some (some (.tb tP nm)) ∧ flatD d = true ∧ T d) (fun _ _ => False)) : FnOk P w K mg base (L2.CX P w) (k + 1) f fd ps (spB K C tP nm t) := by
  obtain ⟨oc, od, kV, doc, pm, an, ct, osl, rfl, lk, hcd⟩ := F.ex
  refine fn_of lk hcd S (fun vs H Q E q => ?_) fun A outer s H vs Q E hr q => ⟨_, body A outer s H E hr, ?_⟩
  · obtain ⟨O, ds, T, hp, al, r, ht, q, _⟩ := q
    rw [RepL.length r]
    exact (h ds T q).1
  · obtain ⟨O, ds, T, hp, al, r, ht, q, hT⟩ := q
    refine ⟨_, _, O, _, _, _, _, startB_ok hp al r ht N j, (h ds T q).2, fun _ _ _ _ _ z => z.elim, fun v d H' σ' ρ' O' k' r n => ?_, fun _ _ _ _ _ _ z => z.elim⟩
    obtain ⟨_, _, t1⟩ := k'.tb.at_ j tP nm n.1
    exact hT v d H' (base_ext k'.base) t1 n.2.1 (rep_flat n.2.1 r) n.2.2
/-- the law, itself a maker of lambdas, or a caller of one -/
def spLB (K : PySem.W.Frag) (C tP : Addr) (nm : Str) (t : DBp) : Sp := fun vs H Q _ => ∃ O ds P, tP ∈ O ∧ Al O H ∧ RepL K C (wo H O) ds vs ∧ TabS H tP nm ∧ t ds P ∧ ∀ v d H', Rep K C H' d v → P d → Q v H'
theorem fnLC {x qual : Str} {st : Stmt} {f : Addr} {fd : FuncData} {N ps : List Str} {k : Nat} {t : DBp} {p : DS} (j : Nat) (F : FunC K x qual st f fd cM) (S : FnScope N ps (defScope st))
    (body : ∀ (A : Around) (outer : List PySem.Env) (s : Shared) (H : Hp) (E : XK), Room k (A.deeper (envOfC qual (defScope st) s.heap.objs.size f (.ref cM))) → PSs (cxD P w K mg base N qual (defScope st) f (.ref cM) A outer s H E) (defBody st) (liftS K C E p))
    (h : ∀ (ds : List D) (T : D → Prop), t ds T → ds.length = ps.length ∧ p (startB N j tP nm ds) (fun _ => False) T (fun _ => False)) : FnOk P w K mg base (L2.CX P w) (k + 1) f fd ps (spLB K C tP nm t) := by
  obtain ⟨oc, od, kV, doc, pm, an, ct, osl, rfl, lk, hcd⟩ := F.ex
  refine fn_of lk hcd S (fun vs H Q E q => ?_) fun A outer s H vs Q E hr q => ⟨_, body A outer s H E hr, ?_⟩
  · obtain ⟨O, ds, T, hp, al, r, ht, q, _⟩ := q
    rw [RepL.length r]
    exact (h ds T q).1
  · obtain ⟨O, ds, T, hp, al, r, ht, q, hT⟩ := q
    exact ⟨_, _, O, _, _, _, _, startB_ok hp al r ht N j, (h ds T q).2, fun _ _ _ _ _ z => z.elim, fun v d H' _ r n => hT v d H' (Rep.mono (wo_le H' _) d r) n, fun _ _ _ z => z.elim⟩
theorem fnL {x qual : Str} {st : Stmt} {f : Addr} {fd : FuncData} {N ps : List Str} {k : Nat} {t : DBp} {p : DS} (j : Nat) (F : Fun K x qual st f fd) (S : FnScope N ps (defScope st))
    (body : ∀ (cdv : Value) (A : Around) (outer : List PySem.Env) (s : Shared) (H : Hp) (E : XK), Room k (A.deeper (envOfC qual (defScope st) s.heap.objs.size f cdv)) → PSs (cxD P w K mg base N qual (defScope st) f cdv A outer s H E) (defBody st) (liftS K C E p))
    (h : ∀ (ds : List D) (T : D → Prop), t ds T → ds.length = ps.length ∧ p (startB N j tP nm ds) (fun _ => False) T (fun _ => False)) : FnOk P w K mg base (L2.CX P w) (k + 1) f fd ps (spLB K C tP nm t) := by
  refine F.okX S (fun vs H Q E q => ?_) (fun cdv A outer s H vs Q E hr q => ⟨_, body cdv A outer s H E hr, ?_⟩)
  · obtain ⟨O, ds, T, hp, al, r, ht, q, _⟩ := q
    rw [RepL.length r]
    exact (h ds T q).1
  · obtain ⟨O, ds, T, hp, al, r, ht, q, hT⟩ := q
    exact ⟨_, _, O, _, _, _, _, startB_ok hp al r ht N j, (h ds T q).2, fun _ _ _ _ _ z => z.elim, fun v d H' _ r n => hT v d H' (Rep.mono (wo_le H' _) d r) n, fun _ _ _ z => z.elim⟩
structure Fb (P : Program) (w : World) (K : PySem.W.Frag) (mg : Str → Option Value) (base : Heap) (C tP : Addr) (nm : Str) (k : Nat) (name : Str) (t : DBp) : Prop where
  ex : ∃ (f : Addr) (fd : FuncData) (ps : List Str), FnOk P w K mg base (L2.CX P w) k f fd ps (spB K C tP nm t) ∧ mg name = some (.ref f) ∧ PySem.W.keepIn K (.ref f) = true ∧ Binds K fd ps []
end
/-- f(..), f a def that changes the table -/
def dCallB (tP : Addr) (nm : Str) (t : DBp) (q : DA) : DEM := fun ρ P R => q ρ (fun ds => (∃ j : Nat, ρ[j]? = some (some (.tb tP nm))) ∧ ∃ es os, LendL ρ ds es os ∧ t es (fun d => P d ρ)) (fun c => R c ρ)
theorem pm_fB {X : Cx} {C tP : Addr} {E : XK} {nm : Str} {a : Expr} {es : List Expr} {p pos : Pos} {k : Nat} {x : Str} {t : DBp} {q : DA} (F : Fb X.prog X.w X.K X.mg X.base C tP nm k x t) (hr : Room k X.A) (hg : Gl X x) (hx : Passes (L2.CX X.prog X.w) X E) (ha : PA X (a :: es) (liftA X.K C E q))
    (hdb : (x == ("__debug__" : Str)) = false := by decide) (he : starEach (a :: es) X.env = (false, eval a X.env) :: starEach es X.env := by rfl) (hpl : (backTo pos (starEach es X.env)).any (·.1) = false := by rfl) :
    PE X (.Call (.Name x p) (a :: es) [] pos) (liftM X.K C E (dCallB tP nm t q)) := by
  obtain ⟨f, fd, ps, G, hm, hk, hb⟩ := F.ex
  refine (pe_call G hr hg hm hk hb .nil hx ha hdb he hpl).wk fun σ H Q h => ?_
  obtain ⟨B, O0, O, ρ, P, R, k, h, hP, hR⟩ := h
  refine ⟨B, O0, O, ρ, _, _, k, h, fun vs ds H1 s1 r1 h1 => ?_, fun c H' s' z => hR c H' σ ρ O (k.ext s') z⟩
  obtain ⟨⟨j, hj⟩, es', os, hL, h1⟩ := h1
  have k1 := k.ext s1
  obtain ⟨hp, hpB, hT⟩ := k1.tb.at_ j tP nm hj
  show spB X.K C tP nm t (vs ++ []) H1 Q E
  rw [List.append_nil]
  have hn : tP ∉ os := fun z => by
    obtain ⟨dx, b, l, e⟩ := hL.at k1 tP z
    obtain ⟨ps', e', _⟩ := hT
    rw [e'] at e
    cases e
  refine ⟨lessL O os, es', _, lessL_mem hp hn, fun c hc => k1.al c (lessL_sub hc), hL.rep k1 os (fun _ h => h) r1, hT, h1, fun v d H' x1 t1 fl r p => ?_⟩
  exact hP v d H' ρ O (k1.extP hj x1 t1) (rep_flat fl r) p
end L2.DL
/-! # The refusals' classes, the words for them; the end of a law with a table -/
namespace L2.DL
open PySem PySem.Spec PyProof.Rows LamX
inductive Kc where
  | num | str | kee | tex | such
deriving DecidableEq
def eaOf (bn bs bk bt ns : Addr) : Kc → Addr
  | .num => bn | .str => bs | .kee => bk | .tex => bt | .such => ns
def wd : Kc → Str
  | .num => "number" | .str => "stretch" | .kee => "keeper" | .tex => "text" | .such => "such"
structure Ecs (K : PySem.W.Frag) (mg : Str → Option Value) (KE : Addr) (ea : Kc → Addr) : Prop where
  num : mg "BadNumber" = some (.ref (ea .num))
  str : mg "BadStretch" = some (.ref (ea .str))
  kee : mg "BadKeeper" = some (.ref (ea .kee))
  tex : mg "BadText" = some (.ref (ea .tex))
  such : mg "NoSuch" = some (.ref (ea .such))
  ve : mg "ValueError" = none
  exc : ∀ k, ExcC K (ea k)
  kit : ∀ k k', PySem.W.kitOne K (.ref (ea k)) (.ref (ea k')) = some (decide (k = k'))
  val : ∀ k, PySem.W.kitOne K (.ref (ea k)) (.type "ValueError") = some true
  exm : ∀ k, PySem.W.exmOne K (.ref (ea k)) (.ref KE) = some true
theorem bt_ValueError : bootBuiltins "ValueError" = some (.type "ValueError") := by decide +kernel
/-- what the words' def promises -/
def dp_word (ea : Kc → Addr) : DP := fun ds P _ => (ds = [.non] ∧ P (.lst [.str "done"])) ∨ ∃ k, ds = [.exc (ea k)] ∧ P (.lst [.str (wd k)])
/-- isinstance of a refusal, by kind -/
theorem isE_k {K : PySem.W.Frag} {mg : Str → Option Value} {KE : Addr} {ea : Kc → Addr} (EC : Ecs K mg KE ea) {k k' : Kc} {P : D → Prop} (h : P (.bl (decide (k = k')))) : ∃ c b, D.exc (ea k) = .exc c ∧ ExcC K c ∧ kitD K c (.adr (ea k')) = some b ∧ P (.bl b) := ⟨_, _, rfl, EC.exc k, EC.kit k k', h⟩
theorem isE_v {K : PySem.W.Frag} {mg : Str → Option Value} {KE : Addr} {ea : Kc → Addr} (EC : Ecs K mg KE ea) {k : Kc} {P : D → Prop} (h : P (.bl true)) : ∃ c b, D.exc (ea k) = .exc c ∧ ExcC K c ∧ kitD K c (.ty "ValueError") = some b ∧ P (.bl b) := ⟨_, _, rfl, EC.exc k, EC.val k, h⟩
section
variable {X : Cx} {C : Addr} {E : XK}
/-- from here on the list in slot i is a value -/
def dFrzM (i : Nat) (p : DSM) : DSM := fun ρ N R Z => ∃ ds, ρ[i]? = some (some (.own ds)) ∧ p (ρ.set i (some (.v (.lst ds)))) N R Z
theorem sm_frz {st : List Stmt} {p : DSM} (i : Nat) (h : PSs X st (liftSM X.K C E p)) : PSs X st (liftSM X.K C E (dFrzM i p)) := h.wk fun T σ H q => by
  obtain ⟨B, O0, O, ρ, N, R, Z, k, ⟨ds, e, q⟩, r⟩ := q
  obtain ⟨O', k'⟩ := k.freeze e
  exact ⟨B, O0, O', _, N, R, Z, k', q, r⟩
end
def lamQ (q : Str) : Str := (q ++ ".<locals>.") ++ "<lambda>"
theorem atI_3 {α : Type} (x y z u : α) (xs : List α) : atI (x :: y :: z :: u :: xs) 3 = some u := atI_nat (i := 3) rfl
theorem lend_nil {ρ : Env} : LendL ρ [] [] [] := ⟨rfl, rfl⟩
theorem lend_val {ρ : Env} {d : D} {ds es : List D} {os : List Addr} (h : LendL ρ ds es os) : LendL ρ (d :: ds) (d :: es) os := ⟨d, es, os, rfl, h, .inl ⟨rfl, rfl⟩⟩
theorem lend_kp {ρ : Env} {p : Addr} {b : Bool} {ts : List Int} {ds es : List D} {os : List Addr} (j : Nat) (hj : ρ[j]? = some (some (.kst p b ts))) (h : LendL ρ ds es os) : LendL ρ (.adr p :: ds) (.kp b ts :: es) (p :: os) := ⟨.kp b ts, es, os, rfl, h, .inr ⟨j, p, b, ts, rfl, hj, rfl, rfl⟩⟩
theorem okE_wd (k : Kc) : okE (.lst [.str (wd k)]) := by
  cases k <;> (unfold okE; decide +kernel)
theorem okE_done : okE (.lst [.str "done"]) := by
  unfold okE
  decide +kernel
theorem free_int (i : Int) : (D.int i).free := by simp [D.free]
/-- what is looked up of one class of refusals -/
structure Xf (K : PySem.W.Frag) (v KE : Addr) : Prop where
  hg : PySem.W.findIn K (.ref v) "__getattribute__" = some (some (.builtin "BaseException.__getattribute__"))
  hk : PySem.W.findIn K (.ref v) "__getattr__" = some none
  hs : PySem.W.subIn K (.ref v) (.type "BaseException") = some true
  hd : PySem.W.hasDictIn K v = true
  ha : PySem.W.findIn K (.ref v) "__class__" = some (some (.builtin "object.__class__"))
  hm : PySem.W.mroIn K v (.type "object") = some true
  cls : PySem.W.isClsIn K v = true
  ty : PySem.W.typeIn K (.ref v) = some (.type "type")
  val : PySem.W.subIn K (.ref v) (.type "ValueError") = some true
  ke : PySem.W.subIn K (.ref v) (.ref KE) = some true
  self : PySem.W.subIn K (.ref v) (.ref v) = some true
theorem kit_of {K : PySem.W.Frag} {v v' KE : Addr} {b : Bool} (x : Xf K v KE) (y : Xf K v' KE) (h : PySem.W.subIn K (.ref v) (.ref v') = some b) : PySem.W.kitOne K (.ref v) (.ref v') = some b := by
  unfold PySem.W.kitOne
  by_cases e : (Value.ref v == Value.ref v') = true
  · have z : v = v' := Value.ref.inj (beq_iff_eq.mp e)
    subst z
    rw [if_pos e, ← h, x.self]
  · rw [if_neg e]
    exact kitCls_sub y.cls y.ty h
theorem kit_val {K : PySem.W.Frag} {v KE : Addr} (x : Xf K v KE) : PySem.W.kitOne K (.ref v) (.type "ValueError") = some true := by
  unfold PySem.W.kitOne
  rw [if_neg (by intro z; exact nomatch (beq_iff_eq.mp z : Value.ref v = Value.type "ValueError"))]
  show (if PySem.W.kitMeta "ValueError" = true then _ else none) = _
  rw [if_pos (by decide +kernel)]
  exact x.val
structure KEf (K : PySem.W.Frag) (KE : Addr) : Prop where
  h1 : PySem.W.subIn K (.ref KE) (.type "BaseException") = some true
  hd : PySem.W.hasDictIn K KE = true
  ty : PySem.W.typeIn K (.ref KE) = some (.type "type")
theorem ecs_mk {K : PySem.W.Frag} {mg : Str → Option Value} {KE bn bs bk bt ns : Addr} (hn : PySem.W.specialIn K (.builtin "object.__class__") "__get__" = some (some (.builtin "getset_descriptor.__get__"))) (ht : PySem.W.takesIn K (.builtin "object.__class__") = some true) (k : KEf K KE)
    (xn : Xf K bn KE) (xs : Xf K bs KE) (xk : Xf K bk KE) (xt : Xf K bt KE) (xu : Xf K ns KE) (gn : mg "BadNumber" = some (.ref bn)) (gs : mg "BadStretch" = some (.ref bs)) (gk : mg "BadKeeper" = some (.ref bk)) (gt : mg "BadText" = some (.ref bt)) (gu : mg "NoSuch" = some (.ref ns)) (ve : mg "ValueError" = none)
    (h : ∀ k k', PySem.W.subIn K (.ref (eaOf bn bs bk bt ns k)) (.ref (eaOf bn bs bk bt ns k')) = some (decide (k = k'))) : Ecs K mg KE (eaOf bn bs bk bt ns) := by
  have X : ∀ k, Xf K (eaOf bn bs bk bt ns k) KE := fun k => by
    cases k
    · exact xn
    · exact xs
    · exact xk
    · exact xt
    · exact xu
  exact ⟨gn, gs, gk, gt, gu, ve, fun k => ⟨(X k).hg, (X k).hk, (X k).hs, (X k).hd, (X k).ha, hn, ht, (X k).hm⟩, fun a b => kit_of (X a) (X b) (h a b), fun k => kit_val (X k), fun k' => PySem.W.exm_ref k.h1 k.hd k.ty (X k').ke⟩
section
variable {X : Cx} {C : Addr} {E : XK} {pos : Pos}
/-- a statement that isn't come to -/
def dNever : DS := fun _ _ _ _ => False
theorem sd_never {st : Stmt} : PS X st (liftS X.K C E dNever) := ⟨fun _ _ _ _ _ _ q => by
  obtain ⟨_, _, _, _, _, _, _, _, q, _⟩ := q
  exact q.elim⟩
/-- {} -/
theorem pd_dic0 : PE X (.Dict [] [] pos) (lift X.K C E (dC (.dic [] []))) := pe_dnewK.wk fun σ H Q q => by
  obtain ⟨B, O0, O, ρ, P, R, k, q, hP, hR⟩ := q
  exact fun p hp => hP (.ref p) (.dic [] []) _ (Same.new hp) ⟨p, [], rfl, wo_of upd_same (k.al.new hp), rfl, rfl⟩ q
end
/-! ### the end -/
def dp_lawB : DBp := fun ds P => ∃ ns : List Int, ds = [.scr ns] ∧ ns.length ≤ 63 ∧ P (.bl true)
theorem lawB_sp {K : PySem.W.Frag} {C tP a : Addr} {nm : Str} {H : Hp} {ns : List Int} (hT : H tP = some (.tbl #[])) (hS : SqL K H a (ns.map V.int)) (hl : ns.length ≤ 63) : spLB K C tP nm dp_lawB [.ref a] H (fun v _ => v = .bl true) fun _ _ _ => False := by
  refine ⟨[tP], [.scr ns], fun d => d = .bl true, by simp, fun b hb e => ?_, ⟨.ref a, [], rfl, ⟨a, rfl, ?_⟩, rfl⟩, TabS.nil hT, ⟨ns, rfl, hl, rfl⟩, fun v d H' r p => ?_⟩
  · have : b = tP := by simpa using hb
    rw [this, hT] at e
    cases e
  · rcases hS with (h | ⟨o, h⟩) | h
    · exact .inl (.inl (wo_of h (by
        intro z
        have : a = tP := by simpa using z
        rw [this, hT] at h
        cases h)))
    · exact .inl (.inr ⟨o, wo_of h (by
        intro z
        have : a = tP := by simpa using z
        rw [this, hT] at h
        cases h)⟩)
    · exact .inr h
  · subst p
    exact r
theorem lawAt_mk {l : PySem.W.OpenLaw} {w : World} {K : PySem.W.Frag} {k : Nat} {x nm : Str} {mg : Str → Option Value} {fa C cM tP : Addr} {h : Heap} {ec : Value} {dc : Option Addr} {vs : Array Value} {slc : Array (Option Value)} (KX : K.In h) (lc : K.lookup cM = some ⟨ec, dc, .fields vs, slc⟩) (h11 : vs[11]? = some (.ref tP)) (hT : h.get? tP = some { cls := .none, data := .fields #[] }) (nT : K.lookup tP = none) (hC : PySem.W.codeHdIn K cM tP = true)
    (F : ∃ fd : FuncData, (∀ (s : Shared) (u : Value), BindsTo s fd ⟨[u], []⟩ [(x, u)]) ∧ ∀ base : Heap, K.In base → base.Ns mainGlobals mg → TabB base mg cM tP → FnOk l.prog w K mg base (L2.CX l.prog w) k fa fd [x] (spLB K C tP nm dp_lawB)) :
    LawAtS l w K (L2.CX l.prog w) k 63 x mg fa h := by
  obtain ⟨fd, hb, hF⟩ := F
  refine ⟨fd, [(cM, tP)], _, fun p hp => ?_, fun p hp => ?_, fun p hp => ?_, hb, fun H a ns hl _ hcs hS => lawB_sp (hcs (cM, tP) (by simp)) hS hl, fun base h1 h2 h3 => hF base h1 h2 (h3 (cM, tP) (by simp))⟩
  all_goals
    obtain rfl : p = (cM, tP) := by simpa using hp
  · exact hT
  · exact nT
  · exact PySem.W.codeHd_of_K KX hC
end L2.DL
/-! # What is refused (promises) -/
namespace L2.DL
open PySem PySem.Spec PyProof.Rows L2.SK
def dp_bad1 (bs : Addr) : DP := fun ds _ R => ∃ (b : Bool) (ts : List Int) (d : D), ds = [.kp b ts, d] ∧ okThing d ∧ isStr d = false ∧ R bs
def dp_badn (bn : Addr) : DP := fun ds _ R => ∃ (b : Bool) (ts : List Int) (d : D), ds = [.kp b ts, d] ∧ (tyD d).isSome = true ∧ isNum d = false ∧ R bn
def dp_badk (bk : Addr) : DP := fun ds _ R => ∃ (b : Bool) (ts : List Int) (d : D), ds = [.kp b ts, d] ∧ (tyD d).isSome = true ∧ R bk
def dp_badt (bk : Addr) : DP := fun ds _ R => ∃ d : D, ds = [d] ∧ (tyD d).isSome = true ∧ R bk
def dp_bads : DP := fun ds P _ => ∃ (s : Str2) (m : Int), ds = [sD s, .int m] ∧ 0 ≤ m ∧ ∀ d, okThing d → isStr d = false → P d
def dB_refused9 : DBp := fun ds P => ∃ (r : KRow) (c k : Int), ds = [kpD r, .int c, .int k] ∧ r.ts.length ≤ 1000 ∧ P (.bl true)
theorem atI_mem {α : Type} {xs : List α} {i : Int} (h0 : 0 ≤ i) (h1 : i < xs.length) : ∃ d ∈ xs, atI xs i = some d := by
  have hn : i.toNat < xs.length := by omega
  have e := atI_nat (i := i.toNat) (List.getElem?_eq_getElem hn)
  rw [Int.toNat_of_nonneg h0] at e
  exact ⟨_, List.getElem_mem hn, e⟩
theorem oi_ty (o : Option Int) : (tyD (oi o)).isSome = true := by cases o <;> rfl
theorem cut_one (x y : D) : cutD [x, y] none (some 1) = [x] := by
  unfold cutD
  rw [HT.sIx_none]
  show List.take _ _ = _
  simp [HT.sIx]
theorem okT {ds : List D} (h : ∀ e ∈ ds, (tyD e).isSome = true) : okThing (.tup ds) := ⟨rfl, fun es z => by cases z; exact h⟩
theorem okO {d : D} (h : (tyD d).isSome = true) (n : ∀ ds, d ≠ .tup ds) : okThing d := ⟨h, fun es z => absurd z (n es)⟩
theorem bad_all {s : Str2} {d d1 : D} (hd : (tyD d).isSome = true) (hn : isEnd d = false) (h : d1 ∈ [D.lst [oi s.1, oi s.2], D.tup (cutD [oi s.1, oi s.2] none (some 1)), D.tup [oi s.1, oi s.2, D.int 0], D.tup [d, oi s.2], D.tup [oi s.1, d], D.tup [D.int 5, D.int 4], D.non, D.str (Str.ofString ".."), D.int 5, D.tup []]) : okThing d1 ∧ isStr d1 = false := by
  rw [cut_one] at h
  simp only [List.mem_cons, List.not_mem_nil, or_false] at h
  have o1 := oi_ty s.1
  have o2 := oi_ty s.2
  rcases h with rfl | rfl | rfl | rfl | rfl | rfl | rfl | rfl | rfl | rfl
  · exact ⟨okO rfl (fun _ z => nomatch z), rfl⟩
  · exact ⟨okT fun e he => by simp only [List.mem_cons, List.not_mem_nil, or_false] at he; rw [he]; exact o1, rfl⟩
  · exact ⟨okT fun e he => by
      simp only [List.mem_cons, List.not_mem_nil, or_false] at he
      rcases he with rfl | rfl | rfl
      · exact o1
      · exact o2
      · rfl, rfl⟩
  · exact ⟨okT fun e he => by
      simp only [List.mem_cons, List.not_mem_nil, or_false] at he
      rcases he with rfl | rfl
      · exact hd
      · exact o2, by show (isEnd d && _ && _) = false; rw [hn]; rfl⟩
  · exact ⟨okT fun e he => by
      simp only [List.mem_cons, List.not_mem_nil, or_false] at he
      rcases he with rfl | rfl
      · exact o1
      · exact hd, by show (isEnd (oi s.1) && isEnd d && _) = false; rw [hn, Bool.and_false]; rfl⟩
  · exact ⟨okT fun e he => by
      simp only [List.mem_cons, List.not_mem_nil, or_false] at he
      rcases he with rfl | rfl <;> rfl, rfl⟩
  · exact ⟨okO rfl (fun _ z => nomatch z), rfl⟩
  · exact ⟨okO rfl (fun _ z => nomatch z), rfl⟩
  · exact ⟨okO rfl (fun _ z => nomatch z), rfl⟩
  · exact ⟨okT fun e he => by simp at he, rfl⟩
/-! ### steps of a def that keeps refusals, the rest untouched -/
section
variable {K : PySem.W.Frag} {mg : Str → Option Value} {KE tP : Addr} {nm : Str} {ea : Kc → Addr} {ρ : Env} {N : Env → Prop} {R : D → Env → Prop} {Z : Addr → Env → Prop} {i : Nat} {pb : DE} {q : DSM}
theorem set_step {p : DE} (good : D → Prop) (hp : ∀ P' : D → Prop, (∀ d, good d → P' d) → p ρ P' (fun _ => False)) (hq : ∀ d, good d → q (ρ.set i (some (.v d))) N R Z) : dSeqM (dOfS (dSet i p)) q ρ N R Z := hp _ hq
theorem set_stepO {p : DE} {j : Nat} {x : Option DV} (hne : i ≠ j) (good : D → Prop) (hp : ∀ P' : D → Prop, (∀ d, good d → P' d) → p (ρ.set i x) P' (fun _ => False)) (hq : ∀ d, good d → q ((ρ.set j (some (.v d))).set i x) N R Z) : dSeqM (dOfS (dSet j p)) q (ρ.set i x) N R Z := hp _ fun d g => by
  have h := hq d g
  rw [List.set_comm _ _ hne.symm] at h
  exact h
theorem own_step (EC : Ecs K mg KE ea) (k : Kc) (hj : ∃ j : Nat, ρ[j]? = some (some (.tb tP nm))) (hpb : ∀ (P' : D → Prop) (R' : Addr → Prop), R' (ea k) → pb ρ P' R') (hq : q (ρ.set i (some (.own [.lst [.str (wd k)]]))) N R Z) : dSeqM (dOfS (dOwnM i (dCallM (dp_word ea) (dKept K tP KE nm pb)))) q ρ N R Z :=
  ⟨hj, hpb _ _ ⟨EC.exm k, .inr ⟨k, rfl, hq⟩⟩⟩
theorem app_step (EC : Ecs K mg KE ea) (k : Kc) {ds : List D} (hi : i < ρ.length) (hl : ds.length < 1000) (hj : ∃ j : Nat, (ρ.set i (some (.own ds)))[j]? = some (some (.tb tP nm))) (hpb : ∀ (P' : D → Prop) (R' : Addr → Prop), R' (ea k) → pb (ρ.set i (some (.own ds))) P' R') (hq : q (ρ.set i (some (.own (ds ++ [.lst [.str (wd k)]])))) N R Z) :
    dSeqM (dOfS (dAppM i (dCallM (dp_word ea) (dKept K tP KE nm pb)))) q (ρ.set i (some (.own ds))) N R Z :=
  ⟨ds, List.getElem?_set_self hi, hj, hpb _ _ ⟨EC.exm k, .inr ⟨k, rfl, List.getElem?_set_self hi, by rw [sizeLine_eq]; omega, by rw [List.set_set]; exact hq⟩⟩⟩
end
end L2.DL
/-! # A comprehension whose element may raise -/
namespace L2.DL
open PySem PySem.Spec PyProof.Rows
section
variable {M : Model} {A : Around} {E : Value → Shared → Prop} {s : Shared} {env : PySem.Env}
/-- the end of a comprehension, its own environment kept -/
def postX (M : Model) (A : Around) (E : Value → Shared → Prop) (use : Option (Value → Sem Unit)) (Q : Value → Shared → Prop) (acc : Value) (ce : PySem.Env) (r : Result) (s' : Shared) : Prop :=
  match r, use with
  | .ok _, none => ∃ m, s'.heap.Ns ce.locals m ∧ ∀ h', Heap.SameBut ce.locals s'.heap h' → Q acc { s' with heap := h' }
  | .ok _, some u => wpAny M A (u acc) (fun _ s2 => ∃ m, s2.heap.Ns ce.locals m ∧ ∀ h', Heap.SameBut ce.locals s2.heap h' → Q .none { s2 with heap := h' }) E s'
  | .error x, _ => ∃ m, s'.heap.Ns ce.locals m ∧ ∀ h', Heap.SameBut ce.locals s'.heap h' → wpAny M A (PySem.passOn "comprehension.variables-let-go" x ce : Sem Value) (fun _ _ => False) E { s' with heap := h' }
theorem comp_X {e : Expr} {scope : Scope} {pos : Pos} {na first : Sem Value} {g : Comprehension} {gs : List Comprehension} {cl : List (Str × Addr)} {use : Option (Value → Sem Unit)} {Q : Value → Shared → Prop}
    (h1 : clausesOf e = g :: gs) (h2 : ∀ x, foldedSetIterable g.iter env x = pure x) (h3 : closureFor scope env = pure cl) (h4 : scope.kind = .function) (h5 : ∀ x ∈ scope.names, x.2 = .local → scope.names.lookup x.1 = some .local)
    (h : wpAny M A first (fun x s1 => wpAny M A (pyIter x) (fun it s2 => wpAny M A na (fun acc s3 => wpAny M A (newFunctionEnv scope env.globals cl [] env.qual none .none (some env)) (fun c s4 =>
      codeAny M A (.compStart e 0 it acc { c with scope := relabel scope env }) (postX M A E use Q acc { c with scope := relabel scope env }) s4) E s3) E s2) E s1) E s) : wpAny M A (comprehension e scope env pos na false first use) Q E s := by
  unfold comprehension
  rw [h3, h1]
  refine wpAny_bind (wpAny_mono h (fun x s1 k1 => wpAny_bind (wpAny_standAt (wpAny_bind (wpAny_of_eq (h2 x) (wpAny_bind (wpAny_holding (wpAny_mono k1 (fun it s2 k2 => wpAny_standIf (wpAny_bind (wpAny_mono k2 (fun acc s3 k3 => wpAny_bind (wpAny_pure (wpAny_bind (wpAny_mono k3 (fun c s4 k4 => ?_) fun _ _ z => z)))) fun _ _ z => z)))
      fun _ _ z => z))))))) fun _ _ z => z)
  dsimp only
  have v1 : ∀ x ∈ (scope.names.filter fun x => (x.2 == .local || x.2 == .cell) && x.1 != (".0" : Str)).reverse, x.2 = .local → PySem.Env.kindOf { c with scope := relabel scope env } x.1 = some .local := fun x hx hl => lookup_relabel_local (h5 x (List.mem_filter.mp (List.mem_reverse.mp hx)).1 hl)
  have v2 : ∀ x ∈ (scope.names.filter fun x => (x.2 == .local || x.2 == .cell) && x.1 != (".0" : Str)).reverse.drop 1 ++ (scope.names.filter fun x => (x.2 == .local || x.2 == .cell) && x.1 != (".0" : Str)).reverse.take 1, x.2 = .local → PySem.Env.kindOf { c with scope := relabel scope env } x.1 = some .local := fun x hx hl =>
    (List.mem_append.mp hx).elim (fun z => v1 x (List.mem_of_mem_drop z) hl) fun z => v1 x (List.mem_of_mem_take z) hl
  refine wpAny_holding (wpAny_bind (wpAny_attempt (wpAny_holding (wpAny_run (codeAny_mono k4 fun r s' hr => by
    cases r with
    | ok f =>
      cases use with
      | none =>
        obtain ⟨m, hn, hr⟩ := hr
        exact wpAny_bind (wpAny_holding (wpAny_comp_letGo (cenv := { c with scope := relabel scope env }) h4 _ s' m v1 hn fun h' m' _ hs' => wpAny_pure (hr h' hs')))
      | some u => exact wpAny_bind (wpAny_rule (wpAny_bind (wpAny_holding (wpAny_mono hr (fun _ s2 ⟨m, hn, hr'⟩ => wpAny_bind (wpAny_comp_letGo (cenv := { c with scope := relabel scope env }) h4 _ s2 m v2 hn fun h' m' _ hs' => wpAny_pure (hr' h' hs'))) fun _ _ z => z))))
    | error x =>
      have hr' : ∃ m, s'.heap.Ns c.locals m ∧ ∀ h', Heap.SameBut c.locals s'.heap h' → wpAny M A (PySem.passOn "comprehension.variables-let-go" x { c with scope := relabel scope env } : Sem Value) (fun _ _ => False) E { s' with heap := h' } := by cases use <;> exact hr
      obtain ⟨m, hn, hr⟩ := hr'
      exact wpAny_bind (wpAny_holding (wpAny_comp_letGo (cenv := { c with scope := relabel scope env }) h4 _ s' m v1 hn fun h' m' _ hs' => wpAny_mono (hr h' hs') (fun _ _ f => f.elim) fun _ _ y => y)))))))
end
/-! ### the exception in the block -/
/-- an exception of a call within the block -/
def XB (X Y : Cx) (E : XK) (u : Value) (s' : Shared) : Prop := ∃ (pins : List (Addr × Obj)) (σ : St) (H : Hp) (s : Shared), Inv Y pins σ H s ∧ CX X.prog X.w X.stack H s E u s'
abbrev blkX (X : Cx) (E : XK) (s : Shared) (H : Hp) (scope : Scope) (ce : PySem.Env) (fp : List Addr) : Cx := { X.blk s H scope ce fp with xe := XB X (X.blk s H scope ce fp) E }
theorem ok_xe {X : Cx} {e e' : Value → Shared → Prop} (k : ({ X with xe := e } : Cx).Ok) : ({ X with xe := e' } : Cx).Ok := ⟨k.mod, k.kind, k.glob, k.blt, k.above, k.inj, k.has, k.cab, k.hd, k.frames, k.stk, k.exf, k.bs, k.bsz, k.noex, k.exfs, k.funs, k.frf⟩
theorem inv_xe {X : Cx} {e e' : Value → Shared → Prop} {pins : List (Addr × Obj)} {σ : St} {H : Hp} {s : Shared} (I : Inv { X with xe := e } pins σ H s) : Inv { X with xe := e' } pins σ H s := ⟨ok_xe I.ok, I.os, I.bare, I.base, I.loc, I.cell, I.free, I.freeC, I.pin, I.hok, I.len⟩
theorem frs_mem {X : Cx} {C : Addr} (hs : X.stack = X.env :: X.outer) (hf : X.env.frame = some X.env.locals) (h1 : C ≠ X.env.locals) (h2 : C ∉ X.fs) : C ∉ frs X.stack := by
  intro z
  rw [hs] at z
  have z' : C ∈ (X.env :: X.outer).filterMap (·.frame) := z
  rw [List.filterMap_cons, hf] at z'
  rcases List.mem_cons.mp z' with z | z
  · exact h1 z
  · exact h2 z
theorem held_but {B h1 h2 : Heap} {l : List PySem.Env} {a C L : Addr} {Z : Obj → Prop} {oC : Obj} (bC : B.get? C = some oC) (hC : C ∉ frs l) (x : HandSPX.HeldZ B l a Z L h1) (sb : ∀ b, b ≠ C → h2.get? b = h1.get? b) : HandSPX.HeldZ (PySem.W.hideAll B [C]) l a Z L h2 := by
  obtain ⟨x1, x2, x3, oe, vs, T, oT, ts, g1, g2, g3, g4, g5, g6, g7, g8, g9⟩ := x
  have hid : ∀ {b}, B.get? b = none → (PySem.W.hideAll B [C]).get? b = none := fun {b} e => by
    cases q : (PySem.W.hideAll B [C]).get? b with
    | none => rfl
    | some o =>
      have z := PySem.W.of_hideAll _ q
      rw [e] at z
      cases z
  have nC : ∀ {b}, B.get? b = none → b ≠ C := fun {b} e z => by
    rw [z, bC] at e
    cases e
  refine ⟨fun b o e => ?_, hid x2, ?_, oe, vs, T, oT, ts, by rw [sb a (nC x2)]; exact g1, g2, g3, g4, hid g5, g6, by rw [sb T (nC g5)]; exact g7, g8, g9⟩
  · have hb : b ≠ C := fun z => by
      rw [z, PySem.W.hideAll_none _ (by simp)] at e
      cases e
    rw [sb b hb]
    exact x1 b o (PySem.W.of_hideAll _ e)
  · clear g1 g2 g3 g4 g5 g6 g7 g8 g9
    induction l with
    | nil => trivial
    | cons env l ih =>
      obtain ⟨k, ⟨L', o, hf, hb, ho, hd⟩, r⟩ := x3
      have e1 : frs (env :: l) = L' :: frs l := by
        show (env :: l).filterMap (·.frame) = _
        rw [List.filterMap_cons, hf]
        rfl
      rw [e1] at hC
      exact ⟨k, ⟨L', o, hf, hid hb, by rw [sb L' fun z => hC (by rw [z]; exact List.mem_cons_self)]; exact ho, hd⟩, ih (fun z => hC (List.mem_cons_of_mem _ z)) r⟩
theorem note_ce {u : Value} {sc : Scope} {cl : List (Str × Addr)} {C : Addr} {env : PySem.Env} : noteFrame u (compEnvC sc cl C env) = noteFrame u env := rfl
theorem hok_hide {P : Program} {w : World} {H : Hp} {B : Heap} {C : Addr} (k : HOk P w H B) (n : H C = none) : HOk P w H (PySem.W.hideAll B [C]) := fun b u e => by
  have nit : ∀ b u, H b = some u → b ∉ [C] := fun b u e z => by
    have e' : b = C := by simpa using z
    rw [e', n] at e
    cases e
  refine (k b u e).stay (fun c v hc q => PySem.W.hideAll_get _ q ?_) (fun _ q => q) fun _ _ q => q
  rcases hc with z | z
  · rw [z]; exact nit b u e
  · exact nit c _ z
section
variable {X : Cx} {pins : List (Addr × Obj)} {s3 : Shared} {σ : St} {H3 : Hp} {E : XK}
theorem xb_end {fp : List Addr} {scope : Scope} {ce : PySem.Env} {use : Option (Value → Sem Unit)} {Qf : Value → Shared → Prop} {acc u : Value} {s' : Shared} {E1 : Value → Shared → Prop} (hs : X.stack = X.env :: X.outer) (hf : X.env.frame = some X.env.locals) (tk : Takes X (fun cls d _ H => E cls d H))
    (I3 : Inv X pins σ H3 s3) (f3 : ∀ b ∈ fp, FpOk X pins H3 b) (hcl : ce.locals = s3.heap.objs.size) (hcf : ce.frame = X.env.frame) (hn : noteFrame u ce = noteFrame u X.env) (x : XB X (X.blk s3 H3 scope ce fp) E u s') :
    wpAny (model X.prog X.w) X.A (noteFrame u ce) (fun _ s2 => postX (model X.prog X.w) X.A X.xe use Qf acc ce (.error u) s2) E1 s' := by
  obtain ⟨pb, σb, H, s, IB, a, B, H', cls, d, rfl, fl, hok, ub, na, os, ag, hE⟩ := x
  have IX : Inv X pins σ H s := I3.call' (ch := fp) IB.os IB.base IB.hok IB.bare fun b hb => ⟨(f3 b hb).2.2.2.1, (f3 b hb).2.1, (f3 b hb).2.2.2.2.1, (f3 b hb).2.2.2.2.2⟩
  have nC : H ce.locals = none := IB.free
  obtain ⟨m, ⟨oC, es, ep, eC, hdat⟩, _⟩ := IB.loc
  have eC : s.heap.get? ce.locals = some oC := eC
  have fC : FpOk X pins H ce.locals := I3.fpOk (Nat.le_of_eq hcl.symm) nC
  obtain ⟨C, hC⟩ : ∃ C, C = ce.locals := ⟨_, rfl⟩
  rw [← hC] at nC eC fC
  have hCf : C ∉ frs X.stack := frs_mem hs hf fC.2.1 fC.2.2.1
  have bC : B.get? C = some oC := ub.keep C oC eC nC hCf
  have nC' : H' C = none := ub.free C oC eC nC
  have hfr : X.A.frames = some (X.env :: X.outer) := by rw [IX.ok.frames, hs]
  rw [hn]
  rw [hs] at fl hCf
  refine HandSPX.looks_onZ Zc.steady hfr hf fl fun h1 held up1 => ?_
  have post : ∃ m, h1.Ns C m ∧ ∀ h', Heap.SameBut C h1 h' → wpAny (model X.prog X.w) X.A (PySem.passOn "comprehension.variables-let-go" (.ref a) ce : Sem Value) (fun _ _ => False) X.xe { s' with heap := h' } := by
    refine ⟨m, ⟨oC, es, ep, held.1 C oC bC, hdat⟩, fun h2 sb => ?_⟩
    have held2 := held_but bC hCf held fun b hb => sb.2 b hb
    obtain ⟨y1, y2, y3, oe, vs, T, oT, ts, g1, g2, g3, g4, g5⟩ := id held2
    unfold PySem.passOn
    refine wpAny_bind (wpAny_field g1 g3 g4 ?_)
    rw [if_neg (by simp), hcf, hf]
    refine wpAny_bind (HandSPX.setFlight_onZ held2 fun h3 held3 up3 => wpAny_throw (tk _ _ ?_))
    obtain ⟨G, r1, r2⟩ := restrict h3 fun b => ((PySem.W.hideAll B [C]).get? b).isSome || decide (b ∈ frs X.stack)
    have st := held3.1
    have gB : ∀ b o, (PySem.W.hideAll B [C]).get? b = some o → G.get? b = some o := fun b o e => by
      rw [r1 b (by simp [e])]
      exact st b o e
    have gF : ∀ b, b ∈ frs X.stack → G.get? b = h3.get? b := fun b hb => r1 b (by simp [hb])
    have og : ∀ b o, G.get? b = some o → h3.get? b = some o ∧ (((PySem.W.hideAll B [C]).get? b).isSome = true ∨ b ∈ frs X.stack) := fun b o e => by
      cases q : (((PySem.W.hideAll B [C]).get? b).isSome || decide (b ∈ frs X.stack)) with
      | false => rw [r2 b q] at e; cases e
      | true =>
        rw [r1 b q] at e
        exact ⟨e, by simpa [Bool.or_eq_true] using q⟩
    have I0 : Inv X pins σ H { s with heap := PySem.W.hideAll s.heap [C], toks := s.toks } := IX.turnedL (ch := [C]) (fun b o hb e => PySem.W.hideAll_get _ e hb) fun b hb => by
      have e : b = C := by simpa using hb
      rw [e]
      exact fC
    have hid : ∀ {b o}, (PySem.W.hideAll s.heap [C]).get? b = some o → s.heap.get? b = some o ∧ b ≠ C := fun {b o} e => ⟨PySem.W.of_hideAll _ e, fun z => by
      rw [z, PySem.W.hideAll_none _ (by simp)] at e
      cases e⟩
    have fsl : ∀ b ∈ frs X.stack, ∀ o, s.heap.get? b = some o → ∃ sl, h3.get? b = some { o with slots := sl } := fun b hb o e => by
      obtain ⟨_, o', e', hd⟩ := IX.stack.mem hb
      rw [e] at e'
      cases e'
      obtain ⟨sl, q1⟩ := ub.slot b o e hb
      obtain ⟨sl1, q2⟩ := up1 b _ q1 hd
      rw [← sb.2 b (fun z => by rw [hs, z] at hb; exact hCf hb)] at q2
      obtain ⟨sl2, q3⟩ := up3 b _ q2 hd
      exact ⟨sl2, q3⟩
    refine ⟨a, PySem.W.hideAll B [C], { s with heap := G, gens := s'.gens, drawn := s'.drawn, toks := s'.toks }, pins, σ, H', cls, d, rfl, ?_, fun b o e hb => ?_, Heap.UpToSlots.of_keeps fun b o e => (og b o e).1, .inr (.inr (by rw [hs]; exact held3)), na, os, ag, hE⟩
    · have J := I0.call (ch := []) (h' := G) (g' := s'.gens) (t' := s'.toks) (d' := s'.drawn) (H' := H') ⟨fun b o e n hb _ => gB b o (PySem.W.hideAll_get _ (ub.keep b o (hid e).1 n hb) (by simpa using (hid e).2)), fun b o e n hb _ => by rw [gF b hb]; exact fsl b hb o (hid e).1, fun b o e n _ => ub.free b o (hid e).1 n, fun b o e _ => by
          by_cases hb : b ∈ frs X.stack
          · obtain ⟨sl, q⟩ := fsl b hb o (hid e).1
            exact ⟨_, by rw [gF b hb]; exact q⟩
          · obtain ⟨o', q⟩ := ub.there b o (hid e).1 hb
            exact ⟨o', gB b o' (PySem.W.hideAll_get _ q (by simpa using (hid e).2))⟩, ub.tups, ub.frzs, ub.tbls⟩ ((hok_hide hok nC').kept gB) ag (fun _ z => nomatch z)
      exact J
    · obtain ⟨e', h⟩ := og b o e
      rcases h with h | h
      · obtain ⟨o', q⟩ := Option.isSome_iff_exists.mp h
        have z := st b o' q
        rw [e'] at z
        cases z
        exact q
      · exact absurd h hb
  rw [hC] at post
  cases use <;> exact post
end
section
variable {X : Cx}
theorem lc_coreX {pins : List (Addr × Obj)} {s : Shared} {σ : St} {H : Hp} {Q : VK} {E : XK} {elt tg iter : Expr} {ifs : List Expr} {scope : Scope} {own : List (Str × Nat)} {pos pos' : Pos} {wi : TI} {g : TG} {tt : TT} {te : TE} {use : Option (Value → Sem Unit)} {Qf : Value → Shared → Prop}
    (hst : X.stack = X.env :: X.outer) (hfr : X.env.frame = some X.env.locals) (tk : Takes X (fun cls d _ H => E cls d H)) (hc : X.calm = true) (hN : X.N.Nodup) (I : Inv X pins σ H s) (hi : PI X tg iter wi) (ok : BlkOk X.N X.env.scope scope own)
    (hg : ∀ (s : Shared) (H : Hp) (C : Addr) (cl : List (Str × Addr)) (fp : List Addr), PG (X.blk s H scope (compEnvC scope cl C X.env) fp) tg g) (ht : ∀ (s : Shared) (H : Hp) (C : Addr) (cl : List (Str × Addr)) (fp : List Addr), PTs (X.blk s H scope (compEnvC scope cl C X.env) fp) ifs tt)
    (he : ∀ (s : Shared) (H : Hp) (C : Addr) (cl : List (Str × Addr)) (fp : List Addr), PE (blkX X E s H scope (compEnvC scope cl C X.env) fp) elt te) (hs : ∀ x, foldedSetIterable iter X.env x = pure x) (h : tLc wi g tt te (own.map (·.2)) σ H Q)
    (hRR : ∀ D C s' m H', Inv X pins σ H' s' → Q (.ref D) H' → s'.heap.Ns C m → FpOk X pins H' C → ∀ ce : PySem.Env, ce.locals = C → postX (model X.prog X.w) X.A X.xe use Qf (.ref D) ce (.ok .next) s') :
    wpAny (model X.prog X.w) X.A (comprehension (.ListComp elt [⟨tg, iter, ifs, 0⟩] scope pos) scope X.env pos' (newList []) false (eval iter X.env) use) Qf X.xe s := by
  have hfree : ∀ y ∈ scope.names, y.2 = .free → ∃ c, X.env.cells.lookup y.1 = some c := fun y hy e => (ok.free y hy e).elim (fun z => I.ok.has _ (.inl z)) fun z => I.ok.has _ (.inr z)
  refine comp_X (use := use) rfl hs (closure_ok hfree) ok.kind (fun y hy e => by rw [ok.uniq y hy, e]) (thn (hi.run pins s σ H _ I h) fun xv s1 hx => thn hx fun itv s2 h2 => ?_)
  obtain ⟨it, fp, tn, J, H2, e, I2, T, st2, f2, q⟩ := h2
  subst e
  refine wpAny_newObj_type (newEnv_comp ?_) (by show 0 ≤ sizeLine; decide)
  generalize hD : s2.heap.objs.size = D
  obtain ⟨W, ⟨m0, w0⟩, turn⟩ := q D (I2.hok.fresh (Nat.le_of_eq hD))
  generalize hs3 : ({ s2 with heap := s2.heap.push { cls := .type "list", data := .seq ([] : List Value).toArray } } : Shared) = s3
  have I3 : Inv X pins σ (upd H2 D (.lst [])) s3 := by
    rw [← hs3]
    exact I2.laid (t' := s2.toks) (fun b o e => Heap.get?_push_of_some _ e) (Nat.le_of_eq hD) ⟨Nat.zero_le _, [], 0, .nil, by rw [← hD]; exact Heap.get?_push_size _ rfl⟩
  have h3 : s3.heap = s2.heap.push { cls := .type "list", data := .seq ([] : List Value).toArray } := by rw [← hs3]
  have sz : ∀ b ∈ fp, b < s2.heap.objs.size := fun b hb => let ⟨_, e, _⟩ := T.obj _ _ st2 b hb; Heap.lt_size e
  have f3 : ∀ b ∈ fp, FpOk X pins (upd H2 D (.lst [])) b ∧ b < s3.heap.objs.size := fun b hb =>
    ⟨⟨by rw [upd_ne (by rw [← hD]; exact Nat.ne_of_lt (sz b hb))]; exact (f2 b hb).1, (f2 b hb).2⟩, by rw [h3, Heap.size_push]; exact Nat.lt_succ_of_lt (sz b hb)⟩
  have st3 : tn 0 s3.heap := T.keep _ _ _ st2 fun b _ o e => by rw [h3]; exact Heap.get?_push_of_some _ e
  have I4 := block_start I3 ok hN f3
  have pg := hg s3 (upd H2 D (.lst [])) s3.heap.objs.size (cellsFrom (s3.heap.objs.size + 1) scope.names (cloFrom X.env.cells scope.names [])) fp
  have pt := ht s3 (upd H2 D (.lst [])) s3.heap.objs.size (cellsFrom (s3.heap.objs.size + 1) scope.names (cloFrom X.env.cells scope.names [])) fp
  have pe := he s3 (upd H2 D (.lst [])) s3.heap.objs.size (cellsFrom (s3.heap.objs.size + 1) scope.names (cloFrom X.env.cells scope.names [])) fp
  show codeAny _ _ (.compStart (.ListComp elt [⟨tg, iter, ifs, 0⟩] scope pos) 0 (.ref it) (.ref D) (compEnvC scope (cellsFrom (s3.heap.objs.size + 1) scope.names (cloFrom X.env.cells scope.names [])) s3.heap.objs.size X.env)) (postX (model X.prog X.w) X.A X.xe use Qf (.ref D) (compEnvC scope (cellsFrom (s3.heap.objs.size + 1) scope.names (cloFrom X.env.cells scope.names [])) s3.heap.objs.size X.env)) { s3 with heap := pushCells (s3.heap.push { cls := .type "dict", data := .dict #[] }) scope.names }
  have nfp : ∀ b ∈ fp, (upd H2 D (.lst [])) b = none := fun b hb => (f3 b hb).1.1
  have hno : ∀ u, noteFrame u (compEnvC scope (cellsFrom (s3.heap.objs.size + 1) scope.names (cloFrom X.env.cells scope.names [])) s3.heap.objs.size X.env) = noteFrame u X.env := fun u => note_ce
  have hcf : (compEnvC scope (cellsFrom (s3.heap.objs.size + 1) scope.names (cloFrom X.env.cells scope.names [])) s3.heap.objs.size X.env).frame = X.env.frame := rfl
  have cL : (compEnvC scope (cellsFrom (s3.heap.objs.size + 1) scope.names (cloFrom X.env.cells scope.names [])) s3.heap.objs.size X.env).locals = s3.heap.objs.size := rfl
  generalize compEnvC scope (cellsFrom (s3.heap.objs.size + 1) scope.names (cloFrom X.env.cells scope.names [])) s3.heap.objs.size X.env = ce at I4 pg pt pe hno hcf cL ⊢
  generalize hH3 : upd H2 D (.lst []) = H3 at I3 I4 pg pt pe w0 nfp f3
  generalize hs4 : ({ s3 with heap := pushCells (s3.heap.push { cls := .type "dict", data := .dict #[] }) scope.names } : Shared) = s4 at I4 ⊢
  have st4 : tn 0 s4.heap := T.keep _ _ _ st3 fun b _ o e => by rw [← hs4]; exact pushCells_keeps _ _ _ _ (Heap.get?_push_of_some _ e)
  have stat : ∀ {σ' : St} {H' : Hp} {s' : Shared}, Inv (X.blk s3 H3 scope ce fp) [] σ' H' s' → (∀ b ∈ fp, H' b = none) → ∀ b ∈ fp, FpOk (X.blk s3 H3 scope ce fp) [] H' b := fun {σ' H' s'} I' hn b hb =>
    ⟨hn b hb, (I'.ok.exf b hb).1, I'.ok.exfs b hb, .inl hb, fun x c e => (I'.ok.exf b hb).2 x c e, fun p hp => absurd (show p ∈ ([] : List (Addr × Obj)) ++ [] from hp) (by simp)⟩
  have loop : codeAny (model X.prog X.w) X.A (.compLoop (.ListComp elt [⟨tg, iter, ifs, 0⟩] scope pos) 0 (.ref it) (.ref D) ce) (postX (model X.prog X.w) X.A X.xe use Qf (.ref D) ce) s4 := by
    refine compLoop_any (fun n s' => ∃ i H', Inv (X.blk s3 H3 scope ce fp) [] (wipe σ (own.map (·.2))) H' s' ∧ tn i s'.heap ∧ (∀ b ∈ fp, H' b = none) ∧ W i n H') ?_ m0 ⟨0, H3, I4, st4, nfp, w0⟩
    rintro n s5 ⟨i, H5, I5, st5, n5, w5⟩
    rcases turn i n H5 w5 with ⟨stop, qq⟩ | ⟨go, Nx, hNx, step⟩
    · refine thnF (T.done (X.blk s3 H3 scope ce fp) rfl rfl rfl hc i [] s5 _ H5 (fun _ _ => False) I5 (stat I5 n5) st5 stop) fun r s6 ⟨hr, I6⟩ => ?_
      subst hr
      have I7 : Inv X pins σ H5 s6 := I3.call' (ch := fp) I6.os I6.base I6.hok I6.bare fun b hb => ⟨(f3 b hb).1.2.2.2.1, (f3 b hb).1.2.1, (f3 b hb).1.2.2.2.2.1, (f3 b hb).1.2.2.2.2.2⟩
      have nC : H5 ce.locals = none := I6.free
      obtain ⟨m, hn, _⟩ := I6.loc
      have hn : s6.heap.Ns ce.locals m := hn
      exact hRR D ce.locals s6 m H5 I7 qq hn (I3.fpOk (Nat.le_of_eq cL.symm) nC) ce rfl
    · refine thnF (T.item (X.blk s3 H3 scope ce fp) rfl rfl rfl hc i [] s5 _ H5 (fun _ _ => False) I5 (stat I5 n5) st5 go) fun r s6 ⟨u, hr, h6⟩ => ?_
      subst hr
      refine thnF h6 fun _ s7 ⟨x, H7, I7, r7, y7, st7, n7⟩ => ?_
      have I7' := I7.pinned (stat I7 n7) (T.obj _ _ st7)
      refine thnF (pg.run _ s7 _ H7 x u _ I7' r7 (step x H7 y7)) fun _ s8 ⟨σ8, H8, I8, hw8, q8⟩ => thnF (pt.run _ s8 σ8 H8 _ I8 q8) fun b s9 ⟨H9, I9, q9⟩ => ?_
      have fin : ∀ {s' : Shared} {H' : Hp}, Inv (X.blk s3 H3 scope ce fp) ([] ++ pinsAt fp s7.heap) σ8 H' s' → Nx H' → ∃ m, m < n ∧ ∃ i H', Inv (X.blk s3 H3 scope ce fp) [] (wipe σ (own.map (·.2))) H' s' ∧ tn i s'.heap ∧ (∀ b ∈ fp, H' b = none) ∧ W i m H' := fun {s' H'} I' nx => by
        obtain ⟨m', hm, w'⟩ := hNx H' nx
        have pin' : ∀ b ∈ fp, ∀ o, s7.heap.get? b = some o → s'.heap.get? b = some o ∧ H' b = none := fun b hb o e =>
          let z := I'.pin (b, o) (List.mem_append_right _ (List.mem_append_right _ (mem_pinsAt hb e)))
          ⟨z.1, z.2.1⟩
        have hl : (wipe σ (own.map (·.2))).length = σ8.length := by rw [← hw8, wipe_length]
        exact ⟨m', hm, i + 1, H', (I'.unpinned (pins := [])).weak hl (fun j v e => by rw [← hw8] at e; exact (wipe_some e).1), T.keep _ _ _ st7 fun b hb o e => (pin' b hb o e).1, fun b hb => let ⟨o, e, _⟩ := T.obj _ _ st7 b hb; (pin' b hb o e).2, w'⟩
      cases b with
      | false =>
        simp only [Bool.false_eq_true, if_false] at q9 ⊢
        exact fin I9 q9
      | true =>
        simp only [if_true] at q9 ⊢
        refine wpAny_mono (pe.run _ s9 σ8 H9 _ (inv_xe I9) q9) (fun z s10 ⟨yv, H10, I10, r10, acc, hD10, hz10, nx⟩ => thnF (app_ok (E := fun _ _ => False) (X := X.blk s3 H3 scope ce fp) (inv_xe I10) hD10 hz10 r10 fun s11 I11 => fin I11 nx) fun _ _ z => z) fun u s' x => ?_
        exact xb_end hst hfr tk I3 (fun b hb => (f3 b hb).1) cL hcf (hno u) x
  exact codeAny_compStart_list loop (T.self X.A 0 _ _ _ st4 loop)
end
section
variable {X : Cx} {C : Addr} {E : XK} {pos : Pos}
/-- name = [..] on one line, the element may raise -/
theorem ps_setLcX {i : Nat} {y : Str} {py : Pos} {elt tg iter : Expr} {ifs : List Expr} {scope : Scope} {own : List (Str × Nat)} {spos : Pos} {wi : TI} {g : TG} {tt : TT} {te : TE} (hst : X.stack = X.env :: X.outer) (hfr : X.env.frame = some X.env.locals) (tk : Takes X (fun cls d _ H => E cls d H)) (hc : X.calm = true) (hN : X.N.Nodup) (hy : X.N[i]? = some y) (hyl : X.env.scope.names.lookup y = some .local)
    (hsw : swapsWith (.ListComp elt [⟨tg, iter, ifs, 0⟩] scope pos) (some (.Name y py)) spos.line X.env = pure true) (hi : PI X tg iter wi) (ok : BlkOk X.N X.env.scope scope own)
    (hg : ∀ (s : Shared) (H : Hp) (C : Addr) (cl : List (Str × Addr)) (fp : List Addr), PG (X.blk s H scope (compEnvC scope cl C X.env) fp) tg g) (ht : ∀ (s : Shared) (H : Hp) (C : Addr) (cl : List (Str × Addr)) (fp : List Addr), PTs (X.blk s H scope (compEnvC scope cl C X.env) fp) ifs tt)
    (he : ∀ (s : Shared) (H : Hp) (C : Addr) (cl : List (Str × Addr)) (fp : List Addr), PE (blkX X E s H scope (compEnvC scope cl C X.env) fp) elt te) (hs : ∀ x, foldedSetIterable iter X.env x = pure x := by intro _; rfl) :
    PS X (.Assign [.Name y py] (.ListComp elt [⟨tg, iter, ifs, 0⟩] scope pos) spos) (tAsg (tLc wi g tt te (own.map (·.2))) (gName i)) := by
  refine ⟨fun pins s σ H D I h => ?_⟩
  rw [exec_Assign_Name_used _ _ _ _ hsw]
  refine wpAny_bind (wpAny_standAt (wpAny_bind ?_))
  show wpAny _ X.A (do let _ ← comprehension (.ListComp elt [⟨tg, iter, ifs, 0⟩] scope pos) scope X.env (firstIterPos [⟨tg, iter, ifs, 0⟩] pos) (newList []) false (eval iter X.env) (some (assign (.Name y py) X.env))) _ _ s
  have h : tLc wi g tt te (own.map (·.2)) σ H (fun x H1 => gName i x σ H1 D.nx) := h
  refine wpAny_bind (thn (lc_coreX (Qf := fun _ s' => SP X pins D .next s') hst hfr tk hc hN I hi ok hg ht he hs h fun L C s' m H' I' q hn f ce hce => ?_) fun _ s' hq => wpAny_pure (wpAny_pure hq))
  subst hce
  show wpAny _ _ (assign (.Name y py) X.env (.ref L)) _ _ _
  refine wpAny_assign_Name (store_ok2 (v := V.ref L) I' hN hy (.inl hyl) rfl (fun s2 I2 ⟨a, sb, ha⟩ => ?_) (.inr hyl))
  obtain ⟨f0, f1, f2, f3, f4, f5⟩ := f
  have haC : ce.locals ≠ a := ha.elim (fun z => by rw [z]; exact f1) fun z e => f4 y a z e.symm
  exact ⟨m, hn.sameBut sb haC, fun h3 sb3 => ⟨_, H', I2.turned (t' := s2.toks) (fun b o hb e => (sb3.2 b hb).trans e) f0 f1 f3 f4 f5, q⟩⟩
def lcDX (g : DG) (t : DT) (p : DE) (ρ : Env) (P : List D → Prop) (R : Addr → Prop) : List D → List D → Prop
  | [], acc => P acc
  | d :: ds, acc => g d ρ (fun ρ2 => t ρ2 (fun b => if b = true then p ρ2 (fun y => lcDX g t p ρ P R ds (acc ++ [y])) R else lcDX g t p ρ P R ds acc) (fun _ => False))
def dLcX (q : DA) (g : DG) (t : DT) (p : DE) (vs : List Nat) : DE := fun ρ P R => q ρ (fun ds => ds.length ≤ sizeLine ∧ lcDX g t p (wipeD ρ vs) (fun acc => P (.lst acc)) R ds []) R
theorem lift_lcX {K : PySem.W.Frag} {q : DA} {js : List Nat} {g : DG} {t : DT} {p : DE} {vs : List Nat} (hj : ∀ j, j ∈ js → j ∈ vs) : ∀ σ H Q, lift K C E (dLcX q g t p vs) σ H Q → tLc (liftI K C E q) (liftG K C js g) (liftT K C EF t) (lift K C E p) vs σ H Q := fun σ H Q q => by
  obtain ⟨B, O0, O, ρ, P, R, k, q, hP, hR⟩ := q
  refine ⟨B, O0, O, ρ, _, R, k, q, fun J ds H1 s1 wk hf L hL => ?_, hR⟩
  obtain ⟨hz, hf⟩ := hf
  have k1 := k.ext s1
  refine ⟨fun i m H' => m = ds.length - i ∧ i ≤ ds.length ∧ ∃ acc va, Same H1 H' ∧ H' L = some (.lst va) ∧ RepL K C (wo H' (L :: O)) acc va ∧ acc.length ≤ i ∧ Ok K C B O0 (L :: O) H' (wipe σ vs) (wipeD ρ vs) ∧ lcDX g t p (wipeD ρ vs) (fun acc => P (.lst acc)) R (ds.drop i) acc,
    ⟨_, rfl, Nat.zero_le _, [], [], Same.new hL, upd_same, rfl, Nat.zero_le _, (k1.apart hL).wipe vs, hf⟩, ?_⟩
  rintro i m H' ⟨rfl, hi, acc, va, s2, hl2, ra, hal, k2, hf'⟩
  have sw : Same (wo H1 O) (wo H' (L :: O)) := fun b o e => by
    have h1 : H1 b = some o := wo_some e
    refine wo_of (s2 _ _ h1) fun z => ?_
    rcases List.mem_cons.mp z with z | z
    · rw [z, hL] at h1; cases h1
    · unfold wo at e
      rw [if_pos z] at e
      cases e
  obtain ⟨wgo, wst⟩ := wk H' ((wo_le H1 O).trans s2)
  by_cases hlt : i < ds.length
  · obtain ⟨d, hd⟩ : ∃ d, ds[i]? = some d := ⟨ds[i], List.getElem?_eq_getElem hlt⟩
    have hdrop : ds.drop i = d :: ds.drop (i + 1) := by
      rw [List.drop_eq_getElem_cons hlt]
      have := List.getElem?_eq_getElem hlt
      rw [hd] at this
      cases this
      rfl
    rw [hdrop] at hf'
    obtain ⟨go, yl⟩ := wgo i d hd
    refine .inr ⟨go, fun H2 => ∃ acc va, Same H1 H2 ∧ H2 L = some (.lst va) ∧ RepL K C (wo H2 (L :: O)) acc va ∧ acc.length ≤ i + 1 ∧ Ok K C B O0 (L :: O) H2 (wipe σ vs) (wipeD ρ vs) ∧ lcDX g t p (wipeD ρ vs) (fun acc => P (.lst acc)) R (ds.drop (i + 1)) acc,
      fun H2 ⟨acc, va, a1, a2, a3, a4, a5, a6⟩ => ⟨ds.length - (i + 1), by omega, rfl, hlt, acc, va, a1, a2, a3, a4, a5, a6⟩, fun x H'' y => ?_⟩
    obtain ⟨sy, ry⟩ := yl x H'' y
    have rx := ry (L :: O) sw k2.al
    refine ⟨B, O0, L :: O, wipeD ρ vs, d, _, k2.ext sy, rx, hf', fun σ3 ρ3 k3 hst h3 => ?_⟩
    refine ⟨wipe_eq (by rw [hst.1, wipe_length]) hj hst.2, ?_⟩
    refine ⟨B, O0, L :: O, ρ3, _, fun _ => False, k3, h3, fun b H3 s3 h4 => ?_, fun _ _ _ z => z⟩
    have s13 : Same H1 H3 := (s2.trans sy).trans s3
    have l3 : H3 L = some (.lst va) := s3 _ _ (sy _ _ hl2)
    have r3 : RepL K C (wo H3 (L :: O)) acc va := RepL.mono (wo_same _ (sy.trans s3)) _ ra
    cases b with
    | true =>
      simp only [if_true] at h4 ⊢
      refine ⟨B, O0, L :: O, ρ3, _, R, k3.ext s3, h4, fun v e H4 s4 r4 h5 => ?_, fun c H' s' z => hR c H' ((s1.trans s13).trans s') z⟩
      have l4 : H4 L = some (.lst va) := s4 _ _ l3
      have hb : B L = none := k1.base.free hL
      have k4 : Ok K C B O0 (L :: O) H4 (wipe σ vs) (wipeD ρ vs) := k2.ext ((sy.trans s3).trans s4)
      have hno : ∀ (j : Nat) (es : List D), (wipeD ρ vs)[j]? = some (some (.own es)) → (wipe σ vs)[j]? ≠ some (some (.ref L)) := fun j es e z => by
        obtain ⟨q, ws, e1, _, _, e4, _⟩ := (k1.wipe vs).own j es e
        rw [e1] at z
        have eq : q = L := by simpa using z
        rw [eq, hL] at e4
        cases e4
      have hnk : ∀ (j : Nat) (b : Bool) (ts : List Int), (wipeD ρ vs)[j]? ≠ some (some (.kst L b ts)) := fun j b ts z => by
        obtain ⟨_, _, _, _, e4, _⟩ := (k1.wipe vs).st.at_ j L b ts z
        rw [hL] at e4
        cases e4
      have hnl : ∀ (j : Nat) (ds : List D), (wipeD ρ vs)[j]? ≠ some (some (.ls L ds)) := fun j ds z => by
        obtain ⟨_, _, _, e4, _⟩ := (k1.wipe vs).ls.at_ j L ds z
        rw [hL] at e4
        cases e4
      refine ⟨va, l4, by rw [RepL.length r3]; omega, acc ++ [e], va ++ [v], fun b o eb => ?_, upd_same, ?_, by rw [List.length_append]; exact Nat.add_le_add_right hal 1, k4.chg (by simp) hb l4 hno hnk hnl (SameX.upd l4), h5⟩
      · rw [upd_ne (ne_of_none eb hL)]
        exact s4 _ _ (s13 _ _ eb)
      · have sw4 : Same (wo H4 (L :: O)) (wo (upd H4 L (.lst (va ++ [v]))) (L :: O)) := fun b o eb => by
          have h1 := wo_some eb
          have nO : b ∉ L :: O := fun z => by
            unfold wo at eb
            rw [if_pos z] at eb
            cases eb
          exact wo_of (by rw [upd_ne fun z => nO (by simp [z])]; exact h1) nO
        exact (RepL.mono ((wo_same _ s4).trans sw4) _ r3).append (RepL.one (Rep.mono sw4 _ r4))
    | false =>
      simp only [Bool.false_eq_true, if_false] at h4 ⊢
      exact ⟨acc, va, s13, l3, r3, by omega, k2.ext (sy.trans s3), h4⟩
  · have e : i = ds.length := by omega
    subst e
    rw [List.drop_length] at hf'
    refine .inl ⟨wst, ?_⟩
    exact hP (.ref L) (.lst acc) H' (s1.trans s2) ⟨L, va, rfl, wo_of hl2 (k1.al.new hL), RepL.mono (wo_sub H' fun a ha => List.mem_cons_of_mem _ ha) _ ra⟩ hf'
theorem sd_setLcX {i : Nat} {y : Str} {py spos : Pos} {elt tg iter : Expr} {ifs : List Expr} {scope : Scope} {own : List (Str × Nat)} {q : DA} {js : List Nat} {g : DG} {t : DT} {p : DE} (hst : X.stack = X.env :: X.outer) (hfr : X.env.frame = some X.env.locals) (tk : Takes X (fun cls d _ H => E cls d H)) (hc : X.calm = true) (hN : X.N.Nodup) (hy : X.N[i]? = some y) (hyl : X.env.scope.names.lookup y = some .local)
    (hsw : swapsWith (.ListComp elt [⟨tg, iter, ifs, 0⟩] scope pos) (some (.Name y py)) spos.line X.env = pure true) (hi : PI X tg iter (liftI X.K C E q)) (ok : BlkOk X.N X.env.scope scope own)
    (hg : ∀ (s : Shared) (H : Hp) (c : Addr) (cl : List (Str × Addr)) (fp : List Addr), PG (X.blk s H scope (compEnvC scope cl c X.env) fp) tg (liftG X.K C js g)) (ht : ∀ (s : Shared) (H : Hp) (c : Addr) (cl : List (Str × Addr)) (fp : List Addr), PTs (X.blk s H scope (compEnvC scope cl c X.env) fp) ifs (liftT X.K C EF t))
    (he : ∀ (s : Shared) (H : Hp) (c : Addr) (cl : List (Str × Addr)) (fp : List Addr), PE (blkX X E s H scope (compEnvC scope cl c X.env) fp) elt (lift X.K C E p)) (hj : ∀ j, j ∈ js → j ∈ own.map (·.2) := by decide) (hs : ∀ x, foldedSetIterable iter X.env x = pure x := by intro _; rfl) :
    PS X (.Assign [.Name y py] (.ListComp elt [⟨tg, iter, ifs, 0⟩] scope pos) spos) (liftS X.K C E (dSet i (dLcX q g t p (own.map (·.2))))) := (ps_setLcX hst hfr tk hc hN hy hyl hsw hi ok hg ht he hs).wk fun D σ H q => by
  obtain ⟨B, O0, O, ρ, N, R, Z, k, q, hN, hR, hZ⟩ := q
  have h := lift_lcX (K := X.K) (C := C) (E := E) (q := ‹DA›) (js := js) (g := g) (t := t) (p := p) (vs := own.map (·.2)) hj σ H (fun v H' => D.nx (σ.set i (some v)) H')
  exact h ⟨B, O0, O, ρ, _, Z, k, q, fun v d H' s' r p => hN (σ.set i (some v)) H' _ O ((k.ext s').set i r) p, fun c H' s' z => hZ c H' (k.base.trans s') z⟩
theorem passX {s : Shared} {H : Hp} {scope : Scope} {ce : PySem.Env} {fp : List Addr} : Passes (L2.CX X.prog X.w) (blkX X E s H scope ce fp) E := fun pins σ H s e s' I c => ⟨pins, σ, H, s, inv_xe I, c⟩
end
end L2.DL
/-! # int(text), str(number) of up to 4300 figures -/
namespace L2.DL
open PySem PySem.Calls PySem.NumText PyProof.Rows PySem.Spec
theorem noDig {X : Cx} {pins : List (Addr × Obj)} {σ : St} {H : Hp} {s : Shared} (I : Inv X pins σ H s) (h : PySem.W.nsIn X.K cStatics "sys.int_max_str_digits" = some none) : s.heap.NoDigits := by
  obtain ⟨mc, ⟨o, es, ep, ho, hd, hk, hr⟩, _⟩ := I.nolimit
  refine ⟨mc, ⟨o, es, ep, ho, hd, hk, hr⟩, ?_⟩
  rw [← hr]
  unfold PySem.W.nsIn at h
  split at h
  · rename_i c d es' n sl hl
    have z := I.kIn _ _ hl
    rw [ho] at z
    cases z
    cases hd
    split at h
    · cases h
    · rename_i hf
      rw [Array.find?_toList] at hf
      show (es.find? _).map _ = none
      rw [hf]
      rfl
  · cases h
structure Hd4 (p : Prop) : Prop where
  out : p
theorem wp_text4 {M : Model} {A : Around} {E : Value → Shared → Prop} {s : Shared} {Q : Value → Shared → Prop} {v : Value} {text : List Nat} {n : Int}
    (hs : ¬ (text.takeWhile (· != 0)).length ≤ 640) (hr : (int_private% "readNumeral") 4300 10 (text.takeWhile (· != 0)) = (int_private% "Numeral.value") n)
    (ha : ((text.takeWhile (· != 0)).length == text.length) = true) (hn : s.heap.NoDigits) (h : Q (.int n s.toks) { s with toks := s.toks + 1 }) :
    wpAny M A ((int_private% "intFromText") v text 10) Q E s := by
  obtain ⟨mc, hns, hnone⟩ := hn
  obtain ⟨hp, g, d, tk, os⟩ := s
  repeat (any_goals (first
    | assumption
    | (with_reducible refine wpAny_ite_false (decide_eq_false hs) ?_)
    | (with_reducible refine wpAny_ite_true (decide_eq_true ha) ?_)
    | (with_reducible refine wpAny_nsGet hns ?_; rw [hnone])
    | wp_step))
  all_goals (try rw [hr])
  all_goals (try dsimp only)
  repeat (any_goals (first
    | assumption
    | (with_reducible refine wpAny_ite_true (decide_eq_true ha) ?_)
    | wp_step))
theorem meets_text4 {x : PySem.Str} {u : Tok} {n : Int} (hl : x.length ≤ 4300) (hn : PySem.intText? x = some n) : Meets (Builtin.«int.__new__» ⟨[.type "int", .str x u], []⟩) (fun _ R s => s.heap.NoDigits ∧ R (.ok (.ret (.int n s.toks))) { s with toks := s.toks + 1 }) :=
  fun prog w A R s ⟨nd, h⟩ => by
    refine wpAny_mono (Q := fun fin s' => ∃ v, fin = .done (.ret v) ∧ R (.ok (.ret v)) s') ?_ (fun fin s' h' => by obtain ⟨v, rfl, hv⟩ := h'; exact hv) fun _ _ x => x
    have f1 := F.conv_sub_int
    have f2 := F.madeHere_int
    have f3 := PySem.W.KIN.str_int
    have f4 := PySem.W.KIN.str_idx
    have f5 := PySem.W.KIN.str_trunc
    have f6 : typeOf (.str x u) = pure (.type "str") := rfl
    have hk : Hd4 (((numSeenOf x).length ≤ 640 ∧ (int_private% "readNumeral") 0 10 (numSeenOf x) = (int_private% "Numeral.value") n) ∧ ((numSeenOf x).length == (numTextOf x).length) = true) ∨ Hd4 ((¬ (numSeenOf x).length ≤ 640 ∧ (int_private% "readNumeral") 4300 10 (numSeenOf x) = (int_private% "Numeral.value") n) ∧ ((numSeenOf x).length == (numTextOf x).length) = true) := by
      by_cases hs : (numSeenOf x).length ≤ 640
      · rcases read0 x hs with ⟨m, h1, h2, h3⟩ | ⟨h1, _⟩
        · rw [hn] at h1
          cases h1
          exact .inl ⟨⟨hs, h3⟩, h2⟩
        · rw [hn] at h1
          cases h1
      · rcases read4300 x (by rw [sizeLine_eq]; omega) with ⟨m, h1, h2, h3⟩ | ⟨h1, _⟩
        · rw [hn] at h1
          cases h1
          exact .inr ⟨⟨hs, h3⟩, h2⟩
        · rw [hn] at h1
          cases h1
    have nd' := Hd4.mk nd
    clear hl hn nd
    obtain ⟨hp, g, d, tk, os⟩ := s
    rcases hk with hk | hk
    · repeat (any_goals (first
        | assumption
        | ((with_reducible show wpAny _ _ ((int_private% "intFromText") _ _ _) _ _ _); refine PySem.W.KIN.wp_text hk.out.1.1 hk.out.1.2 hk.out.2 ?_)
        | wp_step))
      all_goals first | exact ⟨_, rfl, h⟩ | skip
    · repeat (any_goals (first
        | assumption
        | ((with_reducible show wpAny _ _ ((int_private% "intFromText") _ _ _) _ _ _); refine wp_text4 hk.out.1.1 hk.out.1.2 hk.out.2 nd'.out ?_)
        | wp_step))
      all_goals first | exact ⟨_, rfl, h⟩ | skip
section
variable {X : Cx} {C : Addr} {E : XK} {K : PySem.W.Frag}
theorem call_int4 (DG : PySem.W.nsIn X.K cStatics "sys.int_max_str_digits" = some none) : CallR X (.type "int") (fun xs H Q => ∃ a n, xs = [.str a] ∧ PySem.intText? a = some n ∧ a.length ≤ 4300 ∧ Q (.int n) H) := by
  intro pins s σ H xs us Q I rs h
  obtain ⟨a, n, rfl, hn, hl, h⟩ := h
  cases rs with
  | cons r1 rs =>
    cases rs
    obtain ⟨t, rfl⟩ := r1
    exact call_int_1 (meets_text4 hl hn) ⟨noDig I DG, typeIs_int _ _ _, .int n, H, I.tok _, ⟨_, rfl⟩, h⟩
theorem call_str4 (hc : X.calm = true) (DG : PySem.W.nsIn X.K cStatics "sys.int_max_str_digits" = some none) : CallR X (.type "str") (fun xs H Q => ∃ i, xs = [.int i] ∧ i.natAbs < 10 ^ 4300 ∧ Q (.str (toString i)) H) := by
  intro pins s σ H xs us Q I r h
  obtain ⟨i, rfl, hz, q⟩ := h
  obtain ⟨u, rfl, t, rfl⟩ := vals1 r
  exact str_of_int_or (I.ok.hd hc) (noDig I DG) (fun _ => ⟨.str _, H, I.tok _, ⟨_, rfl⟩, q⟩) fun z => absurd hz (by omega)
def dIntS4 : DB
  | [.str a], P => ∃ n, intText? a = some n ∧ a.length ≤ 4300 ∧ P (.int n)
  | _, _ => False
def dStr4 : DB
  | [.int i], P => i.natAbs < 10 ^ 4300 ∧ P (.str (toString i))
  | _, _ => False
theorem ab_intS4 : AbC K C (fun xs H Q => ∃ a n, xs = [.str a] ∧ PySem.intText? a = some n ∧ a.length ≤ 4300 ∧ Q (.int n) H) dIntS4 := by
  intro O H vs ds P Q al r q k
  unfold dIntS4 at q
  split at q
  · obtain ⟨v, _, rfl, rfl, rfl⟩ := r
    obtain ⟨n, h1, h2, h3⟩ := q
    exact ⟨_, n, rfl, h1, h2, k _ (.int n) H (Same.refl H) rfl h3⟩
  · exact q.elim
theorem ab_str4 : AbC K C (fun xs H Q => ∃ i, xs = [.int i] ∧ i.natAbs < 10 ^ 4300 ∧ Q (.str (toString i)) H) dStr4 := by
  intro O H vs ds P Q al r q k
  unfold dStr4 at q
  split at q
  · obtain ⟨v, _, rfl, rfl, rfl⟩ := r
    exact ⟨_, rfl, q.1, kS k q.2⟩
  · exact q.elim
theorem pd_intS4 {K : PySem.W.Frag} {a : Expr} {es : List Expr} {q : DA} {p pos : Pos} (hK : X.K = K) (DG : PySem.W.nsIn K cStatics "sys.int_max_str_digits" = some none) (nb : X.mg "int" = none) (ha : PA X (a :: es) (liftA X.K C E q)) (hg : Gl X "int" := by rfl) (he : starEach (a :: es) X.env = (false, eval a X.env) :: starEach es X.env := by rfl) (hpl : (backTo pos (starEach es X.env)).any (·.1) = false := by rfl) : PE X (.Call (.Name "int" p) (a :: es) [] pos) (lift X.K C E (dBi dIntS4 q)) :=
  pd_bt (call_int4 (by rw [hK]; exact DG)) ab_intS4 hg nb bt_int ha (by decide) (by decide) he hpl
theorem pd_str4 {K : PySem.W.Frag} {a : Expr} {es : List Expr} {q : DA} {p pos : Pos} (hK : X.K = K) (DG : PySem.W.nsIn K cStatics "sys.int_max_str_digits" = some none) (nb : X.mg "str" = none) (ha : PA X (a :: es) (liftA X.K C E q)) (hc : X.calm = true := by rfl) (hg : Gl X "str" := by rfl) (he : starEach (a :: es) X.env = (false, eval a X.env) :: starEach es X.env := by rfl) (hpl : (backTo pos (starEach es X.env)).any (·.1) = false := by rfl) : PE X (.Call (.Name "str" p) (a :: es) [] pos) (lift X.K C E (dBi dStr4 q)) :=
  pd_bt (call_str4 hc (by rw [hK]; exact DG)) ab_str4 hg nb bt_str ha (by decide) (by decide) he hpl
end
end L2.DL
/-! # try: .. except X as e: kept = e, all but the refusal forgotten -/
namespace L2.DL
open PySem PySem.Spec PyProof.Rows
def dTryK (K : PySem.W.Frag) (KE : Addr) (n j : Nat) (p : DS) : DS := fun ρ N R Z => p ρ N R (fun a => PySem.W.exmOne K (.ref a) (.ref KE) = some true ∧ N ((List.replicate n none).set j (some (.v (.exc a)))))
section
variable {X : Cx} {C : Addr} {E : XK} {pos : Pos}
theorem sd_tryK {K : PySem.W.Frag} {x n y : Str} {KE : Addr} {len i j : Nat} {body : List Stmt} {np pos' p1 p2 p3 : Pos} {p : DS} (hK : X.K = K) (hlen : X.N.length = len) (hs : X.stack = X.env :: X.outer) (hf : X.env.frame = some X.env.locals) (nd : X.N.Nodup) (hi : X.N[i]? = some n) (kn : X.env.kindOf n = some .local) (hj : X.N[j]? = some y) (ky : X.env.kindOf y = some .local)
    (hg : Gl X x) (hdx : (x == ("__debug__" : Str)) = false) (hm : X.mg x = some (.ref KE)) (tk : Takes X (fun cls d _ H => E cls d H)) (noex : X.ex = []) (hij : i ≠ j) (hd : (n == ("__debug__" : Str)) = false) (dn2 : (n == ("__classdict__" : Str)) = false)
    (hb : ∀ (pn : List (Addr × Obj)) (xe : Value → Shared → Prop) (E' : XK), Passes (L2.CX X.prog X.w) (X.tr pn xe) E' → PSs (X.tr pn xe) body (liftS X.K C E' p))
    (swp : ∀ a pn, swapsWith (.Name n p2) (some (.Name y p1)) p3.line (X.suite a pn).env = pure false := by intros; rfl) :
    PS X (.Try body [.ExceptHandler (some (.Name x np)) (some n) [.Assign [.Name y p1] (.Name n p2) p3] pos'] [] [] pos) (liftS X.K C E (dTryK K KE len j p)) := by
  subst hK
  subst hlen
  refine (ps_try_kept (tb := fun W D σ H => liftS X.K C (fun cls d H' => ∀ σ', W cls d σ' H') p D σ H) hs hf nd hi kn hj ky ⟨hg, hdx, .inl hm⟩ tk noex hd dn2 swp fun W pn xe tkW _ => hb pn xe _ (passes_call tkW fun cls d σ H h => h σ)).wk fun D σ H q => ?_
  obtain ⟨B, O0, O, ρ, N, R, Z, k, q, hN, hR, hZ⟩ := q
  refine ⟨B, O0, O, ρ, N, R, _, k, q, hN, hR, fun c H' s' z σ' => ⟨true, z.1, fun _ => ⟨c, rfl, rfl, fun b hb hl => ?_⟩, nofun⟩⟩
  have hj' : j < X.N.length := by
    cases h : X.N[j]? with
    | none => rw [h] at hj; cases hj
    | some v => exact (List.getElem?_eq_some_iff.mp h).1
  have rep : ∀ {m : Nat} {u : DV}, ((List.replicate X.N.length (none : Option DV)).set j (some (.v (.exc c))))[m]? = some (some u) → m = j ∧ u = .v (.exc c) := fun {m u} e => by
    by_cases h : j = m
    · subst h
      rw [List.getElem?_set_self (by rw [List.length_replicate]; exact hj')] at e
      exact ⟨rfl, (Option.some.inj (Option.some.inj e)).symm⟩
    · rw [List.getElem?_set_ne h, List.getElem?_replicate] at e
      split at e <;> cases e
  refine hN _ _ ((List.replicate X.N.length none).set j (some (.v (.exc c)))) O0 ?_ z.2
  have al : Al O0 H' := k.al0.mono s'
  refine ⟨s'.trans (Same.new hb), k.al0, al.mono (Same.new hb), fun a h => h, fun a h n => absurd h n, by simp [hl], fun m d e => ?_, fun m ds e => ?_, fun m m' ds es e _ _ => ?_, ⟨fun m q' b' ts e => ?_, fun m m' q' b1 b2 t1 t2 e _ => ?_⟩, ⟨fun m q' ds e => ?_, fun m m' q' a1 a2 e _ => ?_, fun m m' q' a1 a2 e _ => ?_⟩, ⟨fun m p' q' e => ?_, fun m m' p' q' q2 e _ => ?_⟩⟩
  · obtain ⟨rfl, e2⟩ := rep e
    cases e2
    refine ⟨.ref b, ?_, b, rfl, wo_of upd_same (al.new hb)⟩
    rw [List.getElem?_set_ne hij, List.getElem?_set_self (by rw [List.length_set, hl]; exact hj')]
  all_goals
    obtain ⟨_, e2⟩ := rep e
    cases e2
end
end L2.DL
/-! # text.index(text), text[::-1] of two signs at most -/
namespace L2.DL
open PySem PySem.Spec PyProof.Rows
section
variable {X : Cx} {C : Addr} {E : XK} {pos : Pos}
theorem mt_index0 : MtR X "str.index" (fun x xs H Q => ∃ a b k, x = .str a ∧ xs = [.str b] ∧ Txt.index0 a b = some k ∧ Q (.int (k : Nat)) H) := by
  intro pins s σ H x xs v us Q I rx rs h
  obtain ⟨a, b, k, rfl, rfl, hk, q⟩ := h
  obtain ⟨t, rfl⟩ := rx
  obtain ⟨w1, rfl, u, rfl⟩ := vals1 rs
  unfold Txt.index0 at hk
  cases e : Builtin.Str.occurrences a b 0 a.length 1 with
  | nil => rw [e] at hk; cases hk
  | cons i rest =>
    rw [e] at hk
    cases hk
    exact PySem.SC.index e ⟨.int (k : Nat), H, I.tok _, ⟨_, rfl⟩, q⟩
def fIndex : DM1 := fun a y P => match y with
  | .str b => ∃ k, Txt.index0 a b = some k ∧ P (.int (k : Nat))
  | _ => False
theorem ab_index {K : PySem.W.Frag} : AbM K C (fun x xs H Q => ∃ a b k, x = .str a ∧ xs = [.str b] ∧ Txt.index0 a b = some k ∧ Q (.int (k : Nat)) H) fIndex := by
  intro O H a y dy P Q al r q k
  unfold fIndex at q
  split at q
  · have ey : y = _ := r
    subst ey
    obtain ⟨i, h1, h2⟩ := q
    exact ⟨_, _, i, rfl, rfl, h1, k _ (.int (i : Nat)) H (Same.refl H) rfl h2⟩
  · exact q.elim
theorem pd_index {o e : Expr} {apos : Pos} {p q : DE} (ho : PE X o (lift X.K C E p)) (he : PE X e (lift X.K C E q)) (hs : starEach [e] X.env = [(false, eval e X.env)] := by rfl) (hbase : attributeBase o "index" X.env (eval o X.env) = eval o X.env := by rfl) (hline : (apos.endLine == pos.line) = true := by rfl) :
    PE X (.Call (.Attribute o "index" apos) [e] [] pos) (lift X.K C E (dM1 fIndex p q)) := pd_m1 F.slot_str_index F.type_str_index mt_index0 ab_index ho he hs hbase hline
theorem rev_len {n : Nat} (h : n ≤ 2) : (Builtin.Str.strSliceIndices none none (-1) n).length ≤ 2 := by
  match n, h with
  | 0, _ => decide +kernel
  | 1, _ => decide +kernel
  | 2, _ => decide +kernel
def tRevS (te : TE) : TE := fun σ H Q => te σ H fun x H1 => ∃ z : Str, x = .str z ∧ z.length ≤ 2 ∧ ∀ y : Str, y.length ≤ 2 → (∀ c ∈ y.cps.toList, c ∈ z.cps.toList) → Q (.str y) H1
theorem pe_revS {e : Expr} {te : TE} {k : Nat} {p1 p2 p3 : Pos} (he : PE X e te) : PE X (.Subscript e (.Slice none none (some (.UnaryOp .USub (.Constant (.int 1) k p1) p2)) p3) pos) (tRevS te) := by
  refine ⟨fun pins s σ H Q I h => ?_⟩
  refine Subscript_ (thn (he.run pins s σ H _ I h) fun v s1 ⟨x, H1, I1, r1, q1⟩ => ?_)
  obtain ⟨z, rfl, hz, q⟩ := q1
  obtain ⟨t, rfl⟩ := r1
  have hst : PO X (some (.UnaryOp .USub (.Constant (.int 1) k p1) p2)) (tPart (tUn (rU fun i => .int (-i)) (tC (.int 1)))) := po_some (pe_un un_neg pe_int)
  refine wpAny_Slice (thn (po_none.run pins s1 σ H1 (fun o H2 => o = none ∧ H2 = H1) I1 ⟨rfl, rfl⟩) fun vl s2 ⟨l, H2, I2, pl, el, e2⟩ => ?_)
  subst el e2
  refine thn (po_none.run pins s2 σ H2 (fun o H3 => o = none ∧ H3 = H2) I2 ⟨rfl, rfl⟩) fun vu s3 ⟨u, H3, I3, pu, eu, e3⟩ => ?_
  subst eu e3
  refine thn (hst.run pins s3 σ H3 (fun o H4 => o = some (-1) ∧ H4 = H3) I3 ⟨1, rfl, -1, rfl, rfl, rfl⟩) fun vs s4 ⟨o, H4, I4, ps, eo, e4⟩ => ?_
  subst eo e4
  obtain ⟨l', rfl, el⟩ := IsPart.raw pl
  obtain ⟨u', rfl, eu⟩ := IsPart.raw pu
  obtain ⟨s', rfl, es⟩ := IsPart.raw ps
  have I5 : Inv X pins σ H4 { s4 with heap := s4.heap.push { cls := .type "slice", data := .fields #[partValue l', partValue u', partValue s'] } } := I4.kept (t' := s4.toks) fun b ob q => Heap.get?_push_of_some _ q
  show wpAny (model X.prog X.w) X.A (subscriptTail e (.Slice none none (some (.UnaryOp .USub (.Constant (.int 1) k p1) p2)) p3) (.str z t) (.ref s4.heap.objs.size)) (EP X pins σ Q) X.xe { s4 with heap := s4.heap.push { cls := .type "slice", data := .fields #[partValue l', partValue u', partValue s'] } }
  refine tail_any (ops := [.str z t, .ref s4.heap.objs.size]) (typeIs_str _ _ _) F.slot_str_getitem.lookup ?_ (by with_unfolding_all rfl)
  refine wpAny_getItem_str_slice (l := l') (u := u') (st := s') ⟨_, Heap.get?_push_size _ rfl, rfl, rfl⟩ (by rw [es]; decide) ?_
  unfold sliceMade slicePicked
  rw [el, eu, es]
  have hl := rev_len hz
  have hlen : (⟨((Builtin.Str.strSliceIndices none none (-1) z.length).filterMap (z.cps[·]?)).toArray⟩ : Str).length ≤ 2 := by
    show (((Builtin.Str.strSliceIndices none none (-1) z.length).filterMap (z.cps[·]?)).toArray).size ≤ 2
    rw [List.size_toArray]
    exact Nat.le_trans (List.length_filterMap_le _ _) hl
  rw [if_neg (by simp)]
  have hc : ∀ c ∈ ((⟨((Builtin.Str.strSliceIndices none none (-1) z.length).filterMap (z.cps[·]?)).toArray⟩ : Str)).cps.toList, c ∈ z.cps.toList := fun c h => by
    obtain ⟨i, _, e⟩ := List.mem_filterMap.mp (show c ∈ (Builtin.Str.strSliceIndices none none (-1) z.length).filterMap (z.cps[·]?) from by simpa using h)
    have := Array.mem_of_getElem? e
    simpa using this
  exact ⟨Nat.le_trans hlen (by rw [sizeLine_eq]; decide), .str _, H4, I5.tok _, ⟨_, rfl⟩, q _ hlen hc⟩
def dRevS (p : DE) : DE := fun ρ P R => p ρ (fun d => ∃ z : Str, d = .str z ∧ z.length ≤ 2 ∧ ∀ y : Str, y.length ≤ 2 → (∀ c ∈ y.cps.toList, c ∈ z.cps.toList) → P (.str y)) R
theorem pd_revS {e : Expr} {p : DE} {k : Nat} {p1 p2 p3 : Pos} (he : PE X e (lift X.K C E p)) : PE X (.Subscript e (.Slice none none (some (.UnaryOp .USub (.Constant (.int 1) k p1) p2)) p3) pos) (lift X.K C E (dRevS p)) := (pe_revS he).wk fun σ H Q q => by
  obtain ⟨B, O0, O, ρ, P, R, k, q, hP, hR⟩ := q
  refine ⟨B, O0, O, ρ, _, R, k, q, fun x d H1 s1 r1 q1 => ?_, hR⟩
  obtain ⟨z, rfl, hz, q1⟩ := q1
  have ex : x = .str z := r1
  exact ⟨z, ex, hz, fun y hy hc => hP (.str y) (.str y) H1 s1 rfl (q1 y hy hc)⟩
end
end L2.DL
/-! # Texts that are read: words that are thin, the reading -/
namespace L2.SK
open L2.DL PySem TL
/-! ### no long stretch of signs without a space -/
def Thin (m : Nat) (l : List Nat) : Prop := ∀ u, u <:+: l → 32 ∉ u → u.length ≤ m
theorem infix_app {u l1 l2 : List Nat} (h : u <:+: l1 ++ l2) : ∃ a b, u = a ++ b ∧ a <:+: l1 ∧ b <:+: l2 := by
  obtain ⟨p, q, e⟩ := h
  rw [List.append_assoc] at e
  rcases List.append_eq_append_iff.mp e with ⟨a', e1, e2⟩ | ⟨c', e1, e2⟩
  · rcases List.append_eq_append_iff.mp e2 with ⟨c, f1, f2⟩ | ⟨c, f1, f2⟩
    · exact ⟨u, [], (List.append_nil u).symm, ⟨p, c, by rw [e1, f1, List.append_assoc]⟩, List.nil_infix⟩
    · exact ⟨a', c, f1, ⟨p, [], by rw [e1, List.append_nil]⟩, ⟨[], q, by rw [f2]; rfl⟩⟩
  · exact ⟨[], u, rfl, List.nil_infix, ⟨c', q, by rw [e2, List.append_assoc]⟩⟩
theorem Thin.mono {m n : Nat} {l : List Nat} (h : Thin m l) (hn : m ≤ n) : Thin n l := fun u hu hs => Nat.le_trans (h u hu hs) hn
theorem Thin.sub {m : Nat} {l k : List Nat} (h : Thin m l) (hk : k <:+: l) : Thin m k := fun u hu hs => h u (hu.trans hk) hs
theorem thin_len {m : Nat} {l : List Nat} (h : l.length ≤ m) : Thin m l := fun u hu _ => Nat.le_trans hu.length_le h
theorem Thin.mid {m : Nat} {x z : List Nat} (y : List Nat) (hx : Thin m x) (hz : Thin m z) : Thin (2 * m + y.length) (x ++ y ++ z) := fun u hu hs => by
  obtain ⟨a, b, rfl, ha, hb⟩ := infix_app hu
  obtain ⟨a1, a2, rfl, h1, h2⟩ := infix_app ha
  have l1 := hx a1 h1 fun z => hs (by simp [z])
  have l2 := h2.length_le
  have l3 := hz b hb fun z => hs (by simp [z])
  simp only [List.length_append]
  omega
theorem Thin.spc {m : Nat} {x z : List Nat} (hx : Thin m x) (hz : Thin m z) : Thin m (x ++ 32 :: z) := fun u hu hs => by
  obtain ⟨p, q, e⟩ := hu
  rw [List.append_assoc] at e
  rcases List.append_eq_append_iff.mp e with ⟨a', e1, e2⟩ | ⟨c', e1, e2⟩
  · rcases List.append_eq_append_iff.mp e2 with ⟨c, f1, f2⟩ | ⟨c, f1, f2⟩
    · exact hx u ⟨p, c, by rw [e1, f1, List.append_assoc]⟩ hs
    · cases c with
      | nil =>
        rw [List.append_nil] at f1
        exact hx u ⟨p, [], by rw [e1, f1, List.append_nil]⟩ hs
      | cons d c =>
        have : d = 32 := (List.cons.inj f2).1.symm
        exact absurd (by rw [f1, this]; simp) hs
  · cases c' with
    | nil =>
      cases u with
      | nil => exact Nat.zero_le _
      | cons d u =>
        have : d = 32 := (List.cons.inj e2).1.symm
        exact absurd (by rw [this]; simp) hs
    | cons d c' =>
      have := (List.cons.inj e2).2
      exact hz u ⟨c', q, by rw [List.append_assoc]; exact this.symm⟩ hs
theorem thin_join {m : Nat} : ∀ {ps : List (List Nat)}, (∀ p ∈ ps, Thin m p) → Thin m (joinL [32] ps)
  | [], _ => thin_len (Nat.zero_le _)
  | [p], h => h p (by simp)
  | p :: q :: r, h => (h p (by simp)).spc (thin_join fun x hx => h x (List.mem_cons_of_mem _ hx))
theorem infix_join {S : List Nat} : ∀ {ps : List (List Nat)} {p : List Nat}, p ∈ ps → p <:+: joinL S ps
  | [], _, h => by simp at h
  | [q], p, h => by
    have : p = q := by simpa using h
    rw [this]
    exact List.infix_refl _
  | q :: r :: ps, p, h => by
    rcases List.mem_cons.mp h with rfl | h
    · exact ⟨[], _, rfl⟩
    · obtain ⟨a, b, e⟩ := infix_join (S := S) h
      exact ⟨q ++ S ++ a, b, by
        show _ = q ++ (S ++ joinL S (r :: ps))
        rw [← e]
        simp⟩
theorem spc_one : (Str.ofString " ") = ⟨#[32]⟩ := ext_tl (by decide +kernel)
/-- the words of a text -/
def wordsT (t : Str) : List Str := Txt.split t (Str.ofString " ")
theorem words_join (t : Str) : Txt.join (Str.ofString " ") (wordsT t) = t := by rw [join_eq]; exact PySem.StrLaws.join_split t _
theorem words_free (t : Str) : ∀ w ∈ wordsT t, 32 ∉ tl w := fun w hw => by
  unfold wordsT at hw
  rw [spc_one] at hw
  exact PySem.StrLaws.split_free t 32 w hw
theorem words_in (t : Str) : ∀ w ∈ wordsT t, tl w <:+: tl t := fun w hw => by
  have e := words_join t
  rw [join_eq] at e
  have := congrArg tl e
  rw [tl_join, show tl (Str.ofString " ") = [32] by decide +kernel] at this
  rw [← this]
  exact infix_join (List.mem_map.mpr ⟨w, hw, rfl⟩)
theorem words_thin {m : Nat} {t : Str} (h : Thin m (tl t)) : ∀ w ∈ wordsT t, w.length ≤ m := fun w hw => by
  rw [len_tl]
  exact h _ (words_in t w hw) (words_free t w hw)
theorem join_thin {m : Nat} {ws : List Str} (h : ∀ w ∈ ws, Thin m (tl w)) : Thin m (tl (Txt.join (Str.ofString " ") ws)) := by
  rw [join_eq, tl_join, show tl (Str.ofString " ") = [32] by decide +kernel]
  refine thin_join fun p hp => ?_
  obtain ⟨w, hw, rfl⟩ := List.mem_map.mp hp
  exact h w hw
end L2.SK
namespace L2.SK
open L2.DL PySem TL
/-! ### slices -/
theorem cut_to (t : Str) (k : Nat) : tl (cutS t none (some (k : Int))) = (tl t).take k := by
  have hl : t.length = (tl t).length := len_tl t
  unfold cutS
  rw [HT.sIx_none, HT.sIx_nat, hl]
  show ((tl t).drop 0).take _ = _
  rw [List.drop_zero, Nat.sub_zero]
  by_cases h : k ≤ (tl t).length
  · rw [Nat.min_eq_left h]
  · rw [Nat.min_eq_right (by omega), List.take_of_length_le (Nat.le_refl _), List.take_of_length_le (by omega)]
theorem cut_from (t : Str) (k : Nat) : tl (cutS t (some (k : Int)) none) = (tl t).drop k := by
  have hl : t.length = (tl t).length := len_tl t
  unfold cutS
  rw [HT.sIx_none, HT.sIx_nat, hl]
  show ((tl t).drop _).take _ = _
  by_cases h : k ≤ (tl t).length
  · rw [Nat.min_eq_left h, List.take_of_length_le (by rw [List.length_drop]; omega)]
  · rw [Nat.min_eq_right (by omega), List.drop_of_length_le (Nat.le_refl _), List.drop_of_length_le (by omega)]
    simp
/-! ### numbers in words -/
open Classical in
noncomputable def numOf (l : List Nat) : Option Int := if h : ∃ i, l = iL i then some h.choose else none
theorem numOf_iL (i : Int) : numOf (iL i) = some i := by
  have h : ∃ j, iL i = iL j := ⟨i, rfl⟩
  unfold numOf
  rw [dif_pos h]
  exact congrArg some (iL_inj h.choose_spec).symm
theorem numOf_some {l : List Nat} {i : Int} (h : numOf l = some i) : l = iL i := by
  unfold numOf at h
  split at h
  · rename_i e
    cases h
    exact e.choose_spec
  · cases h
theorem numOf_none {l : List Nat} : numOf l = none ↔ ∀ i, l ≠ iL i := by
  constructor
  · intro h i e
    rw [e, numOf_iL] at h
    cases h
  · intro h
    unfold numOf
    rw [dif_neg fun ⟨i, e⟩ => h i e]
theorem numOf_nil : numOf [] = none := numOf_none.mpr fun i e => iL_ne i e.symm
theorem numOf_oL (o : Option Int) : numOf (oL o) = o := by
  cases o with
  | none => exact numOf_nil
  | some i => exact numOf_iL i
/-! ### the dots -/
def dotAt (l : List Nat) (k : Nat) : Prop := l.drop k = [46, 46] ++ l.drop (k + 2)
theorem at_dots (w : Str) (k : Nat) : PySem.StrLaws.At w (Str.ofString "..") w.length k ↔ dotAt (tl w) k := by
  have e : tl (Str.ofString "..") = [46, 46] := by decide +kernel
  rw [at_iff (by rw [e]; simp), e]
  unfold pre dotAt
  rw [beq_iff_eq]
  constructor
  · intro h
    have := List.take_append_drop 2 ((tl w).drop k)
    rw [List.drop_drop] at this
    rw [← this]
    exact congrArg (· ++ _) h
  · intro h
    rw [h]
    rfl
theorem idx_dots (w : Str) : (Txt.index0 w (Str.ofString "..") = none ∧ Builtin.Str.occurrences w (Str.ofString "..") 0 w.length 1 = [] ∧ ∀ i, ¬ dotAt (tl w) i) ∨ ∃ k r, Txt.index0 w (Str.ofString "..") = some k ∧ Builtin.Str.occurrences w (Str.ofString "..") 0 w.length 1 = k :: r ∧ dotAt (tl w) k ∧ ∀ j, j < k → ¬ dotAt (tl w) j := by
  unfold Txt.index0
  rcases PySem.StrLaws.occ_head w (Str.ofString "..") 1 (Nat.le_refl 1) with ⟨h0, hn⟩ | ⟨i, r, h0, hi, hn⟩
  · rw [h0]
    exact .inl ⟨rfl, rfl, fun i h => hn i ((at_dots w i).mpr h)⟩
  · rw [h0]
    exact .inr ⟨i, r, rfl, rfl, (at_dots w i).mp hi, fun j hj h => hn j hj ((at_dots w j).mpr h)⟩
theorem dot_mem {l : List Nat} {k : Nat} (h : dotAt l k) : 46 ∈ l := by
  have : 46 ∈ l.drop k := by rw [h]; simp
  exact List.mem_of_mem_drop this
theorem dot_split {l : List Nat} {k : Nat} (h : dotAt l k) : l = l.take k ++ [46, 46] ++ l.drop (k + 2) := by
  conv => lhs; rw [← List.take_append_drop k l, h]
  rw [List.append_assoc]
/-! ### a word's stretch -/
noncomputable def wordIn (w : Str) : Option Str2 := match Txt.index0 w (Str.ofString "..") with
  | none => (numOf (tl w)).map fun n => (some n, some n)
  | some k => if ((tl w).take k ≠ [] ∧ numOf ((tl w).take k) = none) ∨ ((tl w).drop (k + 2) ≠ [] ∧ numOf ((tl w).drop (k + 2)) = none) then none
    else match numOf ((tl w).take k), numOf ((tl w).drop (k + 2)) with
      | some a, some b => if b ≤ a then none else some (some a, some b)
      | e, f => some (e, f)
theorem num_back {l : List Nat} (h : ¬ (l ≠ [] ∧ numOf l = none)) : l = oL (numOf l) := by
  cases e : numOf l with
  | none =>
    by_cases z : l = []
    · exact z
    · exact absurd ⟨z, e⟩ h
  | some i => exact numOf_some e
theorem word_back {w : Str} {s : Str2} (h : wordIn w = some s) : tl w = sL s ∧ okS s = true := by
  unfold wordIn at h
  rcases idx_dots w with ⟨e, _, _⟩ | ⟨k, r, e, _, hk, _⟩
  · rw [e] at h
    cases en : numOf (tl w) with
    | none => rw [en] at h; cases h
    | some n =>
      rw [en] at h
      cases h
      rw [sL_one]
      exact ⟨numOf_some en, by simp [okS]⟩
  · rw [e] at h
    dsimp only at h
    split at h
    · cases h
    · rename_i hno
      have h1 := num_back fun z => hno (.inl z)
      have h2 := num_back fun z => hno (.inr z)
      have hw := dot_split hk
      generalize numOf ((tl w).take k) = a at h h1
      generalize numOf ((tl w).drop (k + 2)) = b at h h2
      rw [h1, h2] at hw
      have fin : ¬ (a = b ∧ a ≠ none) → (okS (a, b) = true) → s = (a, b) → tl w = sL s ∧ okS s = true := fun n1 n2 es => by
        rw [es, sL_two n1]
        exact ⟨hw, n2⟩
      cases a with
      | none => cases b <;> (cases h; exact fin (by simp) rfl rfl)
      | some a =>
        cases b with
        | none => cases h; exact fin (by simp) rfl rfl
        | some b =>
          dsimp only at h
          split at h
          · cases h
          · cases h
            exact fin (by simp; omega) (by simp [okS]; omega) rfl
theorem word_good {s : Str2} (h : okS s = true) : wordIn (mk (sL s)) = some s := by
  unfold wordIn
  rw [tl_mk']
  by_cases c : s.1 = s.2 ∧ s.1 ≠ none
  · obtain ⟨a, ha⟩ := Option.ne_none_iff_exists'.mp c.2
    have es : s = (some a, some a) := Prod.ext ha (by rw [← c.1]; exact ha)
    subst es
    rw [sL_one]
    rcases idx_dots (mk (iL a)) with ⟨e, _, _⟩ | ⟨k, r, e, _, hk, _⟩
    · rw [e]
      dsimp only
      rw [numOf_iL]
      rfl
    · exact absurd (dot_mem hk) (iL_free (.inr rfl))
  · rw [sL_two c]
    have hat : dotAt (oL s.1 ++ [46, 46] ++ oL s.2) (oL s.1).length := by
      unfold dotAt
      rw [List.append_assoc, List.drop_left, ← List.drop_drop, List.drop_left]
      rfl
    rcases idx_dots (mk (oL s.1 ++ [46, 46] ++ oL s.2)) with ⟨e, _, hn⟩ | ⟨k, r, e, _, hk, hn⟩
    · exact absurd hat (hn _)
    · rw [tl_mk'] at hk hn
      have ek : k = (oL s.1).length := by
        rcases Nat.lt_trichotomy k (oL s.1).length with z | z | z
        · exfalso
          unfold dotAt at hk
          rw [List.append_assoc, List.drop_append_of_le_length (Nat.le_of_lt z), List.drop_eq_getElem_cons z] at hk
          have : (oL s.1)[k] = 46 := (List.cons.inj hk).1
          exact oL_free (o := s.1) (s := 46) (.inr rfl) (by rw [← this]; exact List.getElem_mem z)
        · exact z
        · exact absurd hat (hn _ z)
      rw [e]
      subst ek
      dsimp only
      have e1 : (oL s.1 ++ [46, 46] ++ oL s.2).take (oL s.1).length = oL s.1 := by rw [List.append_assoc, List.take_left]
      have e2 : (oL s.1 ++ [46, 46] ++ oL s.2).drop ((oL s.1).length + 2) = oL s.2 := by
        rw [List.append_assoc, ← List.drop_drop, List.drop_left]
        rfl
      rw [e1, e2, numOf_oL, numOf_oL]
      obtain ⟨a, b⟩ := s
      rw [if_neg (by
        rintro (⟨z1, z2⟩ | ⟨z1, z2⟩)
        · exact z1 (oL_nil.mpr z2)
        · exact z1 (oL_nil.mpr z2))]
      cases a with
      | none => cases b <;> rfl
      | some a =>
        cases b with
        | none => rfl
        | some b =>
          have hab : a ≤ b := by simpa [okS] using h
          have ne : a ≠ b := fun z => c ⟨by rw [z], by simp⟩
          show (if b ≤ a then none else some (some a, some b)) = _
          rw [if_neg (by omega)]
/-! ### the whole text -/
def adjS : List Str2 → Bool
  | s :: t :: r => (match s.2, t.1 with
      | some b, some c => decide (b + 1 < c)
      | _, _ => false) && adjS (t :: r)
  | _ => true
noncomputable def readL (t : Str) : Option (List Str2) := if t = Str.ofString "" then some [] else if (none : Option Str2) ∈ (wordsT t).map wordIn then none else if adjS (((wordsT t).map wordIn).filterMap id) = true then some (((wordsT t).map wordIn).filterMap id) else none
theorem adj_strL : ∀ (ts : List Int) (b : Bool) (f : Option Int), Up ts → adjS (strL b f ts) = true
  | [], true, _, _ => rfl
  | [], false, _, _ => rfl
  | t :: ts, false, f, h => by
    show adjS (strL true (some t) ts) = true
    exact adj_strL ts true (some t) (List.pairwise_cons.mp h).2
  | t :: ts, true, f, h => by
    have h' := List.pairwise_cons.mp h
    have ih := adj_strL ts false (some t) h'.2
    show adjS ((f, some (t - 1)) :: strL false (some t) ts) = true
    cases ts with
    | nil => rfl
    | cons t' ts =>
      have lt : t < t' := h'.1 t' (by simp)
      have go : ∀ y r, adjS ((some t', y) :: r) = true → adjS ((f, some (t - 1)) :: (some t', y) :: r) = true := fun y r e => by
        show (decide (t - 1 + 1 < t') && adjS ((some t', y) :: r)) = true
        rw [e, decide_eq_true (by omega)]
        rfl
      cases ts with
      | nil => exact go _ _ ih
      | cons t2 ts => exact go _ _ ih
theorem up_cons2 {a b : Int} {ts : List Int} (hab : a < b) (h : Up ts) (hd : ∀ t, ts.head? = some t → b < t) : Up (a :: b :: ts) := by
  have hb : ∀ t ∈ ts, b < t := by
    cases ts with
    | nil => intro t z; cases z
    | cons c ts =>
      have h' := List.pairwise_cons.mp h
      have hc := hd c rfl
      intro t z
      rcases List.mem_cons.mp z with rfl | z
      · exact hc
      · exact Int.lt_trans hc (h'.1 t z)
  refine List.pairwise_cons.mpr ⟨fun t z => ?_, List.pairwise_cons.mpr ⟨hb, h⟩⟩
  rcases List.mem_cons.mp z with rfl | z
  · exact hab
  · exact Int.lt_trans hab (hb t z)
theorem adj_tail {s : Str2} {r : List Str2} (h : adjS (s :: r) = true) : adjS r = true ∧ ∀ t, r.head? = some t → ∃ b c, s.2 = some b ∧ t.1 = some c ∧ b + 1 < c := by
  cases r with
  | nil => exact ⟨rfl, nofun⟩
  | cons t r =>
    have h' : ((match s.2, t.1 with
      | some b, some c => decide (b + 1 < c)
      | _, _ => false) && adjS (t :: r)) = true := h
    rw [Bool.and_eq_true] at h'
    refine ⟨h'.2, fun u e => ?_⟩
    cases e
    obtain ⟨a, b⟩ := s
    obtain ⟨c, d⟩ := t
    cases b with
    | none => cases h'.1
    | some b =>
      cases c with
      | none => cases h'.1
      | some c => exact ⟨b, c, rfl, rfl, of_decide_eq_true h'.1⟩
theorem row_low : ∀ ss : List Str2, (∀ s ∈ ss, okS s = true) → adjS ss = true → (∀ s, ss.head? = some s → s.1 ≠ none) → ∃ ts, Up ts ∧ (∀ u, strL false u ts = ss) ∧ ∀ t, ts.head? = some t → ∃ s, ss.head? = some s ∧ s.1 = some t
  | [], _, _, _ => ⟨[], .nil, fun _ => rfl, nofun⟩
  | (a, o) :: rest, ho, hadj, hh => by
    obtain ⟨a, rfl⟩ := Option.ne_none_iff_exists'.mp (hh _ rfl)
    obtain ⟨h1, h2⟩ := adj_tail hadj
    cases o with
    | none =>
      cases rest with
      | nil => exact ⟨[a], List.pairwise_singleton _ _, fun _ => rfl, fun t e => ⟨_, rfl, by cases e; rfl⟩⟩
      | cons t r =>
        obtain ⟨b, c, e, _⟩ := h2 t rfl
        cases e
    | some b =>
      obtain ⟨ts, k1, k2, k3⟩ := row_low rest (fun s hs => ho s (List.mem_cons_of_mem _ hs)) h1 fun s hs e => by
        obtain ⟨_, c, _, e2, _⟩ := h2 s hs
        rw [e] at e2
        cases e2
      have hab : a ≤ b := by simpa [okS] using ho (some a, some b) (by simp)
      refine ⟨a :: (b + 1) :: ts, up_cons2 (by omega) k1 fun t e => ?_, fun u => ?_, fun t e => ⟨_, rfl, by cases e; rfl⟩⟩
      · obtain ⟨s, e1, e2⟩ := k3 t e
        obtain ⟨b', c, f1, f2, f3⟩ := h2 s e1
        cases f1
        rw [e2] at f2
        cases f2
        exact f3
      · show (some a, some (b + 1 - 1)) :: strL false (some (b + 1)) ts = _
        rw [k2, show b + 1 - 1 = b by omega]
theorem row_all {ss : List Str2} (ho : ∀ s ∈ ss, okS s = true) (hadj : adjS ss = true) : ∃ r : KRow, r.strs = ss := by
  match ss, ho, hadj with
  | [], _, _ => exact ⟨rowF, rfl⟩
  | (some a, o) :: rest, ho, hadj =>
    obtain ⟨ts, k1, k2, _⟩ := row_low _ ho hadj fun s e => by cases e; exact nofun
    exact ⟨⟨false, ts, k1⟩, k2 none⟩
  | (none, none) :: rest, ho, hadj =>
    obtain ⟨_, h2⟩ := adj_tail hadj
    cases rest with
    | nil => exact ⟨rowT, rfl⟩
    | cons t r =>
      obtain ⟨b, c, e, _⟩ := h2 t rfl
      cases e
  | (none, some b) :: rest, ho, hadj =>
    obtain ⟨h1, h2⟩ := adj_tail hadj
    obtain ⟨ts, k1, k2, k3⟩ := row_low rest (fun s hs => ho s (List.mem_cons_of_mem _ hs)) h1 fun s hs e => by
      obtain ⟨_, c, _, e2, _⟩ := h2 s hs
      rw [e] at e2
      cases e2
    have up := up_cons2 (a := b) (b := b + 1) (by omega) k1 fun t e => by
      obtain ⟨s, e1, e2⟩ := k3 t e
      obtain ⟨b', c, f1, f2, f3⟩ := h2 s e1
      cases f1
      rw [e2] at f2
      cases f2
      exact f3
    refine ⟨⟨true, (b + 1) :: ts, (List.pairwise_cons.mp up).2⟩, ?_⟩
    show (none, some (b + 1 - 1)) :: strL false (some (b + 1)) ts = _
    rw [k2, show b + 1 - 1 = b by omega]
theorem map_some {os : List (Option Str2)} (h : (none : Option Str2) ∉ os) : os = (os.filterMap id).map some := by
  induction os with
  | nil => rfl
  | cons o os ih =>
    cases o with
    | none => exact absurd List.mem_cons_self h
    | some s =>
      have e := ih fun z => h (List.mem_cons_of_mem _ z)
      show some s :: os = some s :: (os.filterMap id).map some
      rw [← e]
theorem read_good (r : KRow) : readL (mk (rL r.strs)) = some r.strs := by
  unfold readL
  by_cases e : r.strs = []
  · rw [if_pos (by rw [rL_nil.mpr e, empt]), e]
  · rw [if_neg fun z => e (rL_nil.mp (mk_inj (z.trans empt)))]
    have ew : (wordsT (mk (rL r.strs))).map wordIn = r.strs.map some := by
      unfold wordsT
      rw [show Txt.split (mk (rL r.strs)) (Str.ofString " ") = _ from split_words e, List.map_map]
      exact List.map_congr_left fun s hs => word_good (strs_ok r s hs)
    rw [ew, if_neg (by simp), show (r.strs.map some).filterMap id = r.strs by rw [List.filterMap_map]; exact List.filterMap_some, if_pos (show adjS r.strs = true from adj_strL _ _ _ r.up)]
theorem read_back {t : Str} {ss : List Str2} (h : readL t = some ss) : ∃ r : KRow, r.strs = ss ∧ t = mk (rL r.strs) := by
  unfold readL at h
  split at h
  · rename_i e
    cases h
    exact ⟨rowF, rfl, e.trans text_F⟩
  · rename_i hne
    split at h
    · cases h
    · rename_i hn
      split at h
      · rename_i hadj
        have hss : ((wordsT t).map wordIn).filterMap id = ss := Option.some.inj h
        have hm := map_some hn
        rw [hss] at hm hadj
        have hw : ∀ w ∈ wordsT t, ∃ s ∈ ss, wordIn w = some s := fun w hw => by
          have : wordIn w ∈ (wordsT t).map wordIn := List.mem_map.mpr ⟨w, hw, rfl⟩
          rw [hm] at this
          obtain ⟨s, h1, h2⟩ := List.mem_map.mp this
          exact ⟨s, h1, h2.symm⟩
        have hs : ∀ s ∈ ss, okS s = true := fun s hs => by
          have : some s ∈ (wordsT t).map wordIn := by rw [hm]; exact List.mem_map.mpr ⟨s, hs, rfl⟩
          obtain ⟨w, _, e⟩ := List.mem_map.mp this
          exact (word_back e).2
        obtain ⟨r, er⟩ := row_all hs hadj
        refine ⟨r, er, ?_⟩
        rw [er, ← join_words, ← words_join t]
        congr 1
        have : ∀ (ws : List Str) (ss : List Str2), ws.map wordIn = ss.map some → ws = ss.map fun s => mk (sL s) := by
          intro ws
          induction ws with
          | nil =>
            intro ss e
            cases ss with
            | nil => rfl
            | cons s ss => cases e
          | cons w ws ih =>
            intro ss e
            cases ss with
            | nil => cases e
            | cons s ss =>
              rw [List.map_cons, List.map_cons] at e
              obtain ⟨e1, e2⟩ := List.cons.inj e
              rw [List.map_cons, ← ih ss e2, ← (word_back e1).1, mk_tl']
        exact this _ _ hm
      · cases h
end L2.SK
/-! # Texts that are refused: bounds, promises -/
namespace L2.SK
open L2.DL PySem TL
/-! ### how great a number is that a word writes -/
theorem numL_big : ∀ n : Nat, n < 10 ^ (numL n).length := fun n => by
  induction n using Nat.strongRecOn with
  | _ n ih =>
    by_cases c : n < 10
    · rw [numL_lt c]
      exact c
    · have h := ih (n / 10) (by omega)
      rw [numL_step (by omega), List.length_append, List.length_singleton, Nat.pow_succ]
      omega
theorem iL_big {i : Int} {k : Nat} (h : (iL i).length ≤ k) : i.natAbs < 10 ^ k := by
  unfold iL at h
  split at h
  · have := numL_big i.toNat
    have := Nat.pow_le_pow_right (show 0 < 10 by decide) h
    omega
  · rw [List.length_cons] at h
    have := numL_big (-i).toNat
    have := Nat.pow_le_pow_right (show 0 < 10 by decide) (show (numL (-i).toNat).length ≤ k by omega)
    omega
/-- a number of a word that may be read -/
def Wd (i : Int) : Prop := i.natAbs < 10 ^ 1980
def WdO (o : Option Int) : Prop := ∀ z, o = some z → Wd z
theorem big_lt : (10 ^ 1980 : Nat) + 2 < 10 ^ 1990 := by decide +kernel
theorem Wd.sm {i : Int} (h : Wd i) : Sm i := by
  have := big_lt
  unfold Wd at h
  unfold Sm
  omega
theorem WdO.sm {o : Option Int} (h : WdO o) : SmO o := fun z e => (h z e).sm
/-- all turns are within the bound -/
def WdR (r : KRow) : Prop := ∀ t ∈ r.ts, t.natAbs ≤ 10 ^ 1980
theorem WdR.sm {r : KRow} (h : WdR r) : SmS r.strs := fun s hs => by
  have b := big_lt
  obtain ⟨h1, h2⟩ := strs_end hs
  constructor
  · intro z e
    have := h z (h1 z e)
    unfold Sm
    omega
  · intro z e
    have := h (z + 1) (h2 z e)
    unfold Sm
    omega
theorem WdR.put {r : KRow} {s : Str2} (h : WdR r) (hs : okS s = true) (h1 : WdO s.1) (h2 : WdO s.2) : WdR (mergeR f_either r (sRow s hs)) := fun t ht => by
  rcases merge_sub ht with z | z
  · exact h t z
  · have z' : t ∈ turnsS s := z
    unfold turnsS at z'
    obtain ⟨a, b⟩ := s
    rcases List.mem_append.mp z' with q | q
    · cases a with
      | none => cases q
      | some a =>
        have e : t = a := by simpa using q
        have := h1 a rfl
        unfold Wd at this
        omega
    · cases b with
      | none => cases q
      | some b =>
        have e : t = b + 1 := by simpa using q
        have := h2 b rfl
        unfold Wd at this
        omega
/-! ### how many words -/
theorem count_join : ∀ ps : List (List Nat), ps.length ≤ (joinL [32] ps).count 32 + 1
  | [] => Nat.zero_le _
  | [p] => by show 1 ≤ p.count 32 + 1; omega
  | p :: q :: r => by
    have ih := count_join (q :: r)
    have e : (joinL [32] (p :: q :: r)).count 32 = p.count 32 + (1 + (joinL [32] (q :: r)).count 32) := by
      show (p ++ ([32] ++ joinL [32] (q :: r))).count 32 = _
      rw [List.count_append, List.count_append]
      rfl
    rw [e]
    simp only [List.length_cons] at ih ⊢
    omega
theorem words_count (t : Str) : (wordsT t).length ≤ (tl t).count 32 + 1 := by
  have e := words_join t
  rw [join_eq] at e
  have := congrArg tl e
  rw [tl_join, show tl (Str.ofString " ") = [32] by decide +kernel] at this
  have h := count_join ((wordsT t).map tl)
  rw [List.length_map, this] at h
  exact h
theorem joinL_count : ∀ ps : List (List Nat), (joinL [32] ps).count 32 ≤ (ps.map fun p => p.count 32 + 1).sum
  | [] => Nat.zero_le _
  | [p] => by show p.count 32 ≤ (p.count 32 + 1) + 0; omega
  | p :: q :: r => by
    have ih := joinL_count (q :: r)
    have e : (joinL [32] (p :: q :: r)).count 32 = p.count 32 + (1 + (joinL [32] (q :: r)).count 32) := by
      show (p ++ ([32] ++ joinL [32] (q :: r))).count 32 = _
      rw [List.count_append, List.count_append]
      rfl
    rw [e, List.map_cons, List.sum_cons]
    omega
/-- a text that is not too great: its length, its words', the spaces -/
structure Fine (m c : Nat) (t : Str) : Prop where
  len : t.length ≤ 2000000
  thin : Thin m (tl t)
  spc : (tl t).count 32 ≤ c
  chr : ∀ x ∈ tl t, x < 1114112
theorem ts_strs : ∀ (ts : List Int) (b : Bool) (f : Option Int), ts.length ≤ 2 * (strL b f ts).length
  | [], _, _ => Nat.zero_le _
  | t :: ts, true, f => by
    have := ts_strs ts false (some t)
    show ts.length + 1 ≤ 2 * ((strL false (some t) ts).length + 1)
    omega
  | [t], false, f => by show 1 ≤ 2 * 1; omega
  | t :: u :: ts, false, f => by
    have := ts_strs ts false (some u)
    show ts.length + 2 ≤ 2 * ((strL false (some u) ts).length + 1)
    omega
/-- a text that is a row's: the row is not too great -/
theorem fine_row {t : Str} {r : KRow} (h : Fine 1980 500 t) (e : t = mk (rL r.strs)) : r.strs.length ≤ 501 ∧ r.ts.length ≤ 1002 ∧ SmS r.strs := by
  have hn : r.strs.length ≤ 501 := by
    by_cases z : r.strs = []
    · rw [z]; exact Nat.zero_le _
    · have := words_count t
      have hs := h.spc
      have ew : (wordsT t).length = r.strs.length := by
        rw [e]
        unfold wordsT
        rw [show Txt.split (mk (rL r.strs)) (Str.ofString " ") = _ from split_words z, List.length_map]
      omega
  refine ⟨hn, ?_, fun s hs => ?_⟩
  · have := ts_strs r.ts r.b none
    unfold KRow.strs at hn
    omega
  · have hin : sL s <:+: tl t := by
      rw [e, tl_mk']
      exact infix_join (List.mem_map.mpr ⟨s, hs, rfl⟩)
    have hl := h.thin _ hin sL_free
    have lo : (oL s.1).length ≤ 1980 ∧ (oL s.2).length ≤ 1980 := by
      by_cases c : s.1 = s.2 ∧ s.1 ≠ none
      · have e2 : sL s = oL s.1 := if_pos c
        rw [e2] at hl
        exact ⟨hl, by rw [← c.1]; exact hl⟩
      · rw [sL_two c] at hl
        simp only [List.length_append] at hl
        omega
    have go : ∀ o : Option Int, (oL o).length ≤ 1980 → SmO o := fun o ho => WdO.sm fun z e => by
      rw [e] at ho
      exact iL_big ho
    exact ⟨go _ lo.1, go _ lo.2⟩
end L2.SK
namespace L2.DL
open PySem PySem.Spec PyProof.Rows L2.SK TL
def oD : Option Str2 → D
  | none => .non
  | some s => sD s
noncomputable def rD (t : Str) : D := match readL t with
  | none => .non
  | some ss => ssD ss
noncomputable def tD (t : Str) : D := match readL t with
  | none => .lst [.str (wd .tex)]
  | some ss => ssD ss
def dp_lnumin : DP := fun ds P _ => ∃ t : Str, ds = [.str t] ∧ t.length ≤ 1980 ∧ (∀ x ∈ tl t, x < 1114112) ∧ P (oi (numOf (tl t)))
def dp_lwordin : DP := fun ds P _ => ∃ t : Str, ds = [.str t] ∧ t.length ≤ 1980 ∧ (∀ x ∈ tl t, x < 1114112) ∧ P (oD (wordIn t))
def dp_lread : DP := fun ds P _ => ∃ t : Str, ds = [.str t] ∧ Fine 1980 500 t ∧ P (rD t)
def dp_lspoilt : DP := fun ds P _ => ∃ (t : Str) (c : Int), ds = [.str t, .int c] ∧ t.length ≤ 100000 ∧ Thin 972 (tl t) ∧ (tl t).count 32 ≤ 60 ∧ (∀ x ∈ tl t, x < 1114112) ∧ ∀ y, Fine 1980 500 y → P (.str y)
def dp_strinD (bt : Addr) : DP := fun ds P R => ∃ t : Str, ds = [.str t] ∧ t.length ≤ 1980 ∧ (∀ s, okS s = true → WdO s.1 → WdO s.2 → P (sD s)) ∧ R bt
def dp_keeperD (bt : Addr) : DP := fun ds P R => (∃ d, ds = [d] ∧ (tyD d).isSome = true ∧ (∀ t, d ≠ .str t) ∧ R bt) ∨ ∃ t : Str, ds = [.str t] ∧ Fine 1980 500 t ∧ (∀ r : KRow, t = mk (rL r.strs) → P (kpD r)) ∧ R bt
def dp_ltold : DP := fun ds P _ => (∃ d, ds = [d] ∧ (tyD d).isSome = true ∧ (∀ t, d ≠ .str t) ∧ P (.lst [.str (wd .tex)])) ∨ ∃ t : Str, ds = [.str t] ∧ Fine 1980 500 t ∧ P (tD t)
/-- either of two readings -/
def dAlt (p q : DE) : DE := fun ρ P R => p ρ P R ∨ q ρ P R
theorem pd_alt {X : Cx} {C : Addr} {E : XK} {e : Expr} {p q : DE} (h1 : PE X e (lift X.K C E p)) (h2 : PE X e (lift X.K C E q)) : PE X e (lift X.K C E (dAlt p q)) := ⟨fun pins s σ H Q I h => by
  obtain ⟨B, O0, O, ρ, P, R, k, h | h, hP, hR⟩ := h
  · exact h1.run pins s σ H Q I ⟨B, O0, O, ρ, P, R, k, h, hP, hR⟩
  · exact h2.run pins s σ H Q I ⟨B, O0, O, ρ, P, R, k, h, hP, hR⟩⟩
theorem part_cases (t : Str) : Txt.partition t (Str.ofString "..") = (t, Str.empty, Str.empty) ∨ ∃ f l : Str, Txt.partition t (Str.ofString "..") = (f, Str.ofString "..", l) ∧ f.length ≤ t.length ∧ l.length ≤ t.length := by
  rcases PyProof.Rows.partition_whole t (Str.ofString "..") with ⟨e, _⟩ | ⟨i, e, _⟩
  · exact .inl e
  · refine .inr ⟨_, _, e, ?_, ?_⟩
    · rw [len_tl, len_tl t, tl_strSub, List.length_take, List.length_drop]
      omega
    · rw [len_tl, tl_strSub_end, len_tl t, List.length_drop]
      omega
theorem numin_wd {bt : Addr} {w : Str} {P : D → Prop} {R : Addr → Prop} (hw : w.length ≤ 1980) (h : ∀ i, tl w = iL i → Wd i → P (.int i)) (r : R bt) : dp_numin bt [.str w] P R :=
  ⟨w, rfl, by omega, fun i hi => h i hi (iL_big (by rw [← hi, ← len_tl]; exact hw)), fun _ => r⟩
theorem strin_end {bt : Addr} {a b : Option Int} {T : D → Prop} {R : Addr → Prop} (q1 : ∀ s, okS s = true → WdO s.1 → WdO s.2 → T (sD s)) (q2 : R bt) (h1 : WdO a) (h2 : WdO b) : dp_is_stretch [D.tup [oi a, oi b]] (fun d => match d with
    | D.bl b' => if (!b') = true then R bt else T (D.tup [oi a, oi b])
    | x => False) R := by
  refine ⟨_, rfl, okThing_sD (a, b), ?_⟩
  rw [show isStr (D.tup [oi a, oi b]) = okS (a, b) from isStr_sD (a, b)]
  cases e : okS (a, b) with
  | true => exact q1 (a, b) e h1 h2
  | false => exact q2
end L2.DL
/-! # The law's reading, step by step -/
namespace L2.SK
open L2.DL PySem TL
theorem dv_lt : ∀ l : List Nat, NumText.AllDigits l → NumText.digitsVal l < 10 ^ l.length := fun l => by
  obtain ⟨n, hn⟩ : ∃ n, l.length = n := ⟨_, rfl⟩
  induction n generalizing l with
  | zero =>
    intro _
    rw [List.length_eq_zero_iff.mp hn]
    decide
  | succ n ih =>
    intro h
    have hne : l ≠ [] := fun z => by rw [z] at hn; cases hn
    have e := (List.dropLast_concat_getLast hne).symm
    have hl : l.dropLast.length = n := by rw [List.length_dropLast, hn]; rfl
    have hd := h _ (List.getLast_mem hne)
    have h1 := ih l.dropLast hl fun c hc => h c ((List.dropLast_sublist l).subset hc)
    rw [e, NumText.digitsVal_snoc, List.length_append, List.length_singleton, Nat.pow_succ]
    omega
theorem pow_up {a b : Nat} (h : a ≤ b) : 10 ^ a ≤ 10 ^ b := Nat.pow_le_pow_right (by decide) h
/-- figures, maybe behind a minus, are read -/
theorem figs_read {t : Str} (hl : t.length ≤ 4299) (h1 : figs (tl t) ≠ []) (h2 : NumText.AllDigits (figs (tl t))) : ∃ n, intText? t = some n ∧ n.natAbs < 10 ^ 4300 := by
  have ht : t.length = (tl t).length := len_tl t
  by_cases c : (tl t).head? = some 45
  · have e : figs (tl t) = (tl t).drop 1 := if_pos c
    rw [e] at h1 h2
    have et : tl t = 45 :: (tl t).drop 1 := by
      cases q : tl t with
      | nil => rw [q] at c; cases c
      | cons x r =>
        rw [q] at c
        have : x = 45 := by simpa using c
        rw [this]
        rfl
    refine ⟨_, intText_neg et h2 h1 (by omega), ?_⟩
    have h := dv_lt _ h2
    have := pow_up (show ((tl t).drop 1).length ≤ 4300 by rw [List.length_drop]; omega)
    rw [Int.natAbs_neg, Int.natAbs_natCast]
    exact Nat.lt_of_lt_of_le h this
  · have e : figs (tl t) = tl t := if_neg c
    rw [e] at h1 h2
    refine ⟨_, intText_digits h2 h1 (by omega), ?_⟩
    have h := dv_lt _ h2
    have := pow_up (show (tl t).length ≤ 4300 by omega)
    rw [Int.natAbs_natCast]
    exact Nat.lt_of_lt_of_le h this
theorem no_num {t : Str} (h : figs (tl t) = [] ∨ ¬ NumText.AllDigits (figs (tl t))) : numOf (tl t) = none := numOf_none.mpr fun i e => by
  obtain ⟨h1, h2, _⟩ := figs_iL i
  rw [e] at h
  rcases h with h | h
  · exact h1 h
  · exact h h2
theorem num_str {t : Str} {n : Int} (hl : t.length ≤ 4300) (h : intText? t = some n) : (Str.ofString (toString n) = t ∧ numOf (tl t) = some n) ∨ (Str.ofString (toString n) ≠ t ∧ numOf (tl t) = none) := by
  by_cases e : Str.ofString (toString n) = t
  · refine .inl ⟨e, ?_⟩
    rw [← e, tl_int, numOf_iL]
  · refine .inr ⟨e, numOf_none.mpr fun i hi => e ?_⟩
    have := int_read i (by rw [← hi, ← len_tl]; exact hl)
    rw [← hi, mk_tl', h] at this
    cases this
    refine ext_tl ?_
    rw [tl_int, hi]
theorem minus_cut (t : Str) : decide (cutS t none (some 1) = Str.ofString "-") = decide ((tl t).head? = some 45) := by
  have e : tl (cutS t none (some 1)) = (tl t).take 1 := cut_to t 1
  have e2 : tl (Str.ofString "-") = [45] := by decide +kernel
  refine decide_eq_decide.mpr ⟨fun h => ?_, fun h => ext_tl ?_⟩
  · rw [h, e2] at e
    cases q : tl t with
    | nil => rw [q] at e; cases e
    | cons x r =>
      rw [q] at e
      have : 45 = x := (List.cons.inj e).1
      rw [← this]
      rfl
  · rw [e, e2]
    cases q : tl t with
    | nil => rw [q] at h; cases h
    | cons x r =>
      rw [q] at h
      have : x = 45 := by simpa using h
      rw [this]
      rfl
end L2.SK
namespace L2.DL
open PySem PySem.Spec PyProof.Rows L2.SK TL
theorem eqD_empty (ds : List D) : eqD (.lst ds) (.lst []) = ds.isEmpty := by
  cases ds with
  | nil => decide +kernel
  | cons d ds => rfl
theorem can_signs : ∀ cs : List Nat, (∀ c ∈ cs, c < 1114112) → PyData.canLayAll0 (toPys (cs.map fun c => D.str { cps := #[c] })) = true ∧ PyData.depthAll (toPys (cs.map fun c => D.str { cps := #[c] })) = 0
  | [], _ => ⟨rfl, rfl⟩
  | c :: cs, h => by
    obtain ⟨a, b⟩ := can_signs cs fun x hx => h x (List.mem_cons_of_mem _ hx)
    have hc := h c List.mem_cons_self
    rw [List.map_cons, toPys, D.toPy, PyData.canLayAll0, PyData.depthAll, a, b, PyData.canLay0, PyData.depth]
    exact ⟨by simpa [PyData.strOk] using hc, rfl⟩
theorem okE_signs (cs : List Nat) (h : ∀ c ∈ cs, c < 1114112) : okE (.lst (cs.map fun c => D.str { cps := #[c] })) := by
  obtain ⟨a, b⟩ := can_signs cs h
  unfold okE SeqAt.shaped
  rw [D.toPy, PyData.canLay0, PyData.depth, a, b]
  rfl
/-- the figures' part of the law's reading of a number -/
theorem lnum_core {t F : Str} {T : D → Prop} (hl : t.length ≤ 1980) (hx : ∀ x ∈ tl F, x < 1114112) (hF : tl F = figs (tl t)) (hFl : F.length ≤ 1980) (q : T (oi (numOf (tl t)))) : if decide (F = Str.ofString "") = true then T D.non
        else
          (List.map (fun c => D.str { cps := #[c] }) F.cps.toList).length ≤ 16777216 ∧
            lcD (gdName 2) (dTru (dBin dNotIn (dVar 2) (dC (D.str (Str.ofString "0123456789"))))) (dVar 2)
              [some (DV.v (D.str t)), some (DV.v (D.str F)), none]
              (fun acc =>
                okE (D.lst acc) ∧
                  okE (D.lst []) ∧
                    if (!eqD (D.lst acc) (D.lst [])) = true then T D.non
                    else
                      ∃ n,
                        intText? t = some n ∧
                          t.length ≤ 4300 ∧
                            n.natAbs < 10 ^ 4300 ∧
                              if decide (Str.ofString (toString n) = t) = true then
                                ∃ n, intText? t = some n ∧ t.length ≤ 4300 ∧ T (D.int n)
                              else T D.non)
              (List.map (fun c => D.str { cps := #[c] }) F.cps.toList) [] := by
  have hFl' : F.cps.toList.length ≤ 1980 := by
    have : F.length = F.cps.toList.length := len_tl F
    omega
  by_cases e : F = Str.ofString ""
  · rw [decide_eq_true e, if_pos rfl]
    rw [no_num (.inl (by rw [← hF, e, empt]; rfl))] at q
    exact q
  · rw [decide_eq_false e, if_neg Bool.false_ne_true]
    refine ⟨by rw [List.length_map]; omega, lcD_map (enc := fun c => D.str { cps := #[c] }) (f := fun c => if c ∈ (Str.ofString "0123456789").cps.toList then none else some (D.str { cps := #[c] })) F.cps.toList (fun c hc k1 k2 h => ?_) ?_⟩
    · simp only [gdName, dTru, dBin, dNotIn, dVar, dC, List.set_cons_succ, List.set_cons_zero, List.getElem?_cons_succ, List.getElem?_cons_zero]
      rw [PySem.StrLaws.found_one]
      by_cases m : c ∈ (Str.ofString "0123456789").cps.toList
      · rw [if_pos m] at h
        rw [decide_eq_true m]
        exact h
      · rw [if_neg m] at h
        rw [decide_eq_false m]
        exact h
    · rw [List.nil_append]
      have ea : F.cps.toList.filterMap (fun c => if c ∈ (Str.ofString "0123456789").cps.toList then none else some (D.str { cps := #[c] })) = (F.cps.toList.filter fun c => !decide (c ∈ (Str.ofString "0123456789").cps.toList)).map fun c => D.str { cps := #[c] } := by
        induction F.cps.toList with
        | nil => rfl
        | cons c cs ih =>
          by_cases m : c ∈ (Str.ofString "0123456789").cps.toList
          · rw [List.filterMap_cons_none (by rw [if_pos m]), List.filter_cons_of_neg (by simp [m]), ih]
          · rw [List.filterMap_cons_some (by rw [if_neg m]), List.filter_cons_of_pos (by simp [m]), ih]
            rfl
      rw [ea]
      refine ⟨okE_signs _ fun c hc => hx c (List.mem_filter.mp hc).1, okE_nil, ?_⟩
      rw [eqD_empty, List.isEmpty_map]
      by_cases hd : NumText.AllDigits (tl F)
      · have ee : (F.cps.toList.filter fun c => !decide (c ∈ (Str.ofString "0123456789").cps.toList)) = [] := List.filter_eq_nil_iff.mpr fun c hc => by
          have := (fig_mem c).mpr (hd c hc)
          simp [this]
        rw [ee, if_neg (by decide)]
        have hne : figs (tl t) ≠ [] := fun z => e (ext_tl (by rw [hF, z, empt]; rfl))
        rw [hF] at hd
        obtain ⟨n, h1, h2⟩ := figs_read (by omega) hne hd
        refine ⟨n, h1, by omega, h2, ?_⟩
        rcases num_str (by omega) h1 with ⟨k1, k2⟩ | ⟨k1, k2⟩
        · rw [decide_eq_true k1, if_pos rfl]
          rw [k2] at q
          exact ⟨n, h1, by omega, q⟩
        · rw [decide_eq_false k1, if_neg Bool.false_ne_true]
          rw [k2] at q
          exact q
      · have ee : (F.cps.toList.filter fun c => !decide (c ∈ (Str.ofString "0123456789").cps.toList)).isEmpty = false := by
          cases z : (F.cps.toList.filter fun c => !decide (c ∈ (Str.ofString "0123456789").cps.toList)) with
          | cons c cs => rfl
          | nil =>
            refine absurd (fun c hc => ?_) hd
            have := List.filter_eq_nil_iff.mp z c hc
            exact (fig_mem c).mp (by simpa using this)
        rw [ee, if_pos (by decide)]
        rw [no_num (.inr (by rw [← hF]; exact hd))] at q
        exact q
theorem str_nil (s : Str) : decide (s = Str.ofString "") = decide (tl s = []) := decide_eq_decide.mpr ⟨fun h => by rw [h, empt]; rfl, fun h => ext_tl (by rw [h, empt]; rfl)⟩
theorem eqD_in (i : Int) : eqD (.int i) .non = false := by simp [eqD, D.toPy, PyData.eqv]
theorem plain_oD (o : Option Str2) : plain (oD o) = true ∧ dep (oD o) ≤ 1 := by
  cases o with
  | none => exact ⟨rfl, Nat.zero_le _⟩
  | some s => exact ⟨(plain_sD s).1, by show dep (sD s) ≤ 1; rw [(plain_sD s).2]; omega⟩
theorem plains_oD : ∀ os : List (Option Str2), plains (os.map oD) = true ∧ deps (os.map oD) ≤ 1
  | [] => ⟨rfl, Nat.zero_le _⟩
  | o :: os => by
    obtain ⟨a, b⟩ := plains_oD os
    obtain ⟨c, d⟩ := plain_oD o
    rw [List.map_cons, plains, deps, a, c]
    exact ⟨rfl, by omega⟩
theorem okE_osD (os : List (Option Str2)) : okE (.lst (os.map oD)) := by
  obtain ⟨a, b⟩ := plains_oD os
  refine okE_plain (by rw [plain]; exact a) ?_
  rw [dep]
  omega
theorem eqD_sn (s : Str2) : eqD (sD s) .non = false := by simp [sD, eqD, D.toPy, PyData.eqv]
theorem any_none (os : List (Option Str2)) : ((os.map oD).any fun z => eqD z .non) = decide ((none : Option Str2) ∈ os) := by
  induction os with
  | nil => simp
  | cons o os ih =>
    rw [List.map_cons, List.any_cons, ih]
    cases o with
    | none =>
      rw [show eqD (oD none) .non = true from eqD_nn, decide_eq_true List.mem_cons_self]
      rfl
    | some s =>
      rw [show eqD (oD (some s)) .non = false from eqD_sn s]
      simp
def adjP : List (Str2 × Str2) → Bool := fun ps => ps.all fun p => match p.1.2, p.2.1 with
  | some b, some c => decide (b + 1 < c)
  | _, _ => false
theorem adj_zip : ∀ ss : List Str2, adjS ss = adjP (ss.zip (ss.drop 1))
  | [] => rfl
  | [_] => rfl
  | s :: t :: r => by
    have ih := adj_zip (t :: r)
    show (_ && adjS (t :: r)) = adjP ((s, t) :: (t :: r).zip r)
    rw [ih]
    rfl
theorem cut_rest (ds : List D) : cutD ds (some 1) none = ds.drop 1 := by
  unfold cutD
  rw [HT.sIx_none, show (some (1 : Int)) = some ((1 : Nat) : Int) from rfl, HT.sIx_nat]
  by_cases h : 1 ≤ ds.length
  · rw [Nat.min_eq_left h, List.take_of_length_le (by rw [List.length_drop]; omega)]
  · have : ds = [] := List.length_eq_zero_iff.mp (by omega)
    rw [this]
    rfl
theorem zip_sD (ss : List Str2) : ((ss.map sD).zip (cutD (ss.map sD) (some 1) none)).map (fun p => D.tup [p.1, p.2]) = (ss.zip (ss.drop 1)).map fun p => D.tup [sD p.1, sD p.2] := by
  rw [cut_rest, ← List.map_drop, List.zip_map, List.map_map]
  rfl
end L2.DL
namespace L2.SK
open L2.DL PySem TL
/-! ### a text that is spoilt -/
structure Base (t : Str) : Prop where
  len : t.length ≤ 100000
  thin : Thin 972 (tl t)
  spc : (tl t).count 32 ≤ 60
  chr : ∀ x ∈ tl t, x < 1114112
theorem cut_inf (t : Str) (lo hi : Option Int) : tl (cutS t lo hi) <:+: tl t := (List.take_prefix _ _).isInfix.trans (List.drop_suffix _ _).isInfix
theorem inf_len {x t : Str} (h : tl x <:+: tl t) : x.length ≤ t.length := by
  rw [len_tl, len_tl t]
  exact h.length_le
theorem fine_mid {t x y z w : Str} (b : Base t) (hx : tl x <:+: tl t) (hz : tl z <:+: tl t) (hy : y.length ≤ 2) (hc : ∀ c ∈ tl y, c < 1114112) (e : w = x ++ y ++ z) : Fine 1980 500 w := by
  have lx := inf_len hx
  have lz := inf_len hz
  have lb := b.len
  have ly : (tl y).length ≤ 2 := by rw [← len_tl]; exact hy
  have ew : tl w = tl x ++ tl y ++ tl z := by rw [e, tl_append, tl_append]
  refine ⟨?_, ?_, ?_, fun c hc' => ?_⟩
  · rw [len_tl, ew, List.length_append, List.length_append, ← len_tl, ← len_tl, ← len_tl]
    omega
  · rw [ew]
    exact (Thin.mid (tl y) (b.thin.sub hx) (b.thin.sub hz)).mono (by omega)
  · have c1 := hx.sublist.count_le 32
    have c2 := hz.sublist.count_le 32
    have c3 : (tl y).count 32 ≤ (tl y).length := List.count_le_length
    have := b.spc
    rw [ew, List.count_append, List.count_append]
    omega
  · rw [ew] at hc'
    rcases List.mem_append.mp hc' with h | h
    · rcases List.mem_append.mp h with h | h
      · exact b.chr c (hx.subset h)
      · exact hc c h
    · exact b.chr c (hz.subset h)
theorem fine_two {t x z w : Str} (b : Base t) (hx : tl x <:+: tl t) (hz : tl z <:+: tl t) (e : w = x ++ z) : Fine 1980 500 w :=
  fine_mid (y := mk []) b hx hz (Nat.zero_le _) nofun (by rw [e]; exact ext_tl (by rw [tl_append, tl_append, tl_append]; show _ = tl x ++ [] ++ tl z; rw [List.append_nil]))
/-- a word -/
structure WordOk (w : Str) : Prop where
  len : w.length ≤ 972
  spc : (tl w).count 32 ≤ 1
  chr : ∀ x ∈ tl w, x < 1114112
theorem words_ok {t : Str} (b : Base t) : ∀ w ∈ wordsT t, WordOk w := fun w hw =>
  ⟨words_thin b.thin w hw, by rw [List.count_eq_zero.mpr (words_free t w hw)]; omega, fun x hx => b.chr x ((words_in t w hw).subset hx)⟩
theorem odd_ok {d : Str} (h : d ∈ [Str.ofString "..", Str.ofString "", Str.ofString "0", Str.ofString "-0", Str.ofString "00", Str.ofString "1..1", Str.ofString "5..4", Str.ofString "..0", Str.ofString "0..", Str.ofString "1...2", Str.ofString "1..2..3", Str.ofString "-1..1", Str.ofString "+1", Str.ofString "1 ", Str.ofString "- 1"]) : WordOk d := by
  have go : ∀ d ∈ [Str.ofString "..", Str.ofString "", Str.ofString "0", Str.ofString "-0", Str.ofString "00", Str.ofString "1..1", Str.ofString "5..4", Str.ofString "..0", Str.ofString "0..", Str.ofString "1...2", Str.ofString "1..2..3", Str.ofString "-1..1", Str.ofString "+1", Str.ofString "1 ", Str.ofString "- 1"], d.length ≤ 972 ∧ (tl d).count 32 ≤ 1 ∧ ∀ x ∈ tl d, x < 1114112 := by decide +kernel
  obtain ⟨a, b, c⟩ := go d h
  exact ⟨a, b, c⟩
theorem sum_le {α : Type} {f : α → Nat} {m : Nat} : ∀ {xs : List α}, (∀ x ∈ xs, f x ≤ m) → (xs.map f).sum ≤ m * xs.length
  | [], _ => Nat.zero_le _
  | x :: xs, h => by
    have a := h x List.mem_cons_self
    have b := sum_le (f := f) (m := m) fun y hy => h y (List.mem_cons_of_mem _ hy)
    rw [List.map_cons, List.sum_cons, List.length_cons, Nat.mul_succ]
    omega
theorem joinL_len : ∀ ps : List (List Nat), (joinL [32] ps).length ≤ (ps.map fun p => p.length + 1).sum
  | [] => Nat.zero_le _
  | [p] => by show p.length ≤ (p.length + 1) + 0; omega
  | p :: q :: r => by
    have ih := joinL_len (q :: r)
    have e : (joinL [32] (p :: q :: r)).length = p.length + (1 + (joinL [32] (q :: r)).length) := by
      show (p ++ ([32] ++ joinL [32] (q :: r))).length = _
      rw [List.length_append, List.length_append]
      rfl
    rw [e, List.map_cons, List.sum_cons]
    omega
theorem joinL_mem {x : Nat} : ∀ {ps : List (List Nat)}, x ∈ joinL [32] ps → x = 32 ∨ ∃ p ∈ ps, x ∈ p
  | [], h => by cases h
  | [p], h => .inr ⟨p, by simp, h⟩
  | p :: q :: r, h => by
    have h' : x ∈ p ++ ([32] ++ joinL [32] (q :: r)) := h
    rcases List.mem_append.mp h' with h | h
    · exact .inr ⟨p, by simp, h⟩
    · rcases List.mem_append.mp h with h | h
      · exact .inl (by simpa using h)
      · rcases joinL_mem h with e | ⟨p', hp, hx⟩
        · exact .inl e
        · exact .inr ⟨p', List.mem_cons_of_mem _ hp, hx⟩
theorem fine_join {ys : List Str} (hn : ys.length ≤ 200) (h : ∀ w ∈ ys, WordOk w) : Fine 1980 500 (Txt.join (Str.ofString " ") ys) := by
  have et : tl (Txt.join (Str.ofString " ") ys) = joinL [32] (ys.map tl) := by rw [join_eq, tl_join, show tl (Str.ofString " ") = [32] by decide +kernel]
  refine ⟨?_, ?_, ?_, fun x hx => ?_⟩
  · rw [len_tl, et]
    refine Nat.le_trans (joinL_len _) ?_
    rw [List.map_map]
    refine Nat.le_trans (sum_le (m := 973) fun w hw => ?_) (by omega)
    show (tl w).length + 1 ≤ 973
    have := (h w hw).len
    rw [len_tl] at this
    omega
  · exact (join_thin fun w hw => thin_len (by have := (h w hw).len; rw [len_tl] at this; exact this)).mono (by omega)
  · rw [et]
    refine Nat.le_trans (joinL_count _) ?_
    rw [List.map_map]
    refine Nat.le_trans (sum_le (m := 2) fun w hw => ?_) (by omega)
    have := (h w hw).spc
    show (tl w).count 32 + 1 ≤ 2
    omega
  · rw [et] at hx
    rcases joinL_mem hx with e | ⟨p, hp, hx⟩
    · rw [e]; omega
    · obtain ⟨w, hw, rfl⟩ := List.mem_map.mp hp
      exact (h w hw).chr x hx
theorem join_size {ys : List Str} (hn : ys.length ≤ 200) (h : ∀ w ∈ ys, WordOk w) : (ys.map (·.length)).sum + ys.length * (Str.ofString " ").length ≤ 16777216 := by
  have := sum_le (f := fun w : Str => w.length) (m := 972) fun w hw => (h w hw).len
  rw [show (Str.ofString " ").length = 1 by decide +kernel]
  omega
theorem cutD_words (ws : List Str) (lo hi : Option Int) : ∃ xs : List Str, cutD (ws.map D.str) lo hi = xs.map D.str ∧ xs.length ≤ ws.length ∧ ∀ w ∈ xs, w ∈ ws := by
  refine ⟨(ws.drop (HT.sIx (ws.map D.str).length 0 lo)).take (HT.sIx (ws.map D.str).length (ws.map D.str).length hi - HT.sIx (ws.map D.str).length 0 lo), ?_, ?_, fun w hw => List.mem_of_mem_drop (List.mem_of_mem_take hw)⟩
  · unfold cutD
    rw [← List.map_drop, ← List.map_take]
  · rw [List.length_take, List.length_drop]
    omega
theorem sign_ok {c : Nat} (h : c ∈ (Str.ofString "0123456789-. \n+_a,").cps.toList) : c < 1114112 := by
  have go : ∀ c ∈ (Str.ofString "0123456789-. \n+_a,").cps.toList, c < 1114112 := by decide +kernel
  exact go c h
theorem sig_at (y : Int) : ∃ sg, atI (Str.ofString "0123456789-. \n+_a,").cps.toList (y / 3 % 18) = some sg ∧ sg < 1114112 := by
  obtain ⟨sg, h, e⟩ := atI_mem (xs := (Str.ofString "0123456789-. \n+_a,").cps.toList) (i := y / 3 % 18) (Int.emod_nonneg _ (by decide)) (by rw [show (Str.ofString "0123456789-. \n+_a,").cps.toList.length = 18 by decide +kernel]; exact Int.emod_lt_of_pos _ (by decide))
  exact ⟨sg, e, sign_ok h⟩
end L2.SK
namespace L2.SK
open L2.DL PySem TL
/-! ### the law's own text -/
theorem count_free : ∀ ps : List (List Nat), (∀ p ∈ ps, 32 ∉ p) → (joinL [32] ps).count 32 ≤ ps.length - 1
  | [], _ => Nat.zero_le _
  | [p], h => by show p.count 32 ≤ 0; rw [List.count_eq_zero.mpr (h p (by simp))]; exact Nat.le_refl _
  | p :: q :: r, h => by
    have ih := count_free (q :: r) fun x hx => h x (List.mem_cons_of_mem _ hx)
    have e : (joinL [32] (p :: q :: r)).count 32 = p.count 32 + (1 + (joinL [32] (q :: r)).count 32) := by
      show (p ++ ([32] ++ joinL [32] (q :: r))).count 32 = _
      rw [List.count_append, List.count_append]
      rfl
    rw [e, List.count_eq_zero.mpr (h p (by simp))]
    simp only [List.length_cons] at ih ⊢
    omega
/-- the ends of the law's stretches -/
def Sm5 (i : Int) : Prop := i.natAbs < 10 ^ 484
def SmO5 (o : Option Int) : Prop := ∀ z, o = some z → Sm5 z
theorem iL_len5 {i : Int} (h : Sm5 i) : (iL i).length ≤ 485 := by
  unfold Sm5 at h
  unfold iL
  split
  · have := numL_len (n := i.toNat) (k := 484) (by decide) (by omega)
    omega
  · rw [List.length_cons]
    have := numL_len (n := (-i).toNat) (k := 484) (by decide) (by omega)
    omega
theorem oL_len5 {o : Option Int} (h : SmO5 o) : (oL o).length ≤ 485 := by
  cases o with
  | none => exact Nat.zero_le _
  | some i => exact iL_len5 (h i rfl)
theorem sL_len5 {s : Str2} (h1 : SmO5 s.1) (h2 : SmO5 s.2) : (sL s).length ≤ 972 := by
  have a := oL_len5 h1
  have b := oL_len5 h2
  unfold sL
  split
  · omega
  · simp only [List.length_append, List.length_cons, List.length_nil]
    omega
theorem _root_.L2.DL.Inv1.sm5 {r : KRow} {dds : List Deed} (h : Inv1 r dds) (hd : ∀ d ∈ dds, okDeed d) (hl : dds.length ≤ 30) : ∀ s ∈ r.strs, SmO5 s.1 ∧ SmO5 s.2 := fun s hs => by
  obtain ⟨h1, h2⟩ := strs_end hs
  have b : ∀ t ∈ r.ts, t.natAbs ≤ 30 * (10 ^ 480 + 200) := fun t ht => by
    have := spots_bd dds.reverse (fun d hd' => hd d (List.mem_reverse.mp hd')) t
    rw [List.reverse_reverse, List.length_reverse] at this
    have h1 := this (h.sub t ht)
    have h2 : dds.length * (10 ^ 480 + 200) ≤ 30 * (10 ^ 480 + 200) := Nat.mul_le_mul_right _ hl
    exact Nat.le_trans h1 h2
  have big : 30 * (10 ^ 480 + 200) + 1 < 10 ^ 484 := by decide +kernel
  have go : ∀ z : Int, z.natAbs ≤ 30 * (10 ^ 480 + 200) + 1 → Sm5 z := fun z hz => Nat.lt_of_le_of_lt hz big
  constructor
  · intro z e
    have := b z (h1 z e)
    exact go z (by omega)
  · intro z e
    have := b (z + 1) (h2 z e)
    exact go z (by omega)
theorem sL_chr {s : Str2} : ∀ x ∈ sL s, x < 1114112 := fun x hx => by
  have go : ∀ o : Option Int, x ∈ oL o → x < 1114112 := fun o h => by
    cases o with
    | none => cases h
    | some i =>
      have := iL_signs (i := i) (c := x) h
      omega
  unfold sL at hx
  split at hx
  · exact go _ hx
  · rcases List.mem_append.mp hx with h | h
    · rcases List.mem_append.mp h with h | h
      · exact go _ h
      · have : x = 46 := by simpa using h
        omega
    · exact go _ h
theorem base_text {r : KRow} {dds : List Deed} (h : Inv1 r dds) (hd : ∀ d ∈ dds, okDeed d) (hl : dds.length ≤ 30) : Base (mk (rL r.strs)) := by
  have s5 := h.sm5 hd hl
  have tl0 : r.ts.length ≤ 2 * dds.length := Nat.le_trans (row_len h.sub) h.len
  have sl := strs_le r
  have ln : ∀ p ∈ r.strs.map sL, p.length ≤ 972 := fun p hp => by
    obtain ⟨s, hs, rfl⟩ := List.mem_map.mp hp
    exact sL_len5 (s5 s hs).1 (s5 s hs).2
  refine ⟨?_, ?_, ?_, fun x hx => ?_⟩
  · rw [mk_len]
    refine Nat.le_trans (joinL_len _) (Nat.le_trans (sum_le (m := 973) fun p hp => ?_) (by rw [List.length_map]; omega))
    have := ln p hp
    omega
  · exact thin_join fun p hp => thin_len (ln p hp)
  · refine Nat.le_trans (count_free _ fun p hp => ?_) (by rw [List.length_map]; omega)
    obtain ⟨s, hs, rfl⟩ := List.mem_map.mp hp
    exact sL_free
  · rcases joinL_mem (show x ∈ joinL [32] (r.strs.map sL) from hx) with e | ⟨p, hp, hx⟩
    · omega
    · obtain ⟨s, hs, rfl⟩ := List.mem_map.mp hp
      exact sL_chr x hx
theorem Base.fine {t : Str} (b : Base t) : Fine 1980 500 t := ⟨by have := b.len; omega, b.thin.mono (by omega), by have := b.spc; omega, b.chr⟩
end L2.SK
namespace L2.DL
open PySem PySem.Spec PyProof.Rows L2.SK TL
theorem tD_good (r : KRow) : tD (mk (rL r.strs)) = ssD r.strs := by
  unfold tD
  rw [read_good]
theorem okE_tex : okE (.lst [.str (wd .tex)]) := okE_wd .tex
theorem okE_tD (t : Str) : okE (tD t) := by
  unfold tD
  cases readL t with
  | none => exact okE_tex
  | some ss => exact okE_ssD ss
theorem eqD_tex : eqD (.lst [.str (wd .tex)]) (.lst [.str (Str.ofString "text")]) = true := by decide +kernel
theorem eqD_ss (ss : List Str2) : eqD (ssD ss) (ssD ss) = true := by rw [eqD_ssD, decide_eq_true rfl]
end L2.DL
namespace L2.DL
open PySem PySem.Spec PyProof.Rows L2.SK TL LamX
local macro_rules | `(tactic| walk_at "dl") => `(tactic| simp only [dSeq, dSet, dBin, dMod, dAdd, dSub, dMul, dFdiv, dPow, dVar, dC, dRet, dRetN, dNext, dDrop, dIfS, dFrz, dOwn, dApp, dRaise, dTru, dAnd, dOr, dNot, dAndV, dOrV, dNotV, dIf, dNil, dCons, dTup, Int.reduceToNat, Int.reduceLT, Int.reduceLE, cpw_a, cpw_b, cpw_c, cpw_d, dp_mixed_eq, dp_number_eq, dp_lies_eq, dLst, dCall, dBi, dCmpI, dEq, dNe, dIs, dIsNot, isN_non, isN_int, isN_bl, isN_str, isN_lst, isN_tup, isN_oi, dIn, dNotIn, dIx, dSl, dNoPart, dPart, dCut, dBack, dNeg, dLen, dIsi, dInt, dStr, dSum, dMin2, dMax2, dAbs, dAll, dSorted, dList, dBegins, dTurns, dMeth, dMeth0, D.isKp, dDisp, dPairs, dGetD, keyD, valD, dIter, dEnum, dZip, dRev, dFor, dLc, dYes, gdName, gdTup, gdLst, gdSet, dAsg, dPar, dSSet, dCallL, dDict, dInD, dLend, dLendT, dFrzK, dOf, dOfT, dIsN, dNotN, dIfM, dTruM, dNotM, dOrM, dAndM, mutQ, recv, dMut, dMutM, dNextM, dSeqM, dSetM, dDropM, dRetM, dIfSM, dOfS, dIn', startM, stAt, dSB, dST, dSetB, dSetT, dSetBT, dNewK, dLendO, dClear, dRng, dSeqR, dRetO, dSetF, dStep, dSeqN, dRetK, dIxS, dMethX, dIsX, dNewE, dLsE, dNilM, dConsM, dLsM, dSetIx, dAppX, dCopyL, dCopyK, dMutX, dLendXT, dLendX, dForZ, dSetFX, dSetNm, dSetNf, dOrE, dOrS, dMutXA, mutA, recvX, dMutMXA, dMutXX, dCallXL, dFrzR, dRetAdd, dM1, fSplit, fPartn, fStarts, fJoin, dIntS, dIntS4, dStr4, fIndex, dRevS, dTryK, dLcX, dAlt, dNewD, dNewF, dSeqNT, dRetNT, dAsgNT, dCallS, dCallNS, dSetNS, dMutM0A, dAppM, startK2, dRetK2, dSl3, dKept, dIsE, dCallM, dBinM, dOwnM, dFrzM, dCallB, startB, dNever, eqD_str, dIsK, wipeD, dsD, ssD, insD, rowD, kpD, dD, sD, startE, List.map_cons, List.map_nil, List.length_cons, List.length_nil, List.length_append, List.length_replicate, Nat.reduceAdd, Nat.reduceSub, List.replicate_succ, List.replicate_zero, List.cons_append, List.nil_append, List.append_nil, List.getElem?_cons_zero, List.getElem?_cons_succ, List.set_cons_zero, List.set_cons_succ, if_true, if_false, Bool.false_eq_true, Bool.not_true, Bool.not_false, true_and, and_true, dec_tt, dec_ff, oi_none, oi_some, atI_0, atI_1, atI_2, atI_3, env10, env4, Option.some.injEq, exists_eq_left', exists_eq_left, sizeLine_eq, Nat.reduceLeDiff, Nat.reduceLT, Nat.zero_le, Option.isNone_none, Option.isNone_some, eqD_int, eqD_bl, Bool.false_or, Bool.true_or, Bool.and_true, Bool.and_false, Bool.true_and, Bool.false_and, Bool.or_true, Bool.or_false, decide_true, decide_false, sq_put_take, sq_put_keep, sq_put_turn, sq_put_move, sq_put_mirror, sq_take_put, sq_take_keep, sq_take_turn, sq_take_move, sq_take_mirror, sq_keep_put, sq_keep_take, sq_keep_turn, sq_keep_move, sq_keep_mirror, sq_turn_put, sq_turn_take, sq_turn_keep, sq_turn_move, sq_turn_mirror, sq_move_put, sq_move_take, sq_move_keep, sq_move_turn, sq_move_mirror, sq_mirror_put, sq_mirror_take, sq_mirror_keep, sq_mirror_turn, sq_mirror_move])

def topS (i : Nat) : Stmt := PySem.Challenge.pw_stretchkeeper_k08_texts_refused.main.body.getD i (.Pass ⟨0, 0, 0, 0⟩)
section
variable {P : Program} {w : World} {K : PySem.W.Frag} {mg : Str → Option Value} {base : Heap} {C : Addr}
abbrev s_both : Stmt := topS 15
theorem sc_both : FnScope ["one", "other"] ["one", "other"] (defScope s_both) := ⟨rfl, rfl, rfl, by decide +kernel, rfl, by decide +kernel, by decide +kernel⟩

theorem ok_both {f : Addr} {fd : FuncData} (F : Fun K "both" "both" s_both f fd) (nb : Nb mg)  : FnOk P w K mg base (L2.CX P w) 1 f fd ["one", "other"] (spD K C (dp_rule f_both)) := by
  refine fnD F sc_both (fun cdv A outer s H E hr =>
    (sd_one (sd_ret (pd_and (pd 0) (pd_one (pd 1)))))) (fun ds T R q => ?_)
  obtain ⟨a, b, rfl, q⟩ := q
  refine ⟨rfl, ?_⟩
  walk_at "dl"
  cases a <;> cases b <;> first | exact q | exact ⟨okE_bl _, okE_bl _, q⟩

abbrev s_either : Stmt := topS 14
theorem sc_either : FnScope ["one", "other"] ["one", "other"] (defScope s_either) := ⟨rfl, rfl, rfl, by decide +kernel, rfl, by decide +kernel, by decide +kernel⟩

theorem ok_either {f : Addr} {fd : FuncData} (F : Fun K "either" "either" s_either f fd) (nb : Nb mg)  : FnOk P w K mg base (L2.CX P w) 1 f fd ["one", "other"] (spD K C (dp_rule f_either)) := by
  refine fnD F sc_either (fun cdv A outer s H E hr =>
    (sd_one (sd_ret (pd_or (pd 0) (pd_one (pd 1)))))) (fun ds T R q => ?_)
  obtain ⟨a, b, rfl, q⟩ := q
  refine ⟨rfl, ?_⟩
  walk_at "dl"
  cases a <;> cases b <;> first | exact q | exact ⟨okE_bl _, okE_bl _, q⟩

abbrev s_alone : Stmt := topS 16
theorem sc_alone : FnScope ["one", "other"] ["one", "other"] (defScope s_alone) := ⟨rfl, rfl, rfl, by decide +kernel, rfl, by decide +kernel, by decide +kernel⟩

theorem ok_alone {f : Addr} {fd : FuncData} (F : Fun K "alone" "alone" s_alone f fd) (nb : Nb mg)  : FnOk P w K mg base (L2.CX P w) 1 f fd ["one", "other"] (spD K C (dp_rule f_alone)) := by
  refine fnD F sc_alone (fun cdv A outer s H E hr =>
    (sd_one (sd_ret (pd_and (pd 0) (pd_one (pd_not (pd 1))))))) (fun ds T R q => ?_)
  obtain ⟨a, b, rfl, q⟩ := q
  refine ⟨rfl, ?_⟩
  walk_at "dl"
  cases a <;> cases b <;> first | exact q | exact ⟨okE_bl _, okE_bl _, q⟩

abbrev s_unlike : Stmt := topS 17
theorem sc_unlike : FnScope ["one", "other"] ["one", "other"] (defScope s_unlike) := ⟨rfl, rfl, rfl, by decide +kernel, rfl, by decide +kernel, by decide +kernel⟩

theorem ok_unlike {f : Addr} {fd : FuncData} (F : Fun K "unlike" "unlike" s_unlike f fd) (nb : Nb mg)  : FnOk P w K mg base (L2.CX P w) 1 f fd ["one", "other"] (spD K C (dp_rule f_unlike)) := by
  refine fnD F sc_unlike (fun cdv A outer s H E hr =>
    (sd_one (sd_ret (pd_cmp (or_ne hr.units) ab_ne (pd 0) (pd 1) (nomark _))))) (fun ds T R q => ?_)
  obtain ⟨a, b, rfl, q⟩ := q
  refine ⟨rfl, ?_⟩
  walk_at "dl"
  cases a <;> cases b <;> first | exact q | exact ⟨okE_bl _, okE_bl _, q⟩

abbrev s_Keeper___init__ : Stmt := inClass (topS 20) 0
theorem sc_Keeper___init__ : FnScope ["self"] ["self"] (defScope s_Keeper___init__) := ⟨rfl, rfl, rfl, by decide +kernel, rfl, by decide +kernel, by decide +kernel⟩

theorem ok_Keeper___init__ {f : Addr} {fd : FuncData} (F : Fun K "__init__" "Keeper.__init__" s_Keeper___init__ f fd) (T0 : Kp K mg C) : FnOk P w K mg base (L2.CX P w) 1 f fd ["self"] (spInit C) := by
  refine F.okX sc_Keeper___init__ (fun vs H Q E q => ?_) (fun cdv A outer s H vs Q E hr q => ⟨_, pss_cons (ps_fld (pe_var (i := 0) rfl (Or.inl rfl) (by decide) (by decide)) pe_bl rfl) (pss_one (ps_fld (pe_var (i := 0) rfl (Or.inl rfl) (by decide) (by decide)) (pe_lst pa_nil) rfl)), ?_⟩)
  · obtain ⟨p, dx, rfl, _⟩ := q
    rfl
  · obtain ⟨p, dx, rfl, h1, hQ⟩ := q
    refine ⟨.ref p, rfl, p, C, dx, [], rfl, h1, T0.cl, T0.nB, by decide, ?_⟩
    refine ⟨Nat.zero_le _, fun l hl => ⟨.ref p, rfl, p, C, dx, [("begins", .bl false)], rfl, ?_, T0.cl, T0.nT, by decide, ?_⟩⟩
    · have n : p ≠ l := fun z => by rw [← z, upd_same] at hl; cases hl
      rw [upd_ne n, upd_same]
      rfl
    · have n : p ≠ l := fun z => by rw [← z, upd_same] at hl; cases hl
      have hl0 : H l = none := by rw [upd_ne (Ne.symm n)] at hl; exact hl
      refine hQ l _ hl0 (fun b o e => ?_) ?_ ?_
      · have e1 := wo_some e
        have nb : b ≠ p := fun z => by
          unfold wo at e
          rw [if_pos (by simp [z])] at e
          cases e
        rw [upd_ne nb, upd_ne (ne_of_none e1 hl0), upd_ne nb]
        exact e1
      · rw [upd_same]
        show some (HO.ins C dx (putF "turns" (.ref l) [("begins", .bl false)])) = _
        unfold putF
        rw [if_neg ne_bt']
        rfl
      · rw [upd_ne (Ne.symm n), upd_same]

abbrev s_Keeper_stretches : Stmt := inClass (topS 20) 15
theorem sc_Keeper_stretches : FnScope ["self", "found", "first", "is_open", "number"] ["self"] (defScope s_Keeper_stretches) := ⟨rfl, rfl, rfl, by decide +kernel, rfl, by decide +kernel, by decide +kernel⟩

theorem ok_Keeper_stretches {f : Addr} {fd : FuncData} (F : Fun K "stretches" "Keeper.stretches" s_Keeper_stretches f fd) (nb : Nb mg) (T0 : Kp K mg C) : FnOk P w K mg base (L2.CX P w) 1 f fd ["self"] (spD K C dp_stretches) := by
  refine fnD F sc_Keeper_stretches (fun cdv A outer s H E hr =>
    (sd_cons (sd_own (i := 1) sc_Keeper_stretches.nd rfl (by first | exact .inl rfl | exact .inr rfl) ad_nil (hf := (by first | exact .inl rfl | exact .inr rfl)))
  (sd_cons (sd_set (i := 2) sc_Keeper_stretches.nd rfl (by first | exact .inl rfl | exact .inr rfl) pd_non (hf := (by first | exact .inl rfl | exact .inr rfl)))
  (sd_cons (sd_set (i := 3) sc_Keeper_stretches.nd rfl (by first | exact .inl rfl | exact .inr rfl) (pd_attr_begins T0 (pd 0)) (hf := (by first | exact .inl rfl | exact .inr rfl)))
  (sd_cons (sd_for ownD rfl (id_of (pd_attr_turns T0 (pd 0))) (gd_name (i := 4) sc_Keeper_stretches.nd rfl (by first | exact .inl rfl | exact .inr rfl))
    (sd_cons (sd_if (qd_val (pd 3)) (sd_one (sd_app (i := 1) (pv 1) (pd_tup (ad_cons (pd 2) (ad_cons (pd_op op_sub ab_sub (pd 4) pd_int) ad_nil))) (fun _ h => pe_bm PySem.F.plainAttrs_list PySem.F.slot_list_append PySem.F.type_list_append mt_append (pv 1) (pa_cons h pa_nil)))) sd_nil)
  (sd_cons (sd_set (i := 2) sc_Keeper_stretches.nd rfl (by first | exact .inl rfl | exact .inr rfl) (pd 4) (hf := (by first | exact .inl rfl | exact .inr rfl)))
  (sd_one (sd_set (i := 3) sc_Keeper_stretches.nd rfl (by first | exact .inl rfl | exact .inr rfl) (pd_not (pd 3)) (hf := (by first | exact .inl rfl | exact .inr rfl)))))))
  (sd_cons (sd_if (qd_val (pd 3)) (sd_one (sd_app (i := 1) (pv 1) (pd_tup (ad_cons (pd 2) (ad_cons pd_non ad_nil))) (fun _ h => pe_bm PySem.F.plainAttrs_list PySem.F.slot_list_append PySem.F.type_list_append mt_append (pv 1) (pa_cons h pa_nil)))) sd_nil)
  (sd_frz 1 (sd_one (sd_ret (pd 1)))))))))) (fun ds T R q => ?_)
  obtain ⟨r, rfl, hl, q⟩ := q
  refine ⟨rfl, ?_⟩
  walk_at "dl"
  -- the part told, the first of the open one, whether one is open
  refine forD_ind (enc := D.int) (fun rest ρ => ∃ (done : List Str2) (first : Option Int) (o : Bool) (u : Option DV), ρ = [some (.v (.kp r.b r.ts)), some (.own (done.map sD)), some (.v (oi first)), some (.v (.bl o)), u] ∧
    done ++ strL o first rest = r.strs ∧ done.length + rest.length ≤ r.ts.length) ?_ ?_ r.ts _ ⟨[], none, r.b, none, rfl, rfl, by simp⟩
  · rintro ρ ⟨done, first, o, u, rfl, h1, h2⟩
    walk_at "dl"
    cases o with
    | true =>
      walk_at "dl"
      refine ⟨by simp only [List.length_map]; simp only [List.length_nil] at h2; omega, ?_⟩
      have e : done.map sD ++ [.tup [oi first, .non]] = r.strs.map sD := by rw [← h1, List.map_append]; rfl
      rw [e]
      exact q
    | false =>
      walk_at "dl"
      have e : done.map sD = r.strs.map sD := by rw [← h1, strL, List.append_nil]
      rw [e]
      exact q
  · rintro x xs ρ k ⟨done, first, o, u, rfl, h1, h2⟩ hk
    rw [List.length_cons] at h2
    cases o with
    | true =>
      walk_at "dl"
      refine ⟨by simp only [List.length_map]; omega, hk _ ⟨done ++ [(first, some (x - 1))], some x, false, some (.v (.int x)), ?_, by rw [← h1, List.append_assoc]; rfl, by rw [List.length_append]; simp only [List.length_singleton]; omega⟩⟩
      rw [List.map_append]
      rfl
    | false =>
      walk_at "dl"
      exact hk _ ⟨done, some x, true, some (.v (.int x)), rfl, by rw [← h1]; rfl, by omega⟩

abbrev s__law_mixed : Stmt := topS 32
theorem sc__law_mixed : FnScope ["_law_cell", "_law_k", "_law_number_here"] ["_law_cell", "_law_k"] (defScope s__law_mixed) := ⟨rfl, rfl, rfl, by decide +kernel, rfl, by decide +kernel, by decide +kernel⟩

theorem ok__law_mixed {f : Addr} {fd : FuncData} (F : Fun K "_law_mixed" "_law_mixed" s__law_mixed f fd) (nb : Nb mg)  : FnOk P w K mg base (L2.CX P w) 1 f fd ["_law_cell", "_law_k"] (spD K C dp_mixed) := by
  refine fnD F sc__law_mixed (fun cdv A outer s H E hr =>
    (sd_cons (sd_set (i := 2) sc__law_mixed.nd rfl (by first | exact .inl rfl | exact .inr rfl) (pd_op op_mod ab_mod (pd_op or_add ab_add (pd_op or_add ab_add (pd_op op_mod ab_mod (pd 0) pd_int) (pd_op or_mul ab_mul pd_int (pd 1))) pd_int) pd_int) (hf := (by first | exact .inl rfl | exact .inr rfl)))
  (sd_one (sd_ret (pd_op op_mod ab_mod (pd_op or_mul ab_mul (pd_op op_mod ab_mod (pd_op or_mul ab_mul (pd 2) (pd 2)) pd_int) (pd 2)) pd_int))))) (fun ds T R q => ?_)
  obtain ⟨c, k, rfl, q⟩ := q
  refine ⟨rfl, ?_⟩
  walk_at "dl"
  have a1 := Int.emod_nonneg (c % 1000000007 + 7919 * k + 11) (show (1000003 : Int) ≠ 0 by decide)
  have a2 := Int.emod_lt_of_pos (c % 1000000007 + 7919 * k + 11) (show (0 : Int) < 1000003 by decide)
  generalize (c % 1000000007 + 7919 * k + 11) % 1000003 = n at a1 a2
  have b1 := Int.emod_nonneg (n * n) (show (1000003 : Int) ≠ 0 by decide)
  have b2 := Int.emod_lt_of_pos (n * n) (show (0 : Int) < 1000003 by decide)
  exact ⟨mulL (by decide) (by decide), mulL (by omega) (by omega), mulL (by omega) (by omega), q _ (Int.emod_nonneg _ (by decide)) (Int.emod_lt_of_pos _ (by decide))⟩

abbrev s__law_number : Stmt := topS 34
theorem sc__law_number : FnScope ["_law_cell", "_law_k", "_law_number_here", "_law_wide", "_law_some", "_law_far"] ["_law_cell", "_law_k"] (defScope s__law_number) := ⟨rfl, rfl, rfl, by decide +kernel, rfl, by decide +kernel, by decide +kernel⟩

theorem ok__law_number {f : Addr} {fd : FuncData} (F : Fun K "_law_number" "_law_number" s__law_number f fd) (nb : Nb mg)  (h__law_mixed : Fc P w K mg base C 1 "_law_mixed" dp_mixed) : FnOk P w K mg base (L2.CX P w) 2 f fd ["_law_cell", "_law_k"] (spD K C dp_number) := by
  refine fnD F sc__law_number (fun cdv A outer s H E hr =>
    (sd_cons (sd_set (i := 2) sc__law_number.nd rfl (by first | exact .inl rfl | exact .inr rfl) (pd_fn h__law_mixed (hr.mono (by decide)) rfl px (ad_cons (pd 0) (ad_cons (pd 1) ad_nil))) (hf := (by first | exact .inl rfl | exact .inr rfl)))
  (sd_cons (sd_set (i := 3) sc__law_number.nd rfl (by first | exact .inl rfl | exact .inr rfl) (pd_op or_add ab_add (pd_op or_add ab_add (pd_op or_mul ab_mul (pd_op op_mod ab_mod (pd 0) (pd_op op_powI ab_pow pd_int pd_int)) (pd_op op_powI ab_pow pd_int pd_int)) (pd_op or_mul ab_mul (pd 2) pd_int)) (pd_fn h__law_mixed (hr.mono (by decide)) rfl px (ad_cons (pd 0) (ad_cons (pd_op or_add ab_add (pd 1) pd_int) ad_nil)))) (hf := (by first | exact .inl rfl | exact .inr rfl)))
  (sd_cons (sd_set (i := 4) sc__law_number.nd rfl (by first | exact .inl rfl | exact .inr rfl) (pd_lst (ad_cons (pd_op op_sub ab_sub (pd_op op_mod ab_mod (pd 2) pd_int) pd_int) (ad_cons (pd_op op_sub ab_sub (pd_op op_mod ab_mod (pd 2) pd_int) pd_int) (ad_cons (pd_op op_sub ab_sub (pd_op op_mod ab_mod (pd 2) pd_int) pd_int) (ad_cons (pd_op op_sub ab_sub (pd_op op_mod ab_mod (pd 3) (pd_op or_add ab_add (pd_op or_mul ab_mul pd_int (pd_op op_powI ab_pow pd_int pd_int)) pd_int)) (pd_op op_powI ab_pow pd_int pd_int)) (ad_cons (pd_op op_powI ab_pow pd_int pd_int) ad_nil)))))) (hf := (by first | exact .inl rfl | exact .inr rfl)))
  (sd_cons (sd_set (i := 5) sc__law_number.nd rfl (by first | exact .inl rfl | exact .inr rfl) (pd_op or_add ab_add (pd_op op_powI ab_pow (pd_op op_powI ab_pow pd_int pd_int) pd_int) (pd_op op_mod ab_mod (pd 2) pd_int)) (hf := (by first | exact .inl rfl | exact .inr rfl)))
  (sd_one (sd_ret (pd_ix (pd_op or_add ab_add (pd 4) (pd_lst (ad_cons (pd_op op_sub ab_sub pd_int (pd_op op_powI ab_pow pd_int pd_int)) (ad_cons (pd_op op_sub ab_sub (pd_op op_mod ab_mod (pd 2) pd_int) pd_int) (ad_cons (pd_ix (pd_lst (ad_cons (pd 5) (ad_cons (pd_op op_sub ab_sub pd_int (pd 5)) ad_nil))) (pd_op op_mod ab_mod (pd_op op_fdiv ab_fdiv (pd 2) pd_int) pd_int) (fun _ _ => rfl)) ad_nil))))) (pd_op op_mod ab_mod (pd_op op_fdiv ab_fdiv (pd 2) pd_int) pd_int) (fun _ _ => rfl))))))))) (fun ds T R q => ?_)
  obtain ⟨c, k, rfl, q⟩ := q
  refine ⟨rfl, ?_⟩
  walk_at "dl"
  intro z z0 z1
  refine ⟨by decide, law_mul1 c, mulL (by omega) (by omega), fun y y0 y1 => ?_⟩
  refine ⟨mulL (by decide) (by decide), by decide, at_mod (by decide) (by simp) fun d hd => at_mod (by decide) (by simp) fun e he => ?_⟩
  rw [pow_ok] at hd
  have a1 : (0 : Int) ≤ (c % 10 ^ 40 * 1000003 ^ 4 + z * 1000003 + y) % (2 * 10 ^ 60 + 1) := Int.emod_nonneg _ (by decide)
  have a2 : (c % 10 ^ 40 * 1000003 ^ 4 + z * 1000003 + y) % (2 * 10 ^ 60 + 1) < 2 * 10 ^ 60 + 1 := Int.emod_lt_of_pos _ (by decide)
  generalize (c % 10 ^ 40 * 1000003 ^ 4 + z * 1000003 + y) % (2 * 10 ^ 60 + 1) = x at a1 a2 he
  simp only [List.mem_cons, List.not_mem_nil, or_false] at hd he
  rcases hd with rfl | rfl <;> rcases he with rfl | rfl | rfl | rfl | rfl | rfl | rfl | rfl <;> exact q _ (by unfold Lim; omega)

abbrev s__law_stretch : Stmt := topS 35
theorem sc__law_stretch : FnScope ["_law_cell", "_law_k", "_law_number_here", "_law_one", "_law_other", "_law_some"] ["_law_cell", "_law_k"] (defScope s__law_stretch) := ⟨rfl, rfl, rfl, by decide +kernel, rfl, by decide +kernel, by decide +kernel⟩

theorem ok__law_stretch {f : Addr} {fd : FuncData} (F : Fun K "_law_stretch" "_law_stretch" s__law_stretch f fd) (nb : Nb mg)  (h__law_mixed : Fc P w K mg base C 1 "_law_mixed" dp_mixed) (h__law_number : Fc P w K mg base C 2 "_law_number" dp_number) : FnOk P w K mg base (L2.CX P w) 3 f fd ["_law_cell", "_law_k"] (spD K C dp_stretch) := by
  refine fnD F sc__law_stretch (fun cdv A outer s H E hr =>
    (sd_cons (sd_set (i := 2) sc__law_stretch.nd rfl (by first | exact .inl rfl | exact .inr rfl) (pd_fn h__law_mixed (hr.mono (by decide)) rfl px (ad_cons (pd 0) (ad_cons (pd 1) ad_nil))) (hf := (by first | exact .inl rfl | exact .inr rfl)))
  (sd_cons (sd_asg (pd_sorted nb.sorted (ad_cons (pd_lst (ad_cons (pd_fn h__law_number (hr.mono (by decide)) rfl px (ad_cons (pd 0) (ad_cons (pd_op or_add ab_add (pd 1) pd_int) ad_nil))) (ad_cons (pd_fn h__law_number (hr.mono (by decide)) rfl px (ad_cons (pd 0) (ad_cons (pd_op or_add ab_add (pd 1) pd_int) ad_nil))) ad_nil))) ad_nil)) (gd_lst rfl sc__law_stretch.nd (.cons (i := 3) rfl (by first | exact .inl rfl | exact .inr rfl) (by first | exact .inl rfl | exact .inr rfl) (.cons (i := 4) rfl (by first | exact .inl rfl | exact .inr rfl) (by first | exact .inl rfl | exact .inr rfl) .nil))))
  (sd_cons (sd_set (i := 5) sc__law_stretch.nd rfl (by first | exact .inl rfl | exact .inr rfl) (pd_lst (ad_cons (pd_tup (ad_cons (pd 3) (ad_cons (pd 4) ad_nil))) (ad_cons (pd_tup (ad_cons (pd 3) (ad_cons (pd 3) ad_nil))) (ad_cons (pd_tup (ad_cons (pd 3) (ad_cons (pd_op or_add ab_add (pd 3) (pd_op op_mod ab_mod (pd_op op_fdiv ab_fdiv (pd 2) pd_int) pd_int)) ad_nil))) (ad_cons (pd_tup (ad_cons pd_non (ad_cons (pd 4) ad_nil))) (ad_cons (pd_tup (ad_cons (pd 3) (ad_cons pd_non ad_nil))) (ad_cons (pd_tup (ad_cons (pd 4) (ad_cons (pd_op or_add ab_add (pd 4) pd_int) ad_nil))) ad_nil))))))) (hf := (by first | exact .inl rfl | exact .inr rfl)))
  (sd_cons (sd_if (qd_cmp (or_eq hr.units) ab_eq (pd_op op_mod ab_mod (pd 2) pd_int) pd_int (nomark _)) (sd_one (sd_ret (pd_tup (ad_cons pd_non (ad_cons pd_non ad_nil))))) sd_nil)
  (sd_one (sd_ret (pd_ix (pd 5) (pd_op op_mod ab_mod (pd_op op_mod ab_mod (pd 2) pd_int) pd_int) (fun _ _ => rfl))))))))) (fun ds T R q => ?_)
  obtain ⟨c, k, rfl, q⟩ := q
  refine ⟨rfl, ?_⟩
  walk_at "dl"
  intro z z0 z1 x hx y hy
  refine ⟨[x, y], rfl, fun ns p hs => ?_⟩
  obtain ⟨a, b, rfl⟩ : ∃ a b, ns = [a, b] := by
    have := p.length_eq
    match ns, this with
    | [a, b], _ => exact ⟨a, b, rfl⟩
  have hab : a ≤ b := by simpa using hs
  have hl : ∀ m ∈ [a, b], Lim m := fun m hm => by
    have := p.mem_iff.mp hm
    simp only [List.mem_cons, List.not_mem_nil, or_false] at this
    rcases this with rfl | rfl <;> assumption
  have ha := hl a (by simp)
  have hb := hl b (by simp)
  walk_at "dl"
  have f1 : 0 ≤ z / 12 % 6 := Int.emod_nonneg _ (by decide)
  have f2 : z / 12 % 6 < 6 := Int.emod_lt_of_pos _ (by decide)
  generalize z / 12 % 6 = w6 at f1 f2
  refine ⟨okE_int _, okE_int _, ?_⟩
  split
  · exact q (none, none) rfl (fun _ h => nomatch h) (fun _ h => nomatch h)
  · refine at_mod (by decide) (by simp) fun d hd => ?_
    unfold Lim at ha hb
    simp only [List.mem_cons, List.not_mem_nil, or_false] at hd
    have go : ∀ s : Str2, okS s = true → LimO s.1 → (∀ z, s.2 = some z → -(10 ^ 480 + 10) ≤ z ∧ z ≤ 10 ^ 480 + 20) → T (.tup [oi s.1, oi s.2]) := q
    rcases hd with rfl | rfl | rfl | rfl | rfl | rfl
    · exact go (some a, some b) (by simpa [okS] using hab) (fun z h => by cases h; exact ha) (fun z h => by cases h; omega)
    · exact go (some a, some a) (by simp [okS]) (fun z h => by cases h; exact ha) (fun z h => by cases h; omega)
    · exact go (some a, some (a + w6)) (by simp [okS]; omega) (fun z h => by cases h; exact ha) (fun z h => by cases h; omega)
    · exact go (none, some b) rfl (fun z h => nomatch h) (fun z h => by cases h; omega)
    · exact go (some a, none) rfl (fun z h => by cases h; exact ha) (fun z h => nomatch h)
    · exact go (some b, some (b + 1)) (by simp [okS]; omega) (fun z h => by cases h; exact hb) (fun z h => by cases h; omega)

abbrev s__law_deed : Stmt := topS 43
theorem sc__law_deed : FnScope ["_law_cell", "_law_k", "_law_number_here", "_law_word_here", "_law_stretch_here"] ["_law_cell", "_law_k"] (defScope s__law_deed) := ⟨rfl, rfl, rfl, by decide +kernel, rfl, by decide +kernel, by decide +kernel⟩

theorem ok__law_deed {f : Addr} {fd : FuncData} (F : Fun K "_law_deed" "_law_deed" s__law_deed f fd) (nb : Nb mg)  (h__law_mixed : Fc P w K mg base C 1 "_law_mixed" dp_mixed) (h__law_number : Fc P w K mg base C 2 "_law_number" dp_number) (h__law_stretch : Fc P w K mg base C 3 "_law_stretch" dp_stretch) : FnOk P w K mg base (L2.CX P w) 4 f fd ["_law_cell", "_law_k"] (spD K C dp_deed) := by
  refine fnD F sc__law_deed (fun cdv A outer s H E hr =>
    (sd_cons (sd_set (i := 2) sc__law_deed.nd rfl (by first | exact .inl rfl | exact .inr rfl) (pd_fn h__law_mixed (hr.mono (by decide)) rfl px (ad_cons (pd 0) (ad_cons (pd 1) ad_nil))) (hf := (by first | exact .inl rfl | exact .inr rfl)))
  (sd_cons (sd_set (i := 3) sc__law_deed.nd rfl (by first | exact .inl rfl | exact .inr rfl) (pd_ix (pd_lst (ad_cons pd_str (ad_cons pd_str (ad_cons pd_str (ad_cons pd_str (ad_cons pd_str (ad_cons pd_str (ad_cons pd_str (ad_cons pd_str (ad_cons pd_str (ad_cons pd_str (ad_cons pd_str (ad_cons pd_str ad_nil))))))))))))) (pd_op op_mod ab_mod (pd 2) pd_int) (fun _ _ => rfl)) (hf := (by first | exact .inl rfl | exact .inr rfl)))
  (sd_cons (sd_if (qd_cmp (or_eq hr.units) ab_eq (pd 3) pd_str (nomark _)) (sd_one (sd_ret (pd_tup (ad_cons (pd 3) (ad_cons (pd_fn h__law_number (hr.mono (by decide)) rfl px (ad_cons (pd 0) (ad_cons (pd_op or_add ab_add (pd 1) pd_int) ad_nil))) ad_nil))))) sd_nil)
  (sd_cons (sd_if (qd_cmp (or_eq hr.units) ab_eq (pd 3) pd_str (nomark _)) (sd_one (sd_ret (pd_tup (ad_cons (pd 3) (ad_cons pd_non ad_nil))))) sd_nil)
  (sd_cons (sd_set (i := 4) sc__law_deed.nd rfl (by first | exact .inl rfl | exact .inr rfl) (pd_fn h__law_stretch (hr.mono (by decide)) rfl px (ad_cons (pd 0) (ad_cons (pd_op or_add ab_add (pd 1) pd_int) ad_nil))) (hf := (by first | exact .inl rfl | exact .inr rfl)))
  (sd_cons (sd_if (PW.pt (wd_and (qd_cmp (or_eq hr.units) ab_eq (pd 3) pd_str (nomark _)) (wd_and1 (qd_cmp op_gt (ab_cmpI _) (pd_op op_mod ab_mod (pd_op op_fdiv ab_fdiv (pd 2) pd_int) pd_int) pd_int (nomark _))))) (sd_one (sd_set (i := 4) sc__law_deed.nd rfl (by first | exact .inl rfl | exact .inr rfl) (pd_tup (ad_cons pd_non (ad_cons (pd_op or_add ab_add (pd_fn h__law_number (hr.mono (by decide)) rfl px (ad_cons (pd 0) (ad_cons (pd_op or_add ab_add (pd 1) pd_int) ad_nil))) pd_int) ad_nil))) (hf := (by first | exact .inl rfl | exact .inr rfl)))) sd_nil)
  (sd_one (sd_ret (pd_tup (ad_cons (pd 3) (ad_cons (pd_lst (ad_cons (pd 4) ad_nil)) ad_nil)))))))))))) (fun ds T R q => ?_)
  obtain ⟨c, k, rfl, q⟩ := q
  refine ⟨rfl, ?_⟩
  walk_at "dl"
  intro z z0 z1
  refine at_mod (by decide) (by simp) fun d hd => ?_
  have bo : ∀ {o : Option Int}, LimO o → BdO o := fun h z e => by
    have := h z e
    unfold Lim at this
    unfold Bd
    omega
  have st : ∀ {P : D → Prop} {R : Addr → Prop} {k : Int}, (∀ s : Str2, okS s = true → BdO s.1 → BdO s.2 → P (sD s)) → dp_stretch [D.int c, D.int k] P R := fun h => ⟨c, _, rfl, fun s h1 h2 h3 => h s h1 (bo h2) fun z e => by
    have := h3 z e
    unfold Bd
    omega⟩
  simp only [List.mem_cons, List.not_mem_nil, or_false] at hd
  have qp : ∀ s : Str2, okS s = true → BdO s.1 → BdO s.2 → T (dD (.put [s])) := fun s h1 h2 h3 => q (.put [s]) ⟨h1, h2, h3⟩
  have qt : ∀ s : Str2, okS s = true → BdO s.1 → BdO s.2 → T (dD (.take [s])) := fun s h1 h2 h3 => q (.take [s]) ⟨h1, h2, h3⟩
  have qk : ∀ s : Str2, okS s = true → BdO s.1 → BdO s.2 → T (dD (.keep [s])) := fun s h1 h2 h3 => q (.keep [s]) ⟨h1, h2, h3⟩
  have qu : ∀ s : Str2, okS s = true → BdO s.1 → BdO s.2 → T (dD (.turn [s])) := fun s h1 h2 h3 => q (.turn [s]) ⟨h1, h2, h3⟩
  rcases hd with rfl | rfl | rfl | rfl | rfl | rfl | rfl | rfl | rfl | rfl | rfl | rfl
  · walk_at "dl"; exact st qp
  · walk_at "dl"; exact st qu
  · walk_at "dl"; exact st qt
  · walk_at "dl"; exact st qp
  · walk_at "dl"; exact st qu
  · walk_at "dl"
    intro z hz
    refine q (.move z) ?_
    unfold Lim at hz
    show Bd z
    unfold Bd
    omega
  · walk_at "dl"
    exact q .mirror trivial
  · walk_at "dl"; exact st qp
  · walk_at "dl"; exact st qt
  · walk_at "dl"; exact st qu
  · walk_at "dl"; exact st qp
  · walk_at "dl"
    refine st fun s h1 h2 h3 => ?_
    split
    · intro z hz
      refine qk (none, some (z + 30)) rfl (fun _ h => nomatch h) fun y e => ?_
      cases e
      unfold Lim at hz
      unfold Bd
      omega
    · exact qk s h1 h2 h3

abbrev s__law_lies : Stmt := topS 36
theorem sc__law_lies : FnScope ["_law_stretch_here", "_law_number_here"] ["_law_stretch_here", "_law_number_here"] (defScope s__law_lies) := ⟨rfl, rfl, rfl, by decide +kernel, rfl, by decide +kernel, by decide +kernel⟩

theorem ok__law_lies {f : Addr} {fd : FuncData} (F : Fun K "_law_lies" "_law_lies" s__law_lies f fd) (nb : Nb mg)  : FnOk P w K mg base (L2.CX P w) 1 f fd ["_law_stretch_here", "_law_number_here"] (spD K C dp_lies) := by
  refine fnD F sc__law_lies (fun cdv A outer s H E hr =>
    (sd_cons (sd_if (PW.pt (wd_and (qd_cmp or_isnot ab_isnot (pd_ix (pd 0) pd_int (fun _ _ => rfl)) pd_non (nomark _)) (wd_and1 (qd_cmp op_lt (ab_cmpI _) (pd 1) (pd_ix (pd 0) pd_int (fun _ _ => rfl)) (nomark _))))) (sd_one (sd_ret pd_bl)) sd_nil)
  (sd_one (sd_ret (pd_or (pd_cmp or_is ab_is (pd_ix (pd 0) pd_int (fun _ _ => rfl)) pd_non (nomark _)) (pd_one (pd_cmp op_le (ab_cmpI _) (pd 1) (pd_ix (pd 0) pd_int (fun _ _ => rfl)) (nomark _)))))))) (fun ds T R q => ?_)
  obtain ⟨⟨a, b⟩, n, rfl, q⟩ := q
  refine ⟨rfl, ?_⟩
  cases a with
  | none => cases b <;> (walk_at "dl"; exact q)
  | some a =>
    have e : decide (a ≤ n) = !decide (n < a) := by by_cases c : n < a <;> simp [c] <;> omega
    unfold lies at q
    simp only [e] at q
    cases b <;> (walk_at "dl"; cases c : decide (n < a) <;> (simp only [c, Bool.not_true, Bool.not_false, Bool.false_and, Bool.true_and, if_true, if_false, Bool.false_eq_true] at q ⊢; exact q))

abbrev s__law_behind : Stmt := topS 37
theorem sc__law_behind : FnScope ["_law_deed_here", "_law_is_in_here", "_law_spot", "_law_word_here", "_law_thing", "_law_own", "_law_stretch_here"] ["_law_deed_here", "_law_is_in_here", "_law_spot"] (defScope s__law_behind) := ⟨rfl, rfl, rfl, by decide +kernel, rfl, by decide +kernel, by decide +kernel⟩

theorem ok__law_behind {f : Addr} {fd : FuncData} (F : Fun K "_law_behind" "_law_behind" s__law_behind f fd) (nb : Nb mg)  (h__law_lies : Fc P w K mg base C 1 "_law_lies" dp_lies) : FnOk P w K mg base (L2.CX P w) 2 f fd ["_law_deed_here", "_law_is_in_here", "_law_spot"] (spD K C dp_behind) := by
  refine fnD F sc__law_behind (fun cdv A outer s H E hr =>
    (sd_cons (sd_asg (pd 0) (gd_tup rfl sc__law_behind.nd (.cons (i := 3) rfl (by first | exact .inl rfl | exact .inr rfl) (by first | exact .inl rfl | exact .inr rfl) (.cons (i := 4) rfl (by first | exact .inl rfl | exact .inr rfl) (by first | exact .inl rfl | exact .inr rfl) .nil))))
  (sd_cons (sd_if (qd_cmp (or_in (hu65 hr)) ab_in (pd 3) (pd_tup (ad_cons pd_str (ad_cons pd_str ad_nil))) (by rfl)) (sd_one (sd_ret (pd 1))) sd_nil)
  (sd_cons (sd_set (i := 5) sc__law_behind.nd rfl (by first | exact .inl rfl | exact .inr rfl) (pd_cmp (or_in (hu65 hr)) ab_in pd_bl (pd_lc rfl sc__law_behind.nd (id_of (pd 4)) (blkOk_by (own := [("_law_stretch_here", 6)]) (N := ["_law_deed_here", "_law_is_in_here", "_law_spot", "_law_word_here", "_law_thing", "_law_own", "_law_stretch_here"]) (sc := defScope s__law_behind) (by decide +kernel)) (fun _ _ _ _ _ => (gd_name (i := 6) sc__law_behind.nd rfl (by first | exact .inl rfl | exact .inr rfl))) (fun _ _ _ _ _ => ts_nil) (fun _ _ _ _ _ => (pd_fn h__law_lies (hr.mono (by decide)) rfl passL (ad_cons (pd 6) (ad_cons (pd 2) ad_nil))))) (by rfl)) (hf := (by first | exact .inl rfl | exact .inr rfl)))
  (sd_one (sd_ret (pd_dget (hu_of hr) (pd_disp (ppd_cons pd_str (pd_or (pd 1) (pd_one (pd 5))) (ppd_cons pd_str (pd_and (pd 1) (pd_one (pd_not (pd 5)))) (ppd_cons pd_str (pd_and (pd 1) (pd_one (pd 5))) (ppd_cons pd_str (pd_cmp (or_ne hr.units) ab_ne (pd 1) (pd 5) (nomark _)) ppd_nil))))) (pd 3)))))))) (fun ds T R q => ?_)
  obtain ⟨d, b, n, rfl, hl, q⟩ := q
  refine ⟨rfl, ?_⟩
  have own : ∀ {ss : List Str2} {P : List D → Prop} {ρ : Env}, P ((ss.map fun s => lies s n).map .bl) → ρ.length = 7 → ρ[2]? = some (some (.v (.int n))) →
      lcD (gdName 6) dYes (dCall dp_lies (dCons (dVar 6) (dCons (dVar 2) dNil))) ρ P (ss.map sD) [] := fun {ss P ρ} h e1 e2 => by
    refine lcD_map (enc := sD) (f := fun s => some (.bl (lies s n))) ss (fun s _ k1 k2 h => ?_) ?_
    · have a1 : (ρ.set 6 (some (.v (sD s))))[2]? = some (some (.v (.int n))) := by rw [List.getElem?_set_ne (by decide)]; exact e2
      have a2 : (ρ.set 6 (some (.v (sD s))))[6]? = some (some (.v (sD s))) := List.getElem?_set_self (by omega)
      simp only [gdName, dYes, dCall, dCons, dVar, dNil, a1, a2, if_true]
      exact ⟨s, n, rfl, h⟩
    · rw [filterMap_some, List.nil_append]
      rw [List.map_map] at h
      exact h
  cases d with
  | put ss =>
    have hl' : ss.length ≤ 1000000 := hl
    have q' : T (.bl (b || owns ss n)) := q
    simp only [word, thing, ssD, dD]
    walk_at "dl"
    rw [if_neg (by rw [wd_mm _ (by decide)]; decide)]
    refine ⟨rfl, rfl, sz (by rw [List.length_map]; omega), own ?_ rfl rfl⟩
    have e : ((ss.map fun s => lies s n).any id) = owns ss n := by rw [List.any_map]; rfl
    simp only [any_bls, e]
    generalize owns ss n = o at q' ⊢
    cases b <;> cases o <;> simp only [if_true, if_false, Bool.false_eq_true] <;>
      exact ⟨okE_bl _, okE_bls _, okE_bl _, okE_bl _, [.inr "put", .inr "take", .inr "keep", .inr "turn"], rfl, wd_nodup4, by decide, _, _, rfl, wd_put, q'⟩
  | take ss =>
    have hl' : ss.length ≤ 1000000 := hl
    have q' : T (.bl (b && !owns ss n)) := q
    simp only [word, thing, ssD, dD]
    walk_at "dl"
    rw [if_neg (by rw [wd_mm _ (by decide)]; decide)]
    refine ⟨rfl, rfl, sz (by rw [List.length_map]; omega), own ?_ rfl rfl⟩
    have e : ((ss.map fun s => lies s n).any id) = owns ss n := by rw [List.any_map]; rfl
    simp only [any_bls, e]
    generalize owns ss n = o at q' ⊢
    cases b <;> cases o <;> simp only [if_true, if_false, Bool.false_eq_true] <;>
      exact ⟨okE_bl _, okE_bls _, okE_bl _, okE_bl _, [.inr "put", .inr "take", .inr "keep", .inr "turn"], rfl, wd_nodup4, by decide, _, _, rfl, wd_take, q'⟩
  | keep ss =>
    have hl' : ss.length ≤ 1000000 := hl
    have q' : T (.bl (b && owns ss n)) := q
    simp only [word, thing, ssD, dD]
    walk_at "dl"
    rw [if_neg (by rw [wd_mm _ (by decide)]; decide)]
    refine ⟨rfl, rfl, sz (by rw [List.length_map]; omega), own ?_ rfl rfl⟩
    have e : ((ss.map fun s => lies s n).any id) = owns ss n := by rw [List.any_map]; rfl
    simp only [any_bls, e]
    generalize owns ss n = o at q' ⊢
    cases b <;> cases o <;> simp only [if_true, if_false, Bool.false_eq_true] <;>
      exact ⟨okE_bl _, okE_bls _, okE_bl _, okE_bl _, [.inr "put", .inr "take", .inr "keep", .inr "turn"], rfl, wd_nodup4, by decide, _, _, rfl, wd_keep, q'⟩
  | turn ss =>
    have hl' : ss.length ≤ 1000000 := hl
    have q' : T (.bl (b != owns ss n)) := q
    simp only [word, thing, ssD, dD]
    walk_at "dl"
    rw [if_neg (by rw [wd_mm _ (by decide)]; decide)]
    refine ⟨rfl, rfl, sz (by rw [List.length_map]; omega), own ?_ rfl rfl⟩
    have e : ((ss.map fun s => lies s n).any id) = owns ss n := by rw [List.any_map]; rfl
    simp only [any_bls, e]
    generalize owns ss n = o at q' ⊢
    cases b <;> cases o <;> simp only [if_true, if_false, Bool.false_eq_true] <;>
      exact ⟨okE_bl _, okE_bls _, okE_bl _, okE_bl _, [.inr "put", .inr "take", .inr "keep", .inr "turn"], rfl, wd_nodup4, by decide, _, _, rfl, wd_turn, q'⟩
  | move k =>
    simp only [word, thing, dD]
    walk_at "dl"
    rw [if_pos (by decide +kernel)]
    exact ⟨rfl, rfl, q⟩
  | mirror =>
    simp only [word, thing, dD]
    walk_at "dl"
    rw [if_pos (by decide +kernel)]
    exact ⟨rfl, rfl, q⟩

abbrev s__law_is_in : Stmt := topS 38
theorem sc__law_is_in : FnScope ["_law_deeds", "_law_number_here", "_law_spots_here", "_law_word_here", "_law_thing", "_law_is_in_here", "_law_deed_here", "_law_spot"] ["_law_deeds", "_law_number_here"] (defScope s__law_is_in) := ⟨rfl, rfl, rfl, by decide +kernel, rfl, by decide +kernel, by decide +kernel⟩

theorem ok__law_is_in {f : Addr} {fd : FuncData} (F : Fun K "_law_is_in" "_law_is_in" s__law_is_in f fd) (nb : Nb mg)  (h__law_behind : Fc P w K mg base C 2 "_law_behind" dp_behind) : FnOk P w K mg base (L2.CX P w) 3 f fd ["_law_deeds", "_law_number_here"] (spD K C dp_in) := by
  refine fnD F sc__law_is_in (fun cdv A outer s H E hr =>
    (sd_cons (sd_own (i := 2) sc__law_is_in.nd rfl (by first | exact .inl rfl | exact .inr rfl) (ad_cons (pd 1) ad_nil) (hf := (by first | exact .inl rfl | exact .inr rfl)))
  (sd_cons (sd_for ownD rfl (id_of (pd_back (pd 0))) (gd_tup rfl sc__law_is_in.nd (.cons (i := 3) rfl (by first | exact .inl rfl | exact .inr rfl) (by first | exact .inl rfl | exact .inr rfl) (.cons (i := 4) rfl (by first | exact .inl rfl | exact .inr rfl) (by first | exact .inl rfl | exact .inr rfl) .nil)))
    (sd_cons (sd_if (qd_cmp (or_eq hr.units) ab_eq (pd 3) pd_str (nomark _)) (sd_one (sd_set (i := 1) sc__law_is_in.nd rfl (by first | exact .inl rfl | exact .inr rfl) (pd_op op_sub ab_sub (pd 1) (pd 4)) (hf := (by first | exact .inl rfl | exact .inr rfl)))) sd_nil)
  (sd_cons (sd_if (qd_cmp (or_eq hr.units) ab_eq (pd 3) pd_str (nomark _)) (sd_one (sd_set (i := 1) sc__law_is_in.nd rfl (by first | exact .inl rfl | exact .inr rfl) (pd_op op_sub ab_sub pd_int (pd 1)) (hf := (by first | exact .inl rfl | exact .inr rfl)))) sd_nil)
  (sd_one (sd_app (i := 2) (pv 2) (pd 1) (fun _ h => pe_bm PySem.F.plainAttrs_list PySem.F.slot_list_append PySem.F.type_list_append mt_append (pv 2) (pa_cons h pa_nil)))))))
  (sd_frz 2 (sd_cons (sd_set (i := 5) sc__law_is_in.nd rfl (by first | exact .inl rfl | exact .inr rfl) pd_bl (hf := (by first | exact .inl rfl | exact .inr rfl)))
  (sd_cons (sd_for ownD rfl (id_zip rfl nb.zip (ad_cons (pd 0) (ad_cons (pd_back (pd_sl (pd 2) od_none (od_some (pd_neg pd_int)))) ad_nil))) (gd_tup rfl sc__law_is_in.nd (.cons (i := 6) rfl (by first | exact .inl rfl | exact .inr rfl) (by first | exact .inl rfl | exact .inr rfl) (.cons (i := 7) rfl (by first | exact .inl rfl | exact .inr rfl) (by first | exact .inl rfl | exact .inr rfl) .nil)))
    (sd_one (sd_set (i := 5) sc__law_is_in.nd rfl (by first | exact .inl rfl | exact .inr rfl) (pd_fn h__law_behind (hr.mono (by decide)) rfl px (ad_cons (pd 6) (ad_cons (pd 5) (ad_cons (pd 7) ad_nil)))) (hf := (by first | exact .inl rfl | exact .inr rfl)))))
  (sd_one (sd_ret (pd 5))))))))) (fun ds T R q => ?_)
  obtain ⟨dds, n, rfl, hl, h2, q⟩ := q
  refine ⟨rfl, ?_⟩
  walk_at "dl"
  rw [← List.map_reverse]
  refine forD_ind (enc := dD) (fun rest ρ => ∃ (m : Int) (acc : List Int) (u v : Option DV), ρ = [some (.v (.lst (dds.map dD))), some (.v (.int m)), some (.own (acc.map .int)), u, v, none, none, none] ∧
    acc ++ later rest m = n :: later dds.reverse n ∧ acc.length + rest.length = dds.length + 1) ?_ ?_ dds.reverse _ ⟨n, [n], none, none, rfl, rfl, by rw [List.length_reverse, List.length_singleton]; omega⟩
  · rintro ρ ⟨m, acc, u, v, rfl, h1, h3⟩
    rw [later, List.append_nil] at h1
    walk_at "dl"
    rw [cut_last, ← List.map_dropLast, h1, path_later, ← List.map_reverse, List.zip_map, List.map_map]
    have q' : T (.bl ((dds.zip (path dds.reverse n).reverse).foldl (fun b p => behind p.1 b p.2) false)) := by
      have := path_fold dds.reverse n
      rw [List.reverse_reverse] at this
      rw [this]
      exact q
    refine forD_ind (enc := fun p : Deed × Int => D.tup [dD p.1, .int p.2]) (fun rest ρ => ∃ (b : Bool) (x1 x2 x3 x4 x6 x7 x0 : Option DV), ρ = [x0, x1, x2, x3, x4, some (.v (.bl b)), x6, x7] ∧
      T (.bl (rest.foldl (fun b p => behind p.1 b p.2) b)) ∧ ∀ p ∈ rest, p.1 ∈ dds) ?_ ?_ _ _ ⟨false, _, _, _, _, _, _, _, rfl, q', fun p hp => (List.of_mem_zip (a := p.1) (b := p.2) hp).1⟩
    · rintro ρ ⟨b, x1, x2, x3, x4, x6, x7, x0, rfl, h, _⟩
      walk_at "dl"
      exact h
    · rintro ⟨d, z⟩ rest ρ k ⟨b, x1, x2, x3, x4, x6, x7, x0, rfl, h, h5⟩ hk
      simp only [gdTup, gdSet, dSet, dCall, dCons, dNil, dVar, List.length_cons, List.length_nil, List.set_cons_succ, List.set_cons_zero, List.getElem?_cons_succ, List.getElem?_cons_zero]
      refine ⟨trivial, d, b, z, rfl, h2 d (h5 (d, z) (by simp)), hk _ ⟨_, _, _, _, _, _, _, _, rfl, h, fun p hp => h5 p (List.mem_cons_of_mem _ hp)⟩⟩
  · rintro d rest ρ k ⟨m, acc, u, v, rfl, h1, h3⟩ hk
    have fin : ∀ m', back d m = m' → k [some (.v (.lst (dds.map dD))), some (.v (.int m')), some (.own ((acc.map D.int) ++ [D.int m'])), some (.v (.str (word d))), some (.v (thing d)), none, none, none] := fun m' e => hk _ ⟨m', acc ++ [m'], _, _, by rw [List.map_append]; rfl, by
        rw [← h1, later, e, List.append_assoc]; rfl, by rw [List.length_append, List.length_singleton]; rw [List.length_cons] at h3; omega⟩
    rw [List.length_cons] at h3
    have hs : (acc.map D.int).length < 16777216 := by rw [List.length_map]; omega
    walk_at "dl"
    simp only [word_mv, word_mi]
    cases d <;> (simp only [isMv, isMi, thing, dVar, Bool.false_eq_true, if_false, if_true, List.getElem?_cons_zero, List.getElem?_cons_succ, List.set_cons_zero, List.set_cons_succ]; exact ⟨hs, fin _ rfl⟩)

abbrev s__law_spots : Stmt := topS 39
theorem sc__law_spots : FnScope ["_law_deeds", "_law_found", "_law_word_here", "_law_thing", "_law_spot", "_law_first", "_law_last"] ["_law_deeds"] (defScope s__law_spots) := ⟨rfl, rfl, rfl, by decide +kernel, rfl, by decide +kernel, by decide +kernel⟩

theorem ok__law_spots {f : Addr} {fd : FuncData} (F : Fun K "_law_spots" "_law_spots" s__law_spots f fd) (nb : Nb mg)  : FnOk P w K mg base (L2.CX P w) 1 f fd ["_law_deeds"] (spD K C dp_spots) := by
  refine fnD F sc__law_spots (fun cdv A outer s H E hr =>
    (sd_cons (sd_set (i := 1) sc__law_spots.nd rfl (by first | exact .inl rfl | exact .inr rfl) (pd_lst ad_nil) (hf := (by first | exact .inl rfl | exact .inr rfl)))
  (sd_cons (sd_for ownD rfl (id_of (pd 0)) (gd_tup rfl sc__law_spots.nd (.cons (i := 2) rfl (by first | exact .inl rfl | exact .inr rfl) (by first | exact .inl rfl | exact .inr rfl) (.cons (i := 3) rfl (by first | exact .inl rfl | exact .inr rfl) (by first | exact .inl rfl | exact .inr rfl) .nil)))
    (sd_one (sd_if (qd_cmp (or_eq hr.units) ab_eq (pd 2) pd_str (nomark _)) (sd_one (sd_setLc (i := 1) rfl sc__law_spots.nd rfl rfl (sw_true rfl rfl rfl (by decide +kernel)) (id_of (pd 1)) (blkOk_by (own := [("_law_spot", 4)]) (N := ["_law_deeds", "_law_found", "_law_word_here", "_law_thing", "_law_spot", "_law_first", "_law_last"]) (sc := defScope s__law_spots) (by decide +kernel)) (fun _ _ _ _ _ => (gd_name (i := 4) sc__law_spots.nd rfl (by first | exact .inl rfl | exact .inr rfl))) (fun _ _ _ _ _ => ts_nil) (fun _ _ _ _ _ => (pd_op or_add ab_add (pd 4) (pd 3))))) (sd_one (sd_if (qd_cmp (or_eq hr.units) ab_eq (pd 2) pd_str (nomark _)) (sd_one (sd_setLc (i := 1) rfl sc__law_spots.nd rfl rfl (sw_true rfl rfl rfl (by decide +kernel)) (id_of (pd 1)) (blkOk_by (own := [("_law_spot", 4)]) (N := ["_law_deeds", "_law_found", "_law_word_here", "_law_thing", "_law_spot", "_law_first", "_law_last"]) (sc := defScope s__law_spots) (by decide +kernel)) (fun _ _ _ _ _ => (gd_name (i := 4) sc__law_spots.nd rfl (by first | exact .inl rfl | exact .inr rfl))) (fun _ _ _ _ _ => ts_nil) (fun _ _ _ _ _ => (pd_op op_sub ab_sub pd_int (pd 4))))) (sd_cons (sd_set (i := 1) sc__law_spots.nd rfl (by first | exact .inl rfl | exact .inr rfl) (pd_op or_add ab_add (pd 1) (pd_lc rfl sc__law_spots.nd (id_of (pd 3)) (blkOk_by (own := [("_law_first", 5), ("_law_last", 6)]) (N := ["_law_deeds", "_law_found", "_law_word_here", "_law_thing", "_law_spot", "_law_first", "_law_last"]) (sc := defScope s__law_spots) (by decide +kernel)) (fun _ _ _ _ _ => (gd_tup rfl sc__law_spots.nd (.cons (i := 5) rfl (by first | exact .inl rfl | exact .inr rfl) (by first | exact .inl rfl | exact .inr rfl) (.cons (i := 6) rfl (by first | exact .inl rfl | exact .inr rfl) (by first | exact .inl rfl | exact .inr rfl) .nil)))) (fun _ _ _ _ _ => (ts_one (qd_cmp or_isnot ab_isnot (pd 5) pd_non (nomark _)))) (fun _ _ _ _ _ => (pd 5)))) (hf := (by first | exact .inl rfl | exact .inr rfl)))
  (sd_one (sd_set (i := 1) sc__law_spots.nd rfl (by first | exact .inl rfl | exact .inr rfl) (pd_op or_add ab_add (pd 1) (pd_lc rfl sc__law_spots.nd (id_of (pd 3)) (blkOk_by (own := [("_law_first", 5), ("_law_last", 6)]) (N := ["_law_deeds", "_law_found", "_law_word_here", "_law_thing", "_law_spot", "_law_first", "_law_last"]) (sc := defScope s__law_spots) (by decide +kernel)) (fun _ _ _ _ _ => (gd_tup rfl sc__law_spots.nd (.cons (i := 5) rfl (by first | exact .inl rfl | exact .inr rfl) (by first | exact .inl rfl | exact .inr rfl) (.cons (i := 6) rfl (by first | exact .inl rfl | exact .inr rfl) (by first | exact .inl rfl | exact .inr rfl) .nil)))) (fun _ _ _ _ _ => (ts_one (qd_cmp or_isnot ab_isnot (pd 6) pd_non (nomark _)))) (fun _ _ _ _ _ => (pd_op or_add ab_add (pd 6) pd_int)))) (hf := (by first | exact .inl rfl | exact .inr rfl))))))))))
  (sd_one (sd_ret (pd_sset nb.sorted nb.set (pd 1))))))) (fun ds T R q => ?_)
  obtain ⟨dds, rfl, hf, q⟩ := q
  refine ⟨rfl, ?_⟩
  walk_at "dl"
  refine forD_ind (enc := dD) (fun rest ρ => ∃ (acc : List Int) (u v : Option DV), ρ = [some (.v (.lst (dds.map dD))), some (.v (.lst (acc.map .int))), u, v, none, none, none] ∧
    rest.foldl spotsS acc = spots dds ∧ ∀ d ∈ rest, lenD d ≤ 1000000) ?_ ?_ dds _ ⟨[], none, none, rfl, rfl, hf.each⟩
  · rintro ρ ⟨acc, u, v, rfl, h1, h2⟩
    have h1' : acc = spots dds := h1
    obtain ⟨U, hU, hb⟩ := hf.few
    walk_at "dl"
    exact ⟨acc, U, rfl, by rw [h1']; exact hU, hb, by rw [h1']; exact q⟩
  · rintro d rest ρ k ⟨acc, u, v, rfl, h1, h2⟩ hk
    have h1' : rest.foldl spotsS (spotsS acc d) = spots dds := h1
    have ha : acc.length ≤ 1000000 := by
      have := spots_grow (d :: rest) acc
      rw [h1] at this
      have := hf.sp
      omega
    have hd := h2 d List.mem_cons_self
    have fin : ∀ {xs : List D} {u' v' : Option DV}, xs = (spotsS acc d).map .int → k [some (.v (.lst (dds.map dD))), some (.v (.lst xs)), u', v', none, none, none] := fun {xs u' v'} e => hk _ ⟨spotsS acc d, u', v', by rw [e], h1', fun e he => h2 e (List.mem_cons_of_mem _ he)⟩
    have four : ∀ (ss : List Str2) (w : Option DV), ss.length ≤ 1000000 → (∀ {xs : List D} {u' v' : Option DV}, xs = (acc ++ ends ss).map .int → k [some (.v (.lst (dds.map dD))), some (.v (.lst xs)), u', v', none, none, none]) →
        (ss.map sD).length ≤ 16777216 ∧ lcD (gdTup [5, 6]) (dTru (dBin dIsNot (dVar 5) (dC D.non))) (dVar 5) [some (.v (.lst (dds.map dD))), some (.v (.lst (acc.map .int))), w, some (.v (.lst (ss.map sD))), none, none, none]
          (fun a1 => (acc.map D.int).length + a1.length ≤ 16777216 ∧ (ss.map sD).length ≤ 16777216 ∧
            lcD (gdTup [5, 6]) (dTru (dBin dIsNot (dVar 6) (dC D.non))) (dBin dAdd (dVar 6) (dC (D.int 1))) [some (.v (.lst (dds.map dD))), some (.v (.lst (acc.map .int ++ a1))), w, some (.v (.lst (ss.map sD))), none, none, none]
              (fun a2 => (acc.map D.int).length + a1.length + a2.length ≤ 16777216 ∧ k [some (.v (.lst (dds.map dD))), some (.v (.lst (acc.map .int ++ a1 ++ a2))), w, some (.v (.lst (ss.map sD))), none, none, none])
              (ss.map sD) []) (ss.map sD) [] := fun ss w hl fin => by
      have l1 : (ss.filterMap fun s : Str2 => s.1.map D.int).length ≤ ss.length := List.length_filterMap_le _ _
      have l2 : (ss.filterMap fun s : Str2 => s.2.map fun z => D.int (z + 1)).length ≤ ss.length := List.length_filterMap_le _ _
      refine ⟨by rw [List.length_map]; omega, lcD_map (enc := sD) (f := fun s => s.1.map .int) ss (fun s _ k1 k2 h => ?_) ?_⟩
      · obtain ⟨a, b⟩ := s
        cases a <;> (walk_at "dl"; exact h)
      · rw [List.nil_append]
        refine ⟨by rw [List.length_map]; omega, by rw [List.length_map]; omega, lcD_map (enc := sD) (f := fun s => s.2.map fun z => D.int (z + 1)) ss (fun s _ k1 k2 h => ?_) ?_⟩
        · obtain ⟨a, b⟩ := s
          cases b <;> (walk_at "dl"; exact h)
        · rw [List.nil_append]
          refine ⟨by rw [List.length_map]; omega, fin ?_⟩
          unfold ends
          rw [List.map_append, List.map_append, List.append_assoc, List.map_filterMap, List.map_map, List.map_filterMap]
          rfl
    cases d with
    | put ss =>
      have hl : ss.length ≤ 1000000 := hd
      have m1 := word_mv (.put ss)
      have m2 := word_mi (.put ss)
      simp only [isMv, isMi] at m1 m2
      walk_at "dl"
      simp only [thing, ssD, m1, m2, Bool.false_eq_true, if_false]
      exact four ss _ hl fin
    | take ss =>
      have hl : ss.length ≤ 1000000 := hd
      have m1 := word_mv (.take ss)
      have m2 := word_mi (.take ss)
      simp only [isMv, isMi] at m1 m2
      walk_at "dl"
      simp only [thing, ssD, m1, m2, Bool.false_eq_true, if_false]
      exact four ss _ hl fin
    | keep ss =>
      have hl : ss.length ≤ 1000000 := hd
      have m1 := word_mv (.keep ss)
      have m2 := word_mi (.keep ss)
      simp only [isMv, isMi] at m1 m2
      walk_at "dl"
      simp only [thing, ssD, m1, m2, Bool.false_eq_true, if_false]
      exact four ss _ hl fin
    | turn ss =>
      have hl : ss.length ≤ 1000000 := hd
      have m1 := word_mv (.turn ss)
      have m2 := word_mi (.turn ss)
      simp only [isMv, isMi] at m1 m2
      walk_at "dl"
      simp only [thing, ssD, m1, m2, Bool.false_eq_true, if_false]
      exact four ss _ hl fin
    | move z =>
      have m1 := word_mv (.move z)
      simp only [isMv] at m1
      walk_at "dl"
      simp only [thing, m1, if_true]
      refine ⟨by rw [List.length_map]; omega, lcD_map (enc := D.int) (f := fun s => some (.int (s + z))) acc (fun s _ k1 k2 h => ?_) ?_⟩
      · walk_at "dl"
        exact h
      · rw [filterMap_some, List.nil_append]
        exact fin (by rw [spotsS, List.map_map]; rfl)
    | mirror =>
      have m1 := word_mv .mirror
      have m2 := word_mi .mirror
      simp only [isMv, isMi] at m1 m2
      walk_at "dl"
      simp only [thing, m1, m2, if_true, Bool.false_eq_true, if_false]
      refine ⟨by rw [List.length_map]; omega, lcD_map (enc := D.int) (f := fun s => some (.int (1 - s))) acc (fun s _ k1 k2 h => ?_) ?_⟩
      · walk_at "dl"
        exact h
      · rw [filterMap_some, List.nil_append]
        exact fin (by rw [spotsS, List.map_map]; rfl)

abbrev s__law_due : Stmt := topS 40
theorem sc__law_due : FnScope ["_law_deeds", "_law_spots_here", "_law_found", "_law_first", "_law_is_open", "_law_spot"] ["_law_deeds"] (defScope s__law_due) := ⟨rfl, rfl, rfl, by decide +kernel, rfl, by decide +kernel, by decide +kernel⟩

theorem ok__law_due {f : Addr} {fd : FuncData} (F : Fun K "_law_due" "_law_due" s__law_due f fd) (nb : Nb mg)  (h__law_is_in : Fc P w K mg base C 3 "_law_is_in" dp_in) (h__law_spots : Fc P w K mg base C 1 "_law_spots" dp_spots) : FnOk P w K mg base (L2.CX P w) 4 f fd ["_law_deeds"] (spD K C dp_due) := by
  refine fnD F sc__law_due (fun cdv A outer s H E hr =>
    (sd_cons (sd_set (i := 1) sc__law_due.nd rfl (by first | exact .inl rfl | exact .inr rfl) (pd_fn h__law_spots (hr.mono (by decide)) rfl px (ad_cons (pd 0) ad_nil)) (hf := (by first | exact .inl rfl | exact .inr rfl)))
  (sd_cons (sd_own (i := 2) sc__law_due.nd rfl (by first | exact .inl rfl | exact .inr rfl) ad_nil (hf := (by first | exact .inl rfl | exact .inr rfl)))
  (sd_cons (sd_set (i := 3) sc__law_due.nd rfl (by first | exact .inl rfl | exact .inr rfl) pd_non (hf := (by first | exact .inl rfl | exact .inr rfl)))
  (sd_cons (sd_set (i := 4) sc__law_due.nd rfl (by first | exact .inl rfl | exact .inr rfl) (pd_fn h__law_is_in (hr.mono (by decide)) rfl px (ad_cons (pd 0) (ad_cons (pd_op op_sub ab_sub (pd_ix (pd_op or_add ab_add (pd 1) (pd_lst (ad_cons pd_int ad_nil))) pd_int (fun _ _ => rfl)) pd_int) ad_nil))) (hf := (by first | exact .inl rfl | exact .inr rfl)))
  (sd_cons (sd_for ownD rfl (id_of (pd 1)) (gd_name (i := 5) sc__law_due.nd rfl (by first | exact .inl rfl | exact .inr rfl))
    (sd_one (sd_if (qd_cmp (or_ne hr.units) ab_ne (pd_fn h__law_is_in (hr.mono (by decide)) rfl px (ad_cons (pd 0) (ad_cons (pd 5) ad_nil))) (pd 4) (nomark _)) (sd_cons (sd_if (qd_val (pd 4)) (sd_one (sd_app (i := 2) (pv 2) (pd_tup (ad_cons (pd 3) (ad_cons (pd_op op_sub ab_sub (pd 5) pd_int) ad_nil))) (fun _ h => pe_bm PySem.F.plainAttrs_list PySem.F.slot_list_append PySem.F.type_list_append mt_append (pv 2) (pa_cons h pa_nil)))) sd_nil)
  (sd_cons (sd_set (i := 3) sc__law_due.nd rfl (by first | exact .inl rfl | exact .inr rfl) (pd 5) (hf := (by first | exact .inl rfl | exact .inr rfl)))
  (sd_one (sd_set (i := 4) sc__law_due.nd rfl (by first | exact .inl rfl | exact .inr rfl) (pd_not (pd 4)) (hf := (by first | exact .inl rfl | exact .inr rfl)))))) sd_nil)))
  (sd_frz 2 (sd_one (sd_ret (pd_op or_add ab_add (pd 2) (pd_op or_mul ab_mul (pd_lst (ad_cons (pd_tup (ad_cons (pd 3) (ad_cons pd_non ad_nil))) ad_nil)) (pd_int1 nb.int (ad_cons (pd 4) ad_nil))))))))))))) (fun ds T R q => ?_)
  obtain ⟨dds, rfl, hf, q⟩ := q
  refine ⟨rfl, ?_⟩
  walk_at "dl"
  refine ⟨dds, rfl, hf, ?_⟩
  have hl : (sset (spots dds)).length ≤ 1000000 := Nat.le_trans (sset_len _) hf.sp
  have qe : due dds = strL (dueB dds (sset (spots dds))) none (SK.scan (inD dds) (dueB dds (sset (spots dds))) (sset (spots dds))) := rfl
  have hb : dueB dds (sset (spots dds)) = inD dds (((sset (spots dds)) ++ [0]).headD 0 - 1) := rfl
  generalize sset (spots dds) = ss at hl qe hb
  walk_at "dl"
  refine ⟨by rw [List.length_map]; omega, .int ((ss ++ [0]).headD 0), by cases ss with
    | nil => rfl
    | cons s ss => exact atI_0 _ _, dds, _, rfl, hf.many, hf.each, ?_⟩
  rw [← hb]
  refine forD_ind (enc := D.int) (fun rest ρ => ∃ (done : List Str2) (first : Option Int) (o : Bool) (x1 u : Option DV), ρ = [some (.v (.lst (dds.map dD))), x1, some (.own (done.map sD)), some (.v (oi first)), some (.v (.bl o)), u] ∧
    done ++ strL o first (SK.scan (inD dds) o rest) = due dds ∧ done.length + rest.length ≤ ss.length) ?_ ?_ ss _ ⟨[], none, _, _, none, rfl, qe.symm, by simp⟩
  · rintro ρ ⟨done, first, o, x1, u, rfl, h1, h2⟩
    rw [← h1] at q
    rw [List.length_nil] at h2
    cases o with
    | true =>
      walk_at "dl"
      refine ⟨by decide, by decide, by decide, by simp only [List.length_map]; show _ + 1 ≤ _; omega, ?_⟩
      simp only [ssD, List.map_append] at q
      exact q
    | false =>
      walk_at "dl"
      refine ⟨by decide, by decide, by decide, by simp only [List.length_map]; show _ + 0 ≤ _; omega, ?_⟩
      simp only [ssD, List.map_append] at q
      exact q
  · rintro x xs ρ k ⟨done, first, o, x1, u, rfl, h1, h2⟩ hk
    rw [List.length_cons] at h2
    walk_at "dl"
    refine ⟨dds, x, rfl, hf.many, hf.each, okE_bl _, okE_bl _, ?_⟩
    by_cases e : inD dds x = o
    · simp only [eqD_bl, e, decide_true, Bool.not_true, Bool.false_eq_true, if_false]
      rw [SK.scan, if_neg (fun z => z e)] at h1
      exact hk _ ⟨done, first, o, x1, _, rfl, h1, by omega⟩
    · simp only [eqD_bl, e, decide_false, Bool.not_false, if_true]
      rw [SK.scan, if_pos e] at h1
      cases o with
      | true =>
        have e2 : inD dds x = false := by cases h : inD dds x <;> simp_all
        rw [e2] at h1
        simp only [if_true]
        refine ⟨by simp only [List.length_map]; omega, hk _ ⟨done ++ [(first, some (x - 1))], some x, false, x1, some (.v (.int x)), ?_, by rw [← h1, List.append_assoc]; rfl, by rw [List.length_append]; simp only [List.length_singleton]; omega⟩⟩
        rw [List.map_append]
        rfl
      | false =>
        have e2 : inD dds x = true := by cases h : inD dds x <;> simp_all
        rw [e2] at h1
        simp only [Bool.false_eq_true, if_false]
        exact hk _ ⟨done, some x, true, x1, some (.v (.int x)), rfl, by rw [← h1]; rfl, by omega⟩

abbrev s_merged : Stmt := topS 18
theorem sc_merged : FnScope ["one", "other", "rule", "ins", "turns", "number", "row", "begins", "is_in", "found"] ["one", "other", "rule"] (defScope s_merged) := ⟨rfl, rfl, rfl, by decide +kernel, rfl, by decide +kernel, by decide +kernel⟩

theorem ok_merged {f : Addr} {fd : FuncData} (F : Fun K "merged" "merged" s_merged f fd) (nb : Nb mg) {f_ : Bool → Bool → Bool} {fr : Addr} (F_rule : Fa P w K mg base C 1 fr (dp_rule f_)) : FnOk P w K mg base (L2.CX P w) 2 f fd ["one", "other", "rule"] (spD K C (dp_merged f_ fr)) := by
  refine fnD F sc_merged (fun cdv A outer s H E hr =>
    (sd_cons (sd_set (i := 3) sc_merged.nd rfl (by first | exact .inl rfl | exact .inr rfl) (pd_tup (ad_cons (pd_ix (pd 0) pd_int (fun _ _ => rfl)) (ad_cons (pd_ix (pd 1) pd_int (fun _ _ => rfl)) ad_nil))) (hf := (by first | exact .inl rfl | exact .inr rfl)))
  (sd_cons (sd_setLc (i := 4) rfl sc_merged.nd rfl rfl (sw_true rfl rfl rfl (by decide +kernel)) (id_of (pd_tup (ad_cons (pd 0) (ad_cons (pd 1) ad_nil)))) (blkOk_by (own := [("row", 6)]) (N := ["one", "other", "rule", "ins", "turns", "number", "row", "begins", "is_in", "found"]) (sc := defScope s_merged) (by decide +kernel)) (fun _ _ _ _ _ => (gd_name (i := 6) sc_merged.nd rfl (by first | exact .inl rfl | exact .inr rfl))) (fun _ _ _ _ _ => ts_nil) (fun _ _ _ _ _ => (pd_dict nb.dict (ad_cons (pd_lc rfl sc_merged.nd (id_of (pd_ix (pd 6) pd_int (fun _ _ => rfl))) (blkOk_by (own := [("number", 5)]) (N := ["one", "other", "rule", "ins", "turns", "number", "row", "begins", "is_in", "found"]) (sc := lcScope (asgVal ((defBody s_merged).getD 1 (.Pass ⟨0, 0, 0, 0⟩)))) (by decide +kernel)) (fun _ _ _ _ _ => (gd_name (i := 5) sc_merged.nd rfl (by first | exact .inl rfl | exact .inr rfl))) (fun _ _ _ _ _ => ts_nil) (fun _ _ _ _ _ => (pd_tup (ad_cons (pd 5) (ad_cons pd_bl ad_nil))))) ad_nil))))
  (sd_cons (sd_set (i := 7) sc_merged.nd rfl (by first | exact .inl rfl | exact .inr rfl) (pd_callL 2 F_rule (hr.mono (by decide)) px (ad_cons (pd_ix (pd 3) pd_int (fun _ _ => rfl)) (ad_cons (pd_ix (pd 3) pd_int (fun _ _ => rfl)) ad_nil))) (hf := (by first | exact .inl rfl | exact .inr rfl)))
  (sd_cons (sd_set (i := 8) sc_merged.nd rfl (by first | exact .inl rfl | exact .inr rfl) (pd 7) (hf := (by first | exact .inl rfl | exact .inr rfl)))
  (sd_cons (sd_own (i := 9) sc_merged.nd rfl (by first | exact .inl rfl | exact .inr rfl) ad_nil (hf := (by first | exact .inl rfl | exact .inr rfl)))
  (sd_cons (sd_for ownD rfl (id_of (pd_sset nb.sorted nb.set (pd_op or_add ab_add (pd_ix (pd 0) pd_int (fun _ _ => rfl)) (pd_ix (pd 1) pd_int (fun _ _ => rfl))))) (gd_name (i := 5) sc_merged.nd rfl (by first | exact .inl rfl | exact .inr rfl))
    (sd_cons (sd_set (i := 3) sc_merged.nd rfl (by first | exact .inl rfl | exact .inr rfl) (pd_tup (ad_cons (pd_cmp (or_ne hr.units) ab_ne (pd_ix (pd 3) pd_int (fun _ _ => rfl)) (pd_ind (hu_of hr) (pd 5) (pd_ix (pd 4) pd_int (fun _ _ => rfl))) (nomark _)) (ad_cons (pd_cmp (or_ne hr.units) ab_ne (pd_ix (pd 3) pd_int (fun _ _ => rfl)) (pd_ind (hu_of hr) (pd 5) (pd_ix (pd 4) pd_int (fun _ _ => rfl))) (nomark _)) ad_nil))) (hf := (by first | exact .inl rfl | exact .inr rfl)))
  (sd_one (sd_if (qd_cmp (or_ne hr.units) ab_ne (pd_callL 2 F_rule (hr.mono (by decide)) px (ad_cons (pd_ix (pd 3) pd_int (fun _ _ => rfl)) (ad_cons (pd_ix (pd 3) pd_int (fun _ _ => rfl)) ad_nil))) (pd 8) (nomark _)) (sd_cons (sd_app (i := 9) (pv 9) (pd 5) (fun _ h => pe_bm PySem.F.plainAttrs_list PySem.F.slot_list_append PySem.F.type_list_append mt_append (pv 9) (pa_cons h pa_nil)))
  (sd_one (sd_set (i := 8) sc_merged.nd rfl (by first | exact .inl rfl | exact .inr rfl) (pd_not (pd 8)) (hf := (by first | exact .inl rfl | exact .inr rfl))))) sd_nil))))
  (sd_frz 9 (sd_one (sd_ret (pd_tup (ad_cons (pd 7) (ad_cons (pd 9) ad_nil))))))))))))) (fun ds T R q => ?_)
  obtain ⟨r1, r2, rfl, hf, q⟩ := q
  refine ⟨rfl, ?_⟩
  obtain ⟨hl1, hl2⟩ := KRow.few hf
  obtain ⟨U, u1, u2, u3⟩ := hf
  walk_at "dl"
  refine lcD_map (enc := fun x : Bool × List Int => D.tup [.bl x.1, .lst (x.2.map .int)]) (f := fun x => some (idic x.2)) [(r1.b, r1.ts), (r2.b, r2.ts)] (fun x hx k1 k2 h => ?_) ?_
  · have hx' : x.2.length ≤ 4096 ∧ x.2.Nodup := by
      simp only [List.mem_cons, List.not_mem_nil, or_false] at hx
      rcases hx with rfl | rfl
      · exact ⟨hl1, r1.up.imp fun a => Int.ne_of_lt a⟩
      · exact ⟨hl2, r2.up.imp fun a => Int.ne_of_lt a⟩
    walk_at "dl"
    refine ⟨by rw [List.length_map]; omega, lcD_map (enc := D.int) (f := fun n => some (.tup [.int n, .bl true])) x.2 (fun n _ k1 k2 h => ?_) ?_⟩
    · walk_at "dl"
      exact h
    · rw [filterMap_some, List.nil_append]
      exact dDict_ints hx'.2 h
  · rw [filterMap_some, List.nil_append]
    refine ⟨r1.b, r2.b, rfl, ?_⟩
    refine ⟨by rw [List.length_map, List.length_map]; omega, r1.ts ++ r2.ts, U, by rw [List.map_append], fun k hk => (List.mem_append.mp hk).elim (u1 k) (u2 k), u3, ?_⟩
    have hss : ∀ n, n ∈ sset (r1.ts ++ r2.ts) ↔ n ∈ r1.ts ∨ n ∈ r2.ts := fun n => by rw [mem_sset, List.mem_append]
    have hsl : (sset (r1.ts ++ r2.ts)).length ≤ 8192 := by
      have := sset_len (r1.ts ++ r2.ts)
      rw [List.length_append] at this
      omega
    have hup := sset_up (r1.ts ++ r2.ts)
    have qe : (mergeR f_ r1 r2).ts = SK.scan (fun n => f_ (isIn r1.b r1.ts n) (isIn r2.b r2.ts n)) (f_ r1.b r2.b) (sset (r1.ts ++ r2.ts)) := rfl
    generalize sset (r1.ts ++ r2.ts) = ss at hss hsl hup qe
    obtain ⟨lo, hlo⟩ := exists_below ss
    have e1 : isIn r1.b r1.ts lo = r1.b := isIn_lt fun t ht => hlo t ((hss t).mpr (.inl ht))
    have e2 : isIn r2.b r2.ts lo = r2.b := isIn_lt fun t ht => hlo t ((hss t).mpr (.inr ht))
    refine forD_ind (enc := D.int) (fun rest ρ => ∃ (lo : Int) (found : List Int) (o : Bool) (x0 x1 x5 x6 : Option DV), ρ = [x0, x1, some (.v (.adr fr)), some (.v (.tup [.bl (isIn r1.b r1.ts lo), .bl (isIn r2.b r2.ts lo)])),
        some (.v (.lst [idic r1.ts, idic r2.ts])), x5, x6, some (.v (.bl (f_ r1.b r2.b))), some (.v (.bl o)), some (.own (found.map .int))] ∧ (∀ n, n ∈ r1.ts ∨ n ∈ r2.ts → n ∈ rest ∨ n ≤ lo) ∧ (∀ t ∈ rest, lo < t) ∧ Up rest ∧
        found ++ SK.scan (fun n => f_ (isIn r1.b r1.ts n) (isIn r2.b r2.ts n)) o rest = (mergeR f_ r1 r2).ts ∧ found.length + rest.length ≤ 8192) ?_ ?_ ss _ ⟨lo, [], f_ r1.b r2.b, _, _, none, none, by rw [e1, e2]; rfl, fun n hn => .inl ((hss n).mpr hn), hlo, hup, qe.symm, by simpa using hsl⟩
    · rintro ρ ⟨lo, found, o, x0, x1, x5, x6, rfl, _, _, _, h, _⟩
      rw [SK.scan, List.append_nil] at h
      walk_at "dl"
      rw [h]
      exact q
    · rintro x xs ρ k ⟨lo, found, o, x0, x1, x5, x6, rfl, g1, g2, g3, g4, g5⟩ hk
      have g3' := List.pairwise_cons.mp g3
      have gl := g2 x List.mem_cons_self
      have s1 := step_in (b := r1.b) (s := x) r1.up (fun t ht => (g1 t (.inl ht)).elim (fun z => by
        rcases List.mem_cons.mp z with rfl | z
        · exact .inr (Int.le_refl _)
        · have := g3'.1 t z; right; omega) .inl) gl
      have s2 := step_in (b := r2.b) (s := x) r2.up (fun t ht => (g1 t (.inr ht)).elim (fun z => by
        rcases List.mem_cons.mp z with rfl | z
        · exact .inr (Int.le_refl _)
        · have := g3'.1 t z; right; omega) .inl) gl
      rw [List.length_cons] at g5
      simp only [idic]
      walk_at "dl"
      simp only [hasK_int]
      refine ⟨okE_bl _, okE_bl _, okE_bl _, okE_bl _, isIn r1.b r1.ts x, isIn r2.b r2.ts x, ?_, okE_bl _, okE_bl _, ?_⟩
      · rw [← bne_dec, ← bne_dec, s1, s2]
      · rw [← bne_dec, ← bne_dec, s1, s2]
        have kk : ∀ (found' : List Int) (o' : Bool), found' ++ SK.scan (fun n => f_ (isIn r1.b r1.ts n) (isIn r2.b r2.ts n)) o' xs = (mergeR f_ r1 r2).ts → found'.length + xs.length ≤ 8192 → k [x0, x1, some (.v (.adr fr)), some (.v (.tup [.bl (isIn r1.b r1.ts x), .bl (isIn r2.b r2.ts x)])),
            some (.v (.lst [idic r1.ts, idic r2.ts])), some (.v (.int x)), x6, some (.v (.bl (f_ r1.b r2.b))), some (.v (.bl o')), some (.own (found'.map .int))] := fun found' o' z1 z2 =>
          hk _ ⟨x, found', o', x0, x1, _, x6, rfl, fun n hn => (g1 n hn).elim (fun z => by
            rcases List.mem_cons.mp z with rfl | z
            · exact .inr (Int.le_refl _)
            · exact .inl z) (fun z => .inr (by omega)), g3'.1, g3'.2, z1, z2⟩
        rw [eqD_bl]
        rw [SK.scan] at g4
        by_cases e : f_ (isIn r1.b r1.ts x) (isIn r2.b r2.ts x) = o
        · rw [decide_eq_true e]
          rw [if_neg (fun z => z e)] at g4
          exact kk found o g4 (by omega)
        · rw [decide_eq_false e]
          rw [if_pos e] at g4
          have eo : f_ (isIn r1.b r1.ts x) (isIn r2.b r2.ts x) = !o := by cases h1 : f_ (isIn r1.b r1.ts x) (isIn r2.b r2.ts x) <;> cases o <;> simp_all
          rw [eo] at g4
          refine ⟨by rw [List.length_map]; omega, ?_⟩
          have := kk (found ++ [x]) (!o) (by rw [← g4, List.append_assoc]; rfl) (by rw [List.length_append]; simp only [List.length_singleton]; omega)
          rw [List.map_append] at this
          exact this

abbrev s_Keeper_ruled : Stmt := inClass (topS 20) 1
theorem sc_Keeper_ruled : FnScope ["self", "row", "rule", "0a"] ["self", "row", "rule"] (defScope s_Keeper_ruled) := ⟨rfl, rfl, rfl, by decide +kernel, rfl, by decide +kernel, by decide +kernel⟩

theorem ok_Keeper_ruled {f : Addr} {fd : FuncData} (F : Fun K "ruled" "Keeper.ruled" s_Keeper_ruled f fd) (nb : Nb mg) {f_ : Bool → Bool → Bool} {fr : Addr} (T0 : Kp K mg C) (h_merged : Fc P w K mg base C 2 "merged" (dp_merged f_ fr)) : FnOk P w K mg base (L2.CX P w) 3 f fd ["self", "row", "rule"] (spM K C (dm_ruled f_ fr)) := by
  refine fnM 3 F sc_Keeper_ruled (fun cdv A outer s H E hr =>
    (sm_one (sm_setBT 3 rfl T0 (pd 0) (pd 0) (pd_fn h_merged (hr.mono (by decide)) rfl px (ad_cons (pd_tup (ad_cons (pd_sB 3 T0 (pd 0)) (ad_cons (pd_sT 3 T0 (pd 0)) ad_nil))) (ad_cons (pd 1) (ad_cons (pd 2) ad_nil))))))) (fun a b ts ds T R q => ?_)
  obtain ⟨r, r2, rfl, rfl, rfl, hf, q⟩ := q
  refine ⟨rfl, ?_⟩
  walk_at "dl"
  refine ⟨r, r2, rfl, hf, ?_⟩
  walk_at "dl"
  exact ⟨_, rfl, _, _, rfl, q⟩

abbrev s_is_number : Stmt := topS 9
theorem sc_is_number : FnScope ["thing"] ["thing"] (defScope s_is_number) := ⟨rfl, rfl, rfl, by decide +kernel, rfl, by decide +kernel, by decide +kernel⟩

theorem ok_is_number {f : Addr} {fd : FuncData} (F : Fun K "is_number" "is_number" s_is_number f fd) (nb : Nb mg)  : FnOk P w K mg base (L2.CX P w) 1 f fd ["thing"] (spD K C dp_is_number) := by
  refine fnD F sc_is_number (fun cdv A outer s H E hr =>
    (sd_one (sd_ret (pd_and (pd_isi nb.isinstance (ad_cons (pd 0) (ad_cons (pd_cls rfl nb.int bt_int) ad_nil))) (pd_one (pd_not (pd_isi nb.isinstance (ad_cons (pd 0) (ad_cons (pd_cls rfl nb.bool bt_bool) ad_nil))))))))) (fun ds T R q => ?_)
  obtain ⟨d, rfl, h, q⟩ := q
  refine ⟨rfl, ?_⟩
  walk_at "dl"
  obtain ⟨t, ht⟩ := Option.isSome_iff_exists.mp h
  refine ⟨t, ht, by decide, ?_⟩
  cases d <;> first | (cases ht; done) | (cases ht; first | exact q | exact ⟨_, rfl, by decide, q⟩)

abbrev s_is_stretch : Stmt := topS 11
theorem sc_is_stretch : FnScope ["thing", "first", "last"] ["thing"] (defScope s_is_stretch) := ⟨rfl, rfl, rfl, by decide +kernel, rfl, by decide +kernel, by decide +kernel⟩

theorem ok_is_stretch {f : Addr} {fd : FuncData} (F : Fun K "is_stretch" "is_stretch" s_is_stretch f fd) (nb : Nb mg)  (h_is_number : Fc P w K mg base C 1 "is_number" dp_is_number) : FnOk P w K mg base (L2.CX P w) 2 f fd ["thing"] (spD K C dp_is_stretch) := by
  refine fnD F sc_is_stretch (fun cdv A outer s H E hr =>
    (sd_cons (sd_if (PW.pt (wd_or (qd_not (qd_val (pd_isi nb.isinstance (ad_cons (pd 0) (ad_cons (pd_cls rfl nb.tuple bt_tuple) ad_nil))))) (wd_or1 (qd_cmp (or_ne hr.units) ab_ne (pd_len nb.len (ad_cons (pd 0) ad_nil)) pd_int (nomark _))))) (sd_one (sd_ret pd_bl)) sd_nil)
  (sd_cons (sd_asg (pd 0) (gd_tup rfl sc_is_stretch.nd (.cons (i := 1) rfl (by first | exact .inl rfl | exact .inr rfl) (by first | exact .inl rfl | exact .inr rfl) (.cons (i := 2) rfl (by first | exact .inl rfl | exact .inr rfl) (by first | exact .inl rfl | exact .inr rfl) .nil))))
  (sd_cons (sd_if (PW.pt (wd_or (PW.pt (wd_and (qd_cmp or_isnot ab_isnot (pd 1) pd_non (nomark _)) (wd_and1 (qd_not (qd_val (pd_fn h_is_number (hr.mono (by decide)) rfl px (ad_cons (pd 1) ad_nil))))))) (wd_or1 (PW.pt (wd_and (qd_cmp or_isnot ab_isnot (pd 2) pd_non (nomark _)) (wd_and1 (qd_not (qd_val (pd_fn h_is_number (hr.mono (by decide)) rfl px (ad_cons (pd 2) ad_nil)))))))))) (sd_one (sd_ret pd_bl)) sd_nil)
  (sd_one (sd_ret (pd_or (pd_cmp or_is ab_is (pd 1) pd_non (nomark _)) (pd_or (pd_cmp or_is ab_is (pd 2) pd_non (nomark _)) (pd_one (pd_cmp op_le (ab_cmpI _) (pd 1) (pd 2) (nomark _))))))))))) (fun ds T R q => ?_)
  obtain ⟨d, rfl, ⟨h, h2⟩, q⟩ := q
  refine ⟨rfl, ?_⟩
  cases d with
  | tup ds =>
    by_cases hl : ds.length = 2
    · obtain ⟨a, b, rfl⟩ : ∃ a b, ds = [a, b] := by
        match ds, hl with
        | [a, b], _ => exact ⟨a, b, rfl⟩
      have ha := h2 _ rfl a (by simp)
      have hb := h2 _ rfl b (by simp)
      walk_at "dl"
      refine ⟨_, rfl, by decide, ?_⟩
      rw [if_neg (by decide)]
      refine ⟨okE_int _, okE_int _, ?_⟩
      rw [dp_is_number_eq ha, dp_is_number_eq hb]
      rcases end_cases a with rfl | ⟨i, rfl⟩ | ⟨a1, a2⟩ <;> rcases end_cases b with rfl | ⟨j, rfl⟩ | ⟨b1, b2⟩
      all_goals (simp_all [isStr, isEnd_no, isEnd_non, isEnd_int, isN_non, isN_int, isNum_non, isNum_int, leD_nx, leD_in, leD_ii]; done)
    · walk_at "dl"
      refine ⟨_, rfl, by decide, ?_⟩
      rw [if_neg (by decide)]
      refine ⟨okE_int _, okE_int _, ?_⟩
      have e : ((ds.length : Int) = 2) = False := by simp; omega
      have q' : T (.bl false) := by
        match ds, hl, q with
        | [], _, q => exact q
        | [_], _, q => exact q
        | _ :: _ :: _ :: _, _, q => exact q
      simp only [e, decide_false, Bool.not_false, if_true]
      exact q'
  | _ => first | (cases h; done) | exact ⟨_, rfl, by decide, q⟩

abbrev s_need_stretch : Stmt := topS 12
theorem sc_need_stretch : FnScope ["thing"] ["thing"] (defScope s_need_stretch) := ⟨rfl, rfl, rfl, by decide +kernel, rfl, by decide +kernel, by decide +kernel⟩

theorem ok_need_stretch {f : Addr} {fd : FuncData} (F : Fun K "need_stretch" "need_stretch" s_need_stretch f fd) (nb : Nb mg) {bs : Addr} (ex_BadStretch : Exn K mg "BadStretch" bs) (h_is_stretch : Fc P w K mg base C 2 "is_stretch" dp_is_stretch) : FnOk P w K mg base (L2.CX P w) 3 f fd ["thing"] (spD K C (dp_need_stretch bs)) := by
  refine fnD F sc_need_stretch (fun cdv A outer s H E hr =>
    (sd_one (sd_if (qd_not (qd_val (pd_fn h_is_stretch (hr.mono (by decide)) rfl px (ad_cons (pd 0) ad_nil)))) (sd_one (sd_raise rfl tkD (pmk_exc ex_BadStretch rfl))) sd_nil))) (fun ds T R q => ?_)
  obtain ⟨d, rfl, h, q1, q2⟩ := q
  refine ⟨rfl, ?_⟩
  walk_at "dl"
  refine ⟨d, rfl, h, ?_⟩
  cases e : isStr d with
  | true => exact q1 e
  | false => exact q2 e

abbrev s_turns_of : Stmt := topS 19
theorem sc_turns_of : FnScope ["stretch", "found"] ["stretch"] (defScope s_turns_of) := ⟨rfl, rfl, rfl, by decide +kernel, rfl, by decide +kernel, by decide +kernel⟩

theorem ok_turns_of {f : Addr} {fd : FuncData} (F : Fun K "turns_of" "turns_of" s_turns_of f fd) (nb : Nb mg)  : FnOk P w K mg base (L2.CX P w) 1 f fd ["stretch"] (spD K C dp_turns_of) := by
  refine fnD F sc_turns_of (fun cdv A outer s H E hr =>
    (sd_cons (sd_own (i := 1) sc_turns_of.nd rfl (by first | exact .inl rfl | exact .inr rfl) ad_nil (hf := (by first | exact .inl rfl | exact .inr rfl)))
  (sd_cons (sd_if (qd_cmp or_isnot ab_isnot (pd_ix (pd 0) pd_int (fun _ _ => rfl)) pd_non (nomark _)) (sd_one (sd_app (i := 1) (pv 1) (pd_ix (pd 0) pd_int (fun _ _ => rfl)) (fun _ h => pe_bm PySem.F.plainAttrs_list PySem.F.slot_list_append PySem.F.type_list_append mt_append (pv 1) (pa_cons h pa_nil)))) sd_nil)
  (sd_cons (sd_if (qd_cmp or_isnot ab_isnot (pd_ix (pd 0) pd_int (fun _ _ => rfl)) pd_non (nomark _)) (sd_one (sd_app (i := 1) (pv 1) (pd_op or_add ab_add (pd_ix (pd 0) pd_int (fun _ _ => rfl)) pd_int) (fun _ h => pe_bm PySem.F.plainAttrs_list PySem.F.slot_list_append PySem.F.type_list_append mt_append (pv 1) (pa_cons h pa_nil)))) sd_nil)
  (sd_frz 1 (sd_one (sd_ret (pd_tup (ad_cons (pd_cmp or_is ab_is (pd_ix (pd 0) pd_int (fun _ _ => rfl)) pd_non (nomark _)) (ad_cons (pd 1) ad_nil)))))))))) (fun ds T R q => ?_)
  obtain ⟨⟨a, c⟩, rfl, q⟩ := q
  refine ⟨rfl, ?_⟩
  cases a <;> cases c <;> (walk_at "dl"; exact q)

abbrev s_Keeper_keep : Stmt := inClass (topS 20) 4
theorem sc_Keeper_keep : FnScope ["self", "stretch", "0a"] ["self", "stretch"] (defScope s_Keeper_keep) := ⟨rfl, rfl, rfl, by decide +kernel, rfl, by decide +kernel, by decide +kernel⟩

theorem ok_Keeper_keep {f : Addr} {fd : FuncData} (F : Fun K "keep" "Keeper.keep" s_Keeper_keep f fd) (nb : Nb mg) {bs fr : Addr} (T0 : Kp K mg C) (mg_both : mg "both" = some (.ref fr)) (h_ruled : Mm P w K mg base C 3 "ruled" (dm_ruled f_both fr)) (h_need_stretch : Fc P w K mg base C 3 "need_stretch" (dp_need_stretch bs)) (h_turns_of : Fc P w K mg base C 1 "turns_of" dp_turns_of) : FnOk P w K mg base (L2.CX P w) 4 f fd ["self", "stretch"] (spM K C (dm_put f_both bs)) := by
  refine fnM 2 F sc_Keeper_keep (fun cdv A outer s H E hr =>
    (sm_cons (sm_expr (pm_of (pd_fn h_need_stretch (hr.mono (by decide)) rfl px (ad_cons (pd 1) ad_nil))))
  (sm_one (sm_expr (pm_m 2 T0 h_ruled (hr.mono (by decide)) px (pd 0) (ad_cons (pd_fn h_turns_of (hr.mono (by decide)) rfl px (ad_cons (pd 1) ad_nil)) (ad_cons (pd_glob rfl mg_both) ad_nil))))))) (fun a b ts ds T R q => ?_)
  obtain ⟨r, d, rfl, rfl, rfl, q⟩ := q
  refine ⟨rfl, ?_⟩
  rcases q with ⟨s, h, rfl, hf, q⟩ | ⟨h1, h2, q⟩
  · walk_at "dl"
    refine ⟨_, rfl, okThing_sD s, fun _ => ?_, fun z => absurd (show isStr (sD s) = false from z) (by rw [isStr_sD, h]; decide)⟩
    walk_at "dl"
    refine ⟨s, rfl, ?_⟩
    walk_at "dl"
    exact ⟨r, sRow s h, rfl, rfl, rfl, hf, _, _, rfl, q⟩
  · walk_at "dl"
    exact ⟨d, rfl, h1, fun z => (by rw [h2] at z; cases z), fun _ => ⟨_, _, rfl, q⟩⟩

abbrev s_Keeper_mirror : Stmt := inClass (topS 20) 7
theorem sc_Keeper_mirror : FnScope ["self", "number", "0a"] ["self"] (defScope s_Keeper_mirror) := ⟨rfl, rfl, rfl, by decide +kernel, rfl, by decide +kernel, by decide +kernel⟩

theorem ok_Keeper_mirror {f : Addr} {fd : FuncData} (F : Fun K "mirror" "Keeper.mirror" s_Keeper_mirror f fd) (nb : Nb mg) (T0 : Kp K mg C) : FnOk P w K mg base (L2.CX P w) 1 f fd ["self"] (spM K C dm_mirror) := by
  refine fnM 2 F sc_Keeper_mirror (fun cdv A outer s H E hr =>
    (sm_cons (sm_if (qm_of (qd_cmp (or_eq hr.units) ab_eq (pd_op op_mod ab_mod (pd_len nb.len (ad_cons (pd_sT 2 T0 (pd 0)) ad_nil)) pd_int) pd_int (nomark _))) (sm_one (sm_setB 2 T0 (pd 0) (pd_not (pd_sB 2 T0 (pd 0))))) sm_nil)
  (sm_one (sm_setT 2 T0 (pd 0) (pd_lc rfl sc_Keeper_mirror.nd (id_rev rfl nb.reversed (ad_cons (pd_sT 2 T0 (pd 0)) ad_nil)) (blkOk_by (own := [("number", 1)]) (N := ["self", "number", "0a"]) (sc := defScope s_Keeper_mirror) (by decide +kernel)) (fun _ _ _ _ _ => (gd_name (i := 1) sc_Keeper_mirror.nd rfl (by first | exact .inl rfl | exact .inr rfl))) (fun _ _ _ _ _ => ts_nil) (fun _ _ _ _ _ => (pd_op op_sub ab_sub pd_int (pd 1)))))))) (fun a b ts ds T R q => ?_)
  obtain ⟨r, rfl, rfl, rfl, hl, q⟩ := q
  refine ⟨rfl, ?_⟩
  walk_at "dl"
  refine ⟨okE_int _, okE_int _, ?_⟩
  have go : ∀ b, b = (r.b != (r.ts.length % 2 == 1)) → ((List.map D.int r.ts).reverse.length ≤ 16777216 ∧ lcD (gdName 1) dYes (dBin dSub (dC (D.int 1)) (dVar 1)) [some (DV.v (D.adr a)), none, some (DV.kst a b r.ts)]
      (fun acc => ∃ ns, acc = List.map D.int ns ∧ ∃ b' ts', DV.kst a b ns = DV.kst a b' ts' ∧ T b' ts' D.non) (List.map D.int r.ts).reverse []) := fun b e => by
    rw [← List.map_reverse]
    refine ⟨by rw [List.length_map, List.length_reverse]; omega, lcD_map (enc := D.int) (f := fun n => some (.int (1 - n))) r.ts.reverse (fun n _ k1 k2 h => ?_) ?_⟩
    · walk_at "dl"
      exact h
    · rw [filterMap_some, List.nil_append]
      refine ⟨r.ts.reverse.map fun t => 1 - t, by rw [List.map_map]; rfl, _, _, rfl, ?_⟩
      rw [e]
      exact q
  rw [List.length_map]
  have m2 := Nat.mod_two_eq_zero_or_one r.ts.length
  split
  · rename_i h
    have h1 : (r.ts.length : Int) % 2 = 1 := of_decide_eq_true h
    have h2 : r.ts.length % 2 = 1 := by omega
    refine go _ ?_
    rw [h2]
    cases r.b <;> rfl
  · rename_i h
    have h1 : ¬ (r.ts.length : Int) % 2 = 1 := fun z => h (decide_eq_true z)
    have h2 : r.ts.length % 2 = 0 := by omega
    refine go _ ?_
    rw [h2]
    cases r.b <;> rfl

abbrev s_need_number : Stmt := topS 10
theorem sc_need_number : FnScope ["thing"] ["thing"] (defScope s_need_number) := ⟨rfl, rfl, rfl, by decide +kernel, rfl, by decide +kernel, by decide +kernel⟩

theorem ok_need_number {f : Addr} {fd : FuncData} (F : Fun K "need_number" "need_number" s_need_number f fd) (nb : Nb mg) {bn : Addr} (ex_BadNumber : Exn K mg "BadNumber" bn) (h_is_number : Fc P w K mg base C 1 "is_number" dp_is_number) : FnOk P w K mg base (L2.CX P w) 2 f fd ["thing"] (spD K C (dp_need_number bn)) := by
  refine fnD F sc_need_number (fun cdv A outer s H E hr =>
    (sd_one (sd_if (qd_not (qd_val (pd_fn h_is_number (hr.mono (by decide)) rfl px (ad_cons (pd 0) ad_nil)))) (sd_one (sd_raise rfl tkD (pmk_exc ex_BadNumber rfl))) sd_nil))) (fun ds T R q => ?_)
  obtain ⟨d, rfl, h, q1, q2⟩ := q
  refine ⟨rfl, ?_⟩
  walk_at "dl"
  refine ⟨d, rfl, h, ?_⟩
  cases e : isNum d with
  | true => exact q1 e
  | false => exact q2 e

abbrev s_Keeper_move : Stmt := inClass (topS 20) 6
theorem sc_Keeper_move : FnScope ["self", "steps", "number", "0a"] ["self", "steps"] (defScope s_Keeper_move) := ⟨rfl, rfl, rfl, by decide +kernel, rfl, by decide +kernel, by decide +kernel⟩

theorem ok_Keeper_move {f : Addr} {fd : FuncData} (F : Fun K "move" "Keeper.move" s_Keeper_move f fd) (nb : Nb mg) {bn : Addr} (T0 : Kp K mg C) (h_need_number : Fc P w K mg base C 2 "need_number" (dp_need_number bn)) : FnOk P w K mg base (L2.CX P w) 3 f fd ["self", "steps"] (spM K C (dm_move bn)) := by
  refine fnM 3 F sc_Keeper_move (fun cdv A outer s H E hr =>
    (sm_cons (sm_expr (pm_of (pd_fn h_need_number (hr.mono (by decide)) rfl px (ad_cons (pd 1) ad_nil))))
  (sm_one (sm_setT 3 T0 (pd 0) (pd_lc rfl sc_Keeper_move.nd (id_of (pd_sT 3 T0 (pd 0))) (blkOk_by (own := [("number", 2)]) (N := ["self", "steps", "number", "0a"]) (sc := defScope s_Keeper_move) (by decide +kernel)) (fun _ _ _ _ _ => (gd_name (i := 2) sc_Keeper_move.nd rfl (by first | exact .inl rfl | exact .inr rfl))) (fun _ _ _ _ _ => ts_nil) (fun _ _ _ _ _ => (pd_op or_add ab_add (pd 2) (pd 1)))))))) (fun a b ts ds T R q => ?_)
  obtain ⟨r, d, rfl, rfl, rfl, hl, q⟩ := q
  refine ⟨rfl, ?_⟩
  rcases q with ⟨k, rfl, q⟩ | ⟨h1, h2, q⟩
  · walk_at "dl"
    refine ⟨.int k, rfl, rfl, fun _ => ?_, fun z => by cases z⟩
    walk_at "dl"
    refine ⟨by rw [List.length_map]; omega, lcD_map (enc := D.int) (f := fun n => some (.int (n + k))) r.ts (fun n _ k1 k2 h => ?_) ?_⟩
    · walk_at "dl"
      exact h
    · rw [filterMap_some, List.nil_append]
      exact ⟨r.ts.map (· + k), by rw [List.map_map]; rfl, _, _, rfl, q⟩
  · walk_at "dl"
    exact ⟨d, rfl, h1, fun z => (by rw [h2] at z; cases z), fun _ => ⟨_, _, rfl, q⟩⟩

abbrev s_Keeper_put : Stmt := inClass (topS 20) 2
theorem sc_Keeper_put : FnScope ["self", "stretch", "0a"] ["self", "stretch"] (defScope s_Keeper_put) := ⟨rfl, rfl, rfl, by decide +kernel, rfl, by decide +kernel, by decide +kernel⟩

theorem ok_Keeper_put {f : Addr} {fd : FuncData} (F : Fun K "put" "Keeper.put" s_Keeper_put f fd) (nb : Nb mg) {bs fr : Addr} (T0 : Kp K mg C) (mg_either : mg "either" = some (.ref fr)) (h_ruled : Mm P w K mg base C 3 "ruled" (dm_ruled f_either fr)) (h_need_stretch : Fc P w K mg base C 3 "need_stretch" (dp_need_stretch bs)) (h_turns_of : Fc P w K mg base C 1 "turns_of" dp_turns_of) : FnOk P w K mg base (L2.CX P w) 4 f fd ["self", "stretch"] (spM K C (dm_put f_either bs)) := by
  refine fnM 2 F sc_Keeper_put (fun cdv A outer s H E hr =>
    (sm_cons (sm_expr (pm_of (pd_fn h_need_stretch (hr.mono (by decide)) rfl px (ad_cons (pd 1) ad_nil))))
  (sm_one (sm_expr (pm_m 2 T0 h_ruled (hr.mono (by decide)) px (pd 0) (ad_cons (pd_fn h_turns_of (hr.mono (by decide)) rfl px (ad_cons (pd 1) ad_nil)) (ad_cons (pd_glob rfl mg_either) ad_nil))))))) (fun a b ts ds T R q => ?_)
  obtain ⟨r, d, rfl, rfl, rfl, q⟩ := q
  refine ⟨rfl, ?_⟩
  rcases q with ⟨s, h, rfl, hf, q⟩ | ⟨h1, h2, q⟩
  · walk_at "dl"
    refine ⟨_, rfl, okThing_sD s, fun _ => ?_, fun z => absurd (show isStr (sD s) = false from z) (by rw [isStr_sD, h]; decide)⟩
    walk_at "dl"
    refine ⟨s, rfl, ?_⟩
    walk_at "dl"
    exact ⟨r, sRow s h, rfl, rfl, rfl, hf, _, _, rfl, q⟩
  · walk_at "dl"
    exact ⟨d, rfl, h1, fun z => (by rw [h2] at z; cases z), fun _ => ⟨_, _, rfl, q⟩⟩

abbrev s_Keeper_take : Stmt := inClass (topS 20) 3
theorem sc_Keeper_take : FnScope ["self", "stretch", "0a"] ["self", "stretch"] (defScope s_Keeper_take) := ⟨rfl, rfl, rfl, by decide +kernel, rfl, by decide +kernel, by decide +kernel⟩

theorem ok_Keeper_take {f : Addr} {fd : FuncData} (F : Fun K "take" "Keeper.take" s_Keeper_take f fd) (nb : Nb mg) {bs fr : Addr} (T0 : Kp K mg C) (mg_alone : mg "alone" = some (.ref fr)) (h_ruled : Mm P w K mg base C 3 "ruled" (dm_ruled f_alone fr)) (h_need_stretch : Fc P w K mg base C 3 "need_stretch" (dp_need_stretch bs)) (h_turns_of : Fc P w K mg base C 1 "turns_of" dp_turns_of) : FnOk P w K mg base (L2.CX P w) 4 f fd ["self", "stretch"] (spM K C (dm_put f_alone bs)) := by
  refine fnM 2 F sc_Keeper_take (fun cdv A outer s H E hr =>
    (sm_cons (sm_expr (pm_of (pd_fn h_need_stretch (hr.mono (by decide)) rfl px (ad_cons (pd 1) ad_nil))))
  (sm_one (sm_expr (pm_m 2 T0 h_ruled (hr.mono (by decide)) px (pd 0) (ad_cons (pd_fn h_turns_of (hr.mono (by decide)) rfl px (ad_cons (pd 1) ad_nil)) (ad_cons (pd_glob rfl mg_alone) ad_nil))))))) (fun a b ts ds T R q => ?_)
  obtain ⟨r, d, rfl, rfl, rfl, q⟩ := q
  refine ⟨rfl, ?_⟩
  rcases q with ⟨s, h, rfl, hf, q⟩ | ⟨h1, h2, q⟩
  · walk_at "dl"
    refine ⟨_, rfl, okThing_sD s, fun _ => ?_, fun z => absurd (show isStr (sD s) = false from z) (by rw [isStr_sD, h]; decide)⟩
    walk_at "dl"
    refine ⟨s, rfl, ?_⟩
    walk_at "dl"
    exact ⟨r, sRow s h, rfl, rfl, rfl, hf, _, _, rfl, q⟩
  · walk_at "dl"
    exact ⟨d, rfl, h1, fun z => (by rw [h2] at z; cases z), fun _ => ⟨_, _, rfl, q⟩⟩

abbrev s_Keeper_turn : Stmt := inClass (topS 20) 5
theorem sc_Keeper_turn : FnScope ["self", "stretch", "0a"] ["self", "stretch"] (defScope s_Keeper_turn) := ⟨rfl, rfl, rfl, by decide +kernel, rfl, by decide +kernel, by decide +kernel⟩

theorem ok_Keeper_turn {f : Addr} {fd : FuncData} (F : Fun K "turn" "Keeper.turn" s_Keeper_turn f fd) (nb : Nb mg) {bs fr : Addr} (T0 : Kp K mg C) (mg_unlike : mg "unlike" = some (.ref fr)) (h_ruled : Mm P w K mg base C 3 "ruled" (dm_ruled f_unlike fr)) (h_need_stretch : Fc P w K mg base C 3 "need_stretch" (dp_need_stretch bs)) (h_turns_of : Fc P w K mg base C 1 "turns_of" dp_turns_of) : FnOk P w K mg base (L2.CX P w) 4 f fd ["self", "stretch"] (spM K C (dm_put f_unlike bs)) := by
  refine fnM 2 F sc_Keeper_turn (fun cdv A outer s H E hr =>
    (sm_cons (sm_expr (pm_of (pd_fn h_need_stretch (hr.mono (by decide)) rfl px (ad_cons (pd 1) ad_nil))))
  (sm_one (sm_expr (pm_m 2 T0 h_ruled (hr.mono (by decide)) px (pd 0) (ad_cons (pd_fn h_turns_of (hr.mono (by decide)) rfl px (ad_cons (pd 1) ad_nil)) (ad_cons (pd_glob rfl mg_unlike) ad_nil))))))) (fun a b ts ds T R q => ?_)
  obtain ⟨r, d, rfl, rfl, rfl, q⟩ := q
  refine ⟨rfl, ?_⟩
  rcases q with ⟨s, h, rfl, hf, q⟩ | ⟨h1, h2, q⟩
  · walk_at "dl"
    refine ⟨_, rfl, okThing_sD s, fun _ => ?_, fun z => absurd (show isStr (sD s) = false from z) (by rw [isStr_sD, h]; decide)⟩
    walk_at "dl"
    refine ⟨s, rfl, ?_⟩
    walk_at "dl"
    exact ⟨r, sRow s h, rfl, rfl, rfl, hf, _, _, rfl, q⟩
  · walk_at "dl"
    exact ⟨d, rfl, h1, fun z => (by rw [h2] at z; cases z), fun _ => ⟨_, _, rfl, q⟩⟩

abbrev s__law_done : Stmt := topS 42
theorem sc__law_done : FnScope ["_law_keeper_here", "_law_deed_here", "_law_word_here", "_law_thing", "0a"] ["_law_keeper_here", "_law_deed_here"] (defScope s__law_done) := ⟨rfl, rfl, rfl, by decide +kernel, rfl, by decide +kernel, by decide +kernel⟩

theorem ok__law_done {f : Addr} {fd : FuncData} (F : Fun K "_law_done" "_law_done" s__law_done f fd) (nb : Nb mg) {bn : Addr} {bs : Addr} (T0 : Kp K mg C) (h_keep : Mm P w K mg base C 4 "keep" (dm_put f_both bs)) (h_mirror : Mm P w K mg base C 1 "mirror" dm_mirror) (h_move : Mm P w K mg base C 3 "move" (dm_move bn)) (h_put : Mm P w K mg base C 4 "put" (dm_put f_either bs)) (h_take : Mm P w K mg base C 4 "take" (dm_put f_alone bs)) (h_turn : Mm P w K mg base C 4 "turn" (dm_put f_unlike bs)) : FnOk P w K mg base (L2.CX P w) 5 f fd ["_law_keeper_here", "_law_deed_here"] (spM K C dm_done) := by
  refine fnM 4 F sc__law_done (fun cdv A outer s H E hr =>
    (sm_cons (sm_of (sd_asg (pd 1) (gd_tup rfl sc__law_done.nd (.cons (i := 2) rfl (by first | exact .inl rfl | exact .inr rfl) (by first | exact .inl rfl | exact .inr rfl) (.cons (i := 3) rfl (by first | exact .inl rfl | exact .inr rfl) (by first | exact .inl rfl | exact .inr rfl) .nil)))))
  (sm_cons (sm_if (qm_of (qd_cmp (or_eq hr.units) ab_eq (pd 2) pd_str (nomark _))) (sm_one (sm_ret (pm_isN (pm_m 4 T0 h_move (hr.mono (by decide)) px (pd 0) (ad_cons (pd 3) ad_nil))))) sm_nil)
  (sm_cons (sm_if (qm_of (qd_cmp (or_eq hr.units) ab_eq (pd 2) pd_str (nomark _))) (sm_one (sm_ret (pm_isN (pm_m0 4 T0 h_mirror (hr.mono (by decide)) px (pd 0))))) sm_nil)
  (sm_cons (sm_if (qm_of (qd_cmp (or_eq hr.units) ab_eq (pd 2) pd_str (nomark _))) (sm_one (sm_ret (pm_isN (pm_m 4 T0 h_put (hr.mono (by decide)) px (pd 0) (ad_cons (pd_ix (pd 3) pd_int (fun _ _ => rfl)) ad_nil))))) sm_nil)
  (sm_cons (sm_if (qm_of (qd_cmp (or_eq hr.units) ab_eq (pd 2) pd_str (nomark _))) (sm_one (sm_ret (pm_isN (pm_m 4 T0 h_take (hr.mono (by decide)) px (pd 0) (ad_cons (pd_ix (pd 3) pd_int (fun _ _ => rfl)) ad_nil))))) sm_nil)
  (sm_cons (sm_if (qm_of (qd_cmp (or_eq hr.units) ab_eq (pd 2) pd_str (nomark _))) (sm_one (sm_ret (pm_isN (pm_m 4 T0 h_keep (hr.mono (by decide)) px (pd 0) (ad_cons (pd_ix (pd 3) pd_int (fun _ _ => rfl)) ad_nil))))) sm_nil)
  (sm_one (sm_ret (pm_isN (pm_m 4 T0 h_turn (hr.mono (by decide)) px (pd 0) (ad_cons (pd_ix (pd 3) pd_int (fun _ _ => rfl)) ad_nil)))))))))))) (fun a b ts ds T R q => ?_)
  obtain ⟨r, r', d, rfl, rfl, rfl, hs, q⟩ := q
  refine ⟨rfl, ?_⟩
  cases hs with
  | put s h f =>
    simp only [dD, word, thing, ssD, List.map_cons, List.map_nil]
    walk_at "dl"
    refine ⟨r, sD s, rfl, rfl, rfl, .inl ⟨s, h, rfl, f, ?_⟩⟩
    walk_at "dl"
    exact ⟨_, _, rfl, q⟩
  | take s h f =>
    simp only [dD, word, thing, ssD, List.map_cons, List.map_nil]
    walk_at "dl"
    refine ⟨r, sD s, rfl, rfl, rfl, .inl ⟨s, h, rfl, f, ?_⟩⟩
    walk_at "dl"
    exact ⟨_, _, rfl, q⟩
  | keep s h f =>
    simp only [dD, word, thing, ssD, List.map_cons, List.map_nil]
    walk_at "dl"
    refine ⟨r, sD s, rfl, rfl, rfl, .inl ⟨s, h, rfl, f, ?_⟩⟩
    walk_at "dl"
    exact ⟨_, _, rfl, q⟩
  | turn s h f =>
    simp only [dD, word, thing, ssD, List.map_cons, List.map_nil]
    walk_at "dl"
    refine ⟨r, sD s, rfl, rfl, rfl, .inl ⟨s, h, rfl, f, ?_⟩⟩
    walk_at "dl"
    exact ⟨_, _, rfl, q⟩
  | move k h =>
    simp only [dD, word, thing]
    walk_at "dl"
    refine ⟨r, .int k, rfl, rfl, rfl, h, .inl ⟨k, rfl, ?_⟩⟩
    walk_at "dl"
    exact ⟨_, _, rfl, q⟩
  | mirror h =>
    simp only [dD, word, thing]
    walk_at "dl"
    refine ⟨r, rfl, rfl, rfl, h, ?_⟩
    walk_at "dl"
    exact ⟨_, _, rfl, q⟩

abbrev s__law_made_N : Stmt := topS 44
theorem sc__law_made_N : FnScope ["_law_deeds", "_law_found", "_law_deed_here", "0a"] ["_law_deeds"] (defScope s__law_made_N) := ⟨rfl, rfl, rfl, by decide +kernel, rfl, by decide +kernel, by decide +kernel⟩

theorem ok__law_made_N {f : Addr} {fd : FuncData} (F : Fun K "_law_made" "_law_made" s__law_made_N f fd) (nb : Nb mg) (T0 : Kp K mg C) (N0 : Kn P w K mg base C 1) (h__law_done : Fm P w K mg base C 5 "_law_done" dm_done) : FnOk P w K mg base (L2.CX P w) 6 f fd ["_law_deeds"] (spN K C dn_made) := by
  refine fnN F sc__law_made_N (fun cdv A outer s H E hr =>
    (sn_cons (sd_newK (i := 1) (j := 3) N0 (hr.mono (by decide)) px sc__law_made_N.nd rfl (by first | exact .inl rfl | exact .inr rfl) (hf := (by first | exact .inl rfl | exact .inr rfl)))
  (sn_cons (sd_for ownD rfl (id_of (pd 0)) (gd_name (i := 2) sc__law_made_N.nd rfl (by first | exact .inl rfl | exact .inr rfl))
    (sd_one (sd_in (sm_expr (pm_f 3 h__law_done (hr.mono (by decide)) rfl px (pd 1) (ad_cons (pd 2) ad_nil))))))
  (sn_ret (i := 1) (j := 3) (pv 1))))) (fun ds T q => ?_)
  obtain ⟨dds, rfl, hl, hd, q⟩ := q
  refine ⟨rfl, ?_⟩
  walk_at "dl"
  intro p
  refine forD_ind (enc := dD) (fun rest ρ => ∃ (done : List Deed) (r : KRow) (x0 u2 : Option DV), ρ = [x0, some (.v (.adr p)), u2, some (.kst p r.b r.ts)] ∧ done ++ rest = dds ∧ Inv1 r done) ?_ ?_ dds _ ⟨[], ⟨false, [], .nil⟩, _, _, rfl, rfl, Inv1.nil⟩
  · rintro ρ ⟨done, r, x0, u2, rfl, h1, hI⟩
    rw [List.append_nil] at h1
    rw [h1] at hI
    exact ⟨rfl, q r hI⟩
  · rintro d rest ρ k ⟨done, r, x0, u2, rfl, h1, hI⟩ hk
    have hdl : done.length ≤ 1000 := by rw [← h1, List.length_append] at hl; omega
    obtain ⟨r', hs, hI'⟩ := hI.step hdl (hd d (by rw [← h1]; simp))
    walk_at "dl"
    exact ⟨r, r', d, rfl, rfl, rfl, hs, hk _ ⟨done ++ [d], r', _, _, rfl, by rw [← h1, List.append_assoc]; rfl, hI'⟩⟩

abbrev s__law_keeper_T : Stmt := topS 45
theorem sc__law_keeper_T : FnScope ["_law_cells", "_law_many", "_law_deeds", "_law_k", "_law_cell", "0a"] ["_law_cells", "_law_many"] (defScope s__law_keeper_T) := ⟨rfl, rfl, rfl, by decide +kernel, rfl, by decide +kernel, by decide +kernel⟩

theorem ok__law_keeper_T {f : Addr} {fd : FuncData} (F : Fun K "_law_keeper" "_law_keeper" s__law_keeper_T f fd) (nb : Nb mg)  (h__law_deed : Fc P w K mg base C 4 "_law_deed" dp_deed) (h__law_due : Fc P w K mg base C 4 "_law_due" dp_due) (hN__law_made : Fn P w K mg base C 6 "_law_made" dn_made) : FnOk P w K mg base (L2.CX P w) 7 f fd ["_law_cells", "_law_many"] (spNT K C dt_keeper) := by
  refine fnNT F sc__law_keeper_T (fun cdv A outer s H E hr =>
    (st_cons (sd_setLc (i := 2) rfl sc__law_keeper_T.nd rfl rfl (sw_true rfl rfl rfl (by decide +kernel)) (id_enum rfl nb.enumerate (ad_cons (pd_sl (pd 0) od_none (od_some (pd 1))) ad_nil)) (blkOk_by (own := [("_law_k", 3), ("_law_cell", 4)]) (N := ["_law_cells", "_law_many", "_law_deeds", "_law_k", "_law_cell", "0a"]) (sc := defScope s__law_keeper_T) (by decide +kernel)) (fun _ _ _ _ _ => (gd_tup rfl sc__law_keeper_T.nd (.cons (i := 3) rfl (by first | exact .inl rfl | exact .inr rfl) (by first | exact .inl rfl | exact .inr rfl) (.cons (i := 4) rfl (by first | exact .inl rfl | exact .inr rfl) (by first | exact .inl rfl | exact .inr rfl) .nil)))) (fun _ _ _ _ _ => ts_nil) (fun _ _ _ _ _ => (pd_fn h__law_deed (hr.mono (by decide)) rfl passL (ad_cons (pd 4) (ad_cons (pd 3) ad_nil)))))
  (st_ret (pm_fN hN__law_made (hr.mono (by decide)) rfl px (ad_cons (pd 2) ad_nil)) (pd_fn h__law_due (hr.mono (by decide)) rfl px (ad_cons (pd 2) ad_nil))))) (fun ds T q => ?_)
  obtain ⟨ns, m, rfl, hm, q⟩ := q
  refine ⟨rfl, ?_⟩
  walk_at "dl"
  rw [cut_take, enum_map]
  have hl0 : ((ns.take m).mapIdx fun i n => ((i : Int), n)).length ≤ m := by
    rw [List.length_mapIdx, List.length_take]
    omega
  refine ⟨by rw [List.length_map]; omega, lcD_rel (enc := fun p : Int × Int => D.tup [.int p.1, .int p.2]) (ey := dD) (R := fun _ d => okDeed d) _ (fun x _ k1 k2 h => ?_) fun dds hy hR => ?_⟩
  · walk_at "dl"
    exact ⟨x.2, x.1, rfl, h⟩
  · rw [List.nil_append]
    have hd : ∀ d ∈ dds, okDeed d := fun d h => by
      obtain ⟨_, _, z⟩ := hR d h
      exact z
    refine ⟨dds, rfl, by omega, hd, fun r hI => ⟨5, fun y => ?_⟩⟩
    walk_at "dl"
    refine ⟨dds, rfl, hI.fit (by omega), ?_⟩
    rw [due_row hI.has]
    exact ⟨5, y, r.b, r.ts, rfl, rfl, q r dds hI hd (by omega)⟩

abbrev s__law_number_in : Stmt := topS 50
theorem sc__law_number_in : FnScope ["_law_word_here", "_law_figures", "_law_sign"] ["_law_word_here"] (defScope s__law_number_in) := ⟨rfl, rfl, rfl, by decide +kernel, rfl, by decide +kernel, by decide +kernel⟩

theorem ok__law_number_in {f : Addr} {fd : FuncData} (F : Fun K "_law_number_in" "_law_number_in" s__law_number_in f fd) (nb : Nb mg) (DG : PySem.W.nsIn K cStatics "sys.int_max_str_digits" = some none) : FnOk P w K mg base (L2.CX P w) 1 f fd ["_law_word_here"] (spD K C dp_lnumin) := by
  refine fnD F sc__law_number_in (fun cdv A outer s H E hr =>
    (sd_cons (sd_set (i := 1) sc__law_number_in.nd rfl (by first | exact .inl rfl | exact .inr rfl) (pd_if (qd_cmp (or_eq hr.units) ab_eq (pd_sl (pd 0) od_none (od_some pd_int)) pd_str (nomark _)) (pd_sl (pd 0) (od_some pd_int) od_none) (pd 0)) (hf := (by first | exact .inl rfl | exact .inr rfl)))
  (sd_cons (sd_if (PW.pt (wd_or (qd_cmp (or_eq hr.units) ab_eq (pd 1) pd_str (nomark _)) (wd_or1 (qd_cmp (or_ne hr.units) ab_ne (pd_lc rfl sc__law_number_in.nd (id_of (pd 1)) (blkOk_by (own := [("_law_sign", 2)]) (N := ["_law_word_here", "_law_figures", "_law_sign"]) (sc := defScope s__law_number_in) (by decide +kernel)) (fun _ _ _ _ _ => (gd_name (i := 2) sc__law_number_in.nd rfl (by first | exact .inl rfl | exact .inr rfl))) (fun _ _ _ _ _ => (ts_one (qd_cmp (or_notin (hu65 hr)) ab_notin (pd 2) pd_str (by rfl)))) (fun _ _ _ _ _ => (pd 2))) (pd_lst ad_nil) (nomark _))))) (sd_one (sd_ret pd_non)) sd_nil)
  (sd_one (sd_ret (pd_if (qd_cmp (or_eq hr.units) ab_eq (pd_str4 (K := K) rfl DG nb.str (ad_cons (pd_intS4 (K := K) rfl DG nb.int (ad_cons (pd 0) ad_nil)) ad_nil)) (pd 0) (nomark _)) (pd_intS4 (K := K) rfl DG nb.int (ad_cons (pd 0) ad_nil)) pd_non)))))) (fun ds T R q => ?_)
  obtain ⟨t, rfl, hl, hx, q⟩ := q
  refine ⟨rfl, ?_⟩
  walk_at "dl"
  refine ⟨by omega, ?_⟩
  rw [minus_cut]
  by_cases h : (tl t).head? = some 45
  · rw [decide_eq_true h, if_pos rfl]
    have ef : figs (tl t) = (tl t).drop 1 := if_pos h
    exact ⟨by omega, lnum_core hl (fun x hx' => hx x (List.mem_of_mem_drop (by rw [cut_1] at hx'; exact hx'))) (by rw [cut_1, ef]; rfl) (Nat.le_trans (cutS_length t _ _) hl) q⟩
  · rw [decide_eq_false h, if_neg Bool.false_ne_true]
    exact lnum_core hl hx (by rw [show figs (tl t) = tl t from if_neg h]) hl q

abbrev s__law_word_in : Stmt := topS 51
theorem sc__law_word_in : FnScope ["_law_word_here", "_law_number_here", "_law_first", "_law_last", "_law_ends"] ["_law_word_here"] (defScope s__law_word_in) := ⟨rfl, rfl, rfl, by decide +kernel, rfl, by decide +kernel, by decide +kernel⟩

theorem ok__law_word_in {f : Addr} {fd : FuncData} (F : Fun K "_law_word_in" "_law_word_in" s__law_word_in f fd) (nb : Nb mg)  (h__law_number_in : Fc P w K mg base C 1 "_law_number_in" dp_lnumin) : FnOk P w K mg base (L2.CX P w) 2 f fd ["_law_word_here"] (spD K C dp_lwordin) := by
  refine fnD F sc__law_word_in (fun cdv A outer s H E hr =>
    (sd_cons (sd_if (qd_cmp (or_notin (hu65 hr)) ab_notin pd_str (pd 0) (by rfl)) (sd_cons (sd_set (i := 1) sc__law_word_in.nd rfl (by first | exact .inl rfl | exact .inr rfl) (pd_fn h__law_number_in (hr.mono (by decide)) rfl px (ad_cons (pd 0) ad_nil)) (hf := (by first | exact .inl rfl | exact .inr rfl)))
  (sd_one (sd_ret (pd_if (qd_cmp or_is ab_is (pd 1) pd_non (nomark _)) pd_non (pd_tup (ad_cons (pd 1) (ad_cons (pd 1) ad_nil))))))) sd_nil)
  (sd_cons (sd_par (i := 2) (j := 3) rfl sc__law_word_in.nd rfl rfl (by decide) rfl rfl (ad_cons (pd_sl (pd 0) od_none (od_some (pd_index (pd 0) pd_str))) (ad_cons (pd_sl (pd 0) (od_some (pd_op or_add ab_add (pd_index (pd 0) pd_str) pd_int)) od_none) ad_nil)) (by rfl))
  (sd_cons (sd_set (i := 4) sc__law_word_in.nd rfl (by first | exact .inl rfl | exact .inr rfl) (pd_tup (ad_cons (pd_fn h__law_number_in (hr.mono (by decide)) rfl px (ad_cons (pd 2) ad_nil)) (ad_cons (pd_fn h__law_number_in (hr.mono (by decide)) rfl px (ad_cons (pd 3) ad_nil)) ad_nil))) (hf := (by first | exact .inl rfl | exact .inr rfl)))
  (sd_cons (sd_if (PW.pt (wd_or (PW.pt (wd_and (qd_cmp (or_ne hr.units) ab_ne (pd 2) pd_str (nomark _)) (wd_and1 (qd_cmp or_is ab_is (pd_ix (pd 4) pd_int (fun _ _ => rfl)) pd_non (nomark _))))) (wd_or1 (PW.pt (wd_and (qd_cmp (or_ne hr.units) ab_ne (pd 3) pd_str (nomark _)) (wd_and1 (qd_cmp or_is ab_is (pd_ix (pd 4) pd_int (fun _ _ => rfl)) pd_non (nomark _)))))))) (sd_one (sd_ret pd_non)) sd_nil)
  (sd_one (sd_ret (pd_if (PW.pt (wd_and (qd_cmp (or_notin (hu65 hr)) ab_notin pd_non (pd 4) (by rfl)) (wd_and1 (qd_cmp op_ge (ab_cmpI _) (pd_ix (pd 4) pd_int (fun _ _ => rfl)) (pd_ix (pd 4) pd_int (fun _ _ => rfl)) (nomark _))))) pd_non (pd 4))))))))) (fun ds T R q => ?_)
  obtain ⟨t, rfl, hl, hx, q⟩ := q
  refine ⟨rfl, ?_⟩
  walk_at "dl"
  unfold wordIn at q
  rcases idx_dots t with ⟨e, eo, _⟩ | ⟨k, r, e, eo, hk, _⟩
  · rw [eo, if_pos (by rfl)]
    rw [e] at q
    refine ⟨t, rfl, hl, hx, ?_⟩
    cases h : numOf (tl t) with
    | none => rw [h] at q; exact q
    | some n => rw [h] at q; exact q
  · rw [eo, if_neg (by simp)]
    rw [e] at q
    dsimp only at q
    refine ⟨k, e, by omega, k, e, by omega, ?_⟩
    rw [show ((k : Int) + 2) = ((k + 2 : Nat) : Int) from rfl, str_nil, str_nil, cut_to, cut_from]
    refine ⟨_, rfl, Nat.le_trans (cutS_length t _ _) hl, fun x hx' => hx x (List.mem_of_mem_take (by rw [cut_to] at hx'; exact hx')), ?_⟩
    refine ⟨_, rfl, Nat.le_trans (cutS_length t _ _) hl, fun x hx' => hx x (List.mem_of_mem_drop (by rw [cut_from] at hx'; exact hx')), ?_⟩
    rw [cut_to, cut_from]
    generalize (tl t).take k = F at q ⊢
    generalize (tl t).drop (k + 2) = L at q ⊢
    generalize numOf F = a at q ⊢
    generalize numOf L = b at q ⊢
    by_cases c1 : F = [] <;> by_cases c2 : L = [] <;> cases a <;> cases b <;> simp [c1, c2, oi, D.isN, flatD, eqD_nn, eqD_in] at q ⊢
    all_goals first | exact q | (split <;> rename_i h <;> (first | rw [if_pos h] at q | rw [if_neg h] at q) <;> exact q)

abbrev s__law_read : Stmt := topS 52
theorem sc__law_read : FnScope ["_law_text_here", "_law_found", "_law_word_here", "_law_one", "_law_other"] ["_law_text_here"] (defScope s__law_read) := ⟨rfl, rfl, rfl, by decide +kernel, rfl, by decide +kernel, by decide +kernel⟩

theorem ok__law_read {f : Addr} {fd : FuncData} (F : Fun K "_law_read" "_law_read" s__law_read f fd) (nb : Nb mg)  (h__law_word_in : Fc P w K mg base C 2 "_law_word_in" dp_lwordin) : FnOk P w K mg base (L2.CX P w) 3 f fd ["_law_text_here"] (spD K C dp_lread) := by
  refine fnD F sc__law_read (fun cdv A outer s H E hr =>
    (sd_cons (sd_if (qd_cmp (or_eq hr.units) ab_eq (pd 0) pd_str (nomark _)) (sd_one (sd_ret (pd_lst ad_nil))) sd_nil)
  (sd_cons (sd_setLc (i := 1) rfl sc__law_read.nd rfl rfl (sw_true rfl rfl rfl (by decide +kernel)) (id_of (pd_split (pd 0) pd_str)) (blkOk_by (own := [("_law_word_here", 2)]) (N := ["_law_text_here", "_law_found", "_law_word_here", "_law_one", "_law_other"]) (sc := defScope s__law_read) (by decide +kernel)) (fun _ _ _ _ _ => (gd_name (i := 2) sc__law_read.nd rfl (by first | exact .inl rfl | exact .inr rfl))) (fun _ _ _ _ _ => ts_nil) (fun _ _ _ _ _ => (pd_fn h__law_word_in (hr.mono (by decide)) rfl passL (ad_cons (pd 2) ad_nil))))
  (sd_cons (sd_if (qd_cmp (or_in (hu65 hr)) ab_in pd_non (pd 1) (by rfl)) (sd_one (sd_ret pd_non)) sd_nil)
  (sd_cons (sd_for ownD rfl (id_zip rfl nb.zip (ad_cons (pd 1) (ad_cons (pd_sl (pd 1) (od_some pd_int) od_none) ad_nil))) (gd_tup rfl sc__law_read.nd (.cons (i := 3) rfl (by first | exact .inl rfl | exact .inr rfl) (by first | exact .inl rfl | exact .inr rfl) (.cons (i := 4) rfl (by first | exact .inl rfl | exact .inr rfl) (by first | exact .inl rfl | exact .inr rfl) .nil)))
    (sd_one (sd_if (PW.pt (wd_or (qd_cmp or_is ab_is (pd_ix (pd 3) pd_int (fun _ _ => rfl)) pd_non (nomark _)) (wd_or (qd_cmp or_is ab_is (pd_ix (pd 4) pd_int (fun _ _ => rfl)) pd_non (nomark _)) (wd_or1 (qd_cmp op_le (ab_cmpI _) (pd_ix (pd 4) pd_int (fun _ _ => rfl)) (pd_op or_add ab_add (pd_ix (pd 3) pd_int (fun _ _ => rfl)) pd_int) (nomark _)))))) (sd_one (sd_ret pd_non)) sd_nil)))
  (sd_one (sd_ret (pd 1)))))))) (fun ds T R q => ?_)
  obtain ⟨t, rfl, hf, q⟩ := q
  refine ⟨rfl, ?_⟩
  have fl := hf.len
  have wc := words_count t
  have ws := hf.spc
  unfold rD readL at q
  walk_at "dl"
  by_cases e : t = Str.ofString ""
  · rw [decide_eq_true e, if_pos rfl]
    rw [if_pos e] at q
    exact q
  · rw [decide_eq_false e, if_neg Bool.false_ne_true]
    rw [if_neg e] at q
    have wl : (Txt.split t (Str.ofString " ")).length ≤ 501 := by show (wordsT t).length ≤ 501; omega
    refine ⟨by decide +kernel, by omega, by rw [List.length_map]; omega, ?_⟩
    refine lcD_map (enc := D.str) (f := fun w => some (oD (wordIn w))) (wordsT t) (fun w hw k1 k2 h => ?_) ?_
    · walk_at "dl"
      exact ⟨w, rfl, words_thin hf.thin w hw, fun x hx => hf.chr x ((words_in t w hw).subset hx), h⟩
    · rw [filterMap_some, List.nil_append, show (wordsT t).map (fun w => oD (wordIn w)) = ((wordsT t).map wordIn).map oD by rw [List.map_map]; rfl]
      refine ⟨okE_non, okE_osD _, ?_⟩
      rw [any_none]
      generalize (wordsT t).map wordIn = os at q ⊢
      by_cases hn : (none : Option Str2) ∈ os
      · rw [decide_eq_true hn, if_pos rfl]
        rw [if_pos hn] at q
        exact q
      · rw [decide_eq_false hn, if_neg Bool.false_ne_true]
        rw [if_neg hn] at q
        have hm := map_some hn
        generalize os.filterMap id = ss at q hm
        subst hm
        rw [show (ss.map some).map oD = ss.map sD by rw [List.map_map]; rfl, zip_sD]
        refine forD_ind (enc := fun p : Str2 × Str2 => D.tup [sD p.1, sD p.2]) (fun rest ρ => ∃ (u3 u4 : Option DV), ρ = [some (.v (.str t)), some (.v (.lst (ss.map sD))), none, u3, u4] ∧ adjS ss = adjP rest) ?_ ?_ (ss.zip (ss.drop 1)) _ ⟨_, _, rfl, adj_zip ss⟩
        · rintro ρ ⟨u3, u4, rfl, h⟩
          rw [h, if_pos (show adjP [] = true from rfl)] at q
          exact q
        · rintro ⟨⟨a, b⟩, c, d⟩ rest ρ k ⟨u3, u4, rfl, h⟩ hk
          cases b with
          | none =>
            rw [h, if_neg (by simp [adjP])] at q
            walk_at "dl"
            exact q
          | some b =>
            cases c with
            | none =>
              rw [h, if_neg (by simp [adjP])] at q
              walk_at "dl"
              exact q
            | some c =>
              walk_at "dl"
              by_cases lt : c ≤ b + 1
              · rw [h, if_neg (by simp [adjP]; omega)] at q
                rw [decide_eq_true lt]
                walk_at "dl"
                exact q
              · rw [decide_eq_false lt]
                walk_at "dl"
                exact hk _ ⟨_, _, rfl, by rw [h]; simp [adjP]; omega⟩

abbrev s__law_whole : Stmt := topS 33
theorem sc__law_whole : FnScope ["_law_found"] ["_law_found"] (defScope s__law_whole) := ⟨rfl, rfl, rfl, by decide +kernel, rfl, by decide +kernel, by decide +kernel⟩

theorem ok__law_whole {f : Addr} {fd : FuncData} (F : Fun K "_law_whole" "_law_whole" s__law_whole f fd) (nb : Nb mg)  : FnOk P w K mg base (L2.CX P w) 1 f fd ["_law_found"] (spD K C dp_whole) := by
  refine fnD F sc__law_whole (fun cdv A outer s H E hr =>
    (sd_one (sd_ret (pd_and (pd_isi nb.isinstance (ad_cons (pd 0) (ad_cons (pd_cls rfl nb.int bt_int) ad_nil))) (pd_one (pd_not (pd_isi nb.isinstance (ad_cons (pd 0) (ad_cons (pd_cls rfl nb.bool bt_bool) ad_nil))))))))) (fun ds T R q => ?_)
  obtain ⟨d, rfl, h, q⟩ := q
  refine ⟨rfl, ?_⟩
  walk_at "dl"
  obtain ⟨t, ht⟩ := Option.isSome_iff_exists.mp h
  refine ⟨t, ht, by decide, ?_⟩
  cases d <;> first | (cases ht; done) | (cases ht; first | exact q | exact ⟨_, rfl, by decide, q⟩)

abbrev s__law_right : Stmt := topS 41
theorem sc__law_right : FnScope ["_law_found", "_law_due_here", "_law_one", "_law_end"] ["_law_found", "_law_due_here"] (defScope s__law_right) := ⟨rfl, rfl, rfl, by decide +kernel, rfl, by decide +kernel, by decide +kernel⟩

theorem ok__law_right {f : Addr} {fd : FuncData} (F : Fun K "_law_right" "_law_right" s__law_right f fd) (nb : Nb mg)  (h__law_whole : Fc P w K mg base C 1 "_law_whole" dp_whole) : FnOk P w K mg base (L2.CX P w) 2 f fd ["_law_found", "_law_due_here"] (spD K C dp_right) := by
  refine fnD F sc__law_right (fun cdv A outer s H E hr =>
    (sd_cons (sd_if (PW.pt (wd_or (qd_not (qd_val (pd_isi nb.isinstance (ad_cons (pd 0) (ad_cons (pd_cls rfl nb.list bt_list) ad_nil))))) (wd_or1 (qd_cmp (or_ne hr.units) ab_ne (pd 0) (pd 1) (nomark _))))) (sd_one (sd_ret pd_bl)) sd_nil)
  (sd_cons (sd_for ownD rfl (id_of (pd 0)) (gd_name (i := 2) sc__law_right.nd rfl (by first | exact .inl rfl | exact .inr rfl))
    (sd_one (sd_if (PW.pt (wd_or (qd_not (qd_val (pd_isi nb.isinstance (ad_cons (pd 2) (ad_cons (pd_cls rfl nb.tuple bt_tuple) ad_nil))))) (wd_or1 (qd_cmp (or_ne hr.units) ab_ne (pd_lc rfl sc__law_right.nd (id_of (pd 2)) (blkOk_by (own := [("_law_end", 3)]) (N := ["_law_found", "_law_due_here", "_law_one", "_law_end"]) (sc := defScope s__law_right) (by decide +kernel)) (fun _ _ _ _ _ => (gd_name (i := 3) sc__law_right.nd rfl (by first | exact .inl rfl | exact .inr rfl))) (fun _ _ _ _ _ => (ts_one (PW.pt (wd_and (qd_cmp or_isnot ab_isnot (pd 3) pd_non (nomark _)) (wd_and1 (qd_not (qd_val (pd_fn h__law_whole (hr.mono (by decide)) rfl passL (ad_cons (pd 3) ad_nil))))))))) (fun _ _ _ _ _ => (pd 3))) (pd_lst ad_nil) (nomark _))))) (sd_one (sd_ret pd_bl)) sd_nil)))
  (sd_one (sd_ret pd_bl))))) (fun ds T R q => ?_)
  obtain ⟨ss, tt, rfl, hl, q⟩ := q
  refine ⟨rfl, ?_⟩
  have ee : eqD (.lst (ss.map sD)) (.lst (tt.map sD)) = decide (ss = tt) := eqD_ssD ss tt
  walk_at "dl"
  refine ⟨_, rfl, by decide, ?_⟩
  rw [if_neg (by decide)]
  refine ⟨okE_ssD ss, okE_ssD tt, ?_⟩
  by_cases c : ss = tt
  · rw [ee, decide_eq_true c, if_neg (by decide)]
    rw [decide_eq_true c] at q
    refine forD_ind (enc := sD) (fun rest ρ => ∃ x0 x1 u v : Option DV, ρ = [x0, x1, u, v]) ?_ ?_ ss _ ⟨_, _, _, _, rfl⟩
    · rintro ρ ⟨x0, x1, u, v, rfl⟩
      exact q
    · rintro s rest ρ k ⟨x0, x1, u, v, rfl⟩ hk
      walk_at "dl"
      refine ⟨_, rfl, by decide, ?_⟩
      rw [if_neg (by decide)]
      refine lcD_map (enc := oi) (f := fun _ => none) [s.1, s.2] (fun o _ k1 k2 h => ?_) ?_
      · cases o with
        | none =>
          walk_at "dl"
          exact h
        | some z =>
          walk_at "dl"
          exact ⟨.int z, rfl, rfl, h⟩
      · rw [show ([] : List D) ++ List.filterMap (fun _ => none) [s.1, s.2] = [] from rfl]
        refine ⟨okE_plain rfl (show 1 ≤ 64 by decide), okE_plain rfl (show 1 ≤ 64 by decide), ?_⟩
        rw [if_neg (by decide +kernel)]
        exact hk _ ⟨_, _, _, _, rfl⟩
  · rw [ee, decide_eq_false c, if_pos (by decide)]
    rw [decide_eq_false c] at q
    exact q

abbrev s__law_spoilt : Stmt := topS 53
theorem sc__law_spoilt : FnScope ["_law_text_here", "_law_cell", "_law_number_here", "_law_at", "_law_sign", "_law_words", "_law_one", "_law_odd", "_law_head", "_law_tail", "_law_some"] ["_law_text_here", "_law_cell"] (defScope s__law_spoilt) := ⟨rfl, rfl, rfl, by decide +kernel, rfl, by decide +kernel, by decide +kernel⟩

theorem ok__law_spoilt {f : Addr} {fd : FuncData} (F : Fun K "_law_spoilt" "_law_spoilt" s__law_spoilt f fd) (nb : Nb mg)  (h__law_mixed : Fc P w K mg base C 1 "_law_mixed" dp_mixed) : FnOk P w K mg base (L2.CX P w) 2 f fd ["_law_text_here", "_law_cell"] (spD K C dp_lspoilt) := by
  refine fnD F sc__law_spoilt (fun cdv A outer s H E hr =>
    (sd_cons (sd_set (i := 2) sc__law_spoilt.nd rfl (by first | exact .inl rfl | exact .inr rfl) (pd_fn h__law_mixed (hr.mono (by decide)) rfl px (ad_cons (pd 1) (ad_cons pd_int ad_nil))) (hf := (by first | exact .inl rfl | exact .inr rfl)))
  (sd_cons (sd_set (i := 3) sc__law_spoilt.nd rfl (by first | exact .inl rfl | exact .inr rfl) (pd_op op_mod ab_mod (pd_op op_fdiv ab_fdiv (pd 2) pd_int) (pd_op or_add ab_add (pd_len nb.len (ad_cons (pd 0) ad_nil)) pd_int)) (hf := (by first | exact .inl rfl | exact .inr rfl)))
  (sd_cons (sd_set (i := 4) sc__law_spoilt.nd rfl (by first | exact .inl rfl | exact .inr rfl) (pd_ix pd_str (pd_op op_mod ab_mod (pd_op op_fdiv ab_fdiv (pd_fn h__law_mixed (hr.mono (by decide)) rfl px (ad_cons (pd 1) (ad_cons pd_int ad_nil))) pd_int) pd_int) (fun _ _ => rfl)) (hf := (by first | exact .inl rfl | exact .inr rfl)))
  (sd_cons (sd_set (i := 5) sc__law_spoilt.nd rfl (by first | exact .inl rfl | exact .inr rfl) (pd_split (pd 0) pd_str) (hf := (by first | exact .inl rfl | exact .inr rfl)))
  (sd_cons (sd_set (i := 6) sc__law_spoilt.nd rfl (by first | exact .inl rfl | exact .inr rfl) (pd_op op_mod ab_mod (pd_op op_fdiv ab_fdiv (pd 2) pd_int) (pd_len nb.len (ad_cons (pd 5) ad_nil))) (hf := (by first | exact .inl rfl | exact .inr rfl)))
  (sd_cons (sd_set (i := 7) sc__law_spoilt.nd rfl (by first | exact .inl rfl | exact .inr rfl) (pd_lst (ad_cons pd_str (ad_cons pd_str (ad_cons pd_str (ad_cons pd_str (ad_cons pd_str (ad_cons pd_str (ad_cons pd_str (ad_cons pd_str (ad_cons pd_str (ad_cons pd_str (ad_cons pd_str (ad_cons pd_str (ad_cons pd_str (ad_cons pd_str (ad_cons pd_str ad_nil)))))))))))))))) (hf := (by first | exact .inl rfl | exact .inr rfl)))
  (sd_cons (sd_if (qd_cmp op_lt (ab_cmpI _) (pd_op op_mod ab_mod (pd 2) pd_int) pd_int (nomark _)) (sd_cons (sd_set (i := 8) sc__law_spoilt.nd rfl (by first | exact .inl rfl | exact .inr rfl) (pd_sl (pd 0) od_none (od_some (pd 3))) (hf := (by first | exact .inl rfl | exact .inr rfl)))
  (sd_cons (sd_set (i := 9) sc__law_spoilt.nd rfl (by first | exact .inl rfl | exact .inr rfl) (pd_sl (pd 0) (od_some (pd 3)) od_none) (hf := (by first | exact .inl rfl | exact .inr rfl)))
  (sd_cons (sd_own (i := 10) sc__law_spoilt.nd rfl (by first | exact .inl rfl | exact .inr rfl) (ad_cons (pd_op or_add ab_add (pd_op or_add ab_add (pd 8) (pd 4)) (pd 9)) (ad_cons (pd_op or_add ab_add (pd_op or_add ab_add (pd 8) (pd 4)) (pd_sl (pd 9) (od_some pd_int) od_none)) (ad_cons (pd_op or_add ab_add (pd 8) (pd_sl (pd 9) (od_some pd_int) od_none)) ad_nil))) (hf := (by first | exact .inl rfl | exact .inr rfl)))
  (sd_cons (sd_app (i := 10) (pv 10) (pd_op or_add ab_add (pd_op or_add ab_add (pd 8) (pd_sl (pd 9) od_none (od_some pd_int))) (pd 9)) (fun _ h => pe_bm PySem.F.plainAttrs_list PySem.F.slot_list_append PySem.F.type_list_append mt_append (pv 10) (pa_cons h pa_nil)))
  (sd_cons (sd_app (i := 10) (pv 10) (pd_op or_add ab_add (pd_op or_add ab_add (pd 8) (pd_revS (pd_sl (pd 9) od_none (od_some pd_int)))) (pd_sl (pd 9) (od_some pd_int) od_none)) (fun _ h => pe_bm PySem.F.plainAttrs_list PySem.F.slot_list_append PySem.F.type_list_append mt_append (pv 10) (pa_cons h pa_nil)))
  (sd_frz 10 (sd_one (sd_ret (pd_ix (pd 10) (pd_op op_mod ab_mod (pd 2) pd_int) (fun _ _ => rfl)))))))))) sd_nil)
  (sd_cons (sd_if (qd_cmp (or_eq hr.units) ab_eq (pd_op op_mod ab_mod (pd 2) pd_int) pd_int (nomark _)) (sd_one (sd_set (i := 5) sc__law_spoilt.nd rfl (by first | exact .inl rfl | exact .inr rfl) (pd_op or_add ab_add (pd_sl (pd 5) od_none (od_some (pd 6))) (pd_sl (pd 5) (od_some (pd_op or_add ab_add (pd 6) pd_int)) od_none)) (hf := (by first | exact .inl rfl | exact .inr rfl)))) (sd_one (sd_if (qd_cmp (or_eq hr.units) ab_eq (pd_op op_mod ab_mod (pd 2) pd_int) pd_int (nomark _)) (sd_one (sd_set (i := 5) sc__law_spoilt.nd rfl (by first | exact .inl rfl | exact .inr rfl) (pd_op or_add ab_add (pd_op or_add ab_add (pd_sl (pd 5) od_none (od_some (pd 6))) (pd_sl (pd 5) (od_some (pd 6)) (od_some (pd_op or_add ab_add (pd 6) pd_int)))) (pd_sl (pd 5) (od_some (pd 6)) od_none)) (hf := (by first | exact .inl rfl | exact .inr rfl)))) (sd_one (sd_if (qd_cmp (or_eq hr.units) ab_eq (pd_op op_mod ab_mod (pd 2) pd_int) pd_int (nomark _)) (sd_one (sd_set (i := 5) sc__law_spoilt.nd rfl (by first | exact .inl rfl | exact .inr rfl) (pd_op or_add ab_add (pd_sl (pd 5) (od_some pd_int) od_none) (pd_sl (pd 5) od_none (od_some pd_int))) (hf := (by first | exact .inl rfl | exact .inr rfl)))) (sd_one (sd_set (i := 5) sc__law_spoilt.nd rfl (by first | exact .inl rfl | exact .inr rfl) (pd_op or_add ab_add (pd_op or_add ab_add (pd_sl (pd 5) od_none (od_some (pd 6))) (pd_lst (ad_cons (pd_ix (pd 7) (pd_op op_mod ab_mod (pd_op op_fdiv ab_fdiv (pd 2) pd_int) pd_int) (fun _ _ => rfl)) ad_nil))) (pd_sl (pd 5) (od_some (pd_op or_add ab_add (pd 6) pd_int)) od_none)) (hf := (by first | exact .inl rfl | exact .inr rfl)))))))))
  (sd_one (sd_ret (pd_join pd_str (pd 5))))))))))))) (fun ds T R q => ?_)
  obtain ⟨t, c, rfl, hl, hth, hsp, hch, q⟩ := q
  have bs : Base t := ⟨hl, hth, hsp, hch⟩
  have wc := words_count t
  refine ⟨rfl, ?_⟩
  walk_at "dl"
  intro z z0 z1
  refine ⟨by omega, by omega, fun y y0 y1 => ⟨by decide +kernel, ?_⟩⟩
  obtain ⟨sg, esg, hs⟩ := sig_at y
  have wp : 1 ≤ (wordsT t).length := PyProof.Rows.split_pos t _
  refine ⟨sg, esg, by decide +kernel, by omega, by rw [List.length_map]; show (0 : Int) < ((wordsT t).length : Nat); omega, ?_⟩
  have z9 : 0 ≤ z % 9 := Int.emod_nonneg _ (by decide)
  have z9' : z % 9 < 9 := Int.emod_lt_of_pos _ (by decide)
  split
  · rename_i lt5
    have lt5 : z % 9 < 5 := of_decide_eq_true lt5
    have i1 := cut_inf t none (some (z / 9 % (↑t.length + 1)))
    have i2 := cut_inf t (some (z / 9 % (↑t.length + 1))) none
    generalize cutS t none (some (z / 9 % (↑t.length + 1))) = hd at i1 ⊢
    generalize cutS t (some (z / 9 % (↑t.length + 1))) none = tt at i2 ⊢
    have j1 := (cut_inf tt (some 1) none).trans i2
    have j2 := (cut_inf tt none (some 1)).trans i2
    have j3 := (cut_inf tt none (some 2)).trans i2
    have j4 := (cut_inf tt (some 2) none).trans i2
    have k2 : (cutS tt none (some 1)).length ≤ 1 := by
      rw [len_tl, show (some (1 : Int)) = some ((1 : Nat) : Int) from rfl, cut_to, List.length_take]
      omega
    have k3 : (cutS tt none (some 2)).length ≤ 2 := by
      rw [len_tl, show (some (2 : Int)) = some ((2 : Nat) : Int) from rfl, cut_to, List.length_take]
      omega
    generalize cutS tt (some 1) none = t1 at j1 ⊢
    generalize cutS tt none (some 1) = u1 at j2 k2 ⊢
    generalize cutS tt none (some 2) = u2 at j3 k3 ⊢
    generalize cutS tt (some 2) none = t2 at j4 ⊢
    have a1 := inf_len i1
    have a2 := inf_len i2
    have a3 := inf_len j1
    have a4 := inf_len j4
    have ls : ({ cps := #[sg] } : Str).length = 1 := rfl
    have la : ∀ x y : Str, (x ++ y).length = x.length + y.length := fun x y => by rw [len_tl, tl_append, List.length_append, ← len_tl, ← len_tl]
    have cs : ∀ c ∈ tl ({ cps := #[sg] } : Str), c < 1114112 := fun c hc => by
      have : c = sg := by simpa [tl] using hc
      rw [this]
      exact hs
    simp only [la, ls]
    refine ⟨by omega, by omega, by omega, by omega, by omega, by omega, by omega, by omega, by omega, by omega, by omega, by omega, by omega, u2, rfl, k3, fun w hw hwc => ⟨by omega, by omega, by omega, ?_⟩⟩
    obtain ⟨d, hd', e⟩ := atI_mem (xs := [D.str (hd ++ { cps := #[sg] } ++ tt), D.str (hd ++ { cps := #[sg] } ++ t1), D.str (hd ++ t1), D.str (hd ++ u1 ++ tt), D.str (hd ++ w ++ t2)]) (i := z % 9) z9 lt5
    refine ⟨d, e, ?_⟩
    simp only [List.mem_cons, List.not_mem_nil, or_false] at hd'
    rcases hd' with rfl | rfl | rfl | rfl | rfl
    · exact q _ (fine_mid bs i1 i2 (by rw [ls]; omega) cs rfl)
    · exact q _ (fine_mid bs i1 j1 (by rw [ls]; omega) cs rfl)
    · exact q _ (fine_two bs i1 j1 rfl)
    · exact q _ (fine_mid bs i1 i2 (by omega) (fun c hc => hch c (j2.subset hc)) rfl)
    · exact q _ (fine_mid bs i1 j4 hw (fun c hc => hch c (j3.subset (hwc c hc))) rfl)
  · rename_i ge5
    have wl : (wordsT t).length ≤ 61 := by omega
    have wo := words_ok bs
    have two : ∀ (lo hi lo2 hi2 : Option Int), (cutD (List.map D.str (Txt.split t (Str.ofString " "))) lo hi).length + (cutD (List.map D.str (Txt.split t (Str.ofString " "))) lo2 hi2).length ≤ 16777216 ∧
        ∃ ys, cutD (List.map D.str (Txt.split t (Str.ofString " "))) lo hi ++ cutD (List.map D.str (Txt.split t (Str.ofString " "))) lo2 hi2 = List.map D.str ys ∧ (List.map (fun x => x.length) ys).sum + ys.length * (Str.ofString " ").length ≤ 16777216 ∧ T (D.str (Txt.join (Str.ofString " ") ys)) := fun lo hi lo2 hi2 => by
      obtain ⟨xs, e1, n1, m1⟩ := cutD_words (wordsT t) lo hi
      obtain ⟨xs2, e2, n2, m2⟩ := cutD_words (wordsT t) lo2 hi2
      have hn : (xs ++ xs2).length ≤ 200 := by rw [List.length_append]; omega
      have hw : ∀ w ∈ xs ++ xs2, WordOk w := fun w h => (List.mem_append.mp h).elim (fun h => wo w (m1 w h)) fun h => wo w (m2 w h)
      unfold wordsT at e1 e2
      rw [e1, e2]
      exact ⟨by rw [List.length_map, List.length_map]; omega, xs ++ xs2, List.map_append.symm, join_size hn hw, q _ (fine_join hn hw)⟩
    refine ⟨okE_int _, okE_int _, ?_⟩
    split
    · exact two _ _ _ _
    refine ⟨okE_int _, okE_int _, ?_⟩
    split
    · generalize z / 9 % ↑(List.map D.str (Txt.split t (Str.ofString " "))).length = o
      obtain ⟨xs, e1, n1, m1⟩ := cutD_words (wordsT t) none (some o)
      obtain ⟨xs2, e2, n2, m2⟩ := cutD_words (wordsT t) (some o) (some (o + 1))
      obtain ⟨xs3, e3, n3, m3⟩ := cutD_words (wordsT t) (some o) none
      have hn : (xs ++ xs2 ++ xs3).length ≤ 200 := by rw [List.length_append, List.length_append]; omega
      have hw : ∀ w ∈ xs ++ xs2 ++ xs3, WordOk w := fun w h => (List.mem_append.mp h).elim (fun h => (List.mem_append.mp h).elim (fun h => wo w (m1 w h)) fun h => wo w (m2 w h)) fun h => wo w (m3 w h)
      unfold wordsT at e1 e2 e3
      rw [e1, e2, e3]
      exact ⟨by rw [List.length_map, List.length_map]; omega, by rw [List.length_map, List.length_map, List.length_map]; omega, xs ++ xs2 ++ xs3, by rw [List.map_append, List.map_append], join_size hn hw, q _ (fine_join hn hw)⟩
    refine ⟨okE_int _, okE_int _, ?_⟩
    split
    · exact two _ _ _ _
    · generalize z / 9 % ↑(List.map D.str (Txt.split t (Str.ofString " "))).length = o
      obtain ⟨d, hd', e⟩ := atI_mem (xs := [Str.ofString "..", Str.ofString "", Str.ofString "0", Str.ofString "-0", Str.ofString "00", Str.ofString "1..1", Str.ofString "5..4", Str.ofString "..0", Str.ofString "0..", Str.ofString "1...2", Str.ofString "1..2..3", Str.ofString "-1..1", Str.ofString "+1", Str.ofString "1 ", Str.ofString "- 1"].map D.str) (i := z / 900 % 15) (Int.emod_nonneg _ (by decide)) (Int.emod_lt_of_pos _ (by decide))
      obtain ⟨w, hw0, rfl⟩ := List.mem_map.mp hd'
      obtain ⟨xs, e1, n1, m1⟩ := cutD_words (wordsT t) none (some o)
      obtain ⟨xs2, e2, n2, m2⟩ := cutD_words (wordsT t) (some (o + 1)) none
      have hn : (xs ++ [w] ++ xs2).length ≤ 200 := by rw [List.length_append, List.length_append, List.length_singleton]; omega
      have hw : ∀ v ∈ xs ++ [w] ++ xs2, WordOk v := fun v h => (List.mem_append.mp h).elim (fun h => (List.mem_append.mp h).elim (fun h => wo v (m1 v h)) fun h => by rw [show v = w by simpa using h]; exact odd_ok hw0) fun h => wo v (m2 v h)
      unfold wordsT at e1 e2
      rw [e1, e2]
      exact ⟨_, e, by rw [List.length_map]; omega, by rw [List.length_map, List.length_map]; omega, xs ++ [w] ++ xs2, by rw [List.map_append, List.map_append]; rfl, join_size hn hw, q _ (fine_join hn hw)⟩

abbrev s__law_text : Stmt := topS 47
theorem sc__law_text : FnScope ["_law_due_here", "_law_words", "_law_first", "_law_last", "_law_end", "_law_word_here"] ["_law_due_here"] (defScope s__law_text) := ⟨rfl, rfl, rfl, by decide +kernel, rfl, by decide +kernel, by decide +kernel⟩

theorem ok__law_text {f : Addr} {fd : FuncData} (F : Fun K "_law_text" "_law_text" s__law_text f fd) (nb : Nb mg) (DG : PySem.W.nsIn K cStatics "sys.int_max_str_digits" = some none) : FnOk P w K mg base (L2.CX P w) 1 f fd ["_law_due_here"] (spD K C dp_ltext) := by
  refine fnD F sc__law_text (fun cdv A outer s H E hr =>
    (sd_cons (sd_own (i := 1) sc__law_text.nd rfl (by first | exact .inl rfl | exact .inr rfl) ad_nil (hf := (by first | exact .inl rfl | exact .inr rfl)))
  (sd_cons (sd_for ownD rfl (id_of (pd 0)) (gd_tup rfl sc__law_text.nd (.cons (i := 2) rfl (by first | exact .inl rfl | exact .inr rfl) (by first | exact .inl rfl | exact .inr rfl) (.cons (i := 3) rfl (by first | exact .inl rfl | exact .inr rfl) (by first | exact .inl rfl | exact .inr rfl) .nil)))
    (sd_one (sd_if (PW.pt (wd_and (qd_cmp or_isnot ab_isnot (pd 2) pd_non (nomark _)) (wd_and1 (qd_cmp (or_eq hr.units) ab_eq (pd 2) (pd 3) (nomark _))))) (sd_one (sd_app (i := 1) (pv 1) (pd_str4 (K := K) rfl DG nb.str (ad_cons (pd 2) ad_nil)) (fun _ h => pe_bm PySem.F.plainAttrs_list PySem.F.slot_list_append PySem.F.type_list_append mt_append (pv 1) (pa_cons h pa_nil)))) (sd_one (sd_app (i := 1) (pv 1) (pd_lc rfl sc__law_text.nd (id_of (pd_tup (ad_cons (pd 2) (ad_cons (pd 3) ad_nil)))) (blkOk_by (own := [("_law_end", 4)]) (N := ["_law_due_here", "_law_words", "_law_first", "_law_last", "_law_end", "_law_word_here"]) (sc := defScope s__law_text) (by decide +kernel)) (fun _ _ _ _ _ => (gd_name (i := 4) sc__law_text.nd rfl (by first | exact .inl rfl | exact .inr rfl))) (fun _ _ _ _ _ => ts_nil) (fun _ _ _ _ _ => (pd_if (qd_cmp or_is ab_is (pd 4) pd_non (nomark _)) pd_str (pd_str4 (K := K) rfl DG nb.str (ad_cons (pd 4) ad_nil))))) (fun _ h => pe_bm PySem.F.plainAttrs_list PySem.F.slot_list_append PySem.F.type_list_append mt_append (pv 1) (pa_cons h pa_nil)))))))
  (sd_frz 1 (sd_one (sd_ret (pd_join pd_str (pd_lc rfl sc__law_text.nd (id_of (pd 1)) (blkOk_by (own := [("_law_word_here", 5)]) (N := ["_law_due_here", "_law_words", "_law_first", "_law_last", "_law_end", "_law_word_here"]) (sc := defScope s__law_text) (by decide +kernel)) (fun _ _ _ _ _ => (gd_name (i := 5) sc__law_text.nd rfl (by first | exact .inl rfl | exact .inr rfl))) (fun _ _ _ _ _ => ts_nil) (fun _ _ _ _ _ => (pd_if (qd_val (pd_isi nb.isinstance (ad_cons (pd 5) (ad_cons (pd_cls rfl nb.str bt_str) ad_nil)))) (pd 5) (pd_op or_add ab_add (pd_op or_add ab_add (pd_ix (pd 5) pd_int (fun _ _ => rfl)) pd_str) (pd_ix (pd 5) pd_int (fun _ _ => rfl))))))))))))) (fun ds T R q => ?_)
  obtain ⟨ss, rfl, h1, h2, q⟩ := q
  refine ⟨rfl, ?_⟩
  walk_at "dl"
  refine forD_ind (enc := sD) (fun rest ρ => ∃ (done : List Str2) (x0 u2 u3 u4 u5 : Option DV), ρ = [x0, some (.own (done.map iD)), u2, u3, u4, u5] ∧ done ++ rest = ss) ?_ ?_ ss _ ⟨[], _, _, _, _, _, rfl, rfl⟩
  · rintro ρ ⟨done, x0, u2, u3, u4, u5, rfl, g1⟩
    rw [List.append_nil] at g1
    subst g1
    walk_at "dl"
    refine ⟨by rw [List.length_map]; omega, lcD_map (enc := iD) (f := fun s => some (.str (mk (sL s)))) done (fun s hs k1 k2 h => ?_) ?_⟩
    · obtain ⟨b1, b2⟩ := h2 s hs
      have l1 := oL_len b1
      have l2 := oL_len b2
      by_cases c : s.1 = s.2 ∧ s.1 ≠ none
      · rw [iD_one c]
        walk_at "dl"
        refine ⟨_, rfl, by decide, ?_⟩
        rw [if_pos (by decide)]
        exact h
      · rw [iD_two c]
        rw [sL_two c] at h
        walk_at "dl"
        refine ⟨_, rfl, by decide, ?_⟩
        rw [if_neg (by decide)]
        simp only [dots, mk_app, mk_len, List.length_append, List.length_cons, List.length_nil]
        exact ⟨by omega, by omega, h⟩
    · rw [filterMap_some, List.nil_append]
      have hw := words_sum h2
      refine ⟨done.map fun s => mk (sL s), by rw [List.map_map]; rfl, ?_, ?_⟩
      · rw [List.length_map, show (Str.ofString " ").length = 1 by decide +kernel]
        omega
      · rw [show Txt.join (Str.ofString " ") (done.map fun s => mk (sL s)) = mk (rL done) from join_words done]
        exact q
  · rintro s rest ρ k ⟨done, x0, u2, u3, u4, u5, rfl, g1⟩ hk
    obtain ⟨b1, b2⟩ := h2 s (by rw [← g1]; simp)
    have hdl : done.length ≤ 3000 := by rw [← g1, List.length_append] at h1; omega
    obtain ⟨a, c⟩ := s
    dsimp only at b1 b2
    rcases a with _ | a <;> rcases c with _ | c
    · walk_at "dl"
      refine lcD_map (enc := oi) (f := fun o => some (.str (mk (oL o)))) [none, none] (fun o ho k1 k2 h => ?_) ?_
      · have hs : SmO o := by
          simp only [List.mem_cons, List.not_mem_nil, or_false] at ho
          rcases ho with rfl | rfl <;> assumption
        cases o with
        | none =>
          walk_at "dl"
          rw [empt]
          exact h
        | some i =>
          walk_at "dl"
          refine ⟨(hs i rfl).lim, ?_⟩
          rw [str_int]
          exact h
      · rw [filterMap_some, List.nil_append]
        have ee : List.map iD done ++ [D.lst (List.map (fun o => D.str (mk (oL o))) [none, none])] = List.map iD (done ++ [(none, none)]) := by
          rw [List.map_append, show List.map iD [(none, none)] = [iD (none, none)] from rfl, iD_two (s := (none, none)) (by simp)]
          rfl
        rw [ee]
        exact ⟨by rw [List.length_map]; omega, hk _ ⟨done ++ [(none, none)], _, _, _, _, _, rfl, by rw [← g1, List.append_assoc]; rfl⟩⟩
    · walk_at "dl"
      refine lcD_map (enc := oi) (f := fun o => some (.str (mk (oL o)))) [none, some c] (fun o ho k1 k2 h => ?_) ?_
      · have hs : SmO o := by
          simp only [List.mem_cons, List.not_mem_nil, or_false] at ho
          rcases ho with rfl | rfl <;> assumption
        cases o with
        | none =>
          walk_at "dl"
          rw [empt]
          exact h
        | some i =>
          walk_at "dl"
          refine ⟨(hs i rfl).lim, ?_⟩
          rw [str_int]
          exact h
      · rw [filterMap_some, List.nil_append]
        have ee : List.map iD done ++ [D.lst (List.map (fun o => D.str (mk (oL o))) [none, some c])] = List.map iD (done ++ [(none, some c)]) := by
          rw [List.map_append, show List.map iD [(none, some c)] = [iD (none, some c)] from rfl, iD_two (s := (none, some c)) (by simp)]
          rfl
        rw [ee]
        exact ⟨by rw [List.length_map]; omega, hk _ ⟨done ++ [(none, some c)], _, _, _, _, _, rfl, by rw [← g1, List.append_assoc]; rfl⟩⟩
    · walk_at "dl"
      refine ⟨okE_int _, okE_non, ?_⟩
      rw [if_neg (by simp [eqD, D.toPy, PyData.eqv])]
      refine lcD_map (enc := oi) (f := fun o => some (.str (mk (oL o)))) [some a, none] (fun o ho k1 k2 h => ?_) ?_
      · have hs : SmO o := by
          simp only [List.mem_cons, List.not_mem_nil, or_false] at ho
          rcases ho with rfl | rfl <;> assumption
        cases o with
        | none =>
          walk_at "dl"
          rw [empt]
          exact h
        | some i =>
          walk_at "dl"
          refine ⟨(hs i rfl).lim, ?_⟩
          rw [str_int]
          exact h
      · rw [filterMap_some, List.nil_append]
        have ee : List.map iD done ++ [D.lst (List.map (fun o => D.str (mk (oL o))) [some a, none])] = List.map iD (done ++ [(some a, none)]) := by
          rw [List.map_append, show List.map iD [(some a, none)] = [iD (some a, none)] from rfl, iD_two (s := (some a, none)) (by simp)]
          rfl
        rw [ee]
        exact ⟨by rw [List.length_map]; omega, hk _ ⟨done ++ [(some a, none)], _, _, _, _, _, rfl, by rw [← g1, List.append_assoc]; rfl⟩⟩
    · by_cases ne : a = c
      · subst ne
        walk_at "dl"
        refine ⟨okE_int _, okE_int _, ?_⟩
        try simp only [decide_true, if_true]
        have ee : List.map iD done ++ [D.str (Str.ofString (toString a))] = List.map iD (done ++ [(some a, some a)]) := by
          rw [List.map_append, show List.map iD [(some a, some a)] = [iD (some a, some a)] from rfl, iD_one ⟨rfl, by simp⟩, sL_one, str_int]
        rw [ee]
        exact ⟨(b1 a rfl).lim, by rw [List.length_map]; omega, hk _ ⟨done ++ [(some a, some a)], _, _, _, _, _, rfl, by rw [← g1, List.append_assoc]; rfl⟩⟩
      · walk_at "dl"
        refine ⟨okE_int _, okE_int _, ?_⟩
        rw [decide_eq_false ne, if_neg Bool.false_ne_true]
        refine lcD_map (enc := oi) (f := fun o => some (.str (mk (oL o)))) [some a, some c] (fun o ho k1 k2 h => ?_) ?_
        · have hs : SmO o := by
            simp only [List.mem_cons, List.not_mem_nil, or_false] at ho
            rcases ho with rfl | rfl <;> assumption
          cases o with
          | none =>
            walk_at "dl"
            rw [empt]
            exact h
          | some i =>
            walk_at "dl"
            refine ⟨(hs i rfl).lim, ?_⟩
            rw [str_int]
            exact h
        · rw [filterMap_some, List.nil_append]
          have ee : List.map iD done ++ [D.lst (List.map (fun o => D.str (mk (oL o))) [some a, some c])] = List.map iD (done ++ [(some a, some c)]) := by
            rw [List.map_append, show List.map iD [(some a, some c)] = [iD (some a, some c)] from rfl, iD_two (s := (some a, some c)) (by simp; exact ne)]
            rfl
          rw [ee]
          exact ⟨by rw [List.length_map]; omega, hk _ ⟨done ++ [(some a, some c)], _, _, _, _, _, rfl, by rw [← g1, List.append_assoc]; rfl⟩⟩

abbrev s__law_word : Stmt := topS 49
theorem sc__law_word : FnScope ["_law_e", "_law_some", "_law_word_here", "_law_is_it"] ["_law_e"] (defScope s__law_word) := ⟨rfl, rfl, rfl, by decide +kernel, rfl, by decide +kernel, by decide +kernel⟩

theorem ok__law_word {f : Addr} {fd : FuncData} (F : Fun K "_law_word" "_law_word" s__law_word f fd) (nb : Nb mg) {KE : Addr} {ea : Kc → Addr} (EC : Ecs K mg KE ea) : FnOk P w K mg base (L2.CX P w) 1 f fd ["_law_e"] (spD K C (dp_word ea)) := by
  refine fnD F sc__law_word (fun cdv A outer s H E hr =>
    (sd_cons (sd_if (qd_cmp or_is ab_is (pd 0) pd_non (nomark _)) (sd_one (sd_ret (pd_lst (ad_cons pd_str ad_nil)))) sd_nil)
  (sd_cons (sd_set (i := 1) sc__law_word.nd rfl (by first | exact .inl rfl | exact .inr rfl) (pd_lst (ad_cons (pd_tup (ad_cons pd_str (ad_cons (pd_isE (K := K) rfl nb.isinstance (pd 0) (pd_glob rfl EC.num)) ad_nil))) (ad_cons (pd_tup (ad_cons pd_str (ad_cons (pd_isE (K := K) rfl nb.isinstance (pd 0) (pd_glob rfl EC.str)) ad_nil))) ad_nil))) (hf := (by first | exact .inl rfl | exact .inr rfl)))
  (sd_cons (sd_set (i := 1) sc__law_word.nd rfl (by first | exact .inl rfl | exact .inr rfl) (pd_op or_add ab_add (pd 1) (pd_lst (ad_cons (pd_tup (ad_cons pd_str (ad_cons (pd_isE (K := K) rfl nb.isinstance (pd 0) (pd_glob rfl EC.kee)) ad_nil))) (ad_cons (pd_tup (ad_cons pd_str (ad_cons (pd_isE (K := K) rfl nb.isinstance (pd 0) (pd_glob rfl EC.tex)) ad_nil))) ad_nil)))) (hf := (by first | exact .inl rfl | exact .inr rfl)))
  (sd_cons (sd_set (i := 1) sc__law_word.nd rfl (by first | exact .inl rfl | exact .inr rfl) (pd_op or_add ab_add (pd 1) (pd_lst (ad_cons (pd_tup (ad_cons pd_str (ad_cons (pd_isE (K := K) rfl nb.isinstance (pd 0) (pd_glob rfl EC.such)) ad_nil))) (ad_cons (pd_tup (ad_cons pd_str (ad_cons (pd_not (pd_isE (K := K) rfl nb.isinstance (pd 0) (pd_cls rfl EC.ve bt_ValueError))) ad_nil))) ad_nil)))) (hf := (by first | exact .inl rfl | exact .inr rfl)))
  (sd_one (sd_ret (pd_lc rfl sc__law_word.nd (id_of (pd 1)) (blkOk_by (own := [("_law_word_here", 2), ("_law_is_it", 3)]) (N := ["_law_e", "_law_some", "_law_word_here", "_law_is_it"]) (sc := defScope s__law_word) (by decide +kernel)) (fun _ _ _ _ _ => (gd_tup rfl sc__law_word.nd (.cons (i := 2) rfl (by first | exact .inl rfl | exact .inr rfl) (by first | exact .inl rfl | exact .inr rfl) (.cons (i := 3) rfl (by first | exact .inl rfl | exact .inr rfl) (by first | exact .inl rfl | exact .inr rfl) .nil)))) (fun _ _ _ _ _ => (ts_one (qd_val (pd 3)))) (fun _ _ _ _ _ => (pd 2)))))))))) (fun ds T R q => ?_)
  refine ⟨by rcases q with ⟨rfl, _⟩ | ⟨k, rfl, _⟩ <;> rfl, ?_⟩
  rcases q with ⟨rfl, q⟩ | ⟨k, rfl, q⟩
  · walk_at "dl"
    exact q
  · walk_at "dl"
    rw [if_neg (by simp [D.isN])]
    refine ⟨ea k, _, rfl, EC.exc k, EC.kit k .num, ea k, _, rfl, EC.exc k, EC.kit k .str, ea k, _, rfl, EC.exc k, EC.kit k .kee, ea k, _, rfl, EC.exc k, EC.kit k .tex, ea k, _, rfl, EC.exc k, EC.kit k .such, ea k, _, rfl, EC.exc k, EC.val k, ?_⟩
    cases k <;> (simp only [lcD]; walk_at "dl"; exact q)

abbrev s_number_in : Stmt := topS 28
theorem sc_number_in : FnScope ["word", "figures", "sign"] ["word"] (defScope s_number_in) := ⟨rfl, rfl, rfl, by decide +kernel, rfl, by decide +kernel, by decide +kernel⟩

theorem ok_number_in {f : Addr} {fd : FuncData} (F : Fun K "number_in" "number_in" s_number_in f fd) (nb : Nb mg) {bt : Addr} (ex_BadText : Exn K mg "BadText" bt) (gs_FIGURES : GlS mg "FIGURES" "0123456789") (DG : PySem.W.nsIn K cStatics "sys.int_max_str_digits" = some none) : FnOk P w K mg base (L2.CX P w) 1 f fd ["word"] (spD K C (dp_numin bt)) := by
  refine fnD F sc_number_in (fun cdv A outer s H E hr =>
    (sd_cons (sd_set (i := 1) sc_number_in.nd rfl (by first | exact .inl rfl | exact .inr rfl) (pd_if (qd_val (pd_startswith (pd 0) pd_str)) (pd_sl (pd 0) (od_some pd_int) od_none) (pd 0)) (hf := (by first | exact .inl rfl | exact .inr rfl)))
  (sd_cons (sd_if (PW.pt (wd_or (qd_cmp (or_eq hr.units) ab_eq (pd 1) pd_str (nomark _)) (wd_or1 (qd_not (qd_val (pd_all nb.all (ad_cons (pd_lc rfl sc_number_in.nd (id_of (pd 1)) (blkOk_by (own := [("sign", 2)]) (N := ["word", "figures", "sign"]) (sc := defScope s_number_in) (by decide +kernel)) (fun _ _ _ _ _ => (gd_name (i := 2) sc_number_in.nd rfl (by first | exact .inl rfl | exact .inr rfl))) (fun _ _ _ _ _ => ts_nil) (fun _ _ _ _ _ => (pd_cmp (or_in (hu65 hr)) ab_in (pd 2) (pd_globS gs_FIGURES) (by rfl)))) ad_nil))))))) (sd_one (sd_raise rfl tkD (pmk_exc ex_BadText rfl))) sd_nil)
  (sd_cons (sd_if (PW.pt (wd_and (qd_cmp (or_eq hr.units) ab_eq (pd_ix (pd 1) pd_int (fun _ _ => rfl)) pd_str (nomark _)) (wd_and1 (qd_cmp (or_ne hr.units) ab_ne (pd 0) pd_str (nomark _))))) (sd_one (sd_raise rfl tkD (pmk_exc ex_BadText rfl))) sd_nil)
  (sd_one (sd_ret (pd_intS4 (K := K) rfl DG nb.int (ad_cons (pd 0) ad_nil)))))))) (fun ds T R q => ?_)
  obtain ⟨t, rfl, hl, q1, q2⟩ := q
  refine ⟨rfl, ?_⟩
  have core : ∀ F : Str, tl F = figs (tl t) → F.length ≤ 4300 → (if decide (F = Str.ofString "") = true then R bt
      else (List.map (fun c => D.str { cps := #[c] }) F.cps.toList).length ≤ 16777216 ∧
        lcD (gdName 2) dYes (dBin dIn (dVar 2) (dC (D.str (Str.ofString "0123456789")))) [some (DV.v (D.str t)), some (DV.v (D.str F)), none]
          (fun acc => ∃ bs, acc = List.map D.bl bs ∧ if (!bs.all id) = true then R bt else F.length ≤ 16777216 ∧ ∃ c, atI F.cps.toList 0 = some c ∧
            if decide ({ cps := #[c] } = Str.ofString "0") = true then if (!decide (t = Str.ofString "0")) = true then R bt else ∃ n, intText? t = some n ∧ t.length ≤ 4300 ∧ T (D.int n)
            else ∃ n, intText? t = some n ∧ t.length ≤ 4300 ∧ T (D.int n)) (List.map (fun c => D.str { cps := #[c] }) F.cps.toList) []) := by
    intro F hF hFl
    have hFl' : F.cps.toList.length ≤ 4300 := by
      have : F.length = F.cps.toList.length := len_tl F
      omega
    by_cases e : F = Str.ofString ""
    · rw [decide_eq_true e, if_pos rfl]
      refine q2 fun i hi => (figs_iL i).1 ?_
      rw [← hi, ← hF, e, empt]
      rfl
    · rw [decide_eq_false e, if_neg Bool.false_ne_true]
      refine ⟨by rw [List.length_map]; omega, lcD_map (enc := fun c => D.str { cps := #[c] }) (f := fun c => some (.bl (decide (c ∈ (Str.ofString "0123456789").cps.toList)))) F.cps.toList (fun c hc k1 k2 h => ?_) ?_⟩
      · walk_at "dl"
        rw [PySem.StrLaws.found_one]
        exact h
      · rw [filterMap_some, List.nil_append]
        refine ⟨F.cps.toList.map fun c => decide (c ∈ (Str.ofString "0123456789").cps.toList), by rw [List.map_map]; rfl, ?_⟩
        by_cases hd : NumText.AllDigits (tl F)
        · have hall : (F.cps.toList.map fun c => decide (c ∈ (Str.ofString "0123456789").cps.toList)).all id = true := by
            rw [List.all_map, List.all_eq_true]
            exact fun c hc => decide_eq_true ((fig_mem c).mpr (hd c hc))
          rw [hall, if_neg (by decide)]
          refine ⟨by omega, ?_⟩
          have hne : tl F ≠ [] := fun z => e (ext_tl (by rw [z, empt]; rfl))
          obtain ⟨c, r, hc⟩ : ∃ c r, F.cps.toList = c :: r := by
            cases h : F.cps.toList with
            | nil => exact absurd h hne
            | cons c r => exact ⟨c, r, rfl⟩
          refine ⟨c, by rw [hc]; exact atI_0 _ _, ?_⟩
          have hh : (figs (tl t)).head? = some c := by rw [← hF, show tl F = _ from hc]; rfl
          have good : ∀ i, tl t = iL i → ∃ n, intText? t = some n ∧ t.length ≤ 4300 ∧ T (D.int n) := fun i hi => by
            refine ⟨i, ?_, hl, q1 i hi⟩
            have := int_read i (by rw [← hi, ← len_tl]; exact hl)
            rwa [← hi, mk_tl'] at this
          by_cases z : c = 48
          · rw [decide_eq_true ((sign_0 c).mpr z), if_pos rfl]
            by_cases y : t = Str.ofString "0"
            · rw [decide_eq_true y, if_neg (by decide)]
              exact good 0 (by rw [y, str_0]; rfl)
            · rw [decide_eq_false y, if_pos (by decide)]
              refine q2 fun i hi => y ?_
              have := (figs_iL i).2.2 (by rw [← hi, hh, z])
              rw [str_0]
              refine ext_tl ?_
              rw [hi, this]
              decide +kernel
          · rw [decide_eq_false (fun y => z ((sign_0 c).mp y)), if_neg Bool.false_ne_true]
            obtain ⟨i, hi⟩ := num_figs (by rw [← hF]; exact hne) (by rw [← hF]; exact hd) fun y => absurd (by rw [hh] at y; simpa using y) z
            exact good i hi
        · have hall : (F.cps.toList.map fun c => decide (c ∈ (Str.ofString "0123456789").cps.toList)).all id = false := by
            refine Bool.eq_false_iff.mpr fun z => hd fun c hc => ?_
            rw [List.all_map, List.all_eq_true] at z
            exact (fig_mem c).mp (of_decide_eq_true (z c hc))
          rw [hall, if_pos (by decide)]
          refine q2 fun i hi => hd ?_
          rw [hF, hi]
          exact (figs_iL i).2.1
  walk_at "dl"
  rw [show Txt.startswith t (Str.ofString "-") = _ from starts_minus t]
  by_cases h : (tl t).head? = some 45
  · rw [decide_eq_true h, if_pos rfl]
    have ef : figs (tl t) = (tl t).drop 1 := if_pos h
    refine ⟨by omega, core _ (by rw [cut_1, ef]; rfl) (Nat.le_trans (cutS_length t _ _) hl)⟩
  · rw [decide_eq_false h, if_neg Bool.false_ne_true]
    exact core t (by rw [show figs (tl t) = tl t from if_neg h]) hl

abbrev s_stretch_in_D : Stmt := topS 29
theorem sc_stretch_in_D : FnScope ["word", "first", "mark", "last", "ends", "end"] ["word"] (defScope s_stretch_in_D) := ⟨rfl, rfl, rfl, by decide +kernel, rfl, by decide +kernel, by decide +kernel⟩

theorem ok_stretch_in_D {f : Addr} {fd : FuncData} (F : Fun K "stretch_in" "stretch_in" s_stretch_in_D f fd) (nb : Nb mg) {bt : Addr} (ex_BadText : Exn K mg "BadText" bt) (gs_POINTS : GlS mg "POINTS" "..") (h_is_stretch : Fc P w K mg base C 2 "is_stretch" dp_is_stretch) (h_number_in : Fc P w K mg base C 1 "number_in" (dp_numin bt)) : FnOk P w K mg base (L2.CX P w) 3 f fd ["word"] (spD K C (dp_strinD bt)) := by
  refine fnD F sc_stretch_in_D (fun cdv A outer s H E hr =>
    (sd_cons (sd_asg (pd_partition (pd 0) (pd_globS gs_POINTS)) (gd_tup rfl sc_stretch_in_D.nd (.cons (i := 1) rfl (by first | exact .inl rfl | exact .inr rfl) (by first | exact .inl rfl | exact .inr rfl) (.cons (i := 2) rfl (by first | exact .inl rfl | exact .inr rfl) (by first | exact .inl rfl | exact .inr rfl) (.cons (i := 3) rfl (by first | exact .inl rfl | exact .inr rfl) (by first | exact .inl rfl | exact .inr rfl) .nil)))))
  (sd_cons (sd_if (qd_cmp (or_eq hr.units) ab_eq (pd 2) pd_str (nomark _)) (sd_one (sd_ret (pd_tup (ad_cons (pd_fn h_number_in (hr.mono (by decide)) rfl px (ad_cons (pd 0) ad_nil)) (ad_cons (pd_fn h_number_in (hr.mono (by decide)) rfl px (ad_cons (pd 0) ad_nil)) ad_nil))))) sd_nil)
  (sd_cons (sd_setLcX (i := 4) rfl rfl tkD rfl sc_stretch_in_D.nd rfl rfl (sw_true rfl rfl rfl (by decide +kernel)) (id_of (pd_tup (ad_cons (pd 1) (ad_cons (pd 3) ad_nil)))) (blkOk_by (own := [("end", 5)]) (N := ["word", "first", "mark", "last", "ends", "end"]) (sc := defScope s_stretch_in_D) (by decide +kernel)) (fun _ _ _ _ _ => (gd_name (i := 5) sc_stretch_in_D.nd rfl (by first | exact .inl rfl | exact .inr rfl))) (fun _ _ _ _ _ => ts_nil) (fun _ _ _ _ _ => (pd_if (qd_cmp (or_eq hr.units) ab_eq (pd 5) pd_str (nomark _)) pd_non (pd_fn h_number_in (hr.mono (by decide)) rfl passX (ad_cons (pd 5) ad_nil)))))
  (sd_cons (sd_if (qd_not (qd_val (pd_fn h_is_stretch (hr.mono (by decide)) rfl px (ad_cons (pd_tup (ad_cons (pd_ix (pd 4) pd_int (fun _ _ => rfl)) (ad_cons (pd_ix (pd 4) pd_int (fun _ _ => rfl)) ad_nil))) ad_nil)))) (sd_one (sd_raise rfl tkD (pmk_exc ex_BadText rfl))) sd_nil)
  (sd_one (sd_ret (pd_tup (ad_cons (pd_ix (pd 4) pd_int (fun _ _ => rfl)) (ad_cons (pd_ix (pd 4) pd_int (fun _ _ => rfl)) ad_nil)))))))))) (fun ds T R q => ?_)
  obtain ⟨t, rfl, hl, q1, q2⟩ := q
  refine ⟨rfl, ?_⟩
  walk_at "dl"
  refine ⟨by decide +kernel, by omega, ?_⟩
  rcases part_cases t with e | ⟨f, l, e, g1, g2⟩
  · rw [e, if_pos (show decide (Str.empty = Str.ofString "") = true by decide +kernel)]
    refine numin_wd hl (fun i hi wi => numin_wd hl (fun j hj wj => ?_) q2) q2
    obtain rfl : i = j := iL_inj (hi.symm.trans hj)
    exact q1 (some i, some i) (by simp [okS]) (fun z e => by cases e; exact wi) (fun z e => by cases e; exact wi)
  · rw [e, if_neg (show ¬ decide (Str.ofString ".." = Str.ofString "") = true by decide +kernel)]
    have el : ∀ (w : Str) (P : D → Prop), w.length ≤ 1980 → (∀ o, WdO o → P (oi o)) → if decide (w = Str.ofString "") = true then P .non else dp_numin bt [.str w] P R := fun w P hw h => by
      split
      · exact h none nofun
      · exact numin_wd hw (fun i _ wi => h (some i) fun z e => by cases e; exact wi) q2
    simp only [lcDX]
    walk_at "dl"
    refine el f _ (by omega) fun a ha => ?_
    refine el l _ (by omega) fun b hb => ?_
    exact strin_end q1 q2 ha hb

abbrev s_need_keeper : Stmt := topS 21
theorem sc_need_keeper : FnScope ["thing"] ["thing"] (defScope s_need_keeper) := ⟨rfl, rfl, rfl, by decide +kernel, rfl, by decide +kernel, by decide +kernel⟩

theorem ok_need_keeper {f : Addr} {fd : FuncData} (F : Fun K "need_keeper" "need_keeper" s_need_keeper f fd) (nb : Nb mg) {bk : Addr} (T0 : Kp K mg C) (KI : Kis K C) (ex_BadKeeper : Exn K mg "BadKeeper" bk) : FnOk P w K mg base (L2.CX P w) 1 f fd ["thing"] (spD K C (dp_need_keeper bk)) := by
  refine fnD F sc_need_keeper (fun cdv A outer s H E hr =>
    (sd_one (sd_if (qd_not (qd_val (pd_isK T0 KI nb.isinstance (ad_cons (pd 0) (ad_cons (pd_glob rfl T0.g) ad_nil))))) (sd_one (sd_raise rfl tkD (pmk_exc ex_BadKeeper rfl))) sd_nil))) (fun ds T R q => ?_)
  obtain ⟨d, rfl, q⟩ := q
  refine ⟨rfl, ?_⟩
  rcases q with ⟨⟨r, rfl⟩, q⟩ | ⟨h, q⟩
  · walk_at "dl"
    exact q
  · cases d <;> first | (cases h; done) | (walk_at "dl"; first | exact q | exact ⟨rfl, q⟩)

abbrev s_end_text : Stmt := topS 25
theorem sc_end_text : FnScope ["end"] ["end"] (defScope s_end_text) := ⟨rfl, rfl, rfl, by decide +kernel, rfl, by decide +kernel, by decide +kernel⟩

theorem ok_end_text {f : Addr} {fd : FuncData} (F : Fun K "end_text" "end_text" s_end_text f fd) (nb : Nb mg) (DG : PySem.W.nsIn K cStatics "sys.int_max_str_digits" = some none) : FnOk P w K mg base (L2.CX P w) 1 f fd ["end"] (spD K C dp_endtext) := by
  refine fnD F sc_end_text (fun cdv A outer s H E hr =>
    (sd_one (sd_ret (pd_if (qd_cmp or_is ab_is (pd 0) pd_non (nomark _)) pd_str (pd_str4 (K := K) rfl DG nb.str (ad_cons (pd 0) ad_nil)))))) (fun ds T R q => ?_)
  obtain ⟨o, rfl, h, q⟩ := q
  refine ⟨rfl, ?_⟩
  cases o with
  | none =>
    walk_at "dl"
    exact q
  | some i =>
    walk_at "dl"
    refine ⟨(h i rfl).lim, ?_⟩
    rw [str_int]
    exact q

abbrev s_stretch_text : Stmt := topS 26
theorem sc_stretch_text : FnScope ["stretch"] ["stretch"] (defScope s_stretch_text) := ⟨rfl, rfl, rfl, by decide +kernel, rfl, by decide +kernel, by decide +kernel⟩

theorem ok_stretch_text {f : Addr} {fd : FuncData} (F : Fun K "stretch_text" "stretch_text" s_stretch_text f fd) (nb : Nb mg) (gs_POINTS : GlS mg "POINTS" "..") (DG : PySem.W.nsIn K cStatics "sys.int_max_str_digits" = some none) (h_end_text : Fc P w K mg base C 1 "end_text" dp_endtext) : FnOk P w K mg base (L2.CX P w) 2 f fd ["stretch"] (spD K C dp_stext) := by
  refine fnD F sc_stretch_text (fun cdv A outer s H E hr =>
    (sd_cons (sd_if (PW.pt (wd_and (qd_cmp (or_eq hr.units) ab_eq (pd_ix (pd 0) pd_int (fun _ _ => rfl)) (pd_ix (pd 0) pd_int (fun _ _ => rfl)) (nomark _)) (wd_and1 (qd_cmp or_isnot ab_isnot (pd_ix (pd 0) pd_int (fun _ _ => rfl)) pd_non (nomark _))))) (sd_one (sd_ret (pd_str4 (K := K) rfl DG nb.str (ad_cons (pd_ix (pd 0) pd_int (fun _ _ => rfl)) ad_nil)))) sd_nil)
  (sd_one (sd_ret (pd_op or_add ab_add (pd_op or_add ab_add (pd_fn h_end_text (hr.mono (by decide)) rfl px (ad_cons (pd_ix (pd 0) pd_int (fun _ _ => rfl)) ad_nil)) (pd_globS gs_POINTS)) (pd_fn h_end_text (hr.mono (by decide)) rfl px (ad_cons (pd_ix (pd 0) pd_int (fun _ _ => rfl)) ad_nil))))))) (fun ds T R q => ?_)
  obtain ⟨⟨a, c⟩, rfl, h1, h2, q⟩ := q
  refine ⟨rfl, ?_⟩
  dsimp only at h1 h2
  rcases a with _ | a <;> rcases c with _ | c
  · walk_at "dl"
    refine ⟨okE_non, okE_non, ?_⟩
    rw [eqD_nn, if_pos rfl]
    refine ⟨none, rfl, h1, ?_⟩
    have l1 := oL_len h1
    have l2 := oL_len h2
    walk_at "dl"
    refine ⟨by simp only [dots, mk_len, List.length_cons, List.length_nil]; omega, none, rfl, h2, ?_⟩
    rw [sL_two (by simp)] at q
    simp only [dots, mk_app, mk_len, List.length_append, List.length_cons, List.length_nil]
    exact ⟨by omega, q⟩
  · walk_at "dl"
    refine ⟨okE_non, okE_int _, ?_⟩
    rw [if_neg (by simp [eqD, D.toPy, PyData.eqv])]
    refine ⟨none, rfl, h1, ?_⟩
    have l1 := oL_len h1
    have l2 := oL_len h2
    walk_at "dl"
    refine ⟨by simp only [dots, mk_len, List.length_cons, List.length_nil]; omega, some c, rfl, h2, ?_⟩
    rw [sL_two (by simp)] at q
    simp only [dots, mk_app, mk_len, List.length_append, List.length_cons, List.length_nil]
    exact ⟨by omega, q⟩
  · walk_at "dl"
    refine ⟨okE_int _, okE_non, ?_⟩
    rw [if_neg (by simp [eqD, D.toPy, PyData.eqv])]
    refine ⟨some a, rfl, h1, ?_⟩
    have l1 := oL_len h1
    have l2 := oL_len h2
    walk_at "dl"
    refine ⟨by simp only [dots, mk_len, List.length_cons, List.length_nil]; omega, none, rfl, h2, ?_⟩
    rw [sL_two (by simp)] at q
    simp only [dots, mk_app, mk_len, List.length_append, List.length_cons, List.length_nil]
    exact ⟨by omega, q⟩
  · walk_at "dl"
    refine ⟨okE_int _, okE_int _, ?_⟩
    by_cases ne : a = c
    · subst ne
      rw [decide_eq_true rfl, if_pos rfl]
      refine ⟨(h1 a rfl).lim, ?_⟩
      rw [str_int]
      rw [sL_one] at q
      exact q
    · rw [decide_eq_false ne, if_neg Bool.false_ne_true]
      refine ⟨some a, rfl, h1, ?_⟩
      have l1 := oL_len h1
      have l2 := oL_len h2
      walk_at "dl"
      refine ⟨by simp only [dots, mk_len, List.length_cons, List.length_nil]; omega, some c, rfl, h2, ?_⟩
      rw [sL_two (by simp; exact ne)] at q
      simp only [dots, mk_app, mk_len, List.length_append, List.length_cons, List.length_nil]
      exact ⟨by omega, q⟩

abbrev s_text_of : Stmt := topS 27
theorem sc_text_of : FnScope ["keeper", "stretch"] ["keeper"] (defScope s_text_of) := ⟨rfl, rfl, rfl, by decide +kernel, rfl, by decide +kernel, by decide +kernel⟩

theorem ok_text_of {f : Addr} {fd : FuncData} (F : Fun K "text_of" "text_of" s_text_of f fd) (nb : Nb mg) {bk : Addr} (T0 : Kp K mg C) (h_stretches : Mc P w K mg base C 1 "stretches" dp_stretches) (h_need_keeper : Fc P w K mg base C 1 "need_keeper" (dp_need_keeper bk)) (h_stretch_text : Fc P w K mg base C 2 "stretch_text" dp_stext) : FnOk P w K mg base (L2.CX P w) 3 f fd ["keeper"] (spD K C dp_text) := by
  refine fnD F sc_text_of (fun cdv A outer s H E hr =>
    (sd_cons (sd_expr (pd_fn h_need_keeper (hr.mono (by decide)) rfl px (ad_cons (pd 0) ad_nil)))
  (sd_one (sd_ret (pd_join pd_str (pd_lc rfl sc_text_of.nd (id_of (pd_mt0 T0 h_stretches (hr.mono (by decide)) px (pd 0))) (blkOk_by (own := [("stretch", 1)]) (N := ["keeper", "stretch"]) (sc := defScope s_text_of) (by decide +kernel)) (fun _ _ _ _ _ => (gd_name (i := 1) sc_text_of.nd rfl (by first | exact .inl rfl | exact .inr rfl))) (fun _ _ _ _ _ => ts_nil) (fun _ _ _ _ _ => (pd_fn h_stretch_text (hr.mono (by decide)) rfl passL (ad_cons (pd 1) ad_nil))))))))) (fun ds T R q => ?_)
  obtain ⟨r, rfl, h1, h2, q⟩ := q
  refine ⟨rfl, ?_⟩
  walk_at "dl"
  refine ⟨_, rfl, .inl ⟨⟨r, rfl⟩, ?_⟩⟩
  walk_at "dl"
  refine ⟨r, rfl, by omega, ?_⟩
  have hl := strs_le r
  walk_at "dl"
  refine ⟨by rw [List.length_map]; omega, lcD_map (enc := sD) (f := fun s => some (.str (mk (sL s)))) r.strs (fun s hs k1 k2 h => ?_) ?_⟩
  · walk_at "dl"
    exact ⟨s, rfl, (h2 s hs).1, (h2 s hs).2, h⟩
  · rw [filterMap_some, List.nil_append]
    have hw := words_sum h2
    refine ⟨r.strs.map fun s => mk (sL s), by rw [List.map_map]; rfl, ?_, ?_⟩
    · rw [List.length_map, show (Str.ofString " ").length = 1 by decide +kernel]
      omega
    · rw [show Txt.join (Str.ofString " ") (r.strs.map fun s => mk (sL s)) = mk (rL r.strs) from join_words r.strs]
      exact q

abbrev s_keeper_of_D : Stmt := topS 30
theorem sc_keeper_of_D : FnScope ["text", "found", "word", "0a"] ["text"] (defScope s_keeper_of_D) := ⟨rfl, rfl, rfl, by decide +kernel, rfl, by decide +kernel, by decide +kernel⟩

theorem ok_keeper_of_D {f : Addr} {fd : FuncData} (F : Fun K "keeper_of" "keeper_of" s_keeper_of_D f fd) (nb : Nb mg) {bs : Addr} {bt : Addr} (T0 : Kp K mg C) (N0 : Kn P w K mg base C 1) (ex_BadText : Exn K mg "BadText" bt) (h_put : Mm P w K mg base C 4 "put" (dm_put f_either bs)) (h_stretch_in : Fc P w K mg base C 3 "stretch_in" (dp_strinD bt)) (h_text_of : Fc P w K mg base C 3 "text_of" dp_text) : FnOk P w K mg base (L2.CX P w) 5 f fd ["text"] (spD K C (dp_keeperD bt)) := by
  refine fnD F sc_keeper_of_D (fun cdv A outer s H E hr =>
    (sd_cons (sd_if (qd_not (qd_val (pd_isi nb.isinstance (ad_cons (pd 0) (ad_cons (pd_cls rfl nb.str bt_str) ad_nil))))) (sd_one (sd_raise rfl tkD (pmk_exc ex_BadText rfl))) sd_nil)
  (sd_cons (sd_newK (i := 1) (j := 3) N0 (hr.mono (by decide)) px sc_keeper_of_D.nd rfl (by first | exact .inl rfl | exact .inr rfl) (hf := (by first | exact .inl rfl | exact .inr rfl)))
  (sd_cons (sd_for ownD rfl (id_of (pd_if (qd_cmp (or_ne hr.units) ab_ne (pd 0) pd_str (nomark _)) (pd_split (pd 0) pd_str) (pd_lst ad_nil))) (gd_name (i := 2) sc_keeper_of_D.nd rfl (by first | exact .inl rfl | exact .inr rfl))
    (sd_one (sd_in (sm_expr (pm_m 3 T0 h_put (hr.mono (by decide)) px (pd 1) (ad_cons (pd_fn h_stretch_in (hr.mono (by decide)) rfl px (ad_cons (pd 2) ad_nil)) ad_nil))))))
  (sd_cons (sd_if (qd_cmp (or_ne hr.units) ab_ne (pd_lend 1 3 (pd_fn h_text_of (hr.mono (by decide)) rfl px (ad_cons (pd 1) ad_nil))) (pd 0) (nomark _)) (sd_one (sd_raise rfl tkD (pmk_exc ex_BadText rfl))) sd_nil)
  (sd_frzK 1 3 (sd_one (sd_ret (pd 1))))))))) (fun ds T R q => ?_)
  rcases q with ⟨d, rfl, hd, hn, q⟩ | ⟨t, rfl, hf, q1, q2⟩
  · refine ⟨rfl, ?_⟩
    walk_at "dl"
    obtain ⟨ty, hty⟩ := Option.isSome_iff_exists.mp hd
    refine ⟨ty, hty, by decide, ?_⟩
    rw [if_pos (by cases d <;> first | (cases hty; done) | (cases hty; rfl) | exact absurd rfl (hn _))]
    exact q
  refine ⟨rfl, ?_⟩
  have fl := hf.len
  have wc := words_count t
  have ws := hf.spc
  walk_at "dl"
  refine ⟨_, rfl, by decide, ?_⟩
  rw [if_neg (by decide)]
  intro p
  by_cases e : t = Str.ofString ""
  · rw [decide_eq_true e]
    simp only [Bool.not_true, Bool.false_eq_true, if_false]
    have e2 : ([] : List D) = ([] : List Str).map fun w => D.str w := rfl
    refine (congrArg (fun l => forD _ _ _ _ _ l _) e2).mpr ?_
    refine forD_ind (enc := fun w : Str => D.str w) (fun rest ρ => ∃ (done : List Str2) (r' : KRow) (u2 : Option DV), ρ = [some (.v (.str t)), some (.v (.adr p)), u2, some (.kst p r'.b r'.ts)] ∧ Inv1 r' (done.map fun s => Deed.put [s]) ∧ WdR r' ∧ done.length + rest.length ≤ 501 ∧ ∀ w ∈ rest, w.length ≤ 1980) ?_ ?_ [] _ ⟨[], ⟨false, [], .nil⟩, _, rfl, Inv1.nil, nofun, by simp, nofun⟩
    · rintro ρ ⟨done, r', u2, rfl, hI, hW, hl, _⟩
      rw [List.length_nil] at hl
      have tl1 : r'.ts.length ≤ 2 * (done.map fun s => Deed.put [s]).length := Nat.le_trans (row_len hI.sub) hI.len
      rw [List.length_map] at tl1
      walk_at "dl"
      refine ⟨r', rfl, by omega, hW.sm, free_str _, ?_⟩
      walk_at "dl"
      by_cases et : mk (rL r'.strs) = t
      · rw [decide_eq_true et]
        walk_at "dl"
        exact q1 r' et.symm
      · rw [decide_eq_false et]
        walk_at "dl"
        exact q2
    · rintro w rest ρ k ⟨done, r', u2, rfl, hI, hW, hl, hw⟩ hk
      rw [List.length_cons] at hl
      walk_at "dl"
      refine ⟨w, rfl, hw w (by simp), fun s ho h1 h2 => ?_, q2⟩
      refine ⟨r', sD s, rfl, rfl, rfl, .inl ⟨s, ho, rfl, hI.few (by rw [List.length_map]; omega) s ho, ?_⟩⟩
      refine hk _ ⟨done ++ [s], _, _, rfl, ?_, hW.put ho h1 h2, by rw [List.length_append]; simp only [List.length_singleton]; omega, fun w hw' => hw w (List.mem_cons_of_mem _ hw')⟩
      rw [List.map_append]
      exact hI.put s ho
  · rw [decide_eq_false e]
    simp only [Bool.not_false, if_true]
    refine ⟨by decide +kernel, by omega, ?_⟩
    refine forD_ind (enc := fun w : Str => D.str w) (fun rest ρ => ∃ (done : List Str2) (r' : KRow) (u2 : Option DV), ρ = [some (.v (.str t)), some (.v (.adr p)), u2, some (.kst p r'.b r'.ts)] ∧ Inv1 r' (done.map fun s => Deed.put [s]) ∧ WdR r' ∧ done.length + rest.length ≤ 501 ∧ ∀ w ∈ rest, w.length ≤ 1980) ?_ ?_ (wordsT t) _ ⟨[], ⟨false, [], .nil⟩, _, rfl, Inv1.nil, nofun, by simp only [List.length_nil]; omega, words_thin hf.thin⟩
    · rintro ρ ⟨done, r', u2, rfl, hI, hW, hl, _⟩
      rw [List.length_nil] at hl
      have tl1 : r'.ts.length ≤ 2 * (done.map fun s => Deed.put [s]).length := Nat.le_trans (row_len hI.sub) hI.len
      rw [List.length_map] at tl1
      walk_at "dl"
      refine ⟨r', rfl, by omega, hW.sm, free_str _, ?_⟩
      walk_at "dl"
      by_cases et : mk (rL r'.strs) = t
      · rw [decide_eq_true et]
        walk_at "dl"
        exact q1 r' et.symm
      · rw [decide_eq_false et]
        walk_at "dl"
        exact q2
    · rintro w rest ρ k ⟨done, r', u2, rfl, hI, hW, hl, hw⟩ hk
      rw [List.length_cons] at hl
      walk_at "dl"
      refine ⟨w, rfl, hw w (by simp), fun s ho h1 h2 => ?_, q2⟩
      refine ⟨r', sD s, rfl, rfl, rfl, .inl ⟨s, ho, rfl, hI.few (by rw [List.length_map]; omega) s ho, ?_⟩⟩
      refine hk _ ⟨done ++ [s], _, _, rfl, ?_, hW.put ho h1 h2, by rw [List.length_append]; simp only [List.length_singleton]; omega, fun w hw' => hw w (List.mem_cons_of_mem _ hw')⟩
      rw [List.map_append]
      exact hI.put s ho

abbrev s_stretch_in : Stmt := topS 29
theorem sc_stretch_in : FnScope ["word", "first", "mark", "last", "ends", "end"] ["word"] (defScope s_stretch_in) := ⟨rfl, rfl, rfl, by decide +kernel, rfl, by decide +kernel, by decide +kernel⟩

theorem ok_stretch_in {f : Addr} {fd : FuncData} (F : Fun K "stretch_in" "stretch_in" s_stretch_in f fd) (nb : Nb mg) {bt : Addr} (ex_BadText : Exn K mg "BadText" bt) (gs_POINTS : GlS mg "POINTS" "..") (h_is_stretch : Fc P w K mg base C 2 "is_stretch" dp_is_stretch) (h_number_in : Fc P w K mg base C 1 "number_in" (dp_numin bt)) : FnOk P w K mg base (L2.CX P w) 3 f fd ["word"] (spD K C dp_strin) := by
  refine fnD F sc_stretch_in (fun cdv A outer s H E hr =>
    (sd_cons (sd_asg (pd_partition (pd 0) (pd_globS gs_POINTS)) (gd_tup rfl sc_stretch_in.nd (.cons (i := 1) rfl (by first | exact .inl rfl | exact .inr rfl) (by first | exact .inl rfl | exact .inr rfl) (.cons (i := 2) rfl (by first | exact .inl rfl | exact .inr rfl) (by first | exact .inl rfl | exact .inr rfl) (.cons (i := 3) rfl (by first | exact .inl rfl | exact .inr rfl) (by first | exact .inl rfl | exact .inr rfl) .nil)))))
  (sd_cons (sd_if (qd_cmp (or_eq hr.units) ab_eq (pd 2) pd_str (nomark _)) (sd_one (sd_ret (pd_tup (ad_cons (pd_fn h_number_in (hr.mono (by decide)) rfl px (ad_cons (pd 0) ad_nil)) (ad_cons (pd_fn h_number_in (hr.mono (by decide)) rfl px (ad_cons (pd 0) ad_nil)) ad_nil))))) sd_nil)
  (sd_cons (sd_setLc (i := 4) rfl sc_stretch_in.nd rfl rfl (sw_true rfl rfl rfl (by decide +kernel)) (id_of (pd_tup (ad_cons (pd 1) (ad_cons (pd 3) ad_nil)))) (blkOk_by (own := [("end", 5)]) (N := ["word", "first", "mark", "last", "ends", "end"]) (sc := defScope s_stretch_in) (by decide +kernel)) (fun _ _ _ _ _ => (gd_name (i := 5) sc_stretch_in.nd rfl (by first | exact .inl rfl | exact .inr rfl))) (fun _ _ _ _ _ => ts_nil) (fun _ _ _ _ _ => (pd_if (qd_cmp (or_eq hr.units) ab_eq (pd 5) pd_str (nomark _)) pd_non (pd_fn h_number_in (hr.mono (by decide)) rfl passL (ad_cons (pd 5) ad_nil)))))
  (sd_cons (sd_if (qd_not (qd_val (pd_fn h_is_stretch (hr.mono (by decide)) rfl px (ad_cons (pd_tup (ad_cons (pd_ix (pd 4) pd_int (fun _ _ => rfl)) (ad_cons (pd_ix (pd 4) pd_int (fun _ _ => rfl)) ad_nil))) ad_nil)))) (sd_one (sd_raise rfl tkD (pmk_exc ex_BadText rfl))) sd_nil)
  (sd_one (sd_ret (pd_tup (ad_cons (pd_ix (pd 4) pd_int (fun _ _ => rfl)) (ad_cons (pd_ix (pd 4) pd_int (fun _ _ => rfl)) ad_nil)))))))))) (fun ds T R q => ?_)
  obtain ⟨s, rfl, h1, h2, h3, q⟩ := q
  refine ⟨rfl, ?_⟩
  have hl := sL_len h1 h2
  walk_at "dl"
  refine ⟨by decide +kernel, by rw [mk_len]; omega, ?_⟩
  by_cases c : s.1 = s.2 ∧ s.1 ≠ none
  · obtain ⟨a, ha⟩ := Option.ne_none_iff_exists'.mp c.2
    have es : s = (some a, some a) := Prod.ext ha (by rw [← c.1]; exact ha)
    subst es
    rw [sL_one, part_one, if_pos (show decide (Str.empty = Str.ofString "") = true by decide +kernel)]
    exact numin_good (h1 a rfl) (numin_good (h1 a rfl) q)
  · rw [sL_two c, part_two, if_neg (show ¬ decide (Str.ofString ".." = Str.ofString "") = true by decide +kernel)]
    refine lcD_map (enc := fun o => D.str (mk (oL o))) (f := fun o => some (oi o)) [s.1, s.2] (fun o ho k1 k2 h => ?_) ?_
    · have hs : SmO o := by
        simp only [List.mem_cons, List.not_mem_nil, or_false] at ho
        rcases ho with rfl | rfl <;> assumption
      walk_at "dl"
      simp only [empt, mk_eq]
      cases o with
      | none =>
        rw [if_pos (by decide)]
        exact h
      | some i =>
        rw [if_neg (by simp [oL, iL_ne])]
        exact numin_good (hs i rfl) h
    · rw [filterMap_some, List.nil_append]
      refine ⟨oi s.1, atI_0 _ _, oi s.2, atI_1 _ _ _, ?_⟩
      refine ⟨_, rfl, okThing_sD s, ?_⟩
      rw [show isStr (D.tup [oi s.1, oi s.2]) = okS s from isStr_sD s, h3]
      walk_at "dl"
      exact q

abbrev s_keeper_of_N : Stmt := topS 30
theorem sc_keeper_of_N : FnScope ["text", "found", "word", "0a"] ["text"] (defScope s_keeper_of_N) := ⟨rfl, rfl, rfl, by decide +kernel, rfl, by decide +kernel, by decide +kernel⟩

theorem ok_keeper_of_N {f : Addr} {fd : FuncData} (F : Fun K "keeper_of" "keeper_of" s_keeper_of_N f fd) (nb : Nb mg) {bs : Addr} {bt : Addr} (T0 : Kp K mg C) (N0 : Kn P w K mg base C 1) (ex_BadText : Exn K mg "BadText" bt) (h_put : Mm P w K mg base C 4 "put" (dm_put f_either bs)) (h_stretch_in : Fc P w K mg base C 3 "stretch_in" dp_strin) (h_text_of : Fc P w K mg base C 3 "text_of" dp_text) : FnOk P w K mg base (L2.CX P w) 5 f fd ["text"] (spN K C dn_keeper_of) := by
  refine fnN F sc_keeper_of_N (fun cdv A outer s H E hr =>
    (sn_cons (sd_if (qd_not (qd_val (pd_isi nb.isinstance (ad_cons (pd 0) (ad_cons (pd_cls rfl nb.str bt_str) ad_nil))))) (sd_one (sd_raise rfl tkD (pmk_exc ex_BadText rfl))) sd_nil)
  (sn_cons (sd_newK (i := 1) (j := 3) N0 (hr.mono (by decide)) px sc_keeper_of_N.nd rfl (by first | exact .inl rfl | exact .inr rfl) (hf := (by first | exact .inl rfl | exact .inr rfl)))
  (sn_cons (sd_for ownD rfl (id_of (pd_if (qd_cmp (or_ne hr.units) ab_ne (pd 0) pd_str (nomark _)) (pd_split (pd 0) pd_str) (pd_lst ad_nil))) (gd_name (i := 2) sc_keeper_of_N.nd rfl (by first | exact .inl rfl | exact .inr rfl))
    (sd_one (sd_in (sm_expr (pm_m 3 T0 h_put (hr.mono (by decide)) px (pd 1) (ad_cons (pd_fn h_stretch_in (hr.mono (by decide)) rfl px (ad_cons (pd 2) ad_nil)) ad_nil))))))
  (sn_cons (sd_if (qd_cmp (or_ne hr.units) ab_ne (pd_lend 1 3 (pd_fn h_text_of (hr.mono (by decide)) rfl px (ad_cons (pd 1) ad_nil))) (pd 0) (nomark _)) (sd_one (sd_raise rfl tkD (pmk_exc ex_BadText rfl))) sd_nil)
  (sn_ret (i := 1) (j := 3) (pv 1))))))) (fun ds T q => ?_)
  obtain ⟨r, rfl, h1, h2, h3, q⟩ := q
  refine ⟨rfl, ?_⟩
  have hrl := rL_len h3
  have hsl := strs_le r
  walk_at "dl"
  refine ⟨_, rfl, by decide, ?_⟩
  rw [if_neg (by decide)]
  intro p
  by_cases e : mk (rL r.strs) = Str.ofString ""
  · have e' : r.strs = [] := rL_nil.mp (mk_inj (e.trans empt))
    rw [decide_eq_true e]
    simp only [Bool.not_true, Bool.false_eq_true, if_false]
    have e2 : ([] : List D) = r.strs.map fun s => D.str (mk (sL s)) := by rw [e']; rfl
    refine (congrArg (fun l => forD _ _ _ _ _ l _) e2).mpr ?_
    refine forD_ind (enc := fun s => D.str (mk (sL s))) (fun rest ρ => ∃ (done : List Str2) (r' : KRow) (x0 u2 : Option DV), ρ = [some (.v (.str (mk (rL r.strs)))), some (.v (.adr p)), u2, some (.kst p r'.b r'.ts)] ∧ done ++ rest = r.strs ∧ Inv1 r' (done.map fun s => Deed.put [s])) ?_ ?_ r.strs _ ⟨[], ⟨false, [], .nil⟩, none, _, rfl, rfl, Inv1.nil⟩
    · rintro ρ ⟨done, r', x0, u2, rfl, g1, hI⟩
      rw [List.append_nil] at g1
      rw [g1] at hI
      have er := puts_row hI
      subst er
      walk_at "dl"
      refine ⟨r', rfl, by omega, h3, free_str _, ?_⟩
      walk_at "dl"
      exact q
    · rintro s rest ρ k ⟨done, r', x0, u2, rfl, g1, hI⟩ hk
      have hs : s ∈ r.strs := by rw [← g1]; simp
      have hdl : (done.map fun s => Deed.put [s]).length ≤ 1000 := by rw [List.length_map]; rw [← g1, List.length_append] at h1; omega
      have ok := strs_ok r s hs
      walk_at "dl"
      refine ⟨s, rfl, (h3 s hs).1, (h3 s hs).2, ok, ?_⟩
      refine ⟨r', sD s, rfl, rfl, rfl, .inl ⟨s, ok, rfl, hI.few hdl s ok, ?_⟩⟩
      refine hk _ ⟨done ++ [s], _, none, _, rfl, by rw [← g1, List.append_assoc]; rfl, ?_⟩
      rw [List.map_append]
      exact hI.put s ok
  · have e' : r.strs ≠ [] := fun z => e (by rw [rL_nil.mpr z, empt])
    rw [decide_eq_false e]
    simp only [Bool.not_false, if_true]
    refine ⟨by decide +kernel, by rw [mk_len]; omega, ?_⟩
    rw [show Txt.split (mk (rL r.strs)) (Str.ofString " ") = _ from split_words e', List.map_map]
    refine forD_ind (enc := fun s => D.str (mk (sL s))) (fun rest ρ => ∃ (done : List Str2) (r' : KRow) (x0 u2 : Option DV), ρ = [some (.v (.str (mk (rL r.strs)))), some (.v (.adr p)), u2, some (.kst p r'.b r'.ts)] ∧ done ++ rest = r.strs ∧ Inv1 r' (done.map fun s => Deed.put [s])) ?_ ?_ r.strs _ ⟨[], ⟨false, [], .nil⟩, none, _, rfl, rfl, Inv1.nil⟩
    · rintro ρ ⟨done, r', x0, u2, rfl, g1, hI⟩
      rw [List.append_nil] at g1
      rw [g1] at hI
      have er := puts_row hI
      subst er
      walk_at "dl"
      refine ⟨r', rfl, by omega, h3, free_str _, ?_⟩
      walk_at "dl"
      exact q
    · rintro s rest ρ k ⟨done, r', x0, u2, rfl, g1, hI⟩ hk
      have hs : s ∈ r.strs := by rw [← g1]; simp
      have hdl : (done.map fun s => Deed.put [s]).length ≤ 1000 := by rw [List.length_map]; rw [← g1, List.length_append] at h1; omega
      have ok := strs_ok r s hs
      walk_at "dl"
      refine ⟨s, rfl, (h3 s hs).1, (h3 s hs).2, ok, ?_⟩
      refine ⟨r', sD s, rfl, rfl, rfl, .inl ⟨s, ok, rfl, hI.few hdl s ok, ?_⟩⟩
      refine hk _ ⟨done ++ [s], _, none, _, rfl, by rw [← g1, List.append_assoc]; rfl, ?_⟩
      rw [List.map_append]
      exact hI.put s ok

abbrev s__law_told : Stmt := topS 54
theorem sc__law_told : FnScope ["_law_text_here", "_law_kept_here", "_law_found", "_law_e"] ["_law_text_here"] (defScope s__law_told) := ⟨rfl, rfl, rfl, by decide +kernel, rfl, by decide +kernel, by decide +kernel⟩

theorem ok__law_told {f : Addr} {fd : FuncData} (F : Fun K "_law_told" "_law_told" s__law_told f fd) (nb : Nb mg) {KE : Addr} {ea : Kc → Addr} (T0 : Kp K mg C) (KI : Kis K C) (EC : Ecs K mg KE ea) (hKE : mg "KeepError" = some (.ref KE)) (h_stretches : Mc P w K mg base C 1 "stretches" dp_stretches) (h__law_word : Fc P w K mg base C 1 "_law_word" (dp_word ea)) (h_keeper_of : Fc P w K mg base C 5 "keeper_of" (dp_keeperD (ea .tex))) (hN_keeper_of : Fn P w K mg base C 5 "keeper_of" dn_keeper_of) : FnOk P w K mg base (L2.CX P w) 6 f fd ["_law_text_here"] (spD K C dp_ltold) := by
  refine fnD F sc__law_told (fun cdv A outer s H E hr =>
    (sd_cons (sd_set (i := 1) sc__law_told.nd rfl (by first | exact .inl rfl | exact .inr rfl) pd_non (hf := (by first | exact .inl rfl | exact .inr rfl)))
  (sd_cons (sd_set (i := 2) sc__law_told.nd rfl (by first | exact .inl rfl | exact .inr rfl) pd_non (hf := (by first | exact .inl rfl | exact .inr rfl)))
  (sd_cons (sd_tryK (K := K) (KE := KE) (len := 4) (i := 3) (j := 1) rfl rfl rfl rfl sc__law_told.nd rfl rfl rfl rfl rfl (by decide) hKE tkD rfl (by decide) (by decide) (by decide) (fun _ _ _ hx2 => (sd_one (sd_set (i := 2) sc__law_told.nd rfl (by first | exact .inl rfl | exact .inr rfl) (pd_alt (pd_fn (Fn.fc hN_keeper_of) (hr.mono (by decide)) rfl hx2 (ad_cons (pd 0) ad_nil)) (pd_fn h_keeper_of (hr.mono (by decide)) rfl hx2 (ad_cons (pd 0) ad_nil))) (hf := (by first | exact .inl rfl | exact .inr rfl))))))
  (sd_cons (sd_if (qd_cmp or_isnot ab_isnot (pd 1) pd_non (nomark _)) (sd_one (sd_ret (pd_fn h__law_word (hr.mono (by decide)) rfl px (ad_cons (pd 1) ad_nil)))) sd_nil)
  (sd_one (sd_ret (pd_if (qd_val (pd_isK T0 KI nb.isinstance (ad_cons (pd 2) (ad_cons (pd_glob rfl T0.g) ad_nil)))) (pd_mt0 T0 h_stretches (hr.mono (by decide)) px (pd 2)) (pd_lst (ad_cons pd_str ad_nil)))))))))) (fun ds T R q => ?_)
  rcases q with ⟨d, rfl, hd, hn, q⟩ | ⟨t, rfl, hf, q⟩
  · refine ⟨rfl, ?_⟩
    walk_at "dl"
    refine .inr (.inl ⟨d, rfl, hd, hn, EC.exm .tex, ?_⟩)
    rw [if_pos (show (!(D.exc (ea Kc.tex)).isN) = true from rfl)]
    exact .inr ⟨.tex, rfl, q⟩
  refine ⟨rfl, ?_⟩
  unfold tD at q
  cases e : readL t with
  | some ss =>
    rw [e] at q
    obtain ⟨r, er, et⟩ := read_back e
    obtain ⟨n1, n2, n3⟩ := fine_row hf et
    walk_at "dl"
    refine .inl ⟨r, by rw [et], by omega, by omega, n3, ?_⟩
    walk_at "dl"
    exact ⟨r, rfl, by omega, by rw [er]; exact q⟩
  | none =>
    rw [e] at q
    walk_at "dl"
    refine .inr (.inr ⟨t, rfl, hf, fun r er => ?_, EC.exm .tex, ?_⟩)
    · rw [er, read_good] at e
      cases e
    · rw [if_pos (show (!(D.exc (ea Kc.tex)).isN) = true from rfl)]
      exact .inr ⟨.tex, rfl, q⟩

abbrev s_law : Stmt := topS 55
theorem sc_law : FnScope ["_law_script", "_law_keeper_here", "_law_due_here", "_law_text_here", "_law_k", "_law_cell", "_law_bent", "_law_wanted", "_law_odd", "0a"] ["_law_script"] (defScope s_law) := ⟨rfl, rfl, rfl, by decide +kernel, rfl, by decide +kernel, by decide +kernel⟩

theorem ok_law {f : Addr} {fd : FuncData} (F : Fun K "law" "law" s_law f fd) (nb : Nb mg) (T0 : Kp K mg C) (KI : Kis K C) (N0 : Kn P w K mg base C 1) (h_stretches : Mc P w K mg base C 1 "stretches" dp_stretches) (hT__law_keeper : FnT P w K mg base C 7 "_law_keeper" dt_keeper) (h__law_mixed : Fc P w K mg base C 1 "_law_mixed" dp_mixed) (h__law_read : Fc P w K mg base C 3 "_law_read" dp_lread) (h__law_right : Fc P w K mg base C 2 "_law_right" dp_right) (h__law_spoilt : Fc P w K mg base C 2 "_law_spoilt" dp_lspoilt) (h__law_text : Fc P w K mg base C 1 "_law_text" dp_ltext) (h__law_told : Fc P w K mg base C 6 "_law_told" dp_ltold) : FnOk P w K mg base (L2.CX P w) 8 f fd ["_law_script"] (spD K C dp_law) := by
  refine fnD F sc_law (fun cdv A outer s H E hr =>
    (sd_cons (sd_asgNT (j := 9) hT__law_keeper (hr.mono (by decide)) px rfl (ad_cons (pd 0) (ad_cons pd_int ad_nil)) (gd_tup rfl sc_law.nd (.cons (i := 1) rfl (by first | exact .inl rfl | exact .inr rfl) (by first | exact .inl rfl | exact .inr rfl) (.cons (i := 2) rfl (by first | exact .inl rfl | exact .inr rfl) (by first | exact .inl rfl | exact .inr rfl) .nil))))
  (sd_cons (sd_set (i := 3) sc_law.nd rfl (by first | exact .inl rfl | exact .inr rfl) (pd_fn h__law_text (hr.mono (by decide)) rfl px (ad_cons (pd 2) ad_nil)) (hf := (by first | exact .inl rfl | exact .inr rfl)))
  (sd_cons (sd_for ownD rfl (id_enum rfl nb.enumerate (ad_cons (pd_op or_add ab_add (pd_lst (ad_cons pd_int ad_nil)) (pd_sl (pd 0) od_none (od_some pd_int))) ad_nil)) (gd_tup rfl sc_law.nd (.cons (i := 4) rfl (by first | exact .inl rfl | exact .inr rfl) (by first | exact .inl rfl | exact .inr rfl) (.cons (i := 5) rfl (by first | exact .inl rfl | exact .inr rfl) (by first | exact .inl rfl | exact .inr rfl) .nil)))
    (sd_cons (sd_set (i := 6) sc_law.nd rfl (by first | exact .inl rfl | exact .inr rfl) (pd_fn h__law_spoilt (hr.mono (by decide)) rfl px (ad_cons (pd 3) (ad_cons (pd_op or_add ab_add (pd 5) (pd 4)) ad_nil))) (hf := (by first | exact .inl rfl | exact .inr rfl)))
  (sd_cons (sd_set (i := 7) sc_law.nd rfl (by first | exact .inl rfl | exact .inr rfl) (pd_fn h__law_read (hr.mono (by decide)) rfl px (ad_cons (pd 6) ad_nil)) (hf := (by first | exact .inl rfl | exact .inr rfl)))
  (sd_cons (sd_if (qd_cmp (or_ne hr.units) ab_ne (pd_fn h__law_told (hr.mono (by decide)) rfl px (ad_cons (pd 6) ad_nil)) (pd_if (qd_cmp or_is ab_is (pd 7) pd_non (nomark _)) (pd_lst (ad_cons pd_str ad_nil)) (pd 7)) (nomark _)) (sd_one (sd_ret pd_bl)) sd_nil)
  (sd_cons (sd_if (PW.pt (wd_and (qd_cmp (or_eq hr.units) ab_eq (pd_op op_mod ab_mod (pd_fn h__law_mixed (hr.mono (by decide)) rfl px (ad_cons (pd 5) (ad_cons pd_int ad_nil))) pd_int) pd_int (nomark _)) (wd_and1 (qd_cmp (or_ne hr.units) ab_ne (pd_fn h__law_told (hr.mono (by decide)) rfl px (ad_cons (pd 3) ad_nil)) (pd 2) (nomark _))))) (sd_one (sd_ret pd_bl)) sd_nil)
  (sd_cons (sd_set (i := 8) sc_law.nd rfl (by first | exact .inl rfl | exact .inr rfl) (pd_ix (pd_lst (ad_cons pd_non (ad_cons pd_int (ad_cons pd_bl (ad_cons (pd_lst (ad_cons (pd 3) ad_nil)) (ad_cons (pd_tup (ad_cons pd_str ad_nil)) (ad_cons pd_dic0 (ad_cons pd_bl (ad_cons (pd_lst (ad_cons pd_str ad_nil)) ad_nil))))))))) (pd_op op_mod ab_mod (pd_fn h__law_mixed (hr.mono (by decide)) rfl px (ad_cons (pd 5) (ad_cons pd_int ad_nil))) pd_int) (fun _ _ => rfl)) (hf := (by first | exact .inl rfl | exact .inr rfl)))
  (sd_one (sd_if (qd_cmp (or_ne hr.units) ab_ne (pd_fn h__law_told (hr.mono (by decide)) rfl px (ad_cons (pd 8) ad_nil)) (pd_lst (ad_cons pd_str ad_nil)) (nomark _)) (sd_one (sd_ret pd_bl)) sd_nil))))))))
  (sd_one (sd_ret (pd_and (pd_cmp (or_eq hr.units) ab_eq (pd_fn h__law_told (hr.mono (by decide)) rfl px (ad_cons (pd 3) ad_nil)) (pd 2) (nomark _)) (pd_one (pd_fn h__law_right (hr.mono (by decide)) rfl px (ad_cons (pd_lend 1 9 (pd_mt0 T0 h_stretches (hr.mono (by decide)) px (pd 1))) (ad_cons (pd 2) ad_nil))))))))))) (fun ds T R q => ?_)
  obtain ⟨cs, rfl, hn, q⟩ := q
  refine ⟨rfl, ?_⟩
  walk_at "dl"
  refine ⟨cs, 30, rfl, by omega, fun r dds hI hd hlen y => ?_⟩
  have tl0 : r.ts.length ≤ 2 * dds.length := Nat.le_trans (row_len hI.sub) hI.len
  have sl := strs_le r
  have bt := base_text hI hd hlen
  walk_at "dl"
  refine ⟨r.strs, rfl, by omega, hI.sm hd (by omega), ?_⟩
  have tg := tD_good r
  generalize mk (rL r.strs) = t at bt tg ⊢
  have ft := bt.fine
  walk_at "dl"
  rw [show (30 : Int) = ((30 : Nat) : Int) from rfl, cut_take, show D.int 5 :: List.map D.int (cs.take 30) = (5 :: cs.take 30).map D.int from rfl, enum_map]
  refine ⟨by rw [List.length_map, List.length_take]; omega, ?_⟩
  refine forD_ind (enc := fun p : Int × Int => D.tup [.int p.1, .int p.2]) (fun rest ρ => ∃ u4 u5 u6 u7 u8 : Option DV, ρ = [some (.v (.scr cs)), some (.v (.adr y)), some (.v (ssD r.strs)), some (.v (.str t)), u4, u5, u6, u7, u8, some (.kst y r.b r.ts)]) ?_ ?_ _ _ ⟨_, _, _, _, _, rfl⟩
  · rintro ρ ⟨u4, u5, u6, u7, u8, rfl⟩
    walk_at "dl"
    refine .inr ⟨t, rfl, ft, ?_⟩
    rw [tg]
    refine ⟨okE_ssD _, okE_ssD _, ?_⟩
    rw [show D.lst (List.map sD r.strs) = ssD r.strs from rfl, eqD_ss, if_pos rfl]
    refine ⟨r, rfl, by omega, free_ssD _, r.strs, r.strs, rfl, by omega, ?_⟩
    rw [decide_eq_true rfl]
    exact q
  · rintro ⟨i, cell⟩ rest ρ k ⟨u4, u5, u6, u7, u8, rfl⟩ hk
    walk_at "dl"
    refine ⟨t, _, rfl, bt.len, bt.thin, bt.spc, bt.chr, fun w hw => ⟨w, rfl, hw, .inr ⟨w, rfl, hw, ?_⟩⟩⟩
    cases e : readL w with
    | none =>
      have e1 : rD w = .non := by unfold rD; rw [e]
      have e2 : tD w = .lst [.str (wd .tex)] := by unfold tD; rw [e]
      rw [e1, e2]
      dsimp only
      rw [if_pos (show D.non.isN = true from rfl)]
      refine ⟨okE_tex, okE_tex, ?_⟩
      rw [eqD_tex, if_neg (by decide)]
      intro z _ _
      refine ⟨okE_int _, okE_int _, ?_⟩
      split
      · refine .inr ⟨t, rfl, ft, ?_⟩
        rw [tg]
        refine ⟨okE_ssD _, okE_ssD _, ?_⟩
        rw [show D.lst (List.map sD r.strs) = ssD r.strs from rfl, eqD_ss, if_neg (by decide)]
        intro z2 _ _
        obtain ⟨d, hd', e⟩ := atI_mem (xs := [D.non, D.int 5, D.bl true, D.lst [D.str t], D.tup [D.str (Str.ofString "..")], D.dic [] [], D.bl false, D.lst [D.str (Str.ofString "text")]]) (i := z2 % 8) (Int.emod_nonneg _ (by decide)) (Int.emod_lt_of_pos _ (by decide))
        have h1 : (tyD d).isSome = true ∧ ∀ t, d ≠ .str t := by
          simp only [List.mem_cons, List.not_mem_nil, or_false] at hd'
          rcases hd' with rfl | rfl | rfl | rfl | rfl | rfl | rfl | rfl <;> exact ⟨rfl, nofun⟩
        refine ⟨d, e, .inl ⟨d, rfl, h1.1, h1.2, okE_tex, okE_tex, ?_⟩⟩
        rw [eqD_tex, if_neg (by decide)]
        exact hk _ ⟨_, _, _, _, _, rfl⟩
      · intro z2 _ _
        obtain ⟨d, hd', e⟩ := atI_mem (xs := [D.non, D.int 5, D.bl true, D.lst [D.str t], D.tup [D.str (Str.ofString "..")], D.dic [] [], D.bl false, D.lst [D.str (Str.ofString "text")]]) (i := z2 % 8) (Int.emod_nonneg _ (by decide)) (Int.emod_lt_of_pos _ (by decide))
        have h1 : (tyD d).isSome = true ∧ ∀ t, d ≠ .str t := by
          simp only [List.mem_cons, List.not_mem_nil, or_false] at hd'
          rcases hd' with rfl | rfl | rfl | rfl | rfl | rfl | rfl | rfl <;> exact ⟨rfl, nofun⟩
        refine ⟨d, e, .inl ⟨d, rfl, h1.1, h1.2, okE_tex, okE_tex, ?_⟩⟩
        rw [eqD_tex, if_neg (by decide)]
        exact hk _ ⟨_, _, _, _, _, rfl⟩
    | some ss =>
      have e1 : rD w = ssD ss := by unfold rD; rw [e]
      have e2 : tD w = ssD ss := by unfold tD; rw [e]
      rw [e1, e2]
      rw [if_neg (show ¬ (ssD ss).isN = true from by simp [ssD, D.isN])]
      show okE (ssD ss) ∧ okE (ssD ss) ∧ _
      refine ⟨okE_ssD _, okE_ssD _, ?_⟩
      rw [eqD_ss]
      walk_at "dl"
      intro z _ _
      refine ⟨okE_int _, okE_int _, ?_⟩
      split
      · refine .inr ⟨t, rfl, ft, ?_⟩
        rw [tg]
        refine ⟨okE_ssD _, okE_ssD _, ?_⟩
        rw [show D.lst (List.map sD r.strs) = ssD r.strs from rfl, eqD_ss, if_neg (by decide)]
        intro z2 _ _
        obtain ⟨d, hd', e⟩ := atI_mem (xs := [D.non, D.int 5, D.bl true, D.lst [D.str t], D.tup [D.str (Str.ofString "..")], D.dic [] [], D.bl false, D.lst [D.str (Str.ofString "text")]]) (i := z2 % 8) (Int.emod_nonneg _ (by decide)) (Int.emod_lt_of_pos _ (by decide))
        have h1 : (tyD d).isSome = true ∧ ∀ t, d ≠ .str t := by
          simp only [List.mem_cons, List.not_mem_nil, or_false] at hd'
          rcases hd' with rfl | rfl | rfl | rfl | rfl | rfl | rfl | rfl <;> exact ⟨rfl, nofun⟩
        refine ⟨d, e, .inl ⟨d, rfl, h1.1, h1.2, okE_tex, okE_tex, ?_⟩⟩
        rw [eqD_tex, if_neg (by decide)]
        exact hk _ ⟨_, _, _, _, _, rfl⟩
      · intro z2 _ _
        obtain ⟨d, hd', e⟩ := atI_mem (xs := [D.non, D.int 5, D.bl true, D.lst [D.str t], D.tup [D.str (Str.ofString "..")], D.dic [] [], D.bl false, D.lst [D.str (Str.ofString "text")]]) (i := z2 % 8) (Int.emod_nonneg _ (by decide)) (Int.emod_lt_of_pos _ (by decide))
        have h1 : (tyD d).isSome = true ∧ ∀ t, d ≠ .str t := by
          simp only [List.mem_cons, List.not_mem_nil, or_false] at hd'
          rcases hd' with rfl | rfl | rfl | rfl | rfl | rfl | rfl | rfl <;> exact ⟨rfl, nofun⟩
        refine ⟨d, e, .inl ⟨d, rfl, h1.1, h1.2, okE_tex, okE_tex, ?_⟩⟩
        rw [eqD_tex, if_neg (by decide)]
        exact hk _ ⟨_, _, _, _, _, rfl⟩

end
/-- what the law's def promises -/
def spLaw (K : PySem.W.Frag) : Sp := fun vs H Q _ => ∃ (a : Addr) (ns : List Int), vs = [.ref a] ∧ SqL K H a (ns.map V.int) ∧ ns.length ≤ 63 ∧ ∀ H', Q (.bl true) H'
theorem spLaw_spD {K : PySem.W.Frag} {C : Addr} {vs : List V} {H : Hp} {Q : VK} {E : XK} (q : spLaw K vs H Q E) : spD K C dp_law vs H Q E := by
  obtain ⟨a, ns, rfl, h1, h2, h3⟩ := q
  refine ⟨[], [.scr ns], fun d => d = .bl true, fun _ => False, Al.nil H, ⟨.ref a, [], rfl, ⟨a, rfl, (wo_nil H).seq h1⟩, rfl⟩, ⟨ns, rfl, h2, rfl⟩, fun v d H' s r p => ?_, fun c H' s z => z.elim⟩
  subst p
  rw [show v = V.bl true from r]
  exact h3 H'
theorem all_mk {l : PySem.W.OpenLaw} {w : World} {K : PySem.W.Frag} {h : Heap} {mg : Str → Option Value} {fa C : Addr} (X : K.In h) (G : h.Ns mainGlobals mg) (hfa : mg "law" = some (.ref fa))
    {f0 : Addr} {od0 an0 : Option Addr} {sl0 : Array (Option Value)} {oc0 kV0 dc0 pm0 cd0 ct0 : Value}
    {f1 : Addr} {od1 an1 : Option Addr} {sl1 : Array (Option Value)} {oc1 kV1 dc1 pm1 cd1 ct1 : Value}
    {f2 : Addr} {od2 an2 : Option Addr} {sl2 : Array (Option Value)} {oc2 kV2 dc2 pm2 cd2 ct2 : Value}
    {f3 : Addr} {od3 an3 : Option Addr} {sl3 : Array (Option Value)} {oc3 kV3 dc3 pm3 cd3 ct3 : Value}
    {f4 : Addr} {od4 an4 : Option Addr} {sl4 : Array (Option Value)} {oc4 kV4 dc4 pm4 cd4 ct4 : Value}
    {f5 : Addr} {od5 an5 : Option Addr} {sl5 : Array (Option Value)} {oc5 kV5 dc5 pm5 cd5 ct5 : Value}
    {f6 : Addr} {od6 an6 : Option Addr} {sl6 : Array (Option Value)} {oc6 kV6 dc6 pm6 cd6 ct6 : Value}
    {f7 : Addr} {od7 an7 : Option Addr} {sl7 : Array (Option Value)} {oc7 kV7 dc7 pm7 cd7 ct7 : Value}
    {f8 : Addr} {od8 an8 : Option Addr} {sl8 : Array (Option Value)} {oc8 kV8 dc8 pm8 cd8 ct8 : Value}
    {f9 : Addr} {od9 an9 : Option Addr} {sl9 : Array (Option Value)} {oc9 kV9 dc9 pm9 cd9 ct9 : Value}
    {f10 : Addr} {od10 an10 : Option Addr} {sl10 : Array (Option Value)} {oc10 kV10 dc10 pm10 cd10 ct10 : Value}
    {f11 : Addr} {od11 an11 : Option Addr} {sl11 : Array (Option Value)} {oc11 kV11 dc11 pm11 cd11 ct11 : Value}
    {f12 : Addr} {od12 an12 : Option Addr} {sl12 : Array (Option Value)} {oc12 kV12 dc12 pm12 cd12 ct12 : Value}
    {f13 : Addr} {od13 an13 : Option Addr} {sl13 : Array (Option Value)} {oc13 kV13 dc13 pm13 cd13 ct13 : Value}
    {f14 : Addr} {od14 an14 : Option Addr} {sl14 : Array (Option Value)} {oc14 kV14 dc14 pm14 cd14 ct14 : Value}
    {f15 : Addr} {od15 an15 : Option Addr} {sl15 : Array (Option Value)} {oc15 kV15 dc15 pm15 cd15 ct15 : Value}
    {f16 : Addr} {od16 an16 : Option Addr} {sl16 : Array (Option Value)} {oc16 kV16 dc16 pm16 cd16 ct16 : Value}
    {f17 : Addr} {od17 an17 : Option Addr} {sl17 : Array (Option Value)} {oc17 kV17 dc17 pm17 cd17 ct17 : Value}
    {f18 : Addr} {od18 an18 : Option Addr} {sl18 : Array (Option Value)} {oc18 kV18 dc18 pm18 cd18 ct18 : Value}
    {f19 : Addr} {od19 an19 : Option Addr} {sl19 : Array (Option Value)} {oc19 kV19 dc19 pm19 cd19 ct19 : Value}
    {f20 : Addr} {od20 an20 : Option Addr} {sl20 : Array (Option Value)} {oc20 kV20 dc20 pm20 cd20 ct20 : Value}
    {f21 : Addr} {od21 an21 : Option Addr} {sl21 : Array (Option Value)} {oc21 kV21 dc21 pm21 cd21 ct21 : Value}
    {f22 : Addr} {od22 an22 : Option Addr} {sl22 : Array (Option Value)} {oc22 kV22 dc22 pm22 cd22 ct22 : Value}
    {f23 : Addr} {od23 an23 : Option Addr} {sl23 : Array (Option Value)} {oc23 kV23 dc23 pm23 cd23 ct23 : Value}
    {f24 : Addr} {od24 an24 : Option Addr} {sl24 : Array (Option Value)} {oc24 kV24 dc24 pm24 cd24 ct24 : Value}
    {f25 : Addr} {od25 an25 : Option Addr} {sl25 : Array (Option Value)} {oc25 kV25 dc25 pm25 cd25 ct25 : Value}
    {f26 : Addr} {od26 an26 : Option Addr} {sl26 : Array (Option Value)} {oc26 kV26 dc26 pm26 cd26 ct26 : Value}
    {f27 : Addr} {od27 an27 : Option Addr} {sl27 : Array (Option Value)} {oc27 kV27 dc27 pm27 cd27 ct27 : Value}
    {f28 : Addr} {od28 an28 : Option Addr} {sl28 : Array (Option Value)} {oc28 kV28 dc28 pm28 cd28 ct28 : Value}
    {f29 : Addr} {od29 an29 : Option Addr} {sl29 : Array (Option Value)} {oc29 kV29 dc29 pm29 cd29 ct29 : Value}
    {f30 : Addr} {od30 an30 : Option Addr} {sl30 : Array (Option Value)} {oc30 kV30 dc30 pm30 cd30 ct30 : Value}
    {f31 : Addr} {od31 an31 : Option Addr} {sl31 : Array (Option Value)} {oc31 kV31 dc31 pm31 cd31 ct31 : Value}
    {f32 : Addr} {od32 an32 : Option Addr} {sl32 : Array (Option Value)} {oc32 kV32 dc32 pm32 cd32 ct32 : Value}
    {f33 : Addr} {od33 an33 : Option Addr} {sl33 : Array (Option Value)} {oc33 kV33 dc33 pm33 cd33 ct33 : Value}
    {f34 : Addr} {od34 an34 : Option Addr} {sl34 : Array (Option Value)} {oc34 kV34 dc34 pm34 cd34 ct34 : Value}
    {f35 : Addr} {od35 an35 : Option Addr} {sl35 : Array (Option Value)} {oc35 kV35 dc35 pm35 cd35 ct35 : Value}
    {f36 : Addr} {od36 an36 : Option Addr} {sl36 : Array (Option Value)} {oc36 kV36 dc36 pm36 cd36 ct36 : Value}
    {f37 : Addr} {od37 an37 : Option Addr} {sl37 : Array (Option Value)} {oc37 kV37 dc37 pm37 cd37 ct37 : Value}
    {f38 : Addr} {od38 an38 : Option Addr} {sl38 : Array (Option Value)} {oc38 kV38 dc38 pm38 cd38 ct38 : Value}
    {f39 : Addr} {od39 an39 : Option Addr} {sl39 : Array (Option Value)} {oc39 kV39 dc39 pm39 cd39 ct39 : Value}
    {f40 : Addr} {od40 an40 : Option Addr} {sl40 : Array (Option Value)} {oc40 kV40 dc40 pm40 cd40 ct40 : Value}
    {f41 : Addr} {od41 an41 : Option Addr} {sl41 : Array (Option Value)} {oc41 kV41 dc41 pm41 cd41 ct41 : Value}
    {f42 : Addr} {od42 an42 : Option Addr} {sl42 : Array (Option Value)} {oc42 kV42 dc42 pm42 cd42 ct42 : Value}
    {f43 : Addr} {od43 an43 : Option Addr} {sl43 : Array (Option Value)} {oc43 kV43 dc43 pm43 cd43 ct43 : Value}
    {f44 : Addr} {od44 an44 : Option Addr} {sl44 : Array (Option Value)} {oc44 kV44 dc44 pm44 cd44 ct44 : Value}
    {f45 : Addr} {od45 an45 : Option Addr} {sl45 : Array (Option Value)} {oc45 kV45 dc45 pm45 cd45 ct45 : Value}
    {f46 : Addr} {od46 an46 : Option Addr} {sl46 : Array (Option Value)} {oc46 kV46 dc46 pm46 cd46 ct46 : Value}
    {f47 : Addr} {od47 an47 : Option Addr} {sl47 : Array (Option Value)} {oc47 kV47 dc47 pm47 cd47 ct47 : Value}
    {bn : Addr}
    {bs : Addr}
    {bk : Addr}
    {bt : Addr}
    {ns : Addr}
    {ke : Addr}
    {gv_FIGURES : Value}
    {gv_POINTS : Value}
    (aC : PySem.W.nsIn K mainGlobals "Keeper" = some (some (.ref C)))
    (a0 : PySem.W.nsIn K mainGlobals "both" = some (some (.ref f0)))
    (l0 : K.lookup f0 = some ⟨oc0, od0, .func (PySem.W.fnOf "both" "both" (defArgs s_both) (defBody s_both) (defScope s_both) .none kV0 dc0 pm0 an0 cd0 ct0), sl0⟩)
    (c0 : PySem.W.codeIn K cd0 "both" = true)
    (k0 : PySem.W.keepIn K (.ref f0) = true)
    (a1 : PySem.W.nsIn K mainGlobals "either" = some (some (.ref f1)))
    (l1 : K.lookup f1 = some ⟨oc1, od1, .func (PySem.W.fnOf "either" "either" (defArgs s_either) (defBody s_either) (defScope s_either) .none kV1 dc1 pm1 an1 cd1 ct1), sl1⟩)
    (c1 : PySem.W.codeIn K cd1 "either" = true)
    (k1 : PySem.W.keepIn K (.ref f1) = true)
    (a2 : PySem.W.nsIn K mainGlobals "alone" = some (some (.ref f2)))
    (l2 : K.lookup f2 = some ⟨oc2, od2, .func (PySem.W.fnOf "alone" "alone" (defArgs s_alone) (defBody s_alone) (defScope s_alone) .none kV2 dc2 pm2 an2 cd2 ct2), sl2⟩)
    (c2 : PySem.W.codeIn K cd2 "alone" = true)
    (k2 : PySem.W.keepIn K (.ref f2) = true)
    (a3 : PySem.W.nsIn K mainGlobals "unlike" = some (some (.ref f3)))
    (l3 : K.lookup f3 = some ⟨oc3, od3, .func (PySem.W.fnOf "unlike" "unlike" (defArgs s_unlike) (defBody s_unlike) (defScope s_unlike) .none kV3 dc3 pm3 an3 cd3 ct3), sl3⟩)
    (c3 : PySem.W.codeIn K cd3 "unlike" = true)
    (k3 : PySem.W.keepIn K (.ref f3) = true)
    (a4 : PySem.W.findIn K (.ref C) "__init__" = some (some (.ref f4)))
    (i4 : PySem.W.isFn K (.ref f4) = true)
    (l4 : K.lookup f4 = some ⟨oc4, od4, .func (PySem.W.fnOf "__init__" "Keeper.__init__" (defArgs s_Keeper___init__) (defBody s_Keeper___init__) (defScope s_Keeper___init__) .none kV4 dc4 pm4 an4 cd4 ct4), sl4⟩)
    (c4 : PySem.W.codeIn K cd4 "Keeper.__init__" = true)
    (k4 : PySem.W.keepIn K (.ref f4) = true)
    (a5 : PySem.W.findIn K (.ref C) "stretches" = some (some (.ref f5)))
    (i5 : PySem.W.isFn K (.ref f5) = true)
    (l5 : K.lookup f5 = some ⟨oc5, od5, .func (PySem.W.fnOf "stretches" "Keeper.stretches" (defArgs s_Keeper_stretches) (defBody s_Keeper_stretches) (defScope s_Keeper_stretches) .none kV5 dc5 pm5 an5 cd5 ct5), sl5⟩)
    (c5 : PySem.W.codeIn K cd5 "Keeper.stretches" = true)
    (k5 : PySem.W.keepIn K (.ref f5) = true)
    (a6 : PySem.W.nsIn K mainGlobals "_law_mixed" = some (some (.ref f6)))
    (l6 : K.lookup f6 = some ⟨oc6, od6, .func (PySem.W.fnOf "_law_mixed" "_law_mixed" (defArgs s__law_mixed) (defBody s__law_mixed) (defScope s__law_mixed) .none kV6 dc6 pm6 an6 cd6 ct6), sl6⟩)
    (c6 : PySem.W.codeIn K cd6 "_law_mixed" = true)
    (k6 : PySem.W.keepIn K (.ref f6) = true)
    (a7 : PySem.W.nsIn K mainGlobals "_law_number" = some (some (.ref f7)))
    (l7 : K.lookup f7 = some ⟨oc7, od7, .func (PySem.W.fnOf "_law_number" "_law_number" (defArgs s__law_number) (defBody s__law_number) (defScope s__law_number) .none kV7 dc7 pm7 an7 cd7 ct7), sl7⟩)
    (c7 : PySem.W.codeIn K cd7 "_law_number" = true)
    (k7 : PySem.W.keepIn K (.ref f7) = true)
    (a8 : PySem.W.nsIn K mainGlobals "_law_stretch" = some (some (.ref f8)))
    (l8 : K.lookup f8 = some ⟨oc8, od8, .func (PySem.W.fnOf "_law_stretch" "_law_stretch" (defArgs s__law_stretch) (defBody s__law_stretch) (defScope s__law_stretch) .none kV8 dc8 pm8 an8 cd8 ct8), sl8⟩)
    (c8 : PySem.W.codeIn K cd8 "_law_stretch" = true)
    (k8 : PySem.W.keepIn K (.ref f8) = true)
    (a9 : PySem.W.nsIn K mainGlobals "_law_deed" = some (some (.ref f9)))
    (l9 : K.lookup f9 = some ⟨oc9, od9, .func (PySem.W.fnOf "_law_deed" "_law_deed" (defArgs s__law_deed) (defBody s__law_deed) (defScope s__law_deed) .none kV9 dc9 pm9 an9 cd9 ct9), sl9⟩)
    (c9 : PySem.W.codeIn K cd9 "_law_deed" = true)
    (k9 : PySem.W.keepIn K (.ref f9) = true)
    (a10 : PySem.W.nsIn K mainGlobals "_law_lies" = some (some (.ref f10)))
    (l10 : K.lookup f10 = some ⟨oc10, od10, .func (PySem.W.fnOf "_law_lies" "_law_lies" (defArgs s__law_lies) (defBody s__law_lies) (defScope s__law_lies) .none kV10 dc10 pm10 an10 cd10 ct10), sl10⟩)
    (c10 : PySem.W.codeIn K cd10 "_law_lies" = true)
    (k10 : PySem.W.keepIn K (.ref f10) = true)
    (a11 : PySem.W.nsIn K mainGlobals "_law_behind" = some (some (.ref f11)))
    (l11 : K.lookup f11 = some ⟨oc11, od11, .func (PySem.W.fnOf "_law_behind" "_law_behind" (defArgs s__law_behind) (defBody s__law_behind) (defScope s__law_behind) .none kV11 dc11 pm11 an11 cd11 ct11), sl11⟩)
    (c11 : PySem.W.codeIn K cd11 "_law_behind" = true)
    (k11 : PySem.W.keepIn K (.ref f11) = true)
    (a12 : PySem.W.nsIn K mainGlobals "_law_is_in" = some (some (.ref f12)))
    (l12 : K.lookup f12 = some ⟨oc12, od12, .func (PySem.W.fnOf "_law_is_in" "_law_is_in" (defArgs s__law_is_in) (defBody s__law_is_in) (defScope s__law_is_in) .none kV12 dc12 pm12 an12 cd12 ct12), sl12⟩)
    (c12 : PySem.W.codeIn K cd12 "_law_is_in" = true)
    (k12 : PySem.W.keepIn K (.ref f12) = true)
    (a13 : PySem.W.nsIn K mainGlobals "_law_spots" = some (some (.ref f13)))
    (l13 : K.lookup f13 = some ⟨oc13, od13, .func (PySem.W.fnOf "_law_spots" "_law_spots" (defArgs s__law_spots) (defBody s__law_spots) (defScope s__law_spots) .none kV13 dc13 pm13 an13 cd13 ct13), sl13⟩)
    (c13 : PySem.W.codeIn K cd13 "_law_spots" = true)
    (k13 : PySem.W.keepIn K (.ref f13) = true)
    (a14 : PySem.W.nsIn K mainGlobals "_law_due" = some (some (.ref f14)))
    (l14 : K.lookup f14 = some ⟨oc14, od14, .func (PySem.W.fnOf "_law_due" "_law_due" (defArgs s__law_due) (defBody s__law_due) (defScope s__law_due) .none kV14 dc14 pm14 an14 cd14 ct14), sl14⟩)
    (c14 : PySem.W.codeIn K cd14 "_law_due" = true)
    (k14 : PySem.W.keepIn K (.ref f14) = true)
    (a15 : PySem.W.nsIn K mainGlobals "merged" = some (some (.ref f15)))
    (l15 : K.lookup f15 = some ⟨oc15, od15, .func (PySem.W.fnOf "merged" "merged" (defArgs s_merged) (defBody s_merged) (defScope s_merged) .none kV15 dc15 pm15 an15 cd15 ct15), sl15⟩)
    (c15 : PySem.W.codeIn K cd15 "merged" = true)
    (k15 : PySem.W.keepIn K (.ref f15) = true)
    (a16 : PySem.W.findIn K (.ref C) "ruled" = some (some (.ref f16)))
    (i16 : PySem.W.isFn K (.ref f16) = true)
    (l16 : K.lookup f16 = some ⟨oc16, od16, .func (PySem.W.fnOf "ruled" "Keeper.ruled" (defArgs s_Keeper_ruled) (defBody s_Keeper_ruled) (defScope s_Keeper_ruled) .none kV16 dc16 pm16 an16 cd16 ct16), sl16⟩)
    (c16 : PySem.W.codeIn K cd16 "Keeper.ruled" = true)
    (k16 : PySem.W.keepIn K (.ref f16) = true)
    (a17 : PySem.W.nsIn K mainGlobals "is_number" = some (some (.ref f17)))
    (l17 : K.lookup f17 = some ⟨oc17, od17, .func (PySem.W.fnOf "is_number" "is_number" (defArgs s_is_number) (defBody s_is_number) (defScope s_is_number) .none kV17 dc17 pm17 an17 cd17 ct17), sl17⟩)
    (c17 : PySem.W.codeIn K cd17 "is_number" = true)
    (k17 : PySem.W.keepIn K (.ref f17) = true)
    (a18 : PySem.W.nsIn K mainGlobals "is_stretch" = some (some (.ref f18)))
    (l18 : K.lookup f18 = some ⟨oc18, od18, .func (PySem.W.fnOf "is_stretch" "is_stretch" (defArgs s_is_stretch) (defBody s_is_stretch) (defScope s_is_stretch) .none kV18 dc18 pm18 an18 cd18 ct18), sl18⟩)
    (c18 : PySem.W.codeIn K cd18 "is_stretch" = true)
    (k18 : PySem.W.keepIn K (.ref f18) = true)
    (a19 : PySem.W.nsIn K mainGlobals "need_stretch" = some (some (.ref f19)))
    (l19 : K.lookup f19 = some ⟨oc19, od19, .func (PySem.W.fnOf "need_stretch" "need_stretch" (defArgs s_need_stretch) (defBody s_need_stretch) (defScope s_need_stretch) .none kV19 dc19 pm19 an19 cd19 ct19), sl19⟩)
    (c19 : PySem.W.codeIn K cd19 "need_stretch" = true)
    (k19 : PySem.W.keepIn K (.ref f19) = true)
    (a20 : PySem.W.nsIn K mainGlobals "turns_of" = some (some (.ref f20)))
    (l20 : K.lookup f20 = some ⟨oc20, od20, .func (PySem.W.fnOf "turns_of" "turns_of" (defArgs s_turns_of) (defBody s_turns_of) (defScope s_turns_of) .none kV20 dc20 pm20 an20 cd20 ct20), sl20⟩)
    (c20 : PySem.W.codeIn K cd20 "turns_of" = true)
    (k20 : PySem.W.keepIn K (.ref f20) = true)
    (a21 : PySem.W.findIn K (.ref C) "keep" = some (some (.ref f21)))
    (i21 : PySem.W.isFn K (.ref f21) = true)
    (l21 : K.lookup f21 = some ⟨oc21, od21, .func (PySem.W.fnOf "keep" "Keeper.keep" (defArgs s_Keeper_keep) (defBody s_Keeper_keep) (defScope s_Keeper_keep) .none kV21 dc21 pm21 an21 cd21 ct21), sl21⟩)
    (c21 : PySem.W.codeIn K cd21 "Keeper.keep" = true)
    (k21 : PySem.W.keepIn K (.ref f21) = true)
    (a22 : PySem.W.findIn K (.ref C) "mirror" = some (some (.ref f22)))
    (i22 : PySem.W.isFn K (.ref f22) = true)
    (l22 : K.lookup f22 = some ⟨oc22, od22, .func (PySem.W.fnOf "mirror" "Keeper.mirror" (defArgs s_Keeper_mirror) (defBody s_Keeper_mirror) (defScope s_Keeper_mirror) .none kV22 dc22 pm22 an22 cd22 ct22), sl22⟩)
    (c22 : PySem.W.codeIn K cd22 "Keeper.mirror" = true)
    (k22 : PySem.W.keepIn K (.ref f22) = true)
    (a23 : PySem.W.nsIn K mainGlobals "need_number" = some (some (.ref f23)))
    (l23 : K.lookup f23 = some ⟨oc23, od23, .func (PySem.W.fnOf "need_number" "need_number" (defArgs s_need_number) (defBody s_need_number) (defScope s_need_number) .none kV23 dc23 pm23 an23 cd23 ct23), sl23⟩)
    (c23 : PySem.W.codeIn K cd23 "need_number" = true)
    (k23 : PySem.W.keepIn K (.ref f23) = true)
    (a24 : PySem.W.findIn K (.ref C) "move" = some (some (.ref f24)))
    (i24 : PySem.W.isFn K (.ref f24) = true)
    (l24 : K.lookup f24 = some ⟨oc24, od24, .func (PySem.W.fnOf "move" "Keeper.move" (defArgs s_Keeper_move) (defBody s_Keeper_move) (defScope s_Keeper_move) .none kV24 dc24 pm24 an24 cd24 ct24), sl24⟩)
    (c24 : PySem.W.codeIn K cd24 "Keeper.move" = true)
    (k24 : PySem.W.keepIn K (.ref f24) = true)
    (a25 : PySem.W.findIn K (.ref C) "put" = some (some (.ref f25)))
    (i25 : PySem.W.isFn K (.ref f25) = true)
    (l25 : K.lookup f25 = some ⟨oc25, od25, .func (PySem.W.fnOf "put" "Keeper.put" (defArgs s_Keeper_put) (defBody s_Keeper_put) (defScope s_Keeper_put) .none kV25 dc25 pm25 an25 cd25 ct25), sl25⟩)
    (c25 : PySem.W.codeIn K cd25 "Keeper.put" = true)
    (k25 : PySem.W.keepIn K (.ref f25) = true)
    (a26 : PySem.W.findIn K (.ref C) "take" = some (some (.ref f26)))
    (i26 : PySem.W.isFn K (.ref f26) = true)
    (l26 : K.lookup f26 = some ⟨oc26, od26, .func (PySem.W.fnOf "take" "Keeper.take" (defArgs s_Keeper_take) (defBody s_Keeper_take) (defScope s_Keeper_take) .none kV26 dc26 pm26 an26 cd26 ct26), sl26⟩)
    (c26 : PySem.W.codeIn K cd26 "Keeper.take" = true)
    (k26 : PySem.W.keepIn K (.ref f26) = true)
    (a27 : PySem.W.findIn K (.ref C) "turn" = some (some (.ref f27)))
    (i27 : PySem.W.isFn K (.ref f27) = true)
    (l27 : K.lookup f27 = some ⟨oc27, od27, .func (PySem.W.fnOf "turn" "Keeper.turn" (defArgs s_Keeper_turn) (defBody s_Keeper_turn) (defScope s_Keeper_turn) .none kV27 dc27 pm27 an27 cd27 ct27), sl27⟩)
    (c27 : PySem.W.codeIn K cd27 "Keeper.turn" = true)
    (k27 : PySem.W.keepIn K (.ref f27) = true)
    (a28 : PySem.W.nsIn K mainGlobals "_law_done" = some (some (.ref f28)))
    (l28 : K.lookup f28 = some ⟨oc28, od28, .func (PySem.W.fnOf "_law_done" "_law_done" (defArgs s__law_done) (defBody s__law_done) (defScope s__law_done) .none kV28 dc28 pm28 an28 cd28 ct28), sl28⟩)
    (c28 : PySem.W.codeIn K cd28 "_law_done" = true)
    (k28 : PySem.W.keepIn K (.ref f28) = true)
    (a29 : PySem.W.nsIn K mainGlobals "_law_made" = some (some (.ref f29)))
    (l29 : K.lookup f29 = some ⟨oc29, od29, .func (PySem.W.fnOf "_law_made" "_law_made" (defArgs s__law_made_N) (defBody s__law_made_N) (defScope s__law_made_N) .none kV29 dc29 pm29 an29 cd29 ct29), sl29⟩)
    (c29 : PySem.W.codeIn K cd29 "_law_made" = true)
    (k29 : PySem.W.keepIn K (.ref f29) = true)
    (a30 : PySem.W.nsIn K mainGlobals "_law_keeper" = some (some (.ref f30)))
    (l30 : K.lookup f30 = some ⟨oc30, od30, .func (PySem.W.fnOf "_law_keeper" "_law_keeper" (defArgs s__law_keeper_T) (defBody s__law_keeper_T) (defScope s__law_keeper_T) .none kV30 dc30 pm30 an30 cd30 ct30), sl30⟩)
    (c30 : PySem.W.codeIn K cd30 "_law_keeper" = true)
    (k30 : PySem.W.keepIn K (.ref f30) = true)
    (a31 : PySem.W.nsIn K mainGlobals "_law_number_in" = some (some (.ref f31)))
    (l31 : K.lookup f31 = some ⟨oc31, od31, .func (PySem.W.fnOf "_law_number_in" "_law_number_in" (defArgs s__law_number_in) (defBody s__law_number_in) (defScope s__law_number_in) .none kV31 dc31 pm31 an31 cd31 ct31), sl31⟩)
    (c31 : PySem.W.codeIn K cd31 "_law_number_in" = true)
    (k31 : PySem.W.keepIn K (.ref f31) = true)
    (a32 : PySem.W.nsIn K mainGlobals "_law_word_in" = some (some (.ref f32)))
    (l32 : K.lookup f32 = some ⟨oc32, od32, .func (PySem.W.fnOf "_law_word_in" "_law_word_in" (defArgs s__law_word_in) (defBody s__law_word_in) (defScope s__law_word_in) .none kV32 dc32 pm32 an32 cd32 ct32), sl32⟩)
    (c32 : PySem.W.codeIn K cd32 "_law_word_in" = true)
    (k32 : PySem.W.keepIn K (.ref f32) = true)
    (a33 : PySem.W.nsIn K mainGlobals "_law_read" = some (some (.ref f33)))
    (l33 : K.lookup f33 = some ⟨oc33, od33, .func (PySem.W.fnOf "_law_read" "_law_read" (defArgs s__law_read) (defBody s__law_read) (defScope s__law_read) .none kV33 dc33 pm33 an33 cd33 ct33), sl33⟩)
    (c33 : PySem.W.codeIn K cd33 "_law_read" = true)
    (k33 : PySem.W.keepIn K (.ref f33) = true)
    (a34 : PySem.W.nsIn K mainGlobals "_law_whole" = some (some (.ref f34)))
    (l34 : K.lookup f34 = some ⟨oc34, od34, .func (PySem.W.fnOf "_law_whole" "_law_whole" (defArgs s__law_whole) (defBody s__law_whole) (defScope s__law_whole) .none kV34 dc34 pm34 an34 cd34 ct34), sl34⟩)
    (c34 : PySem.W.codeIn K cd34 "_law_whole" = true)
    (k34 : PySem.W.keepIn K (.ref f34) = true)
    (a35 : PySem.W.nsIn K mainGlobals "_law_right" = some (some (.ref f35)))
    (l35 : K.lookup f35 = some ⟨oc35, od35, .func (PySem.W.fnOf "_law_right" "_law_right" (defArgs s__law_right) (defBody s__law_right) (defScope s__law_right) .none kV35 dc35 pm35 an35 cd35 ct35), sl35⟩)
    (c35 : PySem.W.codeIn K cd35 "_law_right" = true)
    (k35 : PySem.W.keepIn K (.ref f35) = true)
    (a36 : PySem.W.nsIn K mainGlobals "_law_spoilt" = some (some (.ref f36)))
    (l36 : K.lookup f36 = some ⟨oc36, od36, .func (PySem.W.fnOf "_law_spoilt" "_law_spoilt" (defArgs s__law_spoilt) (defBody s__law_spoilt) (defScope s__law_spoilt) .none kV36 dc36 pm36 an36 cd36 ct36), sl36⟩)
    (c36 : PySem.W.codeIn K cd36 "_law_spoilt" = true)
    (k36 : PySem.W.keepIn K (.ref f36) = true)
    (a37 : PySem.W.nsIn K mainGlobals "_law_text" = some (some (.ref f37)))
    (l37 : K.lookup f37 = some ⟨oc37, od37, .func (PySem.W.fnOf "_law_text" "_law_text" (defArgs s__law_text) (defBody s__law_text) (defScope s__law_text) .none kV37 dc37 pm37 an37 cd37 ct37), sl37⟩)
    (c37 : PySem.W.codeIn K cd37 "_law_text" = true)
    (k37 : PySem.W.keepIn K (.ref f37) = true)
    (a38 : PySem.W.nsIn K mainGlobals "_law_word" = some (some (.ref f38)))
    (l38 : K.lookup f38 = some ⟨oc38, od38, .func (PySem.W.fnOf "_law_word" "_law_word" (defArgs s__law_word) (defBody s__law_word) (defScope s__law_word) .none kV38 dc38 pm38 an38 cd38 ct38), sl38⟩)
    (c38 : PySem.W.codeIn K cd38 "_law_word" = true)
    (k38 : PySem.W.keepIn K (.ref f38) = true)
    (a39 : PySem.W.nsIn K mainGlobals "number_in" = some (some (.ref f39)))
    (l39 : K.lookup f39 = some ⟨oc39, od39, .func (PySem.W.fnOf "number_in" "number_in" (defArgs s_number_in) (defBody s_number_in) (defScope s_number_in) .none kV39 dc39 pm39 an39 cd39 ct39), sl39⟩)
    (c39 : PySem.W.codeIn K cd39 "number_in" = true)
    (k39 : PySem.W.keepIn K (.ref f39) = true)
    (a40 : PySem.W.nsIn K mainGlobals "stretch_in" = some (some (.ref f40)))
    (l40 : K.lookup f40 = some ⟨oc40, od40, .func (PySem.W.fnOf "stretch_in" "stretch_in" (defArgs s_stretch_in_D) (defBody s_stretch_in_D) (defScope s_stretch_in_D) .none kV40 dc40 pm40 an40 cd40 ct40), sl40⟩)
    (c40 : PySem.W.codeIn K cd40 "stretch_in" = true)
    (k40 : PySem.W.keepIn K (.ref f40) = true)
    (a41 : PySem.W.nsIn K mainGlobals "need_keeper" = some (some (.ref f41)))
    (l41 : K.lookup f41 = some ⟨oc41, od41, .func (PySem.W.fnOf "need_keeper" "need_keeper" (defArgs s_need_keeper) (defBody s_need_keeper) (defScope s_need_keeper) .none kV41 dc41 pm41 an41 cd41 ct41), sl41⟩)
    (c41 : PySem.W.codeIn K cd41 "need_keeper" = true)
    (k41 : PySem.W.keepIn K (.ref f41) = true)
    (a42 : PySem.W.nsIn K mainGlobals "end_text" = some (some (.ref f42)))
    (l42 : K.lookup f42 = some ⟨oc42, od42, .func (PySem.W.fnOf "end_text" "end_text" (defArgs s_end_text) (defBody s_end_text) (defScope s_end_text) .none kV42 dc42 pm42 an42 cd42 ct42), sl42⟩)
    (c42 : PySem.W.codeIn K cd42 "end_text" = true)
    (k42 : PySem.W.keepIn K (.ref f42) = true)
    (a43 : PySem.W.nsIn K mainGlobals "stretch_text" = some (some (.ref f43)))
    (l43 : K.lookup f43 = some ⟨oc43, od43, .func (PySem.W.fnOf "stretch_text" "stretch_text" (defArgs s_stretch_text) (defBody s_stretch_text) (defScope s_stretch_text) .none kV43 dc43 pm43 an43 cd43 ct43), sl43⟩)
    (c43 : PySem.W.codeIn K cd43 "stretch_text" = true)
    (k43 : PySem.W.keepIn K (.ref f43) = true)
    (a44 : PySem.W.nsIn K mainGlobals "text_of" = some (some (.ref f44)))
    (l44 : K.lookup f44 = some ⟨oc44, od44, .func (PySem.W.fnOf "text_of" "text_of" (defArgs s_text_of) (defBody s_text_of) (defScope s_text_of) .none kV44 dc44 pm44 an44 cd44 ct44), sl44⟩)
    (c44 : PySem.W.codeIn K cd44 "text_of" = true)
    (k44 : PySem.W.keepIn K (.ref f44) = true)
    (a45 : PySem.W.nsIn K mainGlobals "keeper_of" = some (some (.ref f45)))
    (l45 : K.lookup f45 = some ⟨oc45, od45, .func (PySem.W.fnOf "keeper_of" "keeper_of" (defArgs s_keeper_of_D) (defBody s_keeper_of_D) (defScope s_keeper_of_D) .none kV45 dc45 pm45 an45 cd45 ct45), sl45⟩)
    (c45 : PySem.W.codeIn K cd45 "keeper_of" = true)
    (k45 : PySem.W.keepIn K (.ref f45) = true)
    (a46 : PySem.W.nsIn K mainGlobals "_law_told" = some (some (.ref f46)))
    (l46 : K.lookup f46 = some ⟨oc46, od46, .func (PySem.W.fnOf "_law_told" "_law_told" (defArgs s__law_told) (defBody s__law_told) (defScope s__law_told) .none kV46 dc46 pm46 an46 cd46 ct46), sl46⟩)
    (c46 : PySem.W.codeIn K cd46 "_law_told" = true)
    (k46 : PySem.W.keepIn K (.ref f46) = true)
    (a47 : PySem.W.nsIn K mainGlobals "law" = some (some (.ref f47)))
    (l47 : K.lookup f47 = some ⟨oc47, od47, .func (PySem.W.fnOf "law" "law" (defArgs s_law) (defBody s_law) (defScope s_law) .none kV47 dc47 pm47 an47 cd47 ct47), sl47⟩)
    (c47 : PySem.W.codeIn K cd47 "law" = true)
    (k47 : PySem.W.keepIn K (.ref f47) = true)
    (pgC : PySem.W.plainGet K C Str.empty = true)
    (hdC : PySem.W.hasDictIn K C = true)
    (poC : PySem.W.plainOver K C = true)
    (saC : PySem.W.findIn K (.ref C) "__setattr__" = some (some (.builtin "object.__setattr__")))
    (mkC : PySem.W.makesIn K C = true)
    (kcC : PySem.W.keepIn K (.ref C) = true)
    (nBe : PySem.W.findIn K (.ref C) "begins" = some none)
    (nTu : PySem.W.findIn K (.ref C) "turns" = some none)
    (g_bn : PySem.W.nsIn K mainGlobals "BadNumber" = some (some (.ref bn)))
    (q_bn : PySem.W.excIn K bn [.type "ValueError", .type "Exception", .type "BaseException", .type "object"] "ValueError.__new__" = true)
    (k_bn : PySem.W.keepIn K (.ref bn) = true)
    (b_bn : PySem.W.subIn K (.ref bn) (.type "BaseException") = some true)
    (t_bn : PySem.W.typeIn K (.ref bn) = some (.type "type"))
    (g_bs : PySem.W.nsIn K mainGlobals "BadStretch" = some (some (.ref bs)))
    (q_bs : PySem.W.excIn K bs [.type "ValueError", .type "Exception", .type "BaseException", .type "object"] "ValueError.__new__" = true)
    (k_bs : PySem.W.keepIn K (.ref bs) = true)
    (b_bs : PySem.W.subIn K (.ref bs) (.type "BaseException") = some true)
    (t_bs : PySem.W.typeIn K (.ref bs) = some (.type "type"))
    (g_bk : PySem.W.nsIn K mainGlobals "BadKeeper" = some (some (.ref bk)))
    (q_bk : PySem.W.excIn K bk [.type "ValueError", .type "Exception", .type "BaseException", .type "object"] "ValueError.__new__" = true)
    (k_bk : PySem.W.keepIn K (.ref bk) = true)
    (b_bk : PySem.W.subIn K (.ref bk) (.type "BaseException") = some true)
    (t_bk : PySem.W.typeIn K (.ref bk) = some (.type "type"))
    (g_bt : PySem.W.nsIn K mainGlobals "BadText" = some (some (.ref bt)))
    (q_bt : PySem.W.excIn K bt [.type "ValueError", .type "Exception", .type "BaseException", .type "object"] "ValueError.__new__" = true)
    (k_bt : PySem.W.keepIn K (.ref bt) = true)
    (b_bt : PySem.W.subIn K (.ref bt) (.type "BaseException") = some true)
    (t_bt : PySem.W.typeIn K (.ref bt) = some (.type "type"))
    (g_ns : PySem.W.nsIn K mainGlobals "NoSuch" = some (some (.ref ns)))
    (b_ns : PySem.W.subIn K (.ref ns) (.type "BaseException") = some true)
    (t_ns : PySem.W.typeIn K (.ref ns) = some (.type "type"))
    (g_ke : PySem.W.nsIn K mainGlobals "KeepError" = some (some (.ref ke)))
    (n_ValueError : PySem.W.nsIn K mainGlobals "ValueError" = some none)
    (kb_ke : PySem.W.subIn K (.ref ke) (.type "BaseException") = some true)
    (kd_ke : PySem.W.hasDictIn K ke = true)
    (kt_ke : PySem.W.typeIn K (.ref ke) = some (.type "type"))
    (xe1 : PySem.W.specialIn K (.builtin "object.__class__") "__get__" = some (some (.builtin "getset_descriptor.__get__")))
    (xe2 : PySem.W.takesIn K (.builtin "object.__class__") = some true)
    (xg_bn : PySem.W.findIn K (.ref bn) "__getattribute__" = some (some (.builtin "BaseException.__getattribute__")))
    (xk_bn : PySem.W.findIn K (.ref bn) "__getattr__" = some none)
    (xd_bn : PySem.W.hasDictIn K bn = true)
    (xa_bn : PySem.W.findIn K (.ref bn) "__class__" = some (some (.builtin "object.__class__")))
    (xm_bn : PySem.W.mroIn K bn (.type "object") = some true)
    (xc_bn : PySem.W.isClsIn K bn = true)
    (xv_bn : PySem.W.subIn K (.ref bn) (.type "ValueError") = some true)
    (xK_bn : PySem.W.subIn K (.ref bn) (.ref ke) = some true)
    (xs_bn_bn : PySem.W.subIn K (.ref bn) (.ref bn) = some true)
    (xs_bn_bs : PySem.W.subIn K (.ref bn) (.ref bs) = some false)
    (xs_bn_bk : PySem.W.subIn K (.ref bn) (.ref bk) = some false)
    (xs_bn_bt : PySem.W.subIn K (.ref bn) (.ref bt) = some false)
    (xs_bn_ns : PySem.W.subIn K (.ref bn) (.ref ns) = some false)
    (xg_bs : PySem.W.findIn K (.ref bs) "__getattribute__" = some (some (.builtin "BaseException.__getattribute__")))
    (xk_bs : PySem.W.findIn K (.ref bs) "__getattr__" = some none)
    (xd_bs : PySem.W.hasDictIn K bs = true)
    (xa_bs : PySem.W.findIn K (.ref bs) "__class__" = some (some (.builtin "object.__class__")))
    (xm_bs : PySem.W.mroIn K bs (.type "object") = some true)
    (xc_bs : PySem.W.isClsIn K bs = true)
    (xv_bs : PySem.W.subIn K (.ref bs) (.type "ValueError") = some true)
    (xK_bs : PySem.W.subIn K (.ref bs) (.ref ke) = some true)
    (xs_bs_bn : PySem.W.subIn K (.ref bs) (.ref bn) = some false)
    (xs_bs_bs : PySem.W.subIn K (.ref bs) (.ref bs) = some true)
    (xs_bs_bk : PySem.W.subIn K (.ref bs) (.ref bk) = some false)
    (xs_bs_bt : PySem.W.subIn K (.ref bs) (.ref bt) = some false)
    (xs_bs_ns : PySem.W.subIn K (.ref bs) (.ref ns) = some false)
    (xg_bk : PySem.W.findIn K (.ref bk) "__getattribute__" = some (some (.builtin "BaseException.__getattribute__")))
    (xk_bk : PySem.W.findIn K (.ref bk) "__getattr__" = some none)
    (xd_bk : PySem.W.hasDictIn K bk = true)
    (xa_bk : PySem.W.findIn K (.ref bk) "__class__" = some (some (.builtin "object.__class__")))
    (xm_bk : PySem.W.mroIn K bk (.type "object") = some true)
    (xc_bk : PySem.W.isClsIn K bk = true)
    (xv_bk : PySem.W.subIn K (.ref bk) (.type "ValueError") = some true)
    (xK_bk : PySem.W.subIn K (.ref bk) (.ref ke) = some true)
    (xs_bk_bn : PySem.W.subIn K (.ref bk) (.ref bn) = some false)
    (xs_bk_bs : PySem.W.subIn K (.ref bk) (.ref bs) = some false)
    (xs_bk_bk : PySem.W.subIn K (.ref bk) (.ref bk) = some true)
    (xs_bk_bt : PySem.W.subIn K (.ref bk) (.ref bt) = some false)
    (xs_bk_ns : PySem.W.subIn K (.ref bk) (.ref ns) = some false)
    (xg_bt : PySem.W.findIn K (.ref bt) "__getattribute__" = some (some (.builtin "BaseException.__getattribute__")))
    (xk_bt : PySem.W.findIn K (.ref bt) "__getattr__" = some none)
    (xd_bt : PySem.W.hasDictIn K bt = true)
    (xa_bt : PySem.W.findIn K (.ref bt) "__class__" = some (some (.builtin "object.__class__")))
    (xm_bt : PySem.W.mroIn K bt (.type "object") = some true)
    (xc_bt : PySem.W.isClsIn K bt = true)
    (xv_bt : PySem.W.subIn K (.ref bt) (.type "ValueError") = some true)
    (xK_bt : PySem.W.subIn K (.ref bt) (.ref ke) = some true)
    (xs_bt_bn : PySem.W.subIn K (.ref bt) (.ref bn) = some false)
    (xs_bt_bs : PySem.W.subIn K (.ref bt) (.ref bs) = some false)
    (xs_bt_bk : PySem.W.subIn K (.ref bt) (.ref bk) = some false)
    (xs_bt_bt : PySem.W.subIn K (.ref bt) (.ref bt) = some true)
    (xs_bt_ns : PySem.W.subIn K (.ref bt) (.ref ns) = some false)
    (xg_ns : PySem.W.findIn K (.ref ns) "__getattribute__" = some (some (.builtin "BaseException.__getattribute__")))
    (xk_ns : PySem.W.findIn K (.ref ns) "__getattr__" = some none)
    (xd_ns : PySem.W.hasDictIn K ns = true)
    (xa_ns : PySem.W.findIn K (.ref ns) "__class__" = some (some (.builtin "object.__class__")))
    (xm_ns : PySem.W.mroIn K ns (.type "object") = some true)
    (xc_ns : PySem.W.isClsIn K ns = true)
    (xv_ns : PySem.W.subIn K (.ref ns) (.type "ValueError") = some true)
    (xK_ns : PySem.W.subIn K (.ref ns) (.ref ke) = some true)
    (xs_ns_bn : PySem.W.subIn K (.ref ns) (.ref bn) = some false)
    (xs_ns_bs : PySem.W.subIn K (.ref ns) (.ref bs) = some false)
    (xs_ns_bk : PySem.W.subIn K (.ref ns) (.ref bk) = some false)
    (xs_ns_bt : PySem.W.subIn K (.ref ns) (.ref bt) = some false)
    (xs_ns_ns : PySem.W.subIn K (.ref ns) (.ref ns) = some true)
    (DG : PySem.W.nsIn K cStatics "sys.int_max_str_digits" = some none)
    (ki0 : PySem.W.findIn K (.ref C) "__class__" = some (some (.builtin "object.__class__")))
    (ki1 : PySem.W.specialIn K (.builtin "object.__class__") "__get__" = some (some (.builtin "getset_descriptor.__get__")))
    (ki2 : PySem.W.takesIn K (.builtin "object.__class__") = some true)
    (ki3 : PySem.W.mroIn K C (.type "object") = some true)
    (kj0 : PySem.W.subIn K (.type "NoneType") (.ref C) = some false)
    (kj1 : PySem.W.subIn K (.type "bool") (.ref C) = some false)
    (kj2 : PySem.W.subIn K (.type "int") (.ref C) = some false)
    (kj3 : PySem.W.subIn K (.type "str") (.ref C) = some false)
    (kj4 : PySem.W.subIn K (.type "list") (.ref C) = some false)
    (kj5 : PySem.W.subIn K (.type "tuple") (.ref C) = some false)
    (kj6 : PySem.W.subIn K (.type "dict") (.ref C) = some false)
    (kjc : PySem.W.isClsIn K C = true)
    (kjt : PySem.W.typeIn K (.ref C) = some (.type "type"))
    (g_FIGURES : PySem.W.nsIn K mainGlobals "FIGURES" = some (some gv_FIGURES))
    (r_FIGURES : L2.RelV (.str "0123456789") gv_FIGURES)
    (g_POINTS : PySem.W.nsIn K mainGlobals "POINTS" = some (some gv_POINTS))
    (r_POINTS : L2.RelV (.str "..") gv_POINTS)
    (n_len : PySem.W.nsIn K mainGlobals "len" = some none)
    (n_isinstance : PySem.W.nsIn K mainGlobals "isinstance" = some none)
    (n_int : PySem.W.nsIn K mainGlobals "int" = some none)
    (n_bool : PySem.W.nsIn K mainGlobals "bool" = some none)
    (n_tuple : PySem.W.nsIn K mainGlobals "tuple" = some none)
    (n_str : PySem.W.nsIn K mainGlobals "str" = some none)
    (n_list : PySem.W.nsIn K mainGlobals "list" = some none)
    (n_set : PySem.W.nsIn K mainGlobals "set" = some none)
    (n_dict : PySem.W.nsIn K mainGlobals "dict" = some none)
    (n_sorted : PySem.W.nsIn K mainGlobals "sorted" = some none)
    (n_sum : PySem.W.nsIn K mainGlobals "sum" = some none)
    (n_min : PySem.W.nsIn K mainGlobals "min" = some none)
    (n_max : PySem.W.nsIn K mainGlobals "max" = some none)
    (n_abs : PySem.W.nsIn K mainGlobals "abs" = some none)
    (n_all : PySem.W.nsIn K mainGlobals "all" = some none)
    (n_enumerate : PySem.W.nsIn K mainGlobals "enumerate" = some none)
    (n_zip : PySem.W.nsIn K mainGlobals "zip" = some none)
    (n_reversed : PySem.W.nsIn K mainGlobals "reversed" = some none)
    (n_range : PySem.W.nsIn K mainGlobals "range" = some none) :
    ∃ fd : FuncData, (∀ (s : Shared) (v : Value), BindsTo s fd ⟨[v], []⟩ [("_law_script", v)]) ∧ ∀ base : Heap, K.In base → base.Ns mainGlobals mg → FnOk l.prog w K mg base (L2.CX l.prog w) 8 fa fd ["_law_script"] (spLaw K) := by
  have e := hfa.symm.trans (PySem.W.mg_of X G a47)
  cases e
  have X_bn : Xf K bn ke := ⟨xg_bn, xk_bn, b_bn, xd_bn, xa_bn, xm_bn, xc_bn, t_bn, xv_bn, xK_bn, xs_bn_bn⟩
  have X_bs : Xf K bs ke := ⟨xg_bs, xk_bs, b_bs, xd_bs, xa_bs, xm_bs, xc_bs, t_bs, xv_bs, xK_bs, xs_bs_bs⟩
  have X_bk : Xf K bk ke := ⟨xg_bk, xk_bk, b_bk, xd_bk, xa_bk, xm_bk, xc_bk, t_bk, xv_bk, xK_bk, xs_bk_bk⟩
  have X_bt : Xf K bt ke := ⟨xg_bt, xk_bt, b_bt, xd_bt, xa_bt, xm_bt, xc_bt, t_bt, xv_bt, xK_bt, xs_bt_bt⟩
  have X_ns : Xf K ns ke := ⟨xg_ns, xk_ns, b_ns, xd_ns, xa_ns, xm_ns, xc_ns, t_ns, xv_ns, xK_ns, xs_ns_ns⟩
  have EC : Ecs K mg ke (eaOf bn bs bk bt ns) := ecs_mk xe1 xe2 ⟨kb_ke, kd_ke, kt_ke⟩ X_bn X_bs X_bk X_bt X_ns (PySem.W.mg_of X G g_bn) (PySem.W.mg_of X G g_bs) (PySem.W.mg_of X G g_bk) (PySem.W.mg_of X G g_bt) (PySem.W.mg_of X G g_ns) (PySem.W.mg_none_of X G n_ValueError) (fun k k' => by
    cases k <;> cases k'
    · exact xs_bn_bn
    · exact xs_bn_bs
    · exact xs_bn_bk
    · exact xs_bn_bt
    · exact xs_bn_ns
    · exact xs_bs_bn
    · exact xs_bs_bs
    · exact xs_bs_bk
    · exact xs_bs_bt
    · exact xs_bs_ns
    · exact xs_bk_bn
    · exact xs_bk_bs
    · exact xs_bk_bk
    · exact xs_bk_bt
    · exact xs_bk_ns
    · exact xs_bt_bn
    · exact xs_bt_bs
    · exact xs_bt_bk
    · exact xs_bt_bt
    · exact xs_bt_ns
    · exact xs_ns_bn
    · exact xs_ns_bs
    · exact xs_ns_bk
    · exact xs_ns_bt
    · exact xs_ns_ns)
  have nb : Nb mg := ⟨PySem.W.mg_none_of X G n_len, PySem.W.mg_none_of X G n_isinstance, PySem.W.mg_none_of X G n_int, PySem.W.mg_none_of X G n_bool, PySem.W.mg_none_of X G n_tuple, PySem.W.mg_none_of X G n_str, PySem.W.mg_none_of X G n_list, PySem.W.mg_none_of X G n_set, PySem.W.mg_none_of X G n_dict, PySem.W.mg_none_of X G n_sorted, PySem.W.mg_none_of X G n_sum, PySem.W.mg_none_of X G n_min, PySem.W.mg_none_of X G n_max, PySem.W.mg_none_of X G n_abs, PySem.W.mg_none_of X G n_all, PySem.W.mg_none_of X G n_enumerate, PySem.W.mg_none_of X G n_zip, PySem.W.mg_none_of X G n_reversed, PySem.W.mg_none_of X G n_range⟩
  have T0 : Kp K mg C := ⟨⟨pgC, hdC, poC, saC⟩, nBe, nTu, PySem.W.mg_of X G aC⟩
  have KI : Kis K C := ⟨ki0, ki1, ki2, ki3, kitCls_sub kjc kjt kj0, kitCls_sub kjc kjt kj1, kitCls_sub kjc kjt kj2, kitCls_sub kjc kjt kj3, kitCls_sub kjc kjt kj4, kitCls_sub kjc kjt kj5, kitCls_sub kjc kjt kj6⟩
  have ex_BadNumber : Exn K mg "BadNumber" bn := ⟨q_bn, PySem.W.mg_of X G g_bn, k_bn, b_bn, t_bn⟩
  have ex_BadStretch : Exn K mg "BadStretch" bs := ⟨q_bs, PySem.W.mg_of X G g_bs, k_bs, b_bs, t_bs⟩
  have ex_BadKeeper : Exn K mg "BadKeeper" bk := ⟨q_bk, PySem.W.mg_of X G g_bk, k_bk, b_bk, t_bk⟩
  have ex_BadText : Exn K mg "BadText" bt := ⟨q_bt, PySem.W.mg_of X G g_bt, k_bt, b_bt, t_bt⟩
  have gs_FIGURES := (⟨_, PySem.W.mg_of X G g_FIGURES, r_FIGURES⟩ : GlS mg "FIGURES" _)
  have gs_POINTS := (⟨_, PySem.W.mg_of X G g_POINTS, r_POINTS⟩ : GlS mg "POINTS" _)
  have F0 := fun_mk (st := s_both) l0 c0 k0
  have b0 := F0.binds (ps := ["one", "other"]) fun _ _ _ _ _ _ us hl => match us, hl with | [_, _], _ => rfl
  have F1 := fun_mk (st := s_either) l1 c1 k1
  have b1 := F1.binds (ps := ["one", "other"]) fun _ _ _ _ _ _ us hl => match us, hl with | [_, _], _ => rfl
  have F2 := fun_mk (st := s_alone) l2 c2 k2
  have b2 := F2.binds (ps := ["one", "other"]) fun _ _ _ _ _ _ us hl => match us, hl with | [_, _], _ => rfl
  have F3 := fun_mk (st := s_unlike) l3 c3 k3
  have b3 := F3.binds (ps := ["one", "other"]) fun _ _ _ _ _ _ us hl => match us, hl with | [_, _], _ => rfl
  have F4 := fun_mk (st := s_Keeper___init__) l4 c4 k4
  have b4 := F4.binds (ps := ["self"]) fun _ _ _ _ _ _ us hl => match us, hl with | [_], _ => rfl
  have F5 := fun_mk (st := s_Keeper_stretches) l5 c5 k5
  have b5 := F5.binds (ps := ["self"]) fun _ _ _ _ _ _ us hl => match us, hl with | [_], _ => rfl
  have F6 := fun_mk (st := s__law_mixed) l6 c6 k6
  have b6 := F6.binds (ps := ["_law_cell", "_law_k"]) fun _ _ _ _ _ _ us hl => match us, hl with | [_, _], _ => rfl
  have F7 := fun_mk (st := s__law_number) l7 c7 k7
  have b7 := F7.binds (ps := ["_law_cell", "_law_k"]) fun _ _ _ _ _ _ us hl => match us, hl with | [_, _], _ => rfl
  have F8 := fun_mk (st := s__law_stretch) l8 c8 k8
  have b8 := F8.binds (ps := ["_law_cell", "_law_k"]) fun _ _ _ _ _ _ us hl => match us, hl with | [_, _], _ => rfl
  have F9 := fun_mk (st := s__law_deed) l9 c9 k9
  have b9 := F9.binds (ps := ["_law_cell", "_law_k"]) fun _ _ _ _ _ _ us hl => match us, hl with | [_, _], _ => rfl
  have F10 := fun_mk (st := s__law_lies) l10 c10 k10
  have b10 := F10.binds (ps := ["_law_stretch_here", "_law_number_here"]) fun _ _ _ _ _ _ us hl => match us, hl with | [_, _], _ => rfl
  have F11 := fun_mk (st := s__law_behind) l11 c11 k11
  have b11 := F11.binds (ps := ["_law_deed_here", "_law_is_in_here", "_law_spot"]) fun _ _ _ _ _ _ us hl => match us, hl with | [_, _, _], _ => rfl
  have F12 := fun_mk (st := s__law_is_in) l12 c12 k12
  have b12 := F12.binds (ps := ["_law_deeds", "_law_number_here"]) fun _ _ _ _ _ _ us hl => match us, hl with | [_, _], _ => rfl
  have F13 := fun_mk (st := s__law_spots) l13 c13 k13
  have b13 := F13.binds (ps := ["_law_deeds"]) fun _ _ _ _ _ _ us hl => match us, hl with | [_], _ => rfl
  have F14 := fun_mk (st := s__law_due) l14 c14 k14
  have b14 := F14.binds (ps := ["_law_deeds"]) fun _ _ _ _ _ _ us hl => match us, hl with | [_], _ => rfl
  have F15 := fun_mk (st := s_merged) l15 c15 k15
  have b15 := F15.binds (ps := ["one", "other", "rule"]) fun _ _ _ _ _ _ us hl => match us, hl with | [_, _, _], _ => rfl
  have F16 := fun_mk (st := s_Keeper_ruled) l16 c16 k16
  have b16 := F16.binds (ps := ["self", "row", "rule"]) fun _ _ _ _ _ _ us hl => match us, hl with | [_, _, _], _ => rfl
  have F17 := fun_mk (st := s_is_number) l17 c17 k17
  have b17 := F17.binds (ps := ["thing"]) fun _ _ _ _ _ _ us hl => match us, hl with | [_], _ => rfl
  have F18 := fun_mk (st := s_is_stretch) l18 c18 k18
  have b18 := F18.binds (ps := ["thing"]) fun _ _ _ _ _ _ us hl => match us, hl with | [_], _ => rfl
  have F19 := fun_mk (st := s_need_stretch) l19 c19 k19
  have b19 := F19.binds (ps := ["thing"]) fun _ _ _ _ _ _ us hl => match us, hl with | [_], _ => rfl
  have F20 := fun_mk (st := s_turns_of) l20 c20 k20
  have b20 := F20.binds (ps := ["stretch"]) fun _ _ _ _ _ _ us hl => match us, hl with | [_], _ => rfl
  have F21 := fun_mk (st := s_Keeper_keep) l21 c21 k21
  have b21 := F21.binds (ps := ["self", "stretch"]) fun _ _ _ _ _ _ us hl => match us, hl with | [_, _], _ => rfl
  have F22 := fun_mk (st := s_Keeper_mirror) l22 c22 k22
  have b22 := F22.binds (ps := ["self"]) fun _ _ _ _ _ _ us hl => match us, hl with | [_], _ => rfl
  have F23 := fun_mk (st := s_need_number) l23 c23 k23
  have b23 := F23.binds (ps := ["thing"]) fun _ _ _ _ _ _ us hl => match us, hl with | [_], _ => rfl
  have F24 := fun_mk (st := s_Keeper_move) l24 c24 k24
  have b24 := F24.binds (ps := ["self", "steps"]) fun _ _ _ _ _ _ us hl => match us, hl with | [_, _], _ => rfl
  have F25 := fun_mk (st := s_Keeper_put) l25 c25 k25
  have b25 := F25.binds (ps := ["self", "stretch"]) fun _ _ _ _ _ _ us hl => match us, hl with | [_, _], _ => rfl
  have F26 := fun_mk (st := s_Keeper_take) l26 c26 k26
  have b26 := F26.binds (ps := ["self", "stretch"]) fun _ _ _ _ _ _ us hl => match us, hl with | [_, _], _ => rfl
  have F27 := fun_mk (st := s_Keeper_turn) l27 c27 k27
  have b27 := F27.binds (ps := ["self", "stretch"]) fun _ _ _ _ _ _ us hl => match us, hl with | [_, _], _ => rfl
  have F28 := fun_mk (st := s__law_done) l28 c28 k28
  have b28 := F28.binds (ps := ["_law_keeper_here", "_law_deed_here"]) fun _ _ _ _ _ _ us hl => match us, hl with | [_, _], _ => rfl
  have F29 := fun_mk (st := s__law_made_N) l29 c29 k29
  have b29 := F29.binds (ps := ["_law_deeds"]) fun _ _ _ _ _ _ us hl => match us, hl with | [_], _ => rfl
  have F30 := fun_mk (st := s__law_keeper_T) l30 c30 k30
  have b30 := F30.binds (ps := ["_law_cells", "_law_many"]) fun _ _ _ _ _ _ us hl => match us, hl with | [_, _], _ => rfl
  have F31 := fun_mk (st := s__law_number_in) l31 c31 k31
  have b31 := F31.binds (ps := ["_law_word_here"]) fun _ _ _ _ _ _ us hl => match us, hl with | [_], _ => rfl
  have F32 := fun_mk (st := s__law_word_in) l32 c32 k32
  have b32 := F32.binds (ps := ["_law_word_here"]) fun _ _ _ _ _ _ us hl => match us, hl with | [_], _ => rfl
  have F33 := fun_mk (st := s__law_read) l33 c33 k33
  have b33 := F33.binds (ps := ["_law_text_here"]) fun _ _ _ _ _ _ us hl => match us, hl with | [_], _ => rfl
  have F34 := fun_mk (st := s__law_whole) l34 c34 k34
  have b34 := F34.binds (ps := ["_law_found"]) fun _ _ _ _ _ _ us hl => match us, hl with | [_], _ => rfl
  have F35 := fun_mk (st := s__law_right) l35 c35 k35
  have b35 := F35.binds (ps := ["_law_found", "_law_due_here"]) fun _ _ _ _ _ _ us hl => match us, hl with | [_, _], _ => rfl
  have F36 := fun_mk (st := s__law_spoilt) l36 c36 k36
  have b36 := F36.binds (ps := ["_law_text_here", "_law_cell"]) fun _ _ _ _ _ _ us hl => match us, hl with | [_, _], _ => rfl
  have F37 := fun_mk (st := s__law_text) l37 c37 k37
  have b37 := F37.binds (ps := ["_law_due_here"]) fun _ _ _ _ _ _ us hl => match us, hl with | [_], _ => rfl
  have F38 := fun_mk (st := s__law_word) l38 c38 k38
  have b38 := F38.binds (ps := ["_law_e"]) fun _ _ _ _ _ _ us hl => match us, hl with | [_], _ => rfl
  have F39 := fun_mk (st := s_number_in) l39 c39 k39
  have b39 := F39.binds (ps := ["word"]) fun _ _ _ _ _ _ us hl => match us, hl with | [_], _ => rfl
  have F40 := fun_mk (st := s_stretch_in_D) l40 c40 k40
  have b40 := F40.binds (ps := ["word"]) fun _ _ _ _ _ _ us hl => match us, hl with | [_], _ => rfl
  have F41 := fun_mk (st := s_need_keeper) l41 c41 k41
  have b41 := F41.binds (ps := ["thing"]) fun _ _ _ _ _ _ us hl => match us, hl with | [_], _ => rfl
  have F42 := fun_mk (st := s_end_text) l42 c42 k42
  have b42 := F42.binds (ps := ["end"]) fun _ _ _ _ _ _ us hl => match us, hl with | [_], _ => rfl
  have F43 := fun_mk (st := s_stretch_text) l43 c43 k43
  have b43 := F43.binds (ps := ["stretch"]) fun _ _ _ _ _ _ us hl => match us, hl with | [_], _ => rfl
  have F44 := fun_mk (st := s_text_of) l44 c44 k44
  have b44 := F44.binds (ps := ["keeper"]) fun _ _ _ _ _ _ us hl => match us, hl with | [_], _ => rfl
  have F45 := fun_mk (st := s_keeper_of_D) l45 c45 k45
  have b45 := F45.binds (ps := ["text"]) fun _ _ _ _ _ _ us hl => match us, hl with | [_], _ => rfl
  have F46 := fun_mk (st := s__law_told) l46 c46 k46
  have b46 := F46.binds (ps := ["_law_text_here"]) fun _ _ _ _ _ _ us hl => match us, hl with | [_], _ => rfl
  have F47 := fun_mk (st := s_law) l47 c47 k47
  have b47 := F47.binds (ps := ["_law_script"]) fun _ _ _ _ _ _ us hl => match us, hl with | [_], _ => rfl
  have hKE := PySem.W.mg_of X G g_ke
  refine ⟨PySem.W.fnOf "law" "law" (defArgs s_law) (defBody s_law) (defScope s_law) .none kV47 dc47 pm47 an47 cd47 ct47, fun s v => .of_eq rfl, fun base _ _ => ?_⟩
  have H_both : Fc l.prog w K mg base C 1 "both" (dp_rule f_both) := ⟨⟨f0, _, _, ok_both F0 nb, PySem.W.mg_of X G a0, k0, b0⟩⟩
  have Fa_both : Fa l.prog w K mg base C 1 f0 (dp_rule f_both) := ⟨⟨_, _, ok_both F0 nb, k0, b0⟩⟩
  have mg_both := PySem.W.mg_of X G a0
  have H_either : Fc l.prog w K mg base C 1 "either" (dp_rule f_either) := ⟨⟨f1, _, _, ok_either F1 nb, PySem.W.mg_of X G a1, k1, b1⟩⟩
  have Fa_either : Fa l.prog w K mg base C 1 f1 (dp_rule f_either) := ⟨⟨_, _, ok_either F1 nb, k1, b1⟩⟩
  have mg_either := PySem.W.mg_of X G a1
  have H_alone : Fc l.prog w K mg base C 1 "alone" (dp_rule f_alone) := ⟨⟨f2, _, _, ok_alone F2 nb, PySem.W.mg_of X G a2, k2, b2⟩⟩
  have Fa_alone : Fa l.prog w K mg base C 1 f2 (dp_rule f_alone) := ⟨⟨_, _, ok_alone F2 nb, k2, b2⟩⟩
  have mg_alone := PySem.W.mg_of X G a2
  have H_unlike : Fc l.prog w K mg base C 1 "unlike" (dp_rule f_unlike) := ⟨⟨f3, _, _, ok_unlike F3 nb, PySem.W.mg_of X G a3, k3, b3⟩⟩
  have Fa_unlike : Fa l.prog w K mg base C 1 f3 (dp_rule f_unlike) := ⟨⟨_, _, ok_unlike F3 nb, k3, b3⟩⟩
  have mg_unlike := PySem.W.mg_of X G a3
  have N0 : Kn l.prog w K mg base C 1 := ⟨PySem.W.mg_of X G aC, f4, _, _, ⟨mkC, a4, i4, kcC⟩, ok_Keeper___init__ F4 (T0 := T0), b4⟩
  have H_Keeper_stretches : Mc l.prog w K mg base C 1 "stretches" dp_stretches := ⟨⟨f5, _, _, ok_Keeper_stretches F5 nb (T0 := T0), ⟨a5, i5, k5⟩, b5⟩⟩
  have H__law_mixed : Fc l.prog w K mg base C 1 "_law_mixed" dp_mixed := ⟨⟨f6, _, _, ok__law_mixed F6 nb, PySem.W.mg_of X G a6, k6, b6⟩⟩
  have H__law_number : Fc l.prog w K mg base C 2 "_law_number" dp_number := ⟨⟨f7, _, _, ok__law_number F7 nb (h__law_mixed := H__law_mixed), PySem.W.mg_of X G a7, k7, b7⟩⟩
  have H__law_stretch : Fc l.prog w K mg base C 3 "_law_stretch" dp_stretch := ⟨⟨f8, _, _, ok__law_stretch F8 nb (h__law_mixed := H__law_mixed) (h__law_number := H__law_number), PySem.W.mg_of X G a8, k8, b8⟩⟩
  have H__law_deed : Fc l.prog w K mg base C 4 "_law_deed" dp_deed := ⟨⟨f9, _, _, ok__law_deed F9 nb (h__law_mixed := H__law_mixed) (h__law_number := H__law_number) (h__law_stretch := H__law_stretch), PySem.W.mg_of X G a9, k9, b9⟩⟩
  have H__law_lies : Fc l.prog w K mg base C 1 "_law_lies" dp_lies := ⟨⟨f10, _, _, ok__law_lies F10 nb, PySem.W.mg_of X G a10, k10, b10⟩⟩
  have H__law_behind : Fc l.prog w K mg base C 2 "_law_behind" dp_behind := ⟨⟨f11, _, _, ok__law_behind F11 nb (h__law_lies := H__law_lies), PySem.W.mg_of X G a11, k11, b11⟩⟩
  have H__law_is_in : Fc l.prog w K mg base C 3 "_law_is_in" dp_in := ⟨⟨f12, _, _, ok__law_is_in F12 nb (h__law_behind := H__law_behind), PySem.W.mg_of X G a12, k12, b12⟩⟩
  have H__law_spots : Fc l.prog w K mg base C 1 "_law_spots" dp_spots := ⟨⟨f13, _, _, ok__law_spots F13 nb, PySem.W.mg_of X G a13, k13, b13⟩⟩
  have H__law_due : Fc l.prog w K mg base C 4 "_law_due" dp_due := ⟨⟨f14, _, _, ok__law_due F14 nb (h__law_is_in := H__law_is_in) (h__law_spots := H__law_spots), PySem.W.mg_of X G a14, k14, b14⟩⟩
  have H_merged_both : Fc l.prog w K mg base C 2 "merged" (dp_merged f_both f0) := ⟨⟨f15, _, _, ok_merged F15 nb (F_rule := Fa_both), PySem.W.mg_of X G a15, k15, b15⟩⟩
  have H_merged_either : Fc l.prog w K mg base C 2 "merged" (dp_merged f_either f1) := ⟨⟨f15, _, _, ok_merged F15 nb (F_rule := Fa_either), PySem.W.mg_of X G a15, k15, b15⟩⟩
  have H_merged_alone : Fc l.prog w K mg base C 2 "merged" (dp_merged f_alone f2) := ⟨⟨f15, _, _, ok_merged F15 nb (F_rule := Fa_alone), PySem.W.mg_of X G a15, k15, b15⟩⟩
  have H_merged_unlike : Fc l.prog w K mg base C 2 "merged" (dp_merged f_unlike f3) := ⟨⟨f15, _, _, ok_merged F15 nb (F_rule := Fa_unlike), PySem.W.mg_of X G a15, k15, b15⟩⟩
  have H_Keeper_ruled_both : Mm l.prog w K mg base C 3 "ruled" (dm_ruled f_both f0) := ⟨⟨f16, _, _, ok_Keeper_ruled F16 nb (T0 := T0) (h_merged := H_merged_both), ⟨a16, i16, k16⟩, b16⟩⟩
  have H_Keeper_ruled_either : Mm l.prog w K mg base C 3 "ruled" (dm_ruled f_either f1) := ⟨⟨f16, _, _, ok_Keeper_ruled F16 nb (T0 := T0) (h_merged := H_merged_either), ⟨a16, i16, k16⟩, b16⟩⟩
  have H_Keeper_ruled_alone : Mm l.prog w K mg base C 3 "ruled" (dm_ruled f_alone f2) := ⟨⟨f16, _, _, ok_Keeper_ruled F16 nb (T0 := T0) (h_merged := H_merged_alone), ⟨a16, i16, k16⟩, b16⟩⟩
  have H_Keeper_ruled_unlike : Mm l.prog w K mg base C 3 "ruled" (dm_ruled f_unlike f3) := ⟨⟨f16, _, _, ok_Keeper_ruled F16 nb (T0 := T0) (h_merged := H_merged_unlike), ⟨a16, i16, k16⟩, b16⟩⟩
  have H_is_number : Fc l.prog w K mg base C 1 "is_number" dp_is_number := ⟨⟨f17, _, _, ok_is_number F17 nb, PySem.W.mg_of X G a17, k17, b17⟩⟩
  have H_is_stretch : Fc l.prog w K mg base C 2 "is_stretch" dp_is_stretch := ⟨⟨f18, _, _, ok_is_stretch F18 nb (h_is_number := H_is_number), PySem.W.mg_of X G a18, k18, b18⟩⟩
  have H_need_stretch : Fc l.prog w K mg base C 3 "need_stretch" (dp_need_stretch bs) := ⟨⟨f19, _, _, ok_need_stretch F19 nb (ex_BadStretch := ex_BadStretch) (h_is_stretch := H_is_stretch), PySem.W.mg_of X G a19, k19, b19⟩⟩
  have H_turns_of : Fc l.prog w K mg base C 1 "turns_of" dp_turns_of := ⟨⟨f20, _, _, ok_turns_of F20 nb, PySem.W.mg_of X G a20, k20, b20⟩⟩
  have H_Keeper_keep : Mm l.prog w K mg base C 4 "keep" (dm_put f_both bs) := ⟨⟨f21, _, _, ok_Keeper_keep F21 nb (T0 := T0) (mg_both := mg_both) (h_ruled := H_Keeper_ruled_both) (h_need_stretch := H_need_stretch) (h_turns_of := H_turns_of), ⟨a21, i21, k21⟩, b21⟩⟩
  have H_Keeper_mirror : Mm l.prog w K mg base C 1 "mirror" dm_mirror := ⟨⟨f22, _, _, ok_Keeper_mirror F22 nb (T0 := T0), ⟨a22, i22, k22⟩, b22⟩⟩
  have H_need_number : Fc l.prog w K mg base C 2 "need_number" (dp_need_number bn) := ⟨⟨f23, _, _, ok_need_number F23 nb (ex_BadNumber := ex_BadNumber) (h_is_number := H_is_number), PySem.W.mg_of X G a23, k23, b23⟩⟩
  have H_Keeper_move : Mm l.prog w K mg base C 3 "move" (dm_move bn) := ⟨⟨f24, _, _, ok_Keeper_move F24 nb (T0 := T0) (h_need_number := H_need_number), ⟨a24, i24, k24⟩, b24⟩⟩
  have H_Keeper_put : Mm l.prog w K mg base C 4 "put" (dm_put f_either bs) := ⟨⟨f25, _, _, ok_Keeper_put F25 nb (T0 := T0) (mg_either := mg_either) (h_ruled := H_Keeper_ruled_either) (h_need_stretch := H_need_stretch) (h_turns_of := H_turns_of), ⟨a25, i25, k25⟩, b25⟩⟩
  have H_Keeper_take : Mm l.prog w K mg base C 4 "take" (dm_put f_alone bs) := ⟨⟨f26, _, _, ok_Keeper_take F26 nb (T0 := T0) (mg_alone := mg_alone) (h_ruled := H_Keeper_ruled_alone) (h_need_stretch := H_need_stretch) (h_turns_of := H_turns_of), ⟨a26, i26, k26⟩, b26⟩⟩
  have H_Keeper_turn : Mm l.prog w K mg base C 4 "turn" (dm_put f_unlike bs) := ⟨⟨f27, _, _, ok_Keeper_turn F27 nb (T0 := T0) (mg_unlike := mg_unlike) (h_ruled := H_Keeper_ruled_unlike) (h_need_stretch := H_need_stretch) (h_turns_of := H_turns_of), ⟨a27, i27, k27⟩, b27⟩⟩
  have H__law_done : Fm l.prog w K mg base C 5 "_law_done" dm_done := ⟨⟨f28, _, _, ok__law_done F28 nb (T0 := T0) (h_keep := H_Keeper_keep) (h_mirror := H_Keeper_mirror) (h_move := H_Keeper_move) (h_put := H_Keeper_put) (h_take := H_Keeper_take) (h_turn := H_Keeper_turn), PySem.W.mg_of X G a28, k28, b28⟩⟩
  have H__law_made_N : Fn l.prog w K mg base C 6 "_law_made" dn_made := ⟨⟨f29, _, _, ok__law_made_N F29 nb (T0 := T0) (N0 := N0) (h__law_done := H__law_done), PySem.W.mg_of X G a29, k29, b29⟩⟩
  have H__law_keeper_T : FnT l.prog w K mg base C 7 "_law_keeper" dt_keeper := ⟨⟨f30, _, _, ok__law_keeper_T F30 nb (h__law_deed := H__law_deed) (h__law_due := H__law_due) (hN__law_made := H__law_made_N), PySem.W.mg_of X G a30, k30, b30⟩⟩
  have H__law_number_in : Fc l.prog w K mg base C 1 "_law_number_in" dp_lnumin := ⟨⟨f31, _, _, ok__law_number_in F31 nb (DG := DG), PySem.W.mg_of X G a31, k31, b31⟩⟩
  have H__law_word_in : Fc l.prog w K mg base C 2 "_law_word_in" dp_lwordin := ⟨⟨f32, _, _, ok__law_word_in F32 nb (h__law_number_in := H__law_number_in), PySem.W.mg_of X G a32, k32, b32⟩⟩
  have H__law_read : Fc l.prog w K mg base C 3 "_law_read" dp_lread := ⟨⟨f33, _, _, ok__law_read F33 nb (h__law_word_in := H__law_word_in), PySem.W.mg_of X G a33, k33, b33⟩⟩
  have H__law_whole : Fc l.prog w K mg base C 1 "_law_whole" dp_whole := ⟨⟨f34, _, _, ok__law_whole F34 nb, PySem.W.mg_of X G a34, k34, b34⟩⟩
  have H__law_right : Fc l.prog w K mg base C 2 "_law_right" dp_right := ⟨⟨f35, _, _, ok__law_right F35 nb (h__law_whole := H__law_whole), PySem.W.mg_of X G a35, k35, b35⟩⟩
  have H__law_spoilt : Fc l.prog w K mg base C 2 "_law_spoilt" dp_lspoilt := ⟨⟨f36, _, _, ok__law_spoilt F36 nb (h__law_mixed := H__law_mixed), PySem.W.mg_of X G a36, k36, b36⟩⟩
  have H__law_text : Fc l.prog w K mg base C 1 "_law_text" dp_ltext := ⟨⟨f37, _, _, ok__law_text F37 nb (DG := DG), PySem.W.mg_of X G a37, k37, b37⟩⟩
  have H__law_word : Fc l.prog w K mg base C 1 "_law_word" (dp_word (eaOf bn bs bk bt ns)) := ⟨⟨f38, _, _, ok__law_word F38 nb (EC := EC), PySem.W.mg_of X G a38, k38, b38⟩⟩
  have H_number_in : Fc l.prog w K mg base C 1 "number_in" (dp_numin bt) := ⟨⟨f39, _, _, ok_number_in F39 nb (ex_BadText := ex_BadText) (gs_FIGURES := gs_FIGURES) (DG := DG), PySem.W.mg_of X G a39, k39, b39⟩⟩
  have H_stretch_in_D : Fc l.prog w K mg base C 3 "stretch_in" (dp_strinD bt) := ⟨⟨f40, _, _, ok_stretch_in_D F40 nb (ex_BadText := ex_BadText) (gs_POINTS := gs_POINTS) (h_is_stretch := H_is_stretch) (h_number_in := H_number_in), PySem.W.mg_of X G a40, k40, b40⟩⟩
  have H_need_keeper : Fc l.prog w K mg base C 1 "need_keeper" (dp_need_keeper bk) := ⟨⟨f41, _, _, ok_need_keeper F41 nb (T0 := T0) (KI := KI) (ex_BadKeeper := ex_BadKeeper), PySem.W.mg_of X G a41, k41, b41⟩⟩
  have H_end_text : Fc l.prog w K mg base C 1 "end_text" dp_endtext := ⟨⟨f42, _, _, ok_end_text F42 nb (DG := DG), PySem.W.mg_of X G a42, k42, b42⟩⟩
  have H_stretch_text : Fc l.prog w K mg base C 2 "stretch_text" dp_stext := ⟨⟨f43, _, _, ok_stretch_text F43 nb (gs_POINTS := gs_POINTS) (DG := DG) (h_end_text := H_end_text), PySem.W.mg_of X G a43, k43, b43⟩⟩
  have H_text_of : Fc l.prog w K mg base C 3 "text_of" dp_text := ⟨⟨f44, _, _, ok_text_of F44 nb (T0 := T0) (h_stretches := H_Keeper_stretches) (h_need_keeper := H_need_keeper) (h_stretch_text := H_stretch_text), PySem.W.mg_of X G a44, k44, b44⟩⟩
  have H_keeper_of_D : Fc l.prog w K mg base C 5 "keeper_of" (dp_keeperD bt) := ⟨⟨f45, _, _, ok_keeper_of_D F45 nb (T0 := T0) (N0 := N0) (ex_BadText := ex_BadText) (h_put := H_Keeper_put) (h_stretch_in := H_stretch_in_D) (h_text_of := H_text_of), PySem.W.mg_of X G a45, k45, b45⟩⟩
  have H_stretch_in : Fc l.prog w K mg base C 3 "stretch_in" dp_strin := ⟨⟨f40, _, _, ok_stretch_in F40 nb (ex_BadText := ex_BadText) (gs_POINTS := gs_POINTS) (h_is_stretch := H_is_stretch) (h_number_in := H_number_in), PySem.W.mg_of X G a40, k40, b40⟩⟩
  have H_keeper_of_N : Fn l.prog w K mg base C 5 "keeper_of" dn_keeper_of := ⟨⟨f45, _, _, ok_keeper_of_N F45 nb (T0 := T0) (N0 := N0) (ex_BadText := ex_BadText) (h_put := H_Keeper_put) (h_stretch_in := H_stretch_in) (h_text_of := H_text_of), PySem.W.mg_of X G a45, k45, b45⟩⟩
  have H__law_told : Fc l.prog w K mg base C 6 "_law_told" dp_ltold := ⟨⟨f46, _, _, ok__law_told F46 nb (T0 := T0) (KI := KI) (EC := EC) (hKE := hKE) (h_stretches := H_Keeper_stretches) (h__law_word := H__law_word) (h_keeper_of := H_keeper_of_D) (hN_keeper_of := H_keeper_of_N), PySem.W.mg_of X G a46, k46, b46⟩⟩
  exact (ok_law F47 nb (T0 := T0) (KI := KI) (N0 := N0) (h_stretches := H_Keeper_stretches) (hT__law_keeper := H__law_keeper_T) (h__law_mixed := H__law_mixed) (h__law_read := H__law_read) (h__law_right := H__law_right) (h__law_spoilt := H__law_spoilt) (h__law_text := H__law_text) (h__law_told := H__law_told)).imp fun vs H Q E q => spLaw_spD q
theorem walk {l : PySem.W.OpenLaw} {q : Program} {loose : List Str} {XP : (Str → Option Value) → Heap → Prop} {YP : World → Heap → Prop} {d : DefRec} {K : Params → PySem.W.Frag} (hn : l.most = some 63) (hdf : d.params.defaults = [])
    (hY : ∀ (w : World) (h : Heap), YP w h → (K w.params).In h)
    (F : ∀ (w : World) (mg : Str → Option Value) (fa : Addr) (h : Heap), (K w.params).In h → h.Ns mainGlobals mg → mg d.name = some (.ref fa) →
      ∃ fd : FuncData, (∀ (s : Shared) (u : Value), BindsTo s fd ⟨[u], []⟩ [("_law_script", u)]) ∧ ∀ base : Heap, (K w.params).In base → base.Ns mainGlobals mg → FnOk l.prog w (K w.params) mg base (L2.CX l.prog w) 8 fa fd ["_law_script"] (spLaw (K w.params))) :
    PySem.W.WalkO q loose XP YP l.row.toRowW d [] (fun f vs => PySem.call f vs) :=
  L2.walk_of (n := 63) (k := 8) (x := "_law_script") (CX := fun w => L2.CX l.prog w) (sp := fun w => spLaw (K w.params)) hn (by decide) hdf ⟨rfl, by decide, by decide⟩ hY F (fun _ _ a ns hl _ hS => ⟨a, ns, rfl, hS, hl, fun _ => rfl⟩) fun _ _ _ _ _ z => by
    obtain ⟨_, _, _, _, _, _, _, _, _, _, _, _, z⟩ := z
    exact z
end L2.DL
open PySem PySem.W PyProof.Rows
set_option maxRecDepth 100000 in
set_option maxHeartbeats 0 in
theorem PySem.Challenge.cw_stretchkeeper_k08_texts_refused_holds : PySem.Challenge.rw_stretchkeeper_k08_texts_refused.Holds := by
  w_on; o_law; k_head; (case hw => w_witness2)
  k_fill
  refine L2.DL.walk (l := PySem.Challenge.rw_stretchkeeper_k08_texts_refused) rfl rfl (fun w h Y => PySem.W.kIn_of Y) ?F
  case F =>
    intro w mg fa h KX G hmg
    refine' L2.DL.all_mk KX G hmg ?aC ?a0 ?l0 ?c0 ?k0 ?a1 ?l1 ?c1 ?k1 ?a2 ?l2 ?c2 ?k2 ?a3 ?l3 ?c3 ?k3 ?a4 ?i4 ?l4 ?c4 ?k4 ?a5 ?i5 ?l5 ?c5 ?k5 ?a6 ?l6 ?c6 ?k6 ?a7 ?l7 ?c7 ?k7 ?a8 ?l8 ?c8 ?k8 ?a9 ?l9 ?c9 ?k9 ?a10 ?l10 ?c10 ?k10 ?a11 ?l11 ?c11 ?k11 ?a12 ?l12 ?c12 ?k12 ?a13 ?l13 ?c13 ?k13 ?a14 ?l14 ?c14 ?k14 ?a15 ?l15 ?c15 ?k15 ?a16 ?i16 ?l16 ?c16 ?k16 ?a17 ?l17 ?c17 ?k17 ?a18 ?l18 ?c18 ?k18 ?a19 ?l19 ?c19 ?k19 ?a20 ?l20 ?c20 ?k20 ?a21 ?i21 ?l21 ?c21 ?k21 ?a22 ?i22 ?l22 ?c22 ?k22 ?a23 ?l23 ?c23 ?k23 ?a24 ?i24 ?l24 ?c24 ?k24 ?a25 ?i25 ?l25 ?c25 ?k25 ?a26 ?i26 ?l26 ?c26 ?k26 ?a27 ?i27 ?l27 ?c27 ?k27 ?a28 ?l28 ?c28 ?k28 ?a29 ?l29 ?c29 ?k29 ?a30 ?l30 ?c30 ?k30 ?a31 ?l31 ?c31 ?k31 ?a32 ?l32 ?c32 ?k32 ?a33 ?l33 ?c33 ?k33 ?a34 ?l34 ?c34 ?k34 ?a35 ?l35 ?c35 ?k35 ?a36 ?l36 ?c36 ?k36 ?a37 ?l37 ?c37 ?k37 ?a38 ?l38 ?c38 ?k38 ?a39 ?l39 ?c39 ?k39 ?a40 ?l40 ?c40 ?k40 ?a41 ?l41 ?c41 ?k41 ?a42 ?l42 ?c42 ?k42 ?a43 ?l43 ?c43 ?k43 ?a44 ?l44 ?c44 ?k44 ?a45 ?l45 ?c45 ?k45 ?a46 ?l46 ?c46 ?k46 ?a47 ?l47 ?c47 ?k47 ?pgC ?hdC ?poC ?saC ?mkC ?kcC ?nBe ?nTu ?g_bn ?q_bn ?k_bn ?b_bn ?t_bn ?g_bs ?q_bs ?k_bs ?b_bs ?t_bs ?g_bk ?q_bk ?k_bk ?b_bk ?t_bk ?g_bt ?q_bt ?k_bt ?b_bt ?t_bt ?g_ns ?b_ns ?t_ns ?g_ke ?n_ValueError ?kb_ke ?kd_ke ?kt_ke ?xe1 ?xe2 ?xg_bn ?xk_bn ?xd_bn ?xa_bn ?xm_bn ?xc_bn ?xv_bn ?xK_bn ?xs_bn_bn ?xs_bn_bs ?xs_bn_bk ?xs_bn_bt ?xs_bn_ns ?xg_bs ?xk_bs ?xd_bs ?xa_bs ?xm_bs ?xc_bs ?xv_bs ?xK_bs ?xs_bs_bn ?xs_bs_bs ?xs_bs_bk ?xs_bs_bt ?xs_bs_ns ?xg_bk ?xk_bk ?xd_bk ?xa_bk ?xm_bk ?xc_bk ?xv_bk ?xK_bk ?xs_bk_bn ?xs_bk_bs ?xs_bk_bk ?xs_bk_bt ?xs_bk_ns ?xg_bt ?xk_bt ?xd_bt ?xa_bt ?xm_bt ?xc_bt ?xv_bt ?xK_bt ?xs_bt_bn ?xs_bt_bs ?xs_bt_bk ?xs_bt_bt ?xs_bt_ns ?xg_ns ?xk_ns ?xd_ns ?xa_ns ?xm_ns ?xc_ns ?xv_ns ?xK_ns ?xs_ns_bn ?xs_ns_bs ?xs_ns_bk ?xs_ns_bt ?xs_ns_ns ?DG ?ki0 ?ki1 ?ki2 ?ki3 ?kj0 ?kj1 ?kj2 ?kj3 ?kj4 ?kj5 ?kj6 ?kjc ?kjt ?g_FIGURES ?r_FIGURES ?g_POINTS ?r_POINTS ?n_len ?n_isinstance ?n_int ?n_bool ?n_tuple ?n_str ?n_list ?n_set ?n_dict ?n_sorted ?n_sum ?n_min ?n_max ?n_abs ?n_all ?n_enumerate ?n_zip ?n_reversed ?n_range
    (case aC => k_is)
    (case a0 => k_is)
    (case l0 => k_is)
    (case c0 => k_is)
    (case k0 => k_is)
    (case a1 => k_is)
    (case l1 => k_is)
    (case c1 => k_is)
    (case k1 => k_is)
    (case a2 => k_is)
    (case l2 => k_is)
    (case c2 => k_is)
    (case k2 => k_is)
    (case a3 => k_is)
    (case l3 => k_is)
    (case c3 => k_is)
    (case k3 => k_is)
    (case a4 => k_is)
    (case i4 => k_is)
    (case l4 => k_is)
    (case c4 => k_is)
    (case k4 => k_is)
    (case a5 => k_is)
    (case i5 => k_is)
    (case l5 => k_is)
    (case c5 => k_is)
    (case k5 => k_is)
    (case a6 => k_is)
    (case l6 => k_is)
    (case c6 => k_is)
    (case k6 => k_is)
    (case a7 => k_is)
    (case l7 => k_is)
    (case c7 => k_is)
    (case k7 => k_is)
    (case a8 => k_is)
    (case l8 => k_is)
    (case c8 => k_is)
    (case k8 => k_is)
    (case a9 => k_is)
    (case l9 => k_is)
    (case c9 => k_is)
    (case k9 => k_is)
    (case a10 => k_is)
    (case l10 => k_is)
    (case c10 => k_is)
    (case k10 => k_is)
    (case a11 => k_is)
    (case l11 => k_is)
    (case c11 => k_is)
    (case k11 => k_is)
    (case a12 => k_is)
    (case l12 => k_is)
    (case c12 => k_is)
    (case k12 => k_is)
    (case a13 => k_is)
    (case l13 => k_is)
    (case c13 => k_is)
    (case k13 => k_is)
    (case a14 => k_is)
    (case l14 => k_is)
    (case c14 => k_is)
    (case k14 => k_is)
    (case a15 => k_is)
    (case l15 => k_is)
    (case c15 => k_is)
    (case k15 => k_is)
    (case a16 => k_is)
    (case i16 => k_is)
    (case l16 => k_is)
    (case c16 => k_is)
    (case k16 => k_is)
    (case a17 => k_is)
    (case l17 => k_is)
    (case c17 => k_is)
    (case k17 => k_is)
    (case a18 => k_is)
    (case l18 => k_is)
    (case c18 => k_is)
    (case k18 => k_is)
    (case a19 => k_is)
    (case l19 => k_is)
    (case c19 => k_is)
    (case k19 => k_is)
    (case a20 => k_is)
    (case l20 => k_is)
    (case c20 => k_is)
    (case k20 => k_is)
    (case a21 => k_is)
    (case i21 => k_is)
    (case l21 => k_is)
    (case c21 => k_is)
    (case k21 => k_is)
    (case a22 => k_is)
    (case i22 => k_is)
    (case l22 => k_is)
    (case c22 => k_is)
    (case k22 => k_is)
    (case a23 => k_is)
    (case l23 => k_is)
    (case c23 => k_is)
    (case k23 => k_is)
    (case a24 => k_is)
    (case i24 => k_is)
    (case l24 => k_is)
    (case c24 => k_is)
    (case k24 => k_is)
    (case a25 => k_is)
    (case i25 => k_is)
    (case l25 => k_is)
    (case c25 => k_is)
    (case k25 => k_is)
    (case a26 => k_is)
    (case i26 => k_is)
    (case l26 => k_is)
    (case c26 => k_is)
    (case k26 => k_is)
    (case a27 => k_is)
    (case i27 => k_is)
    (case l27 => k_is)
    (case c27 => k_is)
    (case k27 => k_is)
    (case a28 => k_is)
    (case l28 => k_is)
    (case c28 => k_is)
    (case k28 => k_is)
    (case a29 => k_is)
    (case l29 => k_is)
    (case c29 => k_is)
    (case k29 => k_is)
    (case a30 => k_is)
    (case l30 => k_is)
    (case c30 => k_is)
    (case k30 => k_is)
    (case a31 => k_is)
    (case l31 => k_is)
    (case c31 => k_is)
    (case k31 => k_is)
    (case a32 => k_is)
    (case l32 => k_is)
    (case c32 => k_is)
    (case k32 => k_is)
    (case a33 => k_is)
    (case l33 => k_is)
    (case c33 => k_is)
    (case k33 => k_is)
    (case a34 => k_is)
    (case l34 => k_is)
    (case c34 => k_is)
    (case k34 => k_is)
    (case a35 => k_is)
    (case l35 => k_is)
    (case c35 => k_is)
    (case k35 => k_is)
    (case a36 => k_is)
    (case l36 => k_is)
    (case c36 => k_is)
    (case k36 => k_is)
    (case a37 => k_is)
    (case l37 => k_is)
    (case c37 => k_is)
    (case k37 => k_is)
    (case a38 => k_is)
    (case l38 => k_is)
    (case c38 => k_is)
    (case k38 => k_is)
    (case a39 => k_is)
    (case l39 => k_is)
    (case c39 => k_is)
    (case k39 => k_is)
    (case a40 => k_is)
    (case l40 => k_is)
    (case c40 => k_is)
    (case k40 => k_is)
    (case a41 => k_is)
    (case l41 => k_is)
    (case c41 => k_is)
    (case k41 => k_is)
    (case a42 => k_is)
    (case l42 => k_is)
    (case c42 => k_is)
    (case k42 => k_is)
    (case a43 => k_is)
    (case l43 => k_is)
    (case c43 => k_is)
    (case k43 => k_is)
    (case a44 => k_is)
    (case l44 => k_is)
    (case c44 => k_is)
    (case k44 => k_is)
    (case a45 => k_is)
    (case l45 => k_is)
    (case c45 => k_is)
    (case k45 => k_is)
    (case a46 => k_is)
    (case l46 => k_is)
    (case c46 => k_is)
    (case k46 => k_is)
    (case a47 => k_is)
    (case l47 => k_is)
    (case c47 => k_is)
    (case k47 => k_is)
    (case pgC => k_is)
    (case hdC => k_is)
    (case poC => k_is)
    (case saC => k_is)
    (case mkC => k_is)
    (case kcC => k_is)
    (case nBe => k_is)
    (case nTu => k_is)
    (case g_bn => k_is)
    (case q_bn => k_exc)
    (case k_bn => k_is)
    (case b_bn => k_is)
    (case t_bn => k_is)
    (case g_bs => k_is)
    (case q_bs => k_exc)
    (case k_bs => k_is)
    (case b_bs => k_is)
    (case t_bs => k_is)
    (case g_bk => k_is)
    (case q_bk => k_exc)
    (case k_bk => k_is)
    (case b_bk => k_is)
    (case t_bk => k_is)
    (case g_bt => k_is)
    (case q_bt => k_exc)
    (case k_bt => k_is)
    (case b_bt => k_is)
    (case t_bt => k_is)
    (case g_ns => k_is)
    (case b_ns => k_is)
    (case t_ns => k_is)
    (case g_ke => k_is)
    (case n_ValueError => k_is)
    (case kb_ke => k_is)
    (case kd_ke => k_is)
    (case kt_ke => k_is)
    (case xe1 => k_is)
    (case xe2 => k_is)
    (case xg_bn => k_is)
    (case xk_bn => k_is)
    (case xd_bn => k_is)
    (case xa_bn => k_is)
    (case xm_bn => k_is)
    (case xc_bn => k_is)
    (case xv_bn => k_is)
    (case xK_bn => k_is)
    (case xs_bn_bn => k_is)
    (case xs_bn_bs => k_is)
    (case xs_bn_bk => k_is)
    (case xs_bn_bt => k_is)
    (case xs_bn_ns => k_is)
    (case xg_bs => k_is)
    (case xk_bs => k_is)
    (case xd_bs => k_is)
    (case xa_bs => k_is)
    (case xm_bs => k_is)
    (case xc_bs => k_is)
    (case xv_bs => k_is)
    (case xK_bs => k_is)
    (case xs_bs_bn => k_is)
    (case xs_bs_bs => k_is)
    (case xs_bs_bk => k_is)
    (case xs_bs_bt => k_is)
    (case xs_bs_ns => k_is)
    (case xg_bk => k_is)
    (case xk_bk => k_is)
    (case xd_bk => k_is)
    (case xa_bk => k_is)
    (case xm_bk => k_is)
    (case xc_bk => k_is)
    (case xv_bk => k_is)
    (case xK_bk => k_is)
    (case xs_bk_bn => k_is)
    (case xs_bk_bs => k_is)
    (case xs_bk_bk => k_is)
    (case xs_bk_bt => k_is)
    (case xs_bk_ns => k_is)
    (case xg_bt => k_is)
    (case xk_bt => k_is)
    (case xd_bt => k_is)
    (case xa_bt => k_is)
    (case xm_bt => k_is)
    (case xc_bt => k_is)
    (case xv_bt => k_is)
    (case xK_bt => k_is)
    (case xs_bt_bn => k_is)
    (case xs_bt_bs => k_is)
    (case xs_bt_bk => k_is)
    (case xs_bt_bt => k_is)
    (case xs_bt_ns => k_is)
    (case xg_ns => k_is)
    (case xk_ns => k_is)
    (case xd_ns => k_is)
    (case xa_ns => k_is)
    (case xm_ns => k_is)
    (case xc_ns => k_is)
    (case xv_ns => k_is)
    (case xK_ns => k_is)
    (case xs_ns_bn => k_is)
    (case xs_ns_bs => k_is)
    (case xs_ns_bk => k_is)
    (case xs_ns_bt => k_is)
    (case xs_ns_ns => k_is)
    (case DG => k_is)
    (case ki0 => k_is)
    (case ki1 => k_is)
    (case ki2 => k_is)
    (case ki3 => k_is)
    (case kj0 => k_is)
    (case kj1 => k_is)
    (case kj2 => k_is)
    (case kj3 => k_is)
    (case kj4 => k_is)
    (case kj5 => k_is)
    (case kj6 => k_is)
    (case kjc => k_is)
    (case kjt => k_is)
    (case g_FIGURES => k_is)
    (case r_FIGURES => exact ⟨_, rfl⟩)
    (case g_POINTS => k_is)
    (case r_POINTS => exact ⟨_, rfl⟩)
    (case n_len => k_is)
    (case n_isinstance => k_is)
    (case n_int => k_is)
    (case n_bool => k_is)
    (case n_tuple => k_is)
    (case n_str => k_is)
    (case n_list => k_is)
    (case n_set => k_is)
    (case n_dict => k_is)
    (case n_sorted => k_is)
    (case n_sum => k_is)
    (case n_min => k_is)
    (case n_max => k_is)
    (case n_abs => k_is)
    (case n_all => k_is)
    (case n_enumerate => k_is)
    (case n_zip => k_is)
    (case n_reversed => k_is)
    (case n_range => k_is)
#print axioms PySem.Challenge.cw_stretchkeeper_k08_texts_refused_holds
