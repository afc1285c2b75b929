import PyProof.Rows.All
import Wide.All
import OpenK.AllK
import Wide.FinOn
import HandS.ForMost
import HandS.Walk
import HandS.Conv
import HandS.More
import HandS.Zip
import HandS.TupAny
import HandS.SortInts
import HandS.IsInst
import HandS.Star
import HandS.Style
import HandS.WordsExc
import HandS.Exc
import HandS.Wide
import HandS.NoneIn
import KE.GoesEnum
import PySem.Challenge.RW_whenwright_k04_whole_curves_of_two_hundr
set_option Elab.async false
set_option linter.all false
set_option maxRecDepth 100000
set_option maxHeartbeats 4000000
/-! Deep values over the hand layer: what a value holds all the way down, without addresses. -/
namespace Q
open PySem PySem.Spec PyProof.Rows L2

inductive D where
  | non | bl (b : Bool) | int (i : Int) | str (x : Str) | ty (n : String) | tup (ds : List D) | lst (ds : List D) | adr (a : Addr) | obj (C : Addr) (ns : List Str) (ds : List D)

section
variable (K : PySem.W.Frag) (H : Hp)
mutual
/-- v is d in the heap H -/
inductive Rep : V → D → Prop
  | non : Rep .non .non
  | bl {b : Bool} : Rep (.bl b) (.bl b)
  | int {i : Int} : Rep (.int i) (.int i)
  | str {x : Str} : Rep (.str x) (.str x)
  | tup {a : Addr} {vs : List V} {ds : List D} : SqT K H a vs → Reps vs ds → Rep (.ref a) (.tup ds)
  | lst {a : Addr} {vs : List V} {ds : List D} : H a = some (.lst vs) → Reps vs ds → Rep (.ref a) (.lst ds)
  | ty {n : String} : Rep (.ty n) (.ty n)
  | adr {a : Addr} : Rep (.ref a) (.adr a)
  | obj {a C dx : Addr} {ns : List Str} {vs : List V} {ds : List D} : H a = some (.ins C dx (ns.zip vs)) → ns.length = vs.length → Reps vs ds → Rep (.ref a) (.obj C ns ds)
inductive Reps : List V → List D → Prop
  | nil : Reps [] []
  | cons {v : V} {d : D} {vs : List V} {ds : List D} : Rep v d → Reps vs ds → Reps (v :: vs) (d :: ds)
end
end

theorem sqT_mono {K : PySem.W.Frag} {H H' : Hp} {a : Addr} {xs : List V} (e : Same H H') (h : SqT K H a xs) : SqT K H' a xs := by
  rcases h with (h | ⟨o, h⟩) | h
  · exact .inl (.inl (e _ _ h))
  · exact .inl (.inr ⟨o, e _ _ h⟩)
  · exact .inr h
section
variable {K : PySem.W.Frag} {H H' : Hp}
mutual
theorem Rep.mono (e : Same H H') : ∀ {v : V} {d : D}, Rep K H v d → Rep K H' v d
  | _, _, .non => .non
  | _, _, .bl => .bl
  | _, _, .int => .int
  | _, _, .str => .str
  | _, _, .tup h r => .tup (sqT_mono e h) (Reps.mono e r)
  | _, _, .lst h r => .lst (e _ _ h) (Reps.mono e r)
  | _, _, .ty => .ty
  | _, _, .adr => .adr
  | _, _, .obj h l r => .obj (e _ _ h) l (Reps.mono e r)
theorem Reps.mono (e : Same H H') : ∀ {vs : List V} {ds : List D}, Reps K H vs ds → Reps K H' vs ds
  | _, _, .nil => .nil
  | _, _, .cons h r => .cons (Rep.mono e h) (Reps.mono e r)
end
theorem Reps.len : ∀ {vs : List V} {ds : List D}, Reps K H vs ds → vs.length = ds.length
  | _, _, .nil => rfl
  | _, _, .cons _ r => congrArg (· + 1) r.len
theorem Reps.app : ∀ {vs ws : List V} {ds es : List D}, Reps K H vs ds → Reps K H ws es → Reps K H (vs ++ ws) (ds ++ es)
  | _, _, _, _, .nil, s => s
  | _, _, _, _, .cons h r, s => .cons h (r.app s)
theorem Reps.at : ∀ {vs : List V} {ds : List D} {i : Nat} {d : D}, Reps K H vs ds → ds[i]? = some d → ∃ v, vs[i]? = some v ∧ Rep K H v d
  | _, _, _, _, .nil, e => by simp at e
  | _, _, 0, _, .cons h _, e => by simp at e; subst e; exact ⟨_, rfl, h⟩
  | _, _, i + 1, _, .cons _ r, e => by
    obtain ⟨v, h1, h2⟩ := r.at (i := i) (by simpa using e)
    exact ⟨v, by simpa using h1, h2⟩
theorem Reps.atV : ∀ {vs : List V} {ds : List D} {i : Nat} {v : V}, Reps K H vs ds → vs[i]? = some v → ∃ d, ds[i]? = some d ∧ Rep K H v d
  | _, _, _, _, .nil, e => by simp at e
  | _, _, 0, _, .cons h _, e => by simp at e; subst e; exact ⟨_, rfl, h⟩
  | _, _, i + 1, _, .cons _ r, e => by
    obtain ⟨v, h1, h2⟩ := r.atV (i := i) (by simpa using e)
    exact ⟨v, by simpa using h1, h2⟩
theorem Reps.set : ∀ {vs : List V} {ds : List D} {v : V} {d : D} (i : Nat), Reps K H vs ds → Rep K H v d → Reps K H (vs.set i v) (ds.set i d)
  | _, _, _, _, _, .nil, _ => .nil
  | _, _, _, _, 0, .cons _ r, q => .cons q r
  | _, _, _, _, i + 1, .cons h r, q => .cons h (r.set i q)
theorem Reps.take : ∀ {vs : List V} {ds : List D} (n : Nat), Reps K H vs ds → Reps K H (vs.take n) (ds.take n)
  | _, _, 0, _ => .nil
  | _, _, _ + 1, .nil => .nil
  | _, _, n + 1, .cons h r => .cons h (r.take n)
theorem Reps.drop : ∀ {vs : List V} {ds : List D} (n : Nat), Reps K H vs ds → Reps K H (vs.drop n) (ds.drop n)
  | _, _, 0, r => r
  | _, _, _ + 1, .nil => .nil
  | _, _, n + 1, .cons _ r => r.drop n
theorem Reps.rev : ∀ {vs : List V} {ds : List D}, Reps K H vs ds → Reps K H vs.reverse ds.reverse
  | _, _, .nil => .nil
  | _, _, .cons h r => by
    rw [List.reverse_cons, List.reverse_cons]
    exact r.rev.app (.cons h .nil)
theorem Reps.nil_inv {ds : List D} (h : Reps K H [] ds) : ds = [] := by cases h; rfl
/-- plain kinds by their lists -/
theorem reps_int : ∀ ns : List Int, Reps K H (ns.map V.int) (ns.map D.int)
  | [] => .nil
  | _ :: r => .cons .int (reps_int r)
theorem reps_bl : ∀ ns : List Bool, Reps K H (ns.map V.bl) (ns.map D.bl)
  | [] => .nil
  | _ :: r => .cons .bl (reps_bl r)
theorem reps_str : ∀ ns : List Str, Reps K H (ns.map V.str) (ns.map D.str)
  | [] => .nil
  | _ :: r => .cons .str (reps_str r)
theorem reps_int_inv : ∀ {vs : List V} {ns : List Int}, Reps K H vs (ns.map D.int) → vs = ns.map V.int
  | [], [], _ => rfl
  | _ :: _, [], h => nomatch h
  | [], _ :: _, h => nomatch h
  | v :: vs, n :: ns, h => by
    cases h with
    | cons h r => cases h; rw [reps_int_inv r]; rfl
theorem reps_bl_inv : ∀ {vs : List V} {ns : List Bool}, Reps K H vs (ns.map D.bl) → vs = ns.map V.bl
  | [], [], _ => rfl
  | _ :: _, [], h => nomatch h
  | [], _ :: _, h => nomatch h
  | v :: vs, n :: ns, h => by
    cases h with
    | cons h r => cases h; rw [reps_bl_inv r]; rfl
theorem reps_str_inv : ∀ {vs : List V} {ns : List Str}, Reps K H vs (ns.map D.str) → vs = ns.map V.str
  | [], [], _ => rfl
  | _ :: _, [], h => nomatch h
  | [], _ :: _, h => nomatch h
  | v :: vs, n :: ns, h => by
    cases h with
    | cons h r => cases h; rw [reps_str_inv r]; rfl
end

/-! ### values that hold no list -/
mutual
def noL : D → Bool
  | .tup ds => noLs ds
  | .lst _ => false
  | .obj _ _ ds => noLs ds
  | _ => true
def noLs : List D → Bool
  | [] => true
  | d :: ds => noL d && noLs ds
end
theorem noLs_all : ∀ {ds : List D}, (∀ d ∈ ds, noL d = true) → noLs ds = true
  | [], _ => by simp [noLs]
  | d :: ds, h => by
    rw [noLs, h d (List.mem_cons_self ..), noLs_all fun e he => h e (List.mem_cons_of_mem _ he)]
    rfl
theorem noLs_map {α : Type} {f : α → D} {xs : List α} (h : ∀ x ∈ xs, noL (f x) = true) : noLs (xs.map f) = true := noLs_all fun d hd => by
  obtain ⟨x, hx, rfl⟩ := List.mem_map.mp hd
  exact h x hx
@[simp] theorem noL_int (i : Int) : noL (.int i) = true := by simp [noL]
@[simp] theorem noL_bl (i : Bool) : noL (.bl i) = true := by simp [noL]
@[simp] theorem noL_non : noL .non = true := by simp [noL]
@[simp] theorem noL_str (i : Str) : noL (.str i) = true := by simp [noL]
@[simp] theorem noL_ty (i : String) : noL (.ty i) = true := by simp [noL]
@[simp] theorem noL_adr (i : Addr) : noL (.adr i) = true := by simp [noL]
@[simp] theorem noL_tup (ds : List D) : noL (.tup ds) = noLs ds := by simp [noL]
@[simp] theorem noL_obj (C : Addr) (ns : List Str) (ds : List D) : noL (.obj C ns ds) = noLs ds := by simp [noL]
@[simp] theorem noLs_nil : noLs [] = true := by simp [noLs]
@[simp] theorem noLs_cons (d : D) (ds : List D) : noLs (d :: ds) = (noL d && noLs ds) := by simp [noLs]
@[simp] theorem noLs_ints (ns : List Int) : noLs (ns.map D.int) = true := noLs_map fun _ _ => noL_int _
@[simp] theorem noLs_bls (ns : List Bool) : noLs (ns.map D.bl) = true := noLs_map fun _ _ => noL_bl _
@[simp] theorem noLs_strs (ns : List Str) : noLs (ns.map D.str) = true := noLs_map fun _ _ => noL_str _
theorem noLs_append : ∀ (xs ys : List D), noLs (xs ++ ys) = (noLs xs && noLs ys)
  | [], ys => by simp
  | x :: xs, ys => by simp [noLs_append xs ys, Bool.and_assoc]

/-! ### heaps without what may change -/
inductive MO where
  | lst (ds : List D)
  | dK (ks : List (Key × D))
  | dT (ks : List (List Key × D))
abbrev Mem := List (Addr × MO)
def MRep (K : PySem.W.Frag) (F : Hp) (o : HO) : MO → Prop
  | .lst ds => ∃ vs, o = .lst vs ∧ Reps K F vs ds
  | .dK ks => ∃ kvs : List (Key × V), o = .dK kvs ∧ kvs.map (·.1) = ks.map (·.1) ∧ Reps K F (kvs.map (·.2)) (ks.map (·.2))
  | .dT ks => ∃ kvs : List (List Key × V), o = .dT kvs ∧ kvs.map (·.1) = ks.map (·.1) ∧ Reps K F (kvs.map (·.2)) (ks.map (·.2))
def isMut : HO → Bool
  | .lst _ => true
  | .dK _ => true
  | .dT _ => true
  | _ => false
theorem MRep.mut {K : PySem.W.Frag} {F : Hp} {o : HO} : ∀ {m : MO}, MRep K F o m → isMut o = true
  | .lst _, ⟨_, h, _⟩ => by rw [h]; rfl
  | .dK _, ⟨_, h, _⟩ => by rw [h]; rfl
  | .dT _, ⟨_, h, _⟩ => by rw [h]; rfl
theorem MRep.mono {K : PySem.W.Frag} {F F' : Hp} (e : Same F F') {o : HO} : ∀ {m : MO}, MRep K F o m → MRep K F' o m
  | .lst _, ⟨vs, h, r⟩ => ⟨vs, h, r.mono e⟩
  | .dK _, ⟨vs, h, k, r⟩ => ⟨vs, h, k, r.mono e⟩
  | .dT _, ⟨vs, h, k, r⟩ => ⟨vs, h, k, r.mono e⟩
/-- the heap without the objects at l -/
def cut (l : List Addr) (H : Hp) : Hp := fun a => if a ∈ l then none else H a
theorem cut_in {l : List Addr} {H : Hp} {a : Addr} (h : a ∈ l) : cut l H a = none := by unfold cut; rw [if_pos h]
theorem cut_out {l : List Addr} {H : Hp} {a : Addr} (h : a ∉ l) : cut l H a = H a := by unfold cut; rw [if_neg h]
theorem cut_same (l : List Addr) (H : Hp) : Same (cut l H) H := fun a o e => by
  by_cases h : a ∈ l
  · rw [cut_in h] at e; cases e
  · rw [cut_out h] at e; exact e
section
variable {K : PySem.W.Frag} {H : Hp} {l : List Addr}
theorem sqT_cut {a : Addr} {xs : List V} (hm : ∀ b ∈ l, ∃ o, H b = some o ∧ isMut o = true) (h : SqT K H a xs) : SqT K (cut l H) a xs := by
  rcases h with (h | ⟨o, h⟩) | h
  · refine .inl (.inl ?_)
    rw [cut_out]
    · exact h
    · intro hb
      obtain ⟨o, e, q⟩ := hm a hb
      rw [h] at e; cases e; cases q
  · refine .inl (.inr ⟨o, ?_⟩)
    rw [cut_out]
    · exact h
    · intro hb
      obtain ⟨o, e, q⟩ := hm a hb
      rw [h] at e; cases e; cases q
  · exact .inr h
mutual
theorem Rep.cutM (hm : ∀ b ∈ l, ∃ o, H b = some o ∧ isMut o = true) : ∀ {v : V} {d : D}, noL d = true → Rep K H v d → Rep K (cut l H) v d
  | _, _, _, .non => .non
  | _, _, _, .bl => .bl
  | _, _, _, .int => .int
  | _, _, _, .str => .str
  | _, .tup ds, n, .tup h r => .tup (sqT_cut hm h) (Reps.cutM hm (by simpa using n) r)
  | _, _, n, .lst h r => by simp [noL] at n
  | _, _, _, .ty => .ty
  | _, _, _, .adr => .adr
  | .ref a, _, n, .obj h l r => .obj (by
      rw [cut_out]
      · exact h
      · intro hb
        obtain ⟨o, e, q⟩ := hm a hb
        rw [h] at e; cases e; cases q) l (Reps.cutM hm (by simpa using n) r)
theorem Reps.cutM (hm : ∀ b ∈ l, ∃ o, H b = some o ∧ isMut o = true) : ∀ {vs : List V} {ds : List D}, noLs ds = true → Reps K H vs ds → Reps K (cut l H) vs ds
  | _, _, _, .nil => .nil
  | _, _, n, .cons h r => by
    simp at n
    exact .cons (Rep.cutM hm n.1 h) (Reps.cutM hm n.2 r)
end
end
end Q

/-! What a reading evaluates to, by deep values; environments are lists of deep values by slot. -/
namespace Q
open PySem PySem.Spec PyProof.Rows L2

abbrev Gm := List (Option D)
structure SatR (K : PySem.W.Frag) (Γ : Gm) (σ : L2.St) (H : Hp) : Prop where
  len : σ.length = Γ.length
  env : ∀ (i : Nat) (d : D), Γ[i]? = some (some d) → ∃ v, σ[i]? = some (some v) ∧ Rep K H v d
theorem SatR.mono {K : PySem.W.Frag} {Γ : Gm} {σ : L2.St} {H H' : Hp} (S : SatR K Γ σ H) (e : Same H H') : SatR K Γ σ H' :=
  ⟨S.len, fun i d h => let ⟨v, h1, h2⟩ := S.env i d h; ⟨v, h1, h2.mono e⟩⟩
theorem SatR.set {K : PySem.W.Frag} {Γ : Gm} {σ : L2.St} {H : Hp} {v : V} {d : D} (S : SatR K Γ σ H) (i : Nat) (r : Rep K H v d) : SatR K (Γ.set i (some d)) (σ.set i (some v)) H := by
  refine ⟨by rw [List.length_set, List.length_set]; exact S.len, fun j e h => ?_⟩
  by_cases hj : i = j
  · subst hj
    by_cases hi : i < Γ.length
    · rw [List.getElem?_set_self hi] at h
      cases h
      exact ⟨v, List.getElem?_set_self (by rw [S.len]; exact hi), r⟩
    · rw [List.getElem?_eq_none (by rw [List.length_set]; omega)] at h; cases h
  · rw [List.getElem?_set_ne hj] at h
    obtain ⟨w, h1, h2⟩ := S.env j e h
    exact ⟨w, by rw [List.getElem?_set_ne hj]; exact h1, h2⟩
theorem SatR.unset {K : PySem.W.Frag} {Γ : Gm} {σ : L2.St} {H : Hp} (S : SatR K Γ σ H) (i : Nat) (o : Option V) : SatR K (Γ.set i none) (σ.set i o) H := by
  refine ⟨by rw [List.length_set, List.length_set]; exact S.len, fun j e h => ?_⟩
  by_cases hj : i = j
  · subst hj
    by_cases hi : i < Γ.length
    · rw [List.getElem?_set_self hi] at h
      cases h
    · rw [List.getElem?_eq_none (by rw [List.length_set]; omega)] at h; cases h
  · rw [List.getElem?_set_ne hj] at h
    obtain ⟨w, h1, h2⟩ := S.env j e h
    exact ⟨w, by rw [List.getElem?_set_ne hj]; exact h1, h2⟩
def wipeD (Γ : Gm) : List Nat → Gm
  | [] => Γ
  | v :: vs => (wipeD Γ vs).set v none
theorem SatR.wipe {K : PySem.W.Frag} {Γ : Gm} {σ : L2.St} {H : Hp} (S : SatR K Γ σ H) : ∀ vs : List Nat, SatR K (wipeD Γ vs) (L2.wipe σ vs) H
  | [] => S
  | v :: vs => (S.wipe vs).unset v none
theorem wipe_set {σ : L2.St} {j : Nat} {x : Option V} : ∀ {vs : List Nat}, j ∈ vs → L2.wipe (σ.set j x) vs = L2.wipe σ vs
  | v :: vs, h => by
    show (L2.wipe (σ.set j x) vs).set v none = (L2.wipe σ vs).set v none
    by_cases hm : j ∈ vs
    · rw [wipe_set hm]
    · have e : v = j := by
        rcases List.mem_cons.mp h with q | q
        · exact q.symm
        · exact absurd q hm
      subst e
      have out : ∀ {ws : List Nat}, v ∉ ws → L2.wipe (σ.set v x) ws = (L2.wipe σ ws).set v x := fun {ws} => by
        induction ws with
        | nil => exact fun _ => rfl
        | cons w ws ih =>
          intro hw
          have h1 : v ≠ w := fun z => hw (z ▸ List.mem_cons_self ..)
          have h2 : v ∉ ws := fun z => hw (List.mem_cons_of_mem _ z)
          show (L2.wipe (σ.set v x) ws).set w none = ((L2.wipe σ ws).set w none).set v x
          rw [ih h2, List.set_comm _ _ h1]
      rw [out hm, List.set_set]

section
variable (K : PySem.W.Frag)
def Ed (te : TE) (Γ : Gm) (d : D) : Prop := ∀ (σ : L2.St) (H : Hp), SatR K Γ σ H → ∀ Q : VK, (∀ v H', Same H H' → Rep K H' v d → Q v H') → te σ H Q
/-- a new list of these, that hold no list -/
def En (te : TE) (Γ : Gm) (ds : List D) : Prop := ∀ (σ : L2.St) (H : Hp), SatR K Γ σ H → ∀ Q : VK, (∀ p H' vs, Same H H' → H p = none → H' p = some (.lst vs) → Reps K H' vs ds → Q (.ref p) H') → te σ H Q
def Et (tt : TT) (Γ : Gm) (b : Bool) : Prop := ∀ (σ : L2.St) (H : Hp), SatR K Γ σ H → ∀ Q : Bool → Hp → Prop, (∀ H', Same H H' → Q b H') → tt σ H Q
def Ea (ta : TA) (Γ : Gm) (ds : List D) : Prop := ∀ (σ : L2.St) (H : Hp), SatR K Γ σ H → ∀ Q : List V → Hp → Prop, (∀ vs H', Same H H' → Reps K H' vs ds → Q vs H') → ta σ H Q
def Eo (to : TO) (Γ : Gm) (o : Option Int) : Prop := ∀ (σ : L2.St) (H : Hp), SatR K Γ σ H → ∀ Q : Option Int → Hp → Prop, (∀ H', Same H H' → Q o H') → to σ H Q
def OpV (r : R2) (x y d : D) : Prop := ∀ (v w : V) (H : Hp) (Q : VK), Rep K H v x → Rep K H w y → (∀ u H', Same H H' → Rep K H' u d → Q u H') → r v w H Q
/-- .. the value is a new list -/
def OpN (r : R2) (x y : D) (ds : List D) : Prop := ∀ (v w : V) (H : Hp) (Q : VK), Rep K H v x → Rep K H w y → (∀ p H' vs, Same H H' → H p = none → H' p = some (.lst vs) → Reps K H' vs ds → Q (.ref p) H') → r v w H Q
def UnV (r : V → Hp → VK → Prop) (x d : D) : Prop := ∀ (v : V) (H : Hp) (Q : VK), Rep K H v x → (∀ u H', Same H H' → Rep K H' u d → Q u H') → r v H Q
def CbV (r : List V → Hp → VK → Prop) (xs : List D) (d : D) : Prop := ∀ (vs : List V) (H : Hp) (Q : VK), Reps K H vs xs → (∀ u H', Same H H' → Rep K H' u d → Q u H') → r vs H Q
def CbN (r : List V → Hp → VK → Prop) (xs : List D) (ds : List D) : Prop := ∀ (vs : List V) (H : Hp) (Q : VK), Reps K H vs xs → (∀ p H' ws, Same H H' → H p = none → H' p = some (.lst ws) → Reps K H' ws ds → Q (.ref p) H') → r vs H Q
def SlV (r : V → Option Int → Option Int → Hp → VK → Prop) (x : D) (lo hi : Option Int) (d : D) : Prop := ∀ (v : V) (H : Hp) (Q : VK), Rep K H v x → (∀ u H', Same H H' → Rep K H' u d → Q u H') → r v lo hi H Q
def SlN (r : V → Option Int → Option Int → Hp → VK → Prop) (x : D) (lo hi : Option Int) (ds : List D) : Prop := ∀ (v : V) (H : Hp) (Q : VK), Rep K H v x → (∀ p H' vs, Same H H' → H p = none → H' p = some (.lst vs) → Reps K H' vs ds → Q (.ref p) H') → r v lo hi H Q
/-- a method by values -/
def MtV (r : V → List V → Hp → VK → Prop) (x : D) (xs : List D) (d : D) : Prop := ∀ (v : V) (vs : List V) (H : Hp) (Q : VK), Rep K H v x → Reps K H vs xs → (∀ u H', Same H H' → Rep K H' u d → Q u H') → r v vs H Q
end

section
variable {K : PySem.W.Frag} {Γ : Gm} {ta tb tc te : TE} {t u : TT} {x y z d e : D} {r : R2} {ds es : List D}
theorem same_new {H : Hp} {p : Addr} {o : HO} (h : H p = none) : Same H (upd H p o) := fun a u e => by
  rw [upd_ne (ne_of_none e h)]; exact e
theorem En.ed (h : En K te Γ ds) : Ed K te Γ (.lst ds) := fun σ H S Q q => h σ H S Q fun p H' vs e n hp r => q _ H' e (.lst hp r)
theorem Ed.is (h : Ed K te Γ d) (e : d = z) : Ed K te Γ z := e ▸ h
theorem Et.is {a b : Bool} (h : Et K t Γ a) (e : a = b) : Et K t Γ b := e ▸ h
theorem En.is (h : En K te Γ ds) (e : ds = es) : En K te Γ es := e ▸ h
theorem ed_var {i : Nat} (h : Γ[i]? = some (some d)) : Ed K (tVar i) Γ d := fun σ H S Q q =>
  let ⟨v, h1, h2⟩ := S.env i d h; ⟨v, h1, q v H (Same.refl H) h2⟩
theorem ed_int {i : Int} : Ed K (tC (.int i)) Γ (.int i) := fun σ H _ Q q => q _ H (Same.refl H) .int
theorem ed_bl {i : Bool} : Ed K (tC (.bl i)) Γ (.bl i) := fun σ H _ Q q => q _ H (Same.refl H) .bl
theorem ed_str {i : Str} : Ed K (tC (.str i)) Γ (.str i) := fun σ H _ Q q => q _ H (Same.refl H) .str
theorem ed_non : Ed K (tC .non) Γ .non := fun σ H _ Q q => q _ H (Same.refl H) .non
theorem ed_ty {i : String} : Ed K (tC (.ty i)) Γ (.ty i) := fun σ H _ Q q => q _ H (Same.refl H) .ty
theorem ed_ref {a : Addr} : Ed K (tC (.ref a)) Γ (.adr a) := fun σ H _ Q q => q _ H (Same.refl H) .adr
theorem ed_op (ha : Ed K ta Γ x) (hb : Ed K tb Γ y) (hr : OpV K r x y d) : Ed K (tOp r ta tb) Γ d := fun σ H S Q q =>
  ha σ H S _ fun v H1 e1 r1 => hb σ H1 (S.mono e1) _ fun w H2 e2 r2 => hr v w H2 Q (r1.mono e2) r2 fun u H3 e3 r3 => q u H3 ((e1.trans e2).trans e3) r3
theorem en_op (ha : Ed K ta Γ x) (hb : Ed K tb Γ y) (hr : OpN K r x y ds) : En K (tOp r ta tb) Γ ds := fun σ H S Q q =>
  ha σ H S _ fun v H1 e1 r1 => hb σ H1 (S.mono e1) _ fun w H2 e2 r2 => hr v w H2 Q (r1.mono e2) r2 fun p H3 vs e3 n hp r3 =>
    q p H3 vs ((e1.trans e2).trans e3) ((e1.trans e2).free n) hp r3
theorem ed_un {r : V → Hp → VK → Prop} (ha : Ed K ta Γ x) (hr : UnV K r x d) : Ed K (tUn r ta) Γ d := fun σ H S Q q =>
  ha σ H S _ fun v H1 e1 r1 => hr v H1 Q r1 fun u H3 e3 r3 => q u H3 (e1.trans e3) r3
theorem ea_nil : Ea K tNil Γ [] := fun σ H _ Q q => q [] H (Same.refl H) .nil
theorem ea_cons {tr : TA} (h : Ed K te Γ x) (hr : Ea K tr Γ ds) : Ea K (tCons te tr) Γ (x :: ds) := fun σ H S Q q =>
  h σ H S _ fun v H1 e1 r1 => hr σ H1 (S.mono e1) _ fun vs H2 e2 r2 => q _ H2 (e1.trans e2) (.cons (r1.mono e2) r2)
theorem ed_cb {r : List V → Hp → VK → Prop} {ta : TA} (h : Ea K ta Γ ds) (hr : CbV K r ds d) : Ed K (tCB r ta) Γ d := fun σ H S Q q =>
  h σ H S _ fun vs H1 e1 r1 => hr vs H1 Q r1 fun u H2 e2 r2 => q u H2 (e1.trans e2) r2
theorem en_cb {r : List V → Hp → VK → Prop} {ta : TA} (h : Ea K ta Γ ds) (hr : CbN K r ds es) : En K (tCB r ta) Γ es := fun σ H S Q q =>
  h σ H S _ fun vs H1 e1 r1 => hr vs H1 Q r1 fun p H2 ws e2 n hp r2 => q p H2 ws (e1.trans e2) (e1.free n) hp r2
theorem sz5 {n : Nat} (h : n ≤ 100000) : n ≤ sizeLine := Nat.le_trans h (by decide)
theorem sz5l {n : Nat} (h : n < 100000) : n < sizeLine := Nat.lt_of_lt_of_le h (by decide)
theorem ed_tup {ta : TA} (h : Ea K ta Γ ds) (hl : ds.length ≤ 100000) : Ed K (tTup ta) Γ (.tup ds) := fun σ H S Q q =>
  h σ H S _ fun vs H1 e1 r1 => ⟨by rw [r1.len]; exact sz5 hl, fun p hp => q _ _ (e1.trans (same_new hp)) (.tup (.inl (.inl upd_same)) (r1.mono (same_new hp)))⟩
theorem en_lst {ta : TA} (h : Ea K ta Γ ds) (hl : ds.length ≤ 100000) : En K (tLst ta) Γ ds := fun σ H S Q q =>
  h σ H S _ fun vs H1 e1 r1 => ⟨by rw [r1.len]; exact sz5 hl, fun p hp => q p _ vs (e1.trans (same_new hp)) (e1.free hp) upd_same (r1.mono (same_new hp))⟩
theorem ed_andV {a b : Bool} (h1 : Ed K ta Γ (.bl a)) (h2 : a = true → Ed K tb Γ (.bl b)) : Ed K (tAndV ta tb) Γ (.bl (a && b)) := fun σ H S Q q =>
  h1 σ H S _ fun v H1 e1 r1 => by
    cases r1
    refine ⟨a, rfl, ?_⟩
    cases a with
    | true => exact h2 rfl σ H1 (S.mono e1) Q fun u H2 e2 r2 => q u H2 (e1.trans e2) r2
    | false => exact q _ H1 e1 .bl
theorem ed_orV {a b : Bool} (h1 : Ed K ta Γ (.bl a)) (h2 : a = false → Ed K tb Γ (.bl b)) : Ed K (tOrV ta tb) Γ (.bl (a || b)) := fun σ H S Q q =>
  h1 σ H S _ fun v H1 e1 r1 => by
    cases r1
    refine ⟨a, rfl, ?_⟩
    cases a with
    | false => exact h2 rfl σ H1 (S.mono e1) Q fun u H2 e2 r2 => q u H2 (e1.trans e2) r2
    | true => exact q _ H1 e1 .bl
theorem ed_notV {a : Bool} (h1 : Ed K ta Γ (.bl a)) : Ed K (tNotV ta) Γ (.bl (!a)) := fun σ H S Q q =>
  h1 σ H S _ fun v H1 e1 r1 => by
    cases r1
    exact ⟨a, rfl, q _ H1 e1 .bl⟩
theorem ed_if {b : Bool} (h : Et K t Γ b) (h1 : b = true → Ed K ta Γ d) (h2 : b = false → Ed K tb Γ d) : Ed K (tIf t ta tb) Γ d := fun σ H S Q q =>
  h σ H S _ fun H1 e1 => by
    cases b with
    | true => exact h1 rfl σ H1 (S.mono e1) Q fun u H2 e2 r2 => q u H2 (e1.trans e2) r2
    | false => exact h2 rfl σ H1 (S.mono e1) Q fun u H2 e2 r2 => q u H2 (e1.trans e2) r2
theorem ed_ite {b : Bool} (h : Et K t Γ b) (h1 : b = true → Ed K ta Γ d) (h2 : b = false → Ed K tb Γ e) : Ed K (tIf t ta tb) Γ (if b = true then d else e) :=
  ed_if h (fun hb => by rw [if_pos hb]; exact h1 hb) (fun hb => by rw [if_neg (by rw [hb]; exact Bool.false_ne_true)]; exact h2 hb)
theorem et_test {b : Bool} (h : Ed K te Γ (.bl b)) : Et K (tTest te) Γ b := fun σ H S Q q => h σ H S _ fun v H1 e1 r1 => by
  cases r1
  exact ⟨b, rfl, q H1 e1⟩
theorem et_B {b : Bool} (h : Ed K te Γ (.bl b)) : Et K (tB te) Γ b := fun σ H S Q q => h σ H S _ fun v H1 e1 r1 => by
  cases r1
  exact ⟨b, rfl, q H1 e1⟩
theorem et_and {a b : Bool} (h1 : Et K t Γ a) (h2 : a = true → Et K u Γ b) : Et K (tAnd t u) Γ (a && b) := fun σ H S Q q =>
  h1 σ H S _ fun H1 e1 => by
    cases a with
    | true => exact h2 rfl σ H1 (S.mono e1) Q fun H2 e2 => q H2 (e1.trans e2)
    | false => exact q H1 e1
theorem et_or {a b : Bool} (h1 : Et K t Γ a) (h2 : a = false → Et K u Γ b) : Et K (tOr t u) Γ (a || b) := fun σ H S Q q =>
  h1 σ H S _ fun H1 e1 => by
    cases a with
    | false => exact h2 rfl σ H1 (S.mono e1) Q fun H2 e2 => q H2 (e1.trans e2)
    | true => exact q H1 e1
theorem et_not {a : Bool} (h1 : Et K t Γ a) : Et K (tNot t) Γ (!a) := fun σ H S Q q => h1 σ H S _ fun H1 e1 => q H1 e1
theorem et_yes : Et K tYes Γ true := fun σ H _ Q q => q H (Same.refl H)
theorem eo_none : Eo K tNoPart Γ none := fun σ H _ Q q => q H (Same.refl H)
theorem eo_some {i : Int} (h : Ed K te Γ (.int i)) : Eo K (tPart te) Γ (some i) := fun σ H S Q q => h σ H S _ fun v H1 e1 r1 => by
  cases r1
  exact ⟨i, rfl, q H1 e1⟩
theorem ed_sl {r : V → Option Int → Option Int → Hp → VK → Prop} {tl th : TO} {lo hi : Option Int} (h : Ed K te Γ x) (hl : Eo K tl Γ lo) (hh : Eo K th Γ hi) (hr : SlV K r x lo hi d) : Ed K (tSl r te tl th) Γ d := fun σ H S Q q =>
  h σ H S _ fun v H1 e1 r1 => hl σ H1 (S.mono e1) _ fun H2 e2 => hh σ H2 (S.mono (e1.trans e2)) _ fun H3 e3 => hr v H3 Q (r1.mono (e2.trans e3)) fun u H4 e4 r4 => q u H4 (((e1.trans e2).trans e3).trans e4) r4
theorem en_sl {r : V → Option Int → Option Int → Hp → VK → Prop} {tl th : TO} {lo hi : Option Int} (h : Ed K te Γ x) (hl : Eo K tl Γ lo) (hh : Eo K th Γ hi) (hr : SlN K r x lo hi ds) : En K (tSl r te tl th) Γ ds := fun σ H S Q q =>
  h σ H S _ fun v H1 e1 r1 => hl σ H1 (S.mono e1) _ fun H2 e2 => hh σ H2 (S.mono (e1.trans e2)) _ fun H3 e3 => hr v H3 Q (r1.mono (e2.trans e3)) fun p H4 vs e4 n hp r4 =>
    q p H4 vs (((e1.trans e2).trans e3).trans e4) (((e1.trans e2).trans e3).free n) hp r4
theorem ed_chain {r' : R2} {a b : Bool} (ha : Ed K ta Γ x) (hb : Ed K tb Γ y) (hr : OpV K r x y (.bl a)) (hc : a = true → Ed K tc Γ z) (hr' : a = true → OpV K r' y z (.bl b)) : Ed K (tChain r r' ta tb tc) Γ (.bl (a && b)) := fun σ H S Q q =>
  ha σ H S _ fun v H1 e1 r1 => hb σ H1 (S.mono e1) _ fun w H2 e2 r2 => hr v w H2 _ (r1.mono e2) r2 fun u H3 e3 r3 => by
    cases r3
    refine ⟨a, rfl, ?_⟩
    cases a with
    | true => exact hc rfl σ H3 (S.mono ((e1.trans e2).trans e3)) _ fun w' H4 e4 r4 => hr' rfl w w' H4 Q (r2.mono (e3.trans e4)) r4 fun u5 H5 e5 r5 => q u5 H5 ((((e1.trans e2).trans e3).trans e4).trans e5) r5
    | false => exact q _ H3 ((e1.trans e2).trans e3) .bl
/-- a method of a built-in type that leaves the heap as it is -/
theorem ed_bm {T : String} {r : V → List V → Hp → VK → Prop} {to : TE} {ta : TA} (h : Ed K to Γ x) (hT : ∀ H v, Rep K H v x → tyV K T v H) (ha : Ea K ta Γ ds) (hr : MtV K r x ds d) : Ed K (tBM K T r to ta) Γ d := fun σ H S Q q =>
  h σ H S _ fun v H1 e1 r1 => ⟨hT H1 v r1, ha σ H1 (S.mono e1) _ fun vs H2 e2 r2 => hr v vs H2 Q (r1.mono e2) r2 fun u H3 e3 r3 => q u H3 ((e1.trans e2).trans e3) r3⟩
end

/-! ### targets -/
inductive Tg where
  | nm (j : Nat)
  | tp (ts : List Tg)
mutual
def bindT : Tg → D → Gm → Option Gm
  | .nm j, d, Γ => some (Γ.set j (some d))
  | .tp ts, .tup ds, Γ => bindTs ts ds Γ
  | .tp _, _, _ => none
def bindTs : List Tg → List D → Gm → Option Gm
  | [], [], Γ => some Γ
  | t :: ts, d :: ds, Γ => (bindT t d Γ).bind (bindTs ts ds)
  | _, _, _ => none
end
mutual
def slotsT : Tg → List Nat
  | .nm j => [j]
  | .tp ts => slotsTs ts
def slotsTs : List Tg → List Nat
  | [] => []
  | t :: ts => slotsT t ++ slotsTs ts
end
section
variable (K : PySem.W.Frag)
/-- a target's reading binds as T says -/
def Gt (g : TG) (T : Tg) : Prop := ∀ (v : V) (d : D) (σ : L2.St) (F H : Hp) (Γ Γ' : Gm), Same F H → SatR K Γ σ F → Rep K F v d → bindT T d Γ = some Γ' →
  ∀ Q : L2.St → Hp → Prop, (∀ σ', SatR K Γ' σ' F → (∀ vs : List Nat, (∀ j ∈ slotsT T, j ∈ vs) → L2.wipe σ' vs = L2.wipe σ vs) → Q σ' H) → g v σ H Q
def Gts (g : TGs) (T : List Tg) : Prop := ∀ (vs : List V) (ds : List D) (σ : L2.St) (F H : Hp) (Γ Γ' : Gm), Same F H → SatR K Γ σ F → Reps K F vs ds → bindTs T ds Γ = some Γ' →
  ∀ Q : L2.St → Hp → Prop, (∀ σ', SatR K Γ' σ' F → (∀ vs : List Nat, (∀ j ∈ slotsTs T, j ∈ vs) → L2.wipe σ' vs = L2.wipe σ vs) → Q σ' H) → g vs σ H Q
end
section
variable {K : PySem.W.Frag}
theorem gt_nm {j : Nat} : Gt K (gName j) (.nm j) := fun v d σ F H Γ Γ' fh S r hb Q q => by
  have e : Γ.set j (some d) = Γ' := by simpa [bindT] using hb
  subst e
  exact q _ (S.set j r) fun vs h => wipe_set (h j (by simp [slotsT]))
theorem gts_nil : Gts K gNil [] := fun vs ds σ F H Γ Γ' fh S r hb Q q => by
  cases r with
  | nil =>
    have e : Γ = Γ' := by simpa [bindTs] using hb
    subst e
    exact ⟨rfl, q σ S fun _ _ => rfl⟩
  | cons _ _ => simp [bindTs] at hb
theorem gts_cons {t : TG} {u : TGs} {T : Tg} {Ts : List Tg} (h1 : Gt K t T) (h2 : Gts K u Ts) : Gts K (gCons t u) (T :: Ts) := fun vs ds σ F H Γ Γ' fh S r hb Q q => by
  cases r with
  | nil => simp [bindTs] at hb
  | cons r1 r2 =>
    rename_i v d vs ds
    have hb' : (bindT T d Γ).bind (bindTs Ts ds) = some Γ' := by simpa [bindTs] using hb
    obtain ⟨Γ1, e1, e2⟩ := Option.bind_eq_some_iff.mp hb'
    refine ⟨v, vs, rfl, h1 v d σ F H Γ Γ1 fh S r1 e1 _ fun σ1 S1 w1 => h2 vs ds σ1 F H Γ1 Γ' fh S1 r2 e2 Q fun σ2 S2 w2 => q σ2 S2 fun ws hw => ?_⟩
    rw [w2 ws fun j hj => hw j (by simp [slotsTs, hj]), w1 ws fun j hj => hw j (by simp [slotsTs, hj])]
theorem gt_tp {n : Nat} {g : TGs} {Ts : List Tg} (h : Gts K g Ts) (hn : Ts.length = n) : Gt K (gTup K n g) (.tp Ts) := fun v d σ F H Γ Γ' fh S r hb Q q => by
  cases r with
  | tup hs rs =>
    rename_i a vs ds
    have hb' : bindTs Ts ds Γ = some Γ' := by simpa [bindT] using hb
    refine ⟨a, vs, rfl, sqT_mono fh hs, ?_, h vs ds σ F H Γ Γ' fh S rs hb' Q fun σ' S' w => q σ' S' fun ws hw => w ws (by simpa [slotsT] using hw)⟩
    have hl : ∀ (Ts : List Tg) (ds : List D) (Γ Γ' : Gm), bindTs Ts ds Γ = some Γ' → Ts.length = ds.length := by
      intro Ts
      induction Ts with
      | nil => intro ds Γ Γ' hb; cases ds with
        | nil => rfl
        | cons _ _ => simp [bindTs] at hb
      | cons t Ts ih => intro ds Γ Γ' hb; cases ds with
        | nil => simp [bindTs] at hb
        | cons d ds =>
          have hb' : (bindT t d Γ).bind (bindTs Ts ds) = some Γ' := by simpa [bindTs] using hb
          obtain ⟨Γ1, _, e2⟩ := Option.bind_eq_some_iff.mp hb'
          simp [ih _ _ _ e2]
    rw [rs.len, ← hl _ _ _ _ hb', hn]
  | non => simp [bindT] at hb
  | bl => simp [bindT] at hb
  | int => simp [bindT] at hb
  | str => simp [bindT] at hb
  | ty => simp [bindT] at hb
  | lst _ _ => simp [bindT] at hb
  | adr => simp [bindT] at hb
  | obj _ _ _ => simp [bindT] at hb
end

/-! ### what is walked -/
structure Wk (K : PySem.W.Frag) (J : It) (F : Hp) (its : List D) : Prop where
  w : ∃ (G : Hp → Prop) (Y : Nat → Hp → V → Hp → Prop), Walk J its.length G Y ∧ (∀ H', Same F H' → G H') ∧
    ∀ i H' x H'', i < its.length → Same F H' → Y i H' x H'' → Same H' H'' ∧ ∃ d, its[i]? = some d ∧ Rep K H'' x d
def Ie (K : PySem.W.Frag) (wi : TI) (Γ : Gm) (its : List D) : Prop := ∀ (σ : L2.St) (H : Hp), SatR K Γ σ H → ∀ R : It → Hp → Prop, (∀ J H1, Same H H1 → Wk K J H1 its → R J H1) → wi σ H R
section
variable {K : PySem.W.Frag} {F : Hp}
theorem Wk.cast {J : It} {its js : List D} (w : Wk K J F its) (e : its = js) : Wk K J F js := e ▸ w
theorem wk_range {lo : Int} {n : Nat} : Wk K (Itr lo n) F ((List.range n).map fun i => .int (lo + (i : Nat))) := by
  refine ⟨fun _ => True, YFn fun i => .int (lo + (i : Nat)), ?_, fun _ _ => trivial, ?_⟩
  · rw [List.length_map, List.length_range]; exact walk_range
  · intro i H' x H'' hi _ h
    obtain ⟨rfl, rfl⟩ := h
    rw [List.length_map, List.length_range] at hi
    exact ⟨Same.refl _, _, by rw [List.getElem?_map, List.getElem?_range hi]; rfl, .int⟩
theorem wk_tup {a : Addr} {vs : List V} {ds : List D} (h : SqT K F a vs) (r : Reps K F vs ds) : Wk K (Itt K a) F ds := by
  refine ⟨fun H => SqT K H a vs, YAt vs, ?_, fun H' e => sqT_mono e h, ?_⟩
  · rw [← r.len]; exact walk_tup
  · intro i H' x H'' hi e y
    obtain ⟨rfl, y⟩ := y
    obtain ⟨d, h1, h2⟩ := r.atV y
    exact ⟨Same.refl _, d, h1, h2.mono e⟩
theorem wk_lst {a : Addr} {vs : List V} {ds : List D} (h : F a = some (.lst vs)) (r : Reps K F vs ds) : Wk K (Itl K a) F ds := by
  refine ⟨fun H => SqL K H a vs, YAt vs, ?_, fun H' e => .inl (.inl (e _ _ h)), ?_⟩
  · rw [← r.len]; exact walk_list
  · intro i H' x H'' hi e y
    obtain ⟨rfl, y⟩ := y
    obtain ⟨d, h1, h2⟩ := r.atV y
    exact ⟨Same.refl _, d, h1, h2.mono e⟩
theorem zip_get {α β : Type} {xs : List α} {ys : List β} {i : Nat} {x : α} {y : β} (h1 : xs[i]? = some x) (h2 : ys[i]? = some y) : (xs.zip ys)[i]? = some (x, y) := by
  rw [List.getElem?_zip_eq_some]; exact ⟨h1, h2⟩
/-- pairs of what stands at the same place -/
theorem wk_pairs {J : It} {ds es : List D} {vs ws : List V} {G : Hp → Prop} (r1 : Reps K F vs ds) (r2 : Reps K F ws es) (w : Walk J (min vs.length ws.length) G (YPair (fun i => vs[i]?) (fun i => ws[i]?))) (hG : ∀ H', Same F H' → G H') : Wk K J F ((ds.zip es).map fun p => .tup [p.1, p.2]) := by
  refine ⟨G, YPair (fun i => vs[i]?) (fun i => ws[i]?), ?_, hG, ?_⟩
  · rw [List.length_map, List.length_zip, ← r1.len, ← r2.len]; exact w
  · intro i H' x H'' hi e y
    obtain ⟨T, v, u, rfl, nT, rfl, h1, h2⟩ := y
    obtain ⟨d1, g1, q1⟩ := r1.atV h1
    obtain ⟨d2, g2, q2⟩ := r2.atV h2
    refine ⟨same_new nT, .tup [d1, d2], by rw [List.getElem?_map, zip_get g1 g2]; rfl, .tup (.inl (.inl upd_same)) (.cons (q1.mono (e.trans (same_new nT))) (.cons (q2.mono (e.trans (same_new nT))) .nil))⟩
theorem wk_zipL {a b : Addr} {vs ws : List V} {ds es : List D} (h1 : F a = some (.lst vs)) (h2 : F b = some (.lst ws)) (r1 : Reps K F vs ds) (r2 : Reps K F ws es) : Wk K (Itz K a b) F ((ds.zip es).map fun p => .tup [p.1, p.2]) :=
  wk_pairs r1 r2 (walk_zip rfl) fun H' e => ⟨.inl (.inl (e _ _ h1)), .inl (.inl (e _ _ h2))⟩
theorem walk_zipT {a b : Addr} {xs ys : List V} : Walk (RZ.ItzT K a b) (min xs.length ys.length) (fun H => SqT K H a xs ∧ SqT K H b ys) (YPair (fun i => xs[i]?) (fun i => ys[i]?)) := by
  refine ⟨fun i _ hi q => ?_, fun _ q => ⟨xs, ys, q.1, q.2, by omega⟩, fun i H v H' _ q y => ?_⟩
  · have h1 : i < xs.length := by omega
    have h2 : i < ys.length := by omega
    exact ⟨xs, ys, xs[i], ys[i], q.1, q.2, by simp [h1], by simp [h2]⟩
  · obtain ⟨T, x, z, h1, h2, h3, h4, h5⟩ := y
    exact ⟨T, x, z, h1, h2, h3, h4 xs q.1, h5 ys q.2⟩
theorem wk_zipT {a b : Addr} {vs ws : List V} {ds es : List D} (h1 : SqT K F a vs) (h2 : SqT K F b ws) (r1 : Reps K F vs ds) (r2 : Reps K F ws es) : Wk K (RZ.ItzT K a b) F ((ds.zip es).map fun p => .tup [p.1, p.2]) :=
  wk_pairs r1 r2 walk_zipT fun H' e => ⟨sqT_mono e h1, sqT_mono e h2⟩
theorem wk_enumL {a : Addr} {vs : List V} {ds : List D} (h : F a = some (.lst vs)) (r : Reps K F vs ds) : Wk K (Ite K a) F (ds.zipIdx.map fun p => .tup [.int (p.2 : Nat), p.1]) := by
  refine ⟨fun H => SqL K H a vs, YPair (fun i => some (.int (i : Nat))) (fun i => vs[i]?), ?_, fun H' e => .inl (.inl (e _ _ h)), ?_⟩
  · rw [List.length_map, List.length_zipIdx, ← r.len]; exact walk_enum
  · intro i H' x H'' hi e y
    obtain ⟨T, v, u, rfl, nT, rfl, h1, h2⟩ := y
    obtain ⟨d2, g2, q2⟩ := r.atV h2
    cases h1
    refine ⟨same_new nT, .tup [.int (i : Nat), d2], by rw [List.getElem?_map, List.getElem?_zipIdx, g2]; simp, .tup (.inl (.inl upd_same)) (.cons .int (.cons (q2.mono (e.trans (same_new nT))) .nil))⟩
end
section
variable {K : PySem.W.Frag} {Γ : Gm} {te : TE} {ds es : List D}
theorem Ie.is {wi : TI} (h : Ie K wi Γ ds) (e : ds = es) : Ie K wi Γ es := e ▸ h
/-- a list or a tuple -/
def iSeq (K : PySem.W.Frag) (tl : TE) : TI := fun σ H R => iList K tl σ H R ∨ iTup K tl σ H R
theorem ie_tup (h : Ed K te Γ (.tup ds)) : Ie K (iSeq K te) Γ ds := fun σ H S R q => .inr (h σ H S _ fun v H1 e r => by
  cases r with
  | tup hs rs => exact ⟨_, rfl, ⟨_, hs⟩, q _ H1 e (wk_tup hs rs)⟩)
theorem ie_lst (h : Ed K te Γ (.lst ds)) : Ie K (iSeq K te) Γ ds := fun σ H S R q => .inl (h σ H S _ fun v H1 e r => by
  cases r with
  | lst hs rs => exact ⟨_, rfl, ⟨_, .inl (.inl hs)⟩, q _ H1 e (wk_lst hs rs)⟩)
theorem ie_range1 {ta : TA} {n : Int} (h : Ea K ta Γ [.int n]) (h1 : n ≤ 2 ^ 24) (h2 : -(2 ^ 24) ≤ n) : Ie K (iRng1 ta) Γ ((List.range n.toNat).map fun (i : Nat) => .int (i : Int)) := fun σ H S R q => h σ H S _ fun vs H1 e r => by
  cases r with
  | cons r1 r2 =>
    cases r1
    cases r2
    exact ⟨n, rfl, by omega, by omega, q _ H1 e (wk_range.cast (by simp))⟩
theorem ie_range2 {ta : TA} {m n : Int} (h : Ea K ta Γ [.int m, .int n]) (h1 : n ≤ 2 ^ 24) (h2 : -(2 ^ 24) ≤ n) (h3 : m ≤ 2 ^ 24) (h4 : -(2 ^ 24) ≤ m) : Ie K (iRng2 ta) Γ ((List.range (n - m).toNat).map fun (i : Nat) => .int (m + (i : Int))) := fun σ H S R q => h σ H S _ fun vs H1 e r => by
  cases r with
  | cons r1 r2 =>
    cases r1
    cases r2 with
    | cons r1 r2 =>
      cases r1
      cases r2
      exact ⟨m, n, rfl, ⟨by omega, by omega, by omega, by omega⟩, q _ H1 e wk_range⟩
theorem ie_zipT {ta : TA} (h : Ea K ta Γ [.tup ds, .tup es]) : Ie K (RZ.iZipA K ta) Γ ((ds.zip es).map fun p => .tup [p.1, p.2]) := fun σ H S R q => h σ H S _ fun vs H1 e r => by
  cases r with
  | cons r1 r2 =>
    cases r2 with
    | cons r3 r4 =>
      cases r4
      cases r1 with
      | tup h1 r1 =>
        cases r3 with
        | tup h2 r2 => exact ⟨_, _, _, _, rfl, .inr ⟨h1, h2, q _ H1 e (wk_zipT h1 h2 r1 r2)⟩⟩
theorem ie_zipL {ta : TA} (h : Ea K ta Γ [.lst ds, .lst es]) : Ie K (RZ.iZipA K ta) Γ ((ds.zip es).map fun p => .tup [p.1, p.2]) := fun σ H S R q => h σ H S _ fun vs H1 e r => by
  cases r with
  | cons r1 r2 =>
    cases r2 with
    | cons r3 r4 =>
      cases r4
      cases r1 with
      | lst h1 r1 =>
        cases r3 with
        | lst h2 r2 => exact ⟨_, _, _, _, rfl, .inl ⟨.inl (.inl h1), .inl (.inl h2), q _ H1 e (wk_zipL h1 h2 r1 r2)⟩⟩
end

/-! ### list comprehensions -/
theorem cut_upd {p : Addr} {H : Hp} {o : HO} : cut [p] (upd H p o) = cut [p] H := by
  funext a
  by_cases h : a = p
  · subst h; rw [cut_in (by simp), cut_in (by simp)]
  · rw [cut_out (by simpa using h), cut_out (by simpa using h), upd_ne h]
theorem cut_mono {l : List Addr} {H H' : Hp} (e : Same H H') : Same (cut l H) (cut l H') := fun a o h => by
  by_cases hm : a ∈ l
  · rw [cut_in hm] at h; cases h
  · rw [cut_out hm] at h; rw [cut_out hm]; exact e a o h
section
variable {K : PySem.W.Frag} {Γ : Gm} {te : TE} {tt : TT} {wi : TI} {g : TG} {T : Tg} {vs : List Nat} {α : Type} {xs : List α} {f : α → D} {c : α → Bool} {v : α → D} {l : α → List D}
theorem filter_take_succ {xs : List α} {c : α → Bool} {i : Nat} {x : α} (h : xs[i]? = some x) : (xs.take (i + 1)).filter c = (xs.take i).filter c ++ (if c x = true then [x] else []) := by
  rw [List.take_add_one, h, List.filter_append]
  simp only [Option.toList, List.filter_cons, List.filter_nil]
/-- each element told by P: what is made of it at a heap, new list D apart -/
theorem lc_any (P : α → V → Hp → Prop) (hP : ∀ x v H H', P x v H → Same H H' → P x v H') (hi : Ie K wi Γ (xs.map f)) (hl : xs.length ≤ 100000) (hg : Gt K g T) (hs : ∀ j ∈ slotsT T, j ∈ vs)
    (hb : ∀ x ∈ xs, ∃ Γ', bindT T (f x) (wipeD Γ vs) = some Γ' ∧ Et K tt Γ' (c x) ∧ (c x = true → ∀ (σ : L2.St) (H : Hp) (Dl : Addr) (acc : List V), H Dl = some (.lst acc) → SatR K Γ' σ H → ∀ Q : VK, (∀ v H', Same H H' → P x v (cut [Dl] H') → Q v H') → te σ H Q))
    (σ : L2.St) (H : Hp) (S : SatR K Γ σ H) (Q : VK) (q : ∀ p H' ws, Same H H' → H p = none → H' p = some (.lst ws) → Paired (fun x v => P x v (cut [p] H')) (xs.filter c) ws → Q (.ref p) H') : tLc wi g tt te vs σ H Q := by
  refine hi σ H S _ fun J H1 e1 W Dl hD => ?_
  obtain ⟨G, Y, W, hG, hY⟩ := W
  rw [List.length_map] at W hY
  refine lc_it W (fun i H' => Same H1 H' ∧ ∃ ws, H' Dl = some (.lst ws) ∧ Paired (fun x v => P x v (cut [Dl] H')) ((xs.take i).filter c) ws) ⟨same_new hD, [], upd_same, by simp; exact .nil⟩ (fun i H' _ h => hG H' h.1) ?_ fun H' h => ?_
  · intro i x H2 H3 hi' ⟨e2, ws, hws, pr⟩ y
    obtain ⟨e3, d, hd, rx⟩ := hY i H2 x H3 hi' e2 y
    have hxi : xs[i]? = some xs[i] := List.getElem?_eq_getElem hi'
    rw [List.getElem?_map, hxi] at hd
    have ed : d = f xs[i] := (Option.some.inj hd).symm
    subst ed
    obtain ⟨Γ', hbt, ht, he⟩ := hb xs[i] (List.getElem_mem hi')
    refine hg x (f xs[i]) (L2.wipe σ vs) H3 H3 (wipeD Γ vs) Γ' (Same.refl _) ((S.mono ((e1.trans e2).trans e3)).wipe vs) rx hbt _ fun σ' S' hw => ⟨?_, ht σ' H3 S' _ fun H4 e4 => ?_⟩
    · rw [hw vs hs]
      have idem : ∀ (ws : List Nat), L2.wipe (L2.wipe σ vs) ws = L2.wipe (L2.wipe σ vs) ws := fun _ => rfl
      exact wipe_idem σ vs
    · have hDl4 : H4 Dl = some (.lst ws) := e4 _ _ (e3 _ _ hws)
      have upto : ∀ {H5 : Hp} {o : HO}, Same H4 H5 → Paired (fun x v => P x v (cut [Dl] (upd H5 Dl o))) ((xs.take i).filter c) ws := fun {H5 o} e5 => by
        rw [cut_upd]
        exact Paired.mapP pr fun a b h => hP a b _ _ h (cut_mono (e3.trans (e4.trans e5)))
      cases hc : c xs[i] with
      | true =>
        show te σ' H4 _
        refine he hc σ' H4 Dl ws hDl4 (S'.mono e4) _ fun u H5 e5 pu => ⟨ws, e5 _ _ hDl4, ?_, ?_, ws ++ [u], upd_same, ?_⟩
        · have := Paired.length pr
          have h2 : ((xs.take i).filter c).length ≤ xs.length := Nat.le_trans (List.length_filter_le _ _) (by rw [List.length_take]; omega)
          have h3 : ((xs.take i).filter c).length ≤ i := Nat.le_trans (List.length_filter_le _ _) (by rw [List.length_take]; omega)
          exact sz5l (by omega)
        · intro a o ha
          have : a ≠ Dl := ne_of_none ha hD
          rw [upd_ne this]
          exact e5 _ _ (e4 _ _ (e3 _ _ (e2 _ _ ha)))
        · rw [filter_take_succ hxi, hc, if_pos rfl]
          have := upto (H5 := H5) (o := .lst (ws ++ [u])) e5
          rw [cut_upd] at this ⊢
          exact paired_snoc this pu
      | false =>
        show Same H1 H4 ∧ _
        refine ⟨e2.trans (e3.trans e4), ws, hDl4, ?_⟩
        rw [filter_take_succ hxi, hc, if_neg Bool.false_ne_true, List.append_nil]
        exact Paired.mapP pr fun a b h => hP a b _ _ h (cut_mono (e3.trans e4))
  · obtain ⟨e2, ws, hws, pr⟩ := h
    rw [List.take_length] at pr
    exact q Dl H' ws (e1.trans e2) (e1.free hD) hws pr
where
  wipe_idem (σ : L2.St) (vs : List Nat) : L2.wipe (L2.wipe σ vs) vs = L2.wipe σ vs := by
    have h : ∀ (ws : List Nat), (∀ j ∈ ws, j ∈ vs) → L2.wipe (L2.wipe σ vs) ws = L2.wipe σ vs := fun ws => by
      induction ws with
      | nil => intro _; rfl
      | cons w ws ih =>
        intro hw
        show (L2.wipe (L2.wipe σ vs) ws).set w none = L2.wipe σ vs
        rw [ih fun j hj => hw j (List.mem_cons_of_mem _ hj)]
        have hm := hw w (List.mem_cons_self ..)
        have key : ∀ (us : List Nat), w ∈ us → (L2.wipe σ us).set w none = L2.wipe σ us := fun us => by
          induction us with
          | nil => intro h; cases h
          | cons u us ih =>
            intro h
            show ((L2.wipe σ us).set u none).set w none = (L2.wipe σ us).set u none
            by_cases hu : w = u
            · subst hu; rw [List.set_set]
            · rw [List.set_comm _ _ (Ne.symm hu), ih]
              rcases List.mem_cons.mp h with q | q
              · exact absurd q hu
              · exact q
        exact key vs hm
    exact h vs fun _ h => h
  paired_snoc {β : Type} {R : β → V → Prop} : ∀ {as : List β} {bs : List V} {a : β} {b : V}, Paired R as bs → R a b → Paired R (as ++ [a]) (bs ++ [b])
    | _, _, _, _, .nil, h => .cons h .nil
    | _, _, _, _, .cons h r, q => .cons h (paired_snoc r q)
end
end Q

/-! Comprehensions by deep values; operators, built-in functions and methods by deep values. -/
namespace Q
open PySem PySem.Spec PyProof.Rows L2

section
variable {K : PySem.W.Frag} {Γ : Gm} {te : TE} {tt : TT} {wi : TI} {g : TG} {T : Tg} {vs : List Nat} {α : Type} {xs : List α} {f : α → D} {c : α → Bool} {v : α → D} {l : α → List D}
theorem reps_of_paired {H : Hp} : ∀ {xs : List α} {ws : List V}, Paired (fun x w => Rep K H w (v x)) xs ws → Reps K H ws (xs.map v)
  | _, _, .nil => .nil
  | _, _, .cons h r => .cons h (reps_of_paired r)
theorem lone_mut {H H' : Hp} {Dl : Addr} {acc : List V} (h : H Dl = some (.lst acc)) (e : Same H H') : ∀ b ∈ [Dl], ∃ o, H' b = some o ∧ isMut o = true := fun b hb => by
  rw [List.mem_singleton.mp hb]
  exact ⟨_, e _ _ h, rfl⟩
/-- [e for t in it if c]: the elements hold no list -/
theorem en_lcIf (hi : Ie K wi Γ (xs.map f)) (hl : xs.length ≤ 100000) (hg : Gt K g T) (hs : ∀ j ∈ slotsT T, j ∈ vs)
    (hb : ∀ x ∈ xs, ∃ Γ', bindT T (f x) (wipeD Γ vs) = some Γ' ∧ Et K tt Γ' (c x) ∧ (c x = true → Ed K te Γ' (v x) ∧ noL (v x) = true)) : En K (tLc wi g tt te vs) Γ ((xs.filter c).map v) := fun σ H S Q q =>
  lc_any (fun x w H => Rep K H w (v x)) (fun x w H H' r e => r.mono e) hi hl hg hs (fun x hx => by
    obtain ⟨Γ', h1, h2, h3⟩ := hb x hx
    refine ⟨Γ', h1, h2, fun hc σ H Dl acc hD S Q q => ?_⟩
    obtain ⟨h4, h5⟩ := h3 hc
    exact h4 σ H S Q fun w H' e r => q w H' e (r.cutM (lone_mut hD e) h5)) σ H S Q fun p H' ws e hp hp' pr => q p H' ws e hp hp' ((reps_of_paired pr).mono (cut_same _ _))
/-- .. the elements new lists -/
theorem ed_lcIfN (hi : Ie K wi Γ (xs.map f)) (hl : xs.length ≤ 100000) (hg : Gt K g T) (hs : ∀ j ∈ slotsT T, j ∈ vs)
    (hb : ∀ x ∈ xs, ∃ Γ', bindT T (f x) (wipeD Γ vs) = some Γ' ∧ Et K tt Γ' (c x) ∧ (c x = true → En K te Γ' (l x) ∧ noLs (l x) = true)) : Ed K (tLc wi g tt te vs) Γ (.lst ((xs.filter c).map fun x => .lst (l x))) := fun σ H S Q q =>
  lc_any (fun x w H => Rep K H w (.lst (l x))) (fun x w H H' r e => r.mono e) hi hl hg hs (fun x hx => by
    obtain ⟨Γ', h1, h2, h3⟩ := hb x hx
    refine ⟨Γ', h1, h2, fun hc σ H Dl acc hD S Q q => ?_⟩
    obtain ⟨h4, h5⟩ := h3 hc
    exact h4 σ H S Q fun p H' vs e n hp r => q _ H' e (.lst (by rw [cut_out (by simp; exact fun z => by rw [z, hD] at n; cases n)]; exact hp) (r.cutM (lone_mut hD e) h5)))
    σ H S Q fun p H' ws e hp hp' pr => q _ H' e (.lst hp' ((reps_of_paired (v := fun x => .lst (l x)) pr).mono (cut_same _ _)))
theorem filter_all_true : ∀ (xs : List α), xs.filter (fun _ => true) = xs
  | [] => rfl
  | x :: xs => by rw [List.filter_cons, if_pos rfl, filter_all_true xs]
theorem en_lc (hi : Ie K wi Γ (xs.map f)) (hl : xs.length ≤ 100000) (hg : Gt K g T) (hs : ∀ j ∈ slotsT T, j ∈ vs)
    (hb : ∀ x ∈ xs, ∃ Γ', bindT T (f x) (wipeD Γ vs) = some Γ' ∧ Ed K te Γ' (v x) ∧ noL (v x) = true) : En K (tLc wi g tYes te vs) Γ (xs.map v) :=
  (en_lcIf (c := fun _ => true) hi hl hg hs fun x hx => let ⟨Γ', h1, h2, h3⟩ := hb x hx; ⟨Γ', h1, et_yes, fun _ => ⟨h2, h3⟩⟩).is (by rw [filter_all_true])
theorem ed_lcN (hi : Ie K wi Γ (xs.map f)) (hl : xs.length ≤ 100000) (hg : Gt K g T) (hs : ∀ j ∈ slotsT T, j ∈ vs)
    (hb : ∀ x ∈ xs, ∃ Γ', bindT T (f x) (wipeD Γ vs) = some Γ' ∧ En K te Γ' (l x) ∧ noLs (l x) = true) : Ed K (tLc wi g tYes te vs) Γ (.lst (xs.map fun x => .lst (l x))) :=
  (ed_lcIfN (c := fun _ => true) hi hl hg hs fun x hx => let ⟨Γ', h1, h2, h3⟩ := hb x hx; ⟨Γ', h1, et_yes, fun _ => ⟨h2, h3⟩⟩).is (by rw [filter_all_true])
/-- over a range from 0 on -/
theorem en_lcR {ta : TA} {n : Int} {j : Nat} {u : Nat → D} (hr : Ea K ta Γ [.int n]) (h1 : n ≤ 100000) (h2 : -(2 ^ 24) ≤ n) (hs : j ∈ vs) (hb : ∀ k : Nat, (k : Int) < n → Ed K te ((wipeD Γ vs).set j (some (.int (k : Int)))) (u k) ∧ noL (u k) = true) :
    En K (tLc (iRng1 ta) (gName j) tYes te vs) Γ ((List.range n.toNat).map u) :=
  en_lc (ie_range1 hr (by omega) h2) (by rw [List.length_range]; omega) gt_nm (by simpa [slotsT] using hs) fun k hk => ⟨_, by simp only [bindT], hb k (by rw [List.mem_range] at hk; omega)⟩
theorem en_lcRIf {ta : TA} {n : Int} {j : Nat} {u : Nat → D} {c : Nat → Bool} (hr : Ea K ta Γ [.int n]) (h1 : n ≤ 100000) (h2 : -(2 ^ 24) ≤ n) (hs : j ∈ vs)
    (hb : ∀ k : Nat, (k : Int) < n → Et K tt ((wipeD Γ vs).set j (some (.int (k : Int)))) (c k) ∧ (c k = true → Ed K te ((wipeD Γ vs).set j (some (.int (k : Int)))) (u k) ∧ noL (u k) = true)) :
    En K (tLc (iRng1 ta) (gName j) tt te vs) Γ (((List.range n.toNat).filter c).map u) :=
  en_lcIf (ie_range1 hr (by omega) h2) (by rw [List.length_range]; omega) gt_nm (by simpa [slotsT] using hs) fun k hk => ⟨_, by simp only [bindT], hb k (by rw [List.mem_range] at hk; omega)⟩
theorem en_lcR2 {ta : TA} {m n : Int} {j : Nat} {u : Nat → D} (hr : Ea K ta Γ [.int m, .int n]) (h1 : n ≤ 50000) (h2 : -(2 ^ 24) ≤ n) (h3 : m ≤ 50000) (h4 : -50000 ≤ m) (hs : j ∈ vs)
    (hb : ∀ k : Nat, m + (k : Int) < n → Ed K te ((wipeD Γ vs).set j (some (.int (m + (k : Int))))) (u k) ∧ noL (u k) = true) :
    En K (tLc (iRng2 ta) (gName j) tYes te vs) Γ ((List.range (n - m).toNat).map u) :=
  en_lc (ie_range2 hr (by omega) h2 (by omega) (by omega)) (by rw [List.length_range]; omega) gt_nm (by simpa [slotsT] using hs) fun k hk => ⟨_, by simp only [bindT], hb k (by rw [List.mem_range] at hk; omega)⟩
theorem en_lcR2If {ta : TA} {m n : Int} {j : Nat} {u : Nat → D} {c : Nat → Bool} (hr : Ea K ta Γ [.int m, .int n]) (h1 : n ≤ 50000) (h2 : -(2 ^ 24) ≤ n) (h3 : m ≤ 50000) (h4 : -50000 ≤ m) (hs : j ∈ vs)
    (hb : ∀ k : Nat, m + (k : Int) < n → Et K tt ((wipeD Γ vs).set j (some (.int (m + (k : Int))))) (c k) ∧ (c k = true → Ed K te ((wipeD Γ vs).set j (some (.int (m + (k : Int))))) (u k) ∧ noL (u k) = true)) :
    En K (tLc (iRng2 ta) (gName j) tt te vs) Γ (((List.range (n - m).toNat).filter c).map u) :=
  en_lcIf (ie_range2 hr (by omega) h2 (by omega) (by omega)) (by rw [List.length_range]; omega) gt_nm (by simpa [slotsT] using hs) fun k hk => ⟨_, by simp only [bindT], hb k (by rw [List.mem_range] at hk; omega)⟩
end

/-! ### operators -/
section
variable (K : PySem.W.Frag)
def oAdd : R2 := fun x y H Q => (∃ i j, x = .int i ∧ y = .int j ∧ Q (.int (i + j)) H) ∨ (∃ i j, x = .str i ∧ y = .str j ∧ i.length + j.length ≤ sizeLine ∧ Q (.str (i ++ j)) H) ∨ rCatA K x y H Q ∨ rCat x y H Q
def oSub : R2 := rI0 fun i j => .int (i - j)
def oMul : R2 := fun x y H Q => rI CMul (fun i j => .int (i * j)) x y H Q ∨ rI CMulW (fun i j => .int (i * j)) x y H Q ∨ rRep x y H Q
def oDiv : R2 := fun x y H Q => rI CDiv (fun i j => .int (i / j)) x y H Q ∨ rI CDivW (fun i j => .int (i / j)) x y H Q
def oMod : R2 := rI (fun _ j => 0 < j) fun i j => .int (i % j)
def oPow : R2 := rI CPow fun i j => .int (i ^ j.toNat)
def oLt : R2 := fun x y H Q => rI0 (fun i j => .bl (decide (i < j))) x y H Q ∨ rLtT K x y H Q
def oLe : R2 := rI0 fun i j => .bl (decide (i ≤ j))
def oGt : R2 := rI0 fun i j => .bl (decide (j < i))
def oGe : R2 := rI0 fun i j => .bl (decide (j ≤ i))
def oEq : R2 := fun x y H Q => rEq x y H Q ∨ rEqD K x y H Q
def oNe : R2 := fun x y H Q => rNe x y H Q ∨ rNeD K x y H Q
def oIs : R2 := fun x y H Q => y = .non ∧ Q (.bl (decide (x = .non))) H
def oIsn : R2 := fun x y H Q => y = .non ∧ Q (.bl (!decide (x = .non))) H
def uNeg : V → Hp → VK → Prop := rU fun i => .int (-i)
def oSl : V → Option Int → Option Int → Hp → VK → Prop := fun x lo hi H Q => rSlA K x lo hi H Q ∨ rSlL K x lo hi H Q ∨ rSlS x lo hi H Q
end
section
variable {X : Cx}
theorem op_oAdd : OpR X (binaryOp .Add) (oAdd X.K) := OpR.or op_add (OpR.or op_add_str (OpR.or op_catA op_cat))
theorem op_oSub : OpR X (binaryOp .Sub) oSub := op_sub
theorem op_oMul : OpR X (binaryOp .Mult) oMul := OpR.or op_mul (OpR.or op_mulW op_rep)
theorem op_oDiv : OpR X (binaryOp .FloorDiv) oDiv := OpR.or op_fdiv op_fdivW
theorem op_oMod : OpR X (binaryOp .Mod) oMod := op_mod
theorem op_oPow : OpR X (binaryOp .Pow) oPow := op_pow
theorem op_oLt {k : Nat} (hr : Room k X.A) : OpR X (compareOp .Lt) (oLt X.K) := OpR.or op_lt (op_ltT hr.units0)
theorem op_oLe : OpR X (compareOp .LtE) oLe := op_le
theorem op_oGt : OpR X (compareOp .Gt) oGt := op_gt
theorem op_oGe : OpR X (compareOp .GtE) oGe := op_ge
theorem op_oEq {k : Nat} (hr : Room k X.A) : OpR X (compareOp .Eq) (oEq X.K) := OpR.or op_eq (op_eqD hr.units)
theorem op_oNe {k : Nat} (hr : Room k X.A) : OpR X (compareOp .NotEq) (oNe X.K) := OpR.or op_ne (op_neD hr.units)
theorem op_oIs : OpR X (compareOp .Is) oIs := op_isN
theorem op_oIsn : OpR X (compareOp .IsNot) oIsn := op_notN
theorem un_uNeg : UnR X (unaryOp .USub) uNeg := un_neg
theorem sl_oSl : SlR X (oSl X.K) := SlR.or sl_tupA (SlR.or sl_list sl_str)
end
section
variable {K : PySem.W.Frag} {xs ys ds es : List D}
theorem ov_addI {i j : Int} : OpV K (oAdd K) (.int i) (.int j) (.int (i + j)) := fun v w H Q r s q => by
  cases r; cases s
  exact .inl ⟨i, j, rfl, rfl, q _ H (Same.refl H) .int⟩
theorem ov_addS {i j : Str} (h : i.length + j.length ≤ 1000000) : OpV K (oAdd K) (.str i) (.str j) (.str (i ++ j)) := fun v w H Q r s q => by
  cases r; cases s
  exact .inr (.inl ⟨i, j, rfl, rfl, Nat.le_trans h (by decide), q _ H (Same.refl H) .str⟩)
theorem ov_addT (h : xs.length + ys.length ≤ 100000) : OpV K (oAdd K) (.tup xs) (.tup ys) (.tup (xs ++ ys)) := fun v w H Q r s q => by
  cases r with
  | tup h1 r1 =>
    cases s with
    | tup h2 r2 =>
      refine .inr (.inr (.inl ⟨_, _, _, _, rfl, rfl, h1, h2, ?_, fun e => ?_, fun _ e => ?_, fun _ _ p hp => ?_⟩))
      · rw [r1.len, r2.len]; exact sz5 h
      · subst e; cases r1; exact q _ H (Same.refl H) (.tup h2 r2)
      · subst e; cases r2; rw [List.append_nil] at q; exact q _ H (Same.refl H) (.tup h1 r1)
      · exact q _ _ (same_new hp) (.tup (.inl (.inl upd_same)) ((r1.app r2).mono (same_new hp)))
theorem on_addL (h : xs.length + ys.length ≤ 100000) : OpN K (oAdd K) (.lst xs) (.lst ys) (xs ++ ys) := fun v w H Q r s q => by
  cases r with
  | lst h1 r1 =>
    cases s with
    | lst h2 r2 => exact .inr (.inr (.inr ⟨_, _, _, _, rfl, rfl, h1, h2, by rw [r1.len, r2.len]; exact sz5 h, fun p hp => q p _ _ (same_new hp) hp upd_same ((r1.app r2).mono (same_new hp))⟩))
theorem ov_subI {i j : Int} : OpV K oSub (.int i) (.int j) (.int (i - j)) := fun v w H Q r s q => by
  cases r; cases s
  exact ⟨i, j, rfl, rfl, q _ H (Same.refl H) .int⟩
theorem ov_mulI {i j : Int} (h : CMul i j) : OpV K oMul (.int i) (.int j) (.int (i * j)) := fun v w H Q r s q => by
  cases r; cases s
  exact .inl ⟨i, j, rfl, rfl, h, q _ H (Same.refl H) .int⟩
theorem ov_mulW {i j : Int} (h : CMulW i j) : OpV K oMul (.int i) (.int j) (.int (i * j)) := fun v w H Q r s q => by
  cases r; cases s
  exact .inr (.inl ⟨i, j, rfl, rfl, h, q _ H (Same.refl H) .int⟩)
theorem reps_rep {H : Hp} {vs : List V} (r : Reps K H vs xs) : ∀ n : Nat, Reps K H (List.replicate n vs).flatten (List.replicate n xs).flatten
  | 0 => .nil
  | n + 1 => by
    rw [List.replicate_succ, List.replicate_succ, List.flatten_cons, List.flatten_cons]
    exact r.app (reps_rep r n)
theorem on_mulL {k : Int} (h : xs.length * k.toNat ≤ 100000) (h1 : -(2 ^ 62) ≤ k) (h2 : k ≤ 2 ^ 62) : OpN K oMul (.lst xs) (.int k) (List.replicate k.toNat xs).flatten := fun v w H Q r s q => by
  cases s
  cases r with
  | lst h1 r1 => exact .inr (.inr ⟨_, _, _, rfl, rfl, h1, by omega, by omega, by rw [r1.len]; exact sz5 h, fun p hp => q p _ _ (same_new hp) hp upd_same ((reps_rep r1 _).mono (same_new hp))⟩)
theorem ov_divI {i j : Int} (h : CDiv i j) : OpV K oDiv (.int i) (.int j) (.int (i / j)) := fun v w H Q r s q => by
  cases r; cases s
  exact .inl ⟨i, j, rfl, rfl, h, q _ H (Same.refl H) .int⟩
theorem ov_divW {i j : Int} (h : CDivW i j) : OpV K oDiv (.int i) (.int j) (.int (i / j)) := fun v w H Q r s q => by
  cases r; cases s
  exact .inr ⟨i, j, rfl, rfl, h, q _ H (Same.refl H) .int⟩
theorem ov_modI {i j : Int} (h : 0 < j) : OpV K oMod (.int i) (.int j) (.int (i % j)) := fun v w H Q r s q => by
  cases r; cases s
  exact ⟨i, j, rfl, rfl, h, q _ H (Same.refl H) .int⟩
theorem ov_powI {i j : Int} (h : CPow i j) : OpV K oPow (.int i) (.int j) (.int (i ^ j.toNat)) := fun v w H Q r s q => by
  cases r; cases s
  exact ⟨i, j, rfl, rfl, h, q _ H (Same.refl H) .int⟩
theorem ov_ltI {i j : Int} : OpV K (oLt K) (.int i) (.int j) (.bl (decide (i < j))) := fun v w H Q r s q => by
  cases r; cases s
  exact .inl ⟨i, j, rfl, rfl, q _ H (Same.refl H) .bl⟩
theorem ov_leI {i j : Int} : OpV K oLe (.int i) (.int j) (.bl (decide (i ≤ j))) := fun v w H Q r s q => by
  cases r; cases s
  exact ⟨i, j, rfl, rfl, q _ H (Same.refl H) .bl⟩
theorem ov_gtI {i j : Int} : OpV K oGt (.int i) (.int j) (.bl (decide (j < i))) := fun v w H Q r s q => by
  cases r; cases s
  exact ⟨i, j, rfl, rfl, q _ H (Same.refl H) .bl⟩
theorem ov_geI {i j : Int} : OpV K oGe (.int i) (.int j) (.bl (decide (j ≤ i))) := fun v w H Q r s q => by
  cases r; cases s
  exact ⟨i, j, rfl, rfl, q _ H (Same.refl H) .bl⟩
theorem ov_eqI {i j : Int} : OpV K (oEq K) (.int i) (.int j) (.bl (decide (i = j))) := fun v w H Q r s q => by
  cases r; cases s
  refine .inl ⟨rfl, ?_⟩
  rw [show decide (V.int i = V.int j) = decide (i = j) from decide_eq_decide.mpr ⟨V.int.inj, congrArg _⟩]
  exact q _ H (Same.refl H) .bl
theorem ov_neI {i j : Int} : OpV K (oNe K) (.int i) (.int j) (.bl (!decide (i = j))) := fun v w H Q r s q => by
  cases r; cases s
  refine .inl ⟨rfl, ?_⟩
  rw [show decide (V.int i = V.int j) = decide (i = j) from decide_eq_decide.mpr ⟨V.int.inj, congrArg _⟩]
  exact q _ H (Same.refl H) .bl
theorem ov_eqB {i j : Bool} : OpV K (oEq K) (.bl i) (.bl j) (.bl (decide (i = j))) := fun v w H Q r s q => by
  cases r; cases s
  refine .inl ⟨rfl, ?_⟩
  rw [show decide (V.bl i = V.bl j) = decide (i = j) from decide_eq_decide.mpr ⟨V.bl.inj, congrArg _⟩]
  exact q _ H (Same.refl H) .bl
theorem ov_neB {i j : Bool} : OpV K (oNe K) (.bl i) (.bl j) (.bl (!decide (i = j))) := fun v w H Q r s q => by
  cases r; cases s
  refine .inl ⟨rfl, ?_⟩
  rw [show decide (V.bl i = V.bl j) = decide (i = j) from decide_eq_decide.mpr ⟨V.bl.inj, congrArg _⟩]
  exact q _ H (Same.refl H) .bl
theorem ov_eqS {i j : Str} : OpV K (oEq K) (.str i) (.str j) (.bl (decide (i = j))) := fun v w H Q r s q => by
  cases r; cases s
  refine .inl ⟨rfl, ?_⟩
  rw [show decide (V.str i = V.str j) = decide (i = j) from decide_eq_decide.mpr ⟨V.str.inj, congrArg _⟩]
  exact q _ H (Same.refl H) .bl
theorem ov_neS {i j : Str} : OpV K (oNe K) (.str i) (.str j) (.bl (!decide (i = j))) := fun v w H Q r s q => by
  cases r; cases s
  refine .inl ⟨rfl, ?_⟩
  rw [show decide (V.str i = V.str j) = decide (i = j) from decide_eq_decide.mpr ⟨V.str.inj, congrArg _⟩]
  exact q _ H (Same.refl H) .bl
/-! data that the deep == of the library knows -/
mutual
def py : D → PyData
  | .non => .none
  | .bl b => .bool b
  | .int i => .int i
  | .str x => .str x
  | .tup ds => .tuple (pys ds)
  | .lst ds => .list (pys ds)
  | _ => .dict []
def pys : List D → List PyData
  | [] => []
  | d :: ds => py d :: pys ds
end
theorem pys_map : ∀ ds : List D, pys ds = ds.map py
  | [] => by simp [pys]
  | d :: ds => by simp [pys, pys_map ds]
mutual
theorem Rep.dp {H : Hp} : ∀ {v : V} {d : D}, PyData.canLay0 (py d) = true → Rep K H v d → Dp K H v (py d)
  | _, _, _, .non => by simp only [py]; exact .non
  | _, _, _, .bl => by simp only [py]; exact .bl _
  | _, _, _, .int => by simp only [py]; exact .int _
  | _, _, _, .str => by simp only [py]; exact .str _
  | _, .tup ds, h, .tup hs r => by
    simp only [py] at h ⊢
    exact .tup hs (Reps.dp (by simpa [PyData.canLay0] using h) r)
  | _, .lst ds, h, .lst hs r => by
    simp only [py] at h ⊢
    exact .lst (.inl (.inl hs)) (Reps.dp (by simpa [PyData.canLay0] using h) r)
  | _, _, h, .ty => by simp [py, PyData.canLay0] at h
  | _, _, h, .adr => by simp [py, PyData.canLay0] at h
  | _, _, h, .obj _ _ _ => by simp [py, PyData.canLay0] at h
theorem Reps.dp {H : Hp} : ∀ {vs : List V} {ds : List D}, PyData.canLayAll0 (pys ds) = true → Reps K H vs ds → DpAll K H vs (pys ds)
  | _, _, _, .nil => by simp only [pys]; exact .nil
  | _, _, h, .cons r rs => by
    simp only [pys] at h ⊢
    rw [PyData.canLayAll0, Bool.and_eq_true] at h
    exact .cons (Rep.dp h.1 r) (Reps.dp h.2 rs)
end
def shapedD (d : D) : Bool := SeqAt.shaped (py d)
def eqD (d e : D) : Bool := PyData.eqv (py d) (py e)
theorem ov_eqD {x y : D} (hx : shapedD x = true) (hy : shapedD y = true) : OpV K (oEq K) x y (.bl (eqD x y)) := fun v w H Q r s q =>
  .inr ⟨py x, py y, r.dp (SeqAt.canLay_of_shaped hx), s.dp (SeqAt.canLay_of_shaped hy), hx, hy, q _ H (Same.refl H) .bl⟩
theorem ov_neD {x y : D} (hx : shapedD x = true) (hy : shapedD y = true) : OpV K (oNe K) x y (.bl (!eqD x y)) := fun v w H Q r s q =>
  .inr ⟨py x, py y, r.dp (SeqAt.canLay_of_shaped hx), s.dp (SeqAt.canLay_of_shaped hy), hx, hy, q _ H (Same.refl H) .bl⟩
def isNon : D → Bool
  | .non => true
  | _ => false
theorem ov_is {x : D} : OpV K oIs x .non (.bl (isNon x)) := fun v w H Q r s q => by
  cases s
  refine ⟨rfl, ?_⟩
  have e : decide (v = V.non) = isNon x := by cases r <;> simp [isNon]
  rw [e]
  exact q _ H (Same.refl H) .bl
theorem ov_isn {x : D} : OpV K oIsn x .non (.bl (!isNon x)) := fun v w H Q r s q => by
  cases s
  refine ⟨rfl, ?_⟩
  have e : decide (v = V.non) = isNon x := by cases r <;> simp [isNon]
  rw [e]
  exact q _ H (Same.refl H) .bl
theorem uv_neg {i : Int} : UnV K uNeg (.int i) (.int (-i)) := fun v H Q r q => by
  cases r
  exact ⟨i, rfl, q _ H (Same.refl H) .int⟩
theorem atI_map {α β : Type} (f : α → β) (xs : List α) (i : Int) : atI (xs.map f) i = (atI xs i).map f := by
  unfold atI
  rw [List.length_map]
  cases ixN xs.length i with
  | none => rfl
  | some j => show (xs.map f)[j]? = (xs[j]?).map f; rw [List.getElem?_map]
theorem atI_reps {H : Hp} {vs : List V} {i : Int} {d : D} (r : Reps K H vs ds) (h : atI ds i = some d) : ∃ v, atI vs i = some v ∧ Rep K H v d := by
  unfold atI at h ⊢
  rw [r.len]
  cases e : ixN ds.length i with
  | none => rw [e] at h; cases h
  | some j => rw [e] at h; exact r.at h
theorem ov_ixT {i : Int} {d : D} (h : atI xs i = some d) : OpV K (rIx K) (.tup xs) (.int i) d := fun v w H Q r s q => by
  cases s
  cases r with
  | tup h1 r1 =>
    obtain ⟨v, h2, h3⟩ := atI_reps r1 h
    exact .inr (.inl ⟨_, _, i, v, rfl, rfl, h1, h2, q _ H (Same.refl H) h3⟩)
theorem ov_ixL {i : Int} {d : D} (h : atI xs i = some d) : OpV K (rIx K) (.lst xs) (.int i) d := fun v w H Q r s q => by
  cases s
  cases r with
  | lst h1 r1 =>
    obtain ⟨v, h2, h3⟩ := atI_reps r1 h
    exact .inl ⟨_, _, i, v, rfl, rfl, .inl (.inl h1), h2, q _ H (Same.refl H) h3⟩
/-- a slice: lo and hi as Python takes them -/
def cutD (xs : List D) (lo hi : Option Int) : List D := (xs.drop (HT.sIx xs.length 0 lo)).take (HT.sIx xs.length xs.length hi - HT.sIx xs.length 0 lo)
theorem cut_reps {H : Hp} {vs : List V} {lo hi : Option Int} (r : Reps K H vs xs) : Reps K H (cutV vs lo hi) (cutD xs lo hi) := by
  unfold cutV cutD
  rw [r.len]
  exact (r.drop _).take _
theorem sv_T {lo hi : Option Int} : SlV K (oSl K) (.tup xs) lo hi (.tup (cutD xs lo hi)) := fun v H Q r q => by
  cases r with
  | tup h1 r1 =>
    refine .inl ⟨_, _, rfl, h1, fun hw => ?_, fun _ p hp => q _ _ (same_new hp) (.tup (.inl (.inl upd_same)) ((cut_reps r1).mono (same_new hp)))⟩
    have e : cutD xs lo hi = xs := by
      rw [r1.len] at hw
      unfold cutD
      rw [hw.1, hw.2, List.drop_zero]
      exact List.take_of_length_le (by omega)
    rw [e] at q
    exact q _ H (Same.refl H) (.tup h1 r1)
theorem sn_L {lo hi : Option Int} : SlN K (oSl K) (.lst xs) lo hi (cutD xs lo hi) := fun v H Q r q => by
  cases r with
  | lst h1 r1 => exact .inr (.inl ⟨_, _, rfl, .inl (.inl h1), fun p hp => q p _ _ (same_new hp) hp upd_same ((cut_reps r1).mono (same_new hp))⟩)
end

/-! ### built-in functions -/
def minL : List Int → Int
  | [] => 0
  | x :: xs => xs.foldl min x
def maxL : List Int → Int
  | [] => 0
  | x :: xs => xs.foldl max x
theorem foldl_min_le : ∀ (xs : List Int) (x : Int), xs.foldl min x ≤ x ∧ ∀ y ∈ xs, xs.foldl min x ≤ y
  | [], x => ⟨Int.le_refl _, fun _ h => nomatch h⟩
  | a :: xs, x => by
    obtain ⟨h1, h2⟩ := foldl_min_le xs (min x a)
    refine ⟨by show xs.foldl min (min x a) ≤ x; omega, fun y hy => ?_⟩
    show xs.foldl min (min x a) ≤ y
    rcases List.mem_cons.mp hy with rfl | hy
    · omega
    · exact h2 y hy
theorem foldl_min_mem : ∀ (xs : List Int) (x : Int), xs.foldl min x = x ∨ xs.foldl min x ∈ xs
  | [], x => .inl rfl
  | a :: xs, x => by
    show xs.foldl min (min x a) = x ∨ xs.foldl min (min x a) ∈ a :: xs
    rcases foldl_min_mem xs (min x a) with h | h
    · rw [h]
      by_cases hx : x ≤ a
      · exact .inl (by omega)
      · refine .inr ?_
        rw [show min x a = a by omega]
        exact List.mem_cons_self ..
    · exact .inr (List.mem_cons_of_mem _ h)
theorem foldl_max_le : ∀ (xs : List Int) (x : Int), x ≤ xs.foldl max x ∧ ∀ y ∈ xs, y ≤ xs.foldl max x
  | [], x => ⟨Int.le_refl _, fun _ h => nomatch h⟩
  | a :: xs, x => by
    obtain ⟨h1, h2⟩ := foldl_max_le xs (max x a)
    refine ⟨by show x ≤ xs.foldl max (max x a); omega, fun y hy => ?_⟩
    show y ≤ xs.foldl max (max x a)
    rcases List.mem_cons.mp hy with rfl | hy
    · omega
    · exact h2 y hy
theorem foldl_max_mem : ∀ (xs : List Int) (x : Int), xs.foldl max x = x ∨ xs.foldl max x ∈ xs
  | [], x => .inl rfl
  | a :: xs, x => by
    show xs.foldl max (max x a) = x ∨ xs.foldl max (max x a) ∈ a :: xs
    rcases foldl_max_mem xs (max x a) with h | h
    · rw [h]
      by_cases hx : a ≤ x
      · exact .inl (by omega)
      · refine .inr ?_
        rw [show max x a = a by omega]
        exact List.mem_cons_self ..
    · exact .inr (List.mem_cons_of_mem _ h)
theorem minL_le {ns : List Int} {y : Int} (h : y ∈ ns) : minL ns ≤ y := by
  cases ns with
  | nil => cases h
  | cons a xs =>
    obtain ⟨h1, h2⟩ := foldl_min_le xs a
    rcases List.mem_cons.mp h with rfl | h
    · exact h1
    · exact h2 y h
theorem minL_mem {ns : List Int} (h : ns ≠ []) : minL ns ∈ ns := by
  cases ns with
  | nil => exact absurd rfl h
  | cons a xs =>
    show xs.foldl min a ∈ a :: xs
    rcases foldl_min_mem xs a with e | e
    · rw [e]; exact List.mem_cons_self ..
    · exact List.mem_cons_of_mem _ e
theorem le_maxL {ns : List Int} {y : Int} (h : y ∈ ns) : y ≤ maxL ns := by
  cases ns with
  | nil => cases h
  | cons a xs =>
    obtain ⟨h1, h2⟩ := foldl_max_le xs a
    rcases List.mem_cons.mp h with rfl | h
    · exact h1
    · exact h2 y h
theorem maxL_mem {ns : List Int} (h : ns ≠ []) : maxL ns ∈ ns := by
  cases ns with
  | nil => exact absurd rfl h
  | cons a xs =>
    show xs.foldl max a ∈ a :: xs
    rcases foldl_max_mem xs a with e | e
    · rw [e]; exact List.mem_cons_self ..
    · exact List.mem_cons_of_mem _ e
theorem minL_eq {ns : List Int} {m : Int} (h1 : m ∈ ns) (h2 : ∀ y ∈ ns, m ≤ y) : minL ns = m := by
  have a := minL_le h1
  have b := h2 _ (minL_mem (List.ne_nil_of_mem h1))
  omega
theorem maxL_eq {ns : List Int} {m : Int} (h1 : m ∈ ns) (h2 : ∀ y ∈ ns, y ≤ m) : maxL ns = m := by
  have a := le_maxL h1
  have b := h2 _ (maxL_mem (List.ne_nil_of_mem h1))
  omega
section
variable (K : PySem.W.Frag)
abbrev BR := List V → Hp → VK → Prop
def bLen : BR := fun xs H Q => (∃ p ys, xs = [.ref p] ∧ (SqL K H p ys ∨ SqT K H p ys) ∧ Q (.int ys.length) H) ∨ ∃ z, xs = [.str z] ∧ z.length ≤ sizeLine ∧ Q (.int z.length) H
def bMin : BR := fun xs H Q => (∃ i j, xs = [.int i, .int j] ∧ Q (.int (if j < i then j else i)) H) ∨ rMin K xs H Q
def bMax : BR := fun xs H Q => (∃ i j, xs = [.int i, .int j] ∧ Q (.int (if j > i then j else i)) H) ∨ rMax K xs H Q
def bTuple : BR := fun xs H Q => ∃ p ys, xs = [.ref p] ∧ ((SqL K H p ys ∧ ∀ l, H l = none → Q (.ref l) (upd H l (.tup ys))) ∨ (SqT K H p ys ∧ Q (.ref p) H))
def bList : BR := fun xs H Q => ∃ p ys, xs = [.ref p] ∧ (SqL K H p ys ∨ SqT K H p ys) ∧ ∀ l, H l = none → Q (.ref l) (upd H l (.lst ys))
def bInt : BR := fun xs H Q => (∃ i, xs = [.int i] ∧ Q (.int i) H) ∨ ∃ k, xs = [.bl k] ∧ Q (.int (if k then 1 else 0)) H
def bAbs : BR := fun xs H Q => ∃ i, xs = [.int i] ∧ Q (.int (if i < 0 then -i else i)) H
def bIsi : BR := fun xs H Q => rIsi K xs H Q ∨ rIsiT K xs H Q
end
section
variable {X : Cx}
theorem cr_bLen : CallR X (.builtin "len") (bLen X.K) := CallR.or call_len_seq call_len_str
theorem cr_bMin (hc : X.calm = true) : CallR X (.builtin "min") (bMin X.K) := CallR.or (call_min2 hc) (cr_min hc)
theorem cr_bMax (hc : X.calm = true) : CallR X (.builtin "max") (bMax X.K) := CallR.or (call_max2 hc) (cr_max hc)
theorem cr_bTuple : CallR X (.type "tuple") (bTuple X.K) := call_tuple_of
theorem cr_bList : CallR X (.type "list") (bList X.K) := call_list_of
theorem cr_bInt : CallR X (.type "int") bInt := call_int1
theorem cr_bAbs : CallR X (.builtin "abs") bAbs := call_abs
theorem cr_bIsi : CallR X (.builtin "isinstance") (bIsi X.K) := CallR.or call_isi call_isiT
theorem cr_bSorted : CallR X (.builtin "sorted") (rSortedI X.K) := cr_sortedI
theorem cr_bSum (hc : X.calm = true) : CallR X (.builtin "sum") (rSum X.K) := cr_sum hc
theorem cr_bAll (hc : X.calm = true) : CallR X (.builtin "all") (rAll X.K) := cr_all hc
theorem cr_bAny (hc : X.calm = true) : CallR X (.builtin "any") (rAny X.K) := cr_any hc
end
section
variable {K : PySem.W.Frag} {xs ds : List D}
theorem cv_lenT : CbV K (bLen K) [.tup xs] (.int (xs.length : Nat)) := fun vs H Q r q => by
  cases r with
  | cons r rs =>
    cases rs
    cases r with
    | tup h r => exact .inl ⟨_, _, rfl, .inr h, by rw [r.len]; exact q _ H (Same.refl H) .int⟩
theorem cv_lenL : CbV K (bLen K) [.lst xs] (.int (xs.length : Nat)) := fun vs H Q r q => by
  cases r with
  | cons r rs =>
    cases rs
    cases r with
    | lst h r => exact .inl ⟨_, _, rfl, .inl (.inl (.inl h)), by rw [r.len]; exact q _ H (Same.refl H) .int⟩
theorem cv_lenS {z : Str} (h : z.length ≤ 1000000) : CbV K (bLen K) [.str z] (.int (z.length : Nat)) := fun vs H Q r q => by
  cases r with
  | cons r rs =>
    cases rs
    cases r
    exact .inr ⟨z, rfl, Nat.le_trans h (by decide), q _ H (Same.refl H) .int⟩
theorem cv_min2 {i j : Int} : CbV K (bMin K) [.int i, .int j] (.int (min i j)) := fun vs H Q r q => by
  cases r with
  | cons r rs => cases rs with
    | cons s ss =>
      cases ss; cases r; cases s
      refine .inl ⟨i, j, rfl, ?_⟩
      rw [show (if j < i then j else i) = min i j by split <;> omega]
      exact q _ H (Same.refl H) .int
theorem cv_max2 {i j : Int} : CbV K (bMax K) [.int i, .int j] (.int (max i j)) := fun vs H Q r q => by
  cases r with
  | cons r rs => cases rs with
    | cons s ss =>
      cases ss; cases r; cases s
      refine .inl ⟨i, j, rfl, ?_⟩
      rw [show (if j > i then j else i) = max i j by split <;> omega]
      exact q _ H (Same.refl H) .int
theorem cv_minL {ns : List Int} (h : ns ≠ []) : CbV K (bMin K) [.lst (ns.map .int)] (.int (minL ns)) := fun vs H Q r q => by
  cases r with
  | cons r rs =>
    cases rs
    cases r with
    | lst hp r =>
      cases reps_int_inv r
      refine .inr ⟨_, ns, rfl, .inl (.inl hp), List.length_pos_iff.mpr h, fun m h1 h2 => ?_⟩
      rw [← minL_eq h1 h2]
      exact q _ H (Same.refl H) .int
theorem cv_maxL {ns : List Int} (h : ns ≠ []) : CbV K (bMax K) [.lst (ns.map .int)] (.int (maxL ns)) := fun vs H Q r q => by
  cases r with
  | cons r rs =>
    cases rs
    cases r with
    | lst hp r =>
      cases reps_int_inv r
      refine .inr ⟨_, ns, rfl, .inl (.inl hp), List.length_pos_iff.mpr h, fun m h1 h2 => ?_⟩
      rw [← maxL_eq h1 h2]
      exact q _ H (Same.refl H) .int
theorem cv_tupleL : CbV K (bTuple K) [.lst xs] (.tup xs) := fun vs H Q r q => by
  cases r with
  | cons r rs =>
    cases rs
    cases r with
    | lst hp r => exact ⟨_, _, rfl, .inl ⟨.inl (.inl hp), fun l hl => q _ _ (same_new hl) (.tup (.inl (.inl upd_same)) (r.mono (same_new hl)))⟩⟩
theorem cv_tupleT : CbV K (bTuple K) [.tup xs] (.tup xs) := fun vs H Q r q => by
  cases r with
  | cons r rs =>
    cases rs
    cases r with
    | tup hp r => exact ⟨_, _, rfl, .inr ⟨hp, q _ H (Same.refl H) (.tup hp r)⟩⟩
theorem cn_listL : CbN K (bList K) [.lst xs] xs := fun vs H Q r q => by
  cases r with
  | cons r rs =>
    cases rs
    cases r with
    | lst hp r => exact ⟨_, _, rfl, .inl (.inl (.inl hp)), fun l hl => q _ _ _ (same_new hl) hl upd_same (r.mono (same_new hl))⟩
theorem cn_listT : CbN K (bList K) [.tup xs] xs := fun vs H Q r q => by
  cases r with
  | cons r rs =>
    cases rs
    cases r with
    | tup hp r => exact ⟨_, _, rfl, .inr hp, fun l hl => q _ _ _ (same_new hl) hl upd_same (r.mono (same_new hl))⟩
theorem cv_intI {i : Int} : CbV K bInt [.int i] (.int i) := fun vs H Q r q => by
  cases r with
  | cons r rs => cases rs; cases r; exact .inl ⟨i, rfl, q _ H (Same.refl H) .int⟩
theorem cv_intB {b : Bool} : CbV K bInt [.bl b] (.int (if b then 1 else 0)) := fun vs H Q r q => by
  cases r with
  | cons r rs => cases rs; cases r; exact .inr ⟨b, rfl, q _ H (Same.refl H) .int⟩
theorem cv_abs {i : Int} : CbV K bAbs [.int i] (.int (if i < 0 then -i else i)) := fun vs H Q r q => by
  cases r with
  | cons r rs => cases rs; cases r; exact ⟨i, rfl, q _ H (Same.refl H) .int⟩
theorem cv_sum {ns : List Int} : CbV K (rSum K) [.lst (ns.map .int)] (.int ns.sum) := fun vs H Q r q => by
  cases r with
  | cons r rs =>
    cases rs
    cases r with
    | lst hp r => cases reps_int_inv r; exact ⟨_, ns, rfl, .inl (.inl hp), q _ H (Same.refl H) .int⟩
theorem cv_all {bs : List Bool} : CbV K (rAll K) [.lst (bs.map .bl)] (.bl (bs.all id)) := fun vs H Q r q => by
  cases r with
  | cons r rs =>
    cases rs
    cases r with
    | lst hp r => cases reps_bl_inv r; exact ⟨_, bs, rfl, .inl (.inl hp), q _ H (Same.refl H) .bl⟩
theorem cv_any {bs : List Bool} : CbV K (rAny K) [.lst (bs.map .bl)] (.bl (bs.any id)) := fun vs H Q r q => by
  cases r with
  | cons r rs =>
    cases rs
    cases r with
    | lst hp r => cases reps_bl_inv r; exact ⟨_, bs, rfl, .inl (.inl hp), q _ H (Same.refl H) .bl⟩
/-- sorted of ints: the one ascending arrangement -/
def sortI (ns : List Int) : List Int := ns.mergeSort fun a b => decide (a ≤ b)
theorem sortI_perm (ns : List Int) : (sortI ns).Perm ns := List.mergeSort_perm ns _
theorem sortI_le (ns : List Int) : (sortI ns).Pairwise (· ≤ ·) := by
  have h := List.pairwise_mergeSort (le := fun a b : Int => decide (a ≤ b)) (fun a b c h1 h2 => by simp at *; omega) (fun a b => by simp; omega) ns
  exact h.imp fun h => by simpa using h
theorem sorted_unique : ∀ {as bs : List Int}, as.Perm bs → as.Pairwise (· ≤ ·) → bs.Pairwise (· ≤ ·) → as = bs
  | [], bs, p, _, _ => by rw [List.nil_perm.mp p]
  | a :: as, [], p, _, _ => by simpa using p.symm.nil_eq
  | a :: as, b :: bs, p, h1, h2 => by
    have e : a = b := by
      have ha : a ∈ b :: bs := p.subset (List.mem_cons_self ..)
      have hb : b ∈ a :: as := p.symm.subset (List.mem_cons_self ..)
      rcases List.mem_cons.mp ha with e | ha
      · exact e
      · rcases List.mem_cons.mp hb with e | hb
        · exact e.symm
        · have q1 := (List.pairwise_cons.mp h1).1 b hb
          have q2 := (List.pairwise_cons.mp h2).1 a ha
          exact Int.le_antisymm q1 q2
    subst e
    rw [sorted_unique (List.Perm.cons_inv p) (List.pairwise_cons.mp h1).2 (List.pairwise_cons.mp h2).2]
theorem cn_sorted {ns : List Int} : CbN K (rSortedI K) [.lst (ns.map .int)] ((sortI ns).map .int) := fun vs H Q r q => by
  cases r with
  | cons r rs =>
    cases rs
    cases r with
    | lst hp r =>
      cases reps_int_inv r
      refine ⟨_, ns, rfl, .inl (.inl hp), fun ns' p h1 h2 h3 => ?_⟩
      rw [sorted_unique (h1.trans (sortI_perm ns).symm) h2 (sortI_le ns)]
      exact q p _ _ (same_new h3) h3 upd_same (reps_int _)
/-- the built-in class of a value -/
def tyD : D → Option String
  | .non => some "NoneType"
  | .bl _ => some "bool"
  | .int _ => some "int"
  | .str _ => some "str"
  | .tup _ => some "tuple"
  | .lst _ => some "list"
  | _ => none
theorem rep_ty {H : Hp} {v : V} {d : D} {t : String} (r : Rep K H v d) (h : tyD d = some t) : TyX K H v (.type t) := by
  cases r <;> simp [tyD] at h <;> subst h
  · exact .base .non
  · exact .base (.bl _)
  · exact .base (.int _)
  · exact .base (.str _)
  · rename_i hs _
    rcases hs with (hs | ⟨o, hs⟩) | ⟨o, its, n, e, c, _⟩
    · exact .base (.tup hs)
    · exact .fTuple hs
    · exact .kTuple e c
  · rename_i hs _
    exact .base (.lst hs)
theorem cv_isi {d : D} {t n : String} {b : Bool} (h : tyD d = some t) (hk : kitB t n = some b) : CbV K (bIsi K) [d, .ty n] (.bl b) := fun vs H Q r q => by
  cases r with
  | cons r rs => cases rs with
    | cons s ss =>
      cases ss; cases s
      exact .inl ⟨_, _, .type t, .type n, b, rfl, .ty n, rep_ty r h, kit_ty hk, q _ H (Same.refl H) .bl⟩
end
end Q

/-! Statements by deep values; defs' promises by deep values. F: what stays as it is; M: the objects that change. -/
namespace Q
open PySem PySem.Spec PyProof.Rows L2

abbrev dom (M : Mem) : List Addr := M.map (·.1)
structure Sat (K : PySem.W.Frag) (Γ : Gm) (M : Mem) (σ : L2.St) (F H : Hp) : Prop where
  ex : Same F H
  sr : SatR K Γ σ F
  mem : ∀ p ∈ M, F p.1 = none ∧ ∃ o, H p.1 = some o ∧ MRep K F o p.2
  nd : (dom M).Nodup
section
variable {K : PySem.W.Frag} {Γ Γ' Γr : Gm} {M M' : Mem} {σ : L2.St} {F F' H H' : Hp}
theorem Sat.muts (S : Sat K Γ M σ F H) : ∀ b ∈ dom M, ∃ o, H b = some o ∧ isMut o = true := fun b hb => by
  obtain ⟨p, hp, rfl⟩ := List.mem_map.mp hb
  obtain ⟨_, o, h1, h2⟩ := S.mem p hp
  exact ⟨o, h1, h2.mut⟩
theorem Sat.out (S : Sat K Γ M σ F H) : ∀ b ∈ dom M, F b = none := fun b hb => by
  obtain ⟨p, hp, rfl⟩ := List.mem_map.mp hb
  exact (S.mem p hp).1
theorem Sat.grow (S : Sat K Γ M σ F H) (e : Same H H') : Sat K Γ M σ F H' :=
  ⟨S.ex.trans e, S.sr, fun p hp => let ⟨h1, o, h2, h3⟩ := S.mem p hp; ⟨h1, o, e _ _ h2, h3⟩, S.nd⟩
/-- all but the objects that change is taken to stay -/
theorem Sat.sub (S : Sat K Γ M σ F H) : Same F (cut (dom M) H) := fun a o h => by
  by_cases hm : a ∈ dom M
  · rw [S.out a hm] at h; cases h
  · rw [cut_out hm]; exact S.ex a o h
theorem Sat.fix (S : Sat K Γ M σ F H) : Sat K Γ M σ (cut (dom M) H) H :=
  ⟨cut_same _ _, S.sr.mono S.sub, fun p hp => let ⟨h1, o, h2, h3⟩ := S.mem p hp; ⟨cut_in (List.mem_map.mpr ⟨p, hp, rfl⟩), o, h2, h3.mono S.sub⟩, S.nd⟩
theorem Sat.rep (S : Sat K Γ M σ F H) {v : V} {d : D} (n : noL d = true) (r : Rep K H v d) : Rep K (cut (dom M) H) v d := r.cutM S.muts n
theorem Sat.reps (S : Sat K Γ M σ F H) {v : List V} {d : List D} (n : noLs d = true) (r : Reps K H v d) : Reps K (cut (dom M) H) v d := r.cutM S.muts n
theorem Sat.set (S : Sat K Γ M σ F H) {v : V} {d : D} (i : Nat) (r : Rep K F v d) : Sat K (Γ.set i (some d)) M (σ.set i (some v)) F H := ⟨S.ex, S.sr.set i r, S.mem, S.nd⟩
/-- a new object, known from now on as one that changes -/
theorem Sat.new (S : Sat K Γ M σ F H) {p : Addr} {o : HO} {m : MO} (hp : F p = none) (hm : p ∉ dom M) (h : H p = some o) (r : MRep K F o m) : Sat K Γ ((p, m) :: M) σ F H :=
  ⟨S.ex, S.sr, fun q hq => by
    rcases List.mem_cons.mp hq with rfl | hq
    · exact ⟨hp, o, h, r⟩
    · exact S.mem q hq, List.nodup_cons.mpr ⟨hm, S.nd⟩⟩
theorem Sat.env {Γ' : Gm} (S : Sat K Γ M σ F H) {σ' : L2.St} (s : SatR K Γ' σ' F) : Sat K Γ' M σ' F H := ⟨S.ex, s, S.mem, S.nd⟩
theorem dom_set {k : Nat} {p : Addr} {m m' : MO} (h : M[k]? = some (p, m)) : dom (M.set k (p, m')) = dom M := by
  obtain ⟨hk, e⟩ := List.getElem?_eq_some_iff.mp h
  apply List.ext_getElem?
  intro i
  rw [List.getElem?_map, List.getElem?_map]
  by_cases hi : k = i
  · subst hi
    rw [List.getElem?_set_self hk, h]; rfl
  · rw [List.getElem?_set_ne hi]
/-- an object written -/
theorem Sat.write (S : Sat K Γ M σ F H) {k : Nat} {p : Addr} {m m' : MO} {o : HO} (hk : M[k]? = some (p, m)) (r : MRep K F o m') : Sat K Γ (M.set k (p, m')) σ F (upd H p o) := by
  have hp : p ∈ dom M := List.mem_map.mpr ⟨(p, m), List.mem_of_getElem? hk, rfl⟩
  have hF := S.out p hp
  refine ⟨fun a u e => by rw [upd_ne (ne_of_none e hF)]; exact S.ex a u e, S.sr, fun q hq => ?_, by rw [dom_set hk]; exact S.nd⟩
  obtain ⟨i, hi⟩ := List.mem_iff_getElem?.mp hq
  by_cases h : k = i
  · subst h
    rw [List.getElem?_set_self (List.getElem?_eq_some_iff.mp hk).1] at hi
    cases hi
    exact ⟨hF, o, upd_same, r⟩
  · rw [List.getElem?_set_ne h] at hi
    obtain ⟨h1, u, h2, h3⟩ := S.mem q (List.mem_of_getElem? hi)
    refine ⟨h1, u, ?_, h3⟩
    rw [upd_ne]
    · exact h2
    · intro e
      apply h
      have a1 : (dom M)[k]? = some p := by rw [List.getElem?_map, hk]; rfl
      have a2 : (dom M)[i]? = some p := by rw [List.getElem?_map, hi, ← e]; rfl
      exact nd_ix S.nd a1 a2
/-- how a slot's value is read: an object that changes as the list that it is now -/
inductive Vw (M : Mem) : Gm → Gm → Prop
  | nil : Vw M [] []
  | keep {x : Option D} {Γ Γr : Gm} : Vw M Γ Γr → Vw M (x :: Γ) (x :: Γr)
  | adr {p : Addr} {ds : List D} {Γ Γr : Gm} (k : Nat) (h : M[k]? = some (p, .lst ds)) : Vw M Γ Γr → Vw M (some (.adr p) :: Γ) (some (.lst ds) :: Γr)
theorem Vw.self : ∀ {Γ : Gm}, Vw M Γ Γ
  | [] => .nil
  | _ :: _ => .keep Vw.self
theorem Vw.read (S : Sat K Γ M σ F H) : ∀ {Γ Γr : Gm}, Vw M Γ Γr → ∀ {σ : L2.St}, SatR K Γ σ F → SatR K Γr σ H
  | _, _, .nil, σ, s => ⟨s.len, fun i d h => by simp at h⟩
  | _, _, .keep w, [], s => by have := s.len; simp at this
  | _, _, .keep (x := x) (Γ := Γ) (Γr := Γr) w, v :: σ, s => by
    have q := Vw.read S w (σ := σ) ⟨by have := s.len; simpa using this, fun i d h => s.env (i + 1) d h⟩
    refine ⟨by simpa using q.len, fun i d h => ?_⟩
    cases i with
    | zero =>
      obtain ⟨u, h1, h2⟩ := s.env 0 d h
      exact ⟨u, h1, h2.mono S.ex⟩
    | succ i => exact q.env i d h
  | _, _, .adr k hk w, [], s => by have := s.len; simp at this
  | _, _, .adr (p := p) (ds := ds) (Γ := Γ) (Γr := Γr) k hk w, v :: σ, s => by
    have q := Vw.read S w (σ := σ) ⟨by have := s.len; simpa using this, fun i d h => s.env (i + 1) d h⟩
    refine ⟨by simpa using q.len, fun i d h => ?_⟩
    cases i with
    | zero =>
      obtain ⟨u, h1, h2⟩ := s.env 0 _ rfl
      have e : D.lst ds = d := by simpa using h
      subst e
      cases h2
      obtain ⟨_, o, h3, vs, rfl, h4⟩ := S.mem _ (List.mem_of_getElem? hk)
      exact ⟨_, h1, .lst h3 (h4.mono S.ex)⟩
    | succ i => exact q.env i d h
theorem Sat.view (S : Sat K Γ M σ F H) (w : Vw M Γ Γr) : SatR K Γr σ H := Vw.read S w S.sr
/-- Γ0 says no more than Γ -/
def Le : Gm → Gm → Prop
  | [], [] => True
  | none :: a, _ :: b => Le a b
  | some d :: a, e :: b => e = some d ∧ Le a b
  | _, _ => False
theorem Le.refl : ∀ Γ : Gm, Le Γ Γ
  | [] => trivial
  | none :: a => Le.refl a
  | some _ :: a => ⟨rfl, Le.refl a⟩
theorem Le.sat : ∀ {Γ0 Γ : Gm} {σ : L2.St}, Le Γ0 Γ → SatR K Γ σ F → SatR K Γ0 σ F
  | [], [], _, _, s => s
  | none :: a, _ :: b, [], h, s => by have := s.len; simp at this
  | none :: a, y :: b, v :: σ, h, s => by
    have q := Le.sat (σ := σ) (show Le a b from h) ⟨by have := s.len; simpa using this, fun i d h => s.env (i + 1) d h⟩
    refine ⟨by simpa using q.len, fun i d h => ?_⟩
    cases i with
    | zero => simp at h
    | succ i => exact q.env i d h
  | some d :: a, _ :: b, [], h, s => by have := s.len; simp at this
  | some d :: a, y :: b, v :: σ, h, s => by
    have q := Le.sat (σ := σ) h.2 ⟨by have := s.len; simpa using this, fun i d h => s.env (i + 1) d h⟩
    refine ⟨by simpa using q.len, fun i e he => ?_⟩
    cases i with
    | zero =>
      have z : d = e := by simpa using he
      subst z
      exact s.env 0 d (by rw [h.1]; rfl)
    | succ i => exact q.env i e he
end

structure En2 where
  nx : Gm → Mem → Prop
  rt : D → Mem → Prop
  bk : Gm → Mem → Prop := fun _ _ => False
  ct : Gm → Mem → Prop := fun _ _ => False
/-- the ends D do what B says, from F on -/
structure Ct (K : PySem.W.Frag) (B : En2) (F : Hp) (E : Ends) : Prop where
  nx : ∀ Γ M σ F' H, B.nx Γ M → Same F F' → Sat K Γ M σ F' H → E.nx σ H
  rt : ∀ d M Γ σ v F' H, B.rt d M → Same F F' → Sat K Γ M σ F' H → Rep K H v d → E.rt v H
  bk : ∀ Γ M σ F' H, B.bk Γ M → Same F F' → Sat K Γ M σ F' H → E.bk σ H
  ct : ∀ Γ M σ F' H, B.ct Γ M → Same F F' → Sat K Γ M σ F' H → E.ct σ H
def Xs (K : PySem.W.Frag) (t : TS) (Γ : Gm) (M : Mem) (B : En2) : Prop := ∀ (E : Ends) (σ : L2.St) (F H : Hp), Sat K Γ M σ F H → Ct K B F E → t E σ H
/-- an expression that may change the objects of M -/
def Es (K : PySem.W.Frag) (te : TE) (Γ : Gm) (M : Mem) (d : D) (M' : Mem) : Prop := ∀ (σ : L2.St) (F H : Hp), Sat K Γ M σ F H → ∀ Q : VK, (∀ v F' H', Same F F' → Sat K Γ M' σ F' H' → Rep K F' v d → Q v H') → te σ H Q
def Eas (K : PySem.W.Frag) (te : TA) (Γ : Gm) (M : Mem) (d : List D) (M' : Mem) : Prop := ∀ (σ : L2.St) (F H : Hp), Sat K Γ M σ F H → ∀ Q : List V → Hp → Prop, (∀ v F' H', Same F F' → Sat K Γ M' σ F' H' → Reps K F' v d → Q v H') → te σ H Q
def Ets (K : PySem.W.Frag) (te : TT) (Γ : Gm) (M : Mem) (b : Bool) (M' : Mem) : Prop := ∀ (σ : L2.St) (F H : Hp), Sat K Γ M σ F H → ∀ Q : Bool → Hp → Prop, (∀ F' H', Same F F' → Sat K Γ M' σ F' H' → Q b H') → te σ H Q
section
variable {K : PySem.W.Frag} {Γ Γ' Γr : Gm} {M M' M1 M2 : Mem} {B : En2} {t u : TS} {tc td : TT} {te ta tb : TE} {d x y z : D} {ds es : List D} {b : Bool} {i : Nat}
theorem Ct.mono {F F' : Hp} {E : Ends} (c : Ct K B F E) (e : Same F F') : Ct K B F' E :=
  ⟨fun Γ M σ G H h s => c.nx Γ M σ G H h (e.trans s), fun d M Γ σ v G H h s => c.rt d M Γ σ v G H h (e.trans s), fun Γ M σ G H h s => c.bk Γ M σ G H h (e.trans s), fun Γ M σ G H h s => c.ct Γ M σ G H h (e.trans s)⟩
theorem xs_seq (h : Xs K t Γ M { B with nx := fun Γ' M' => Xs K u Γ' M' B }) : Xs K (tSeq t u) Γ M B := fun E σ F H S c =>
  h _ σ F H S ⟨fun Γ' M' σ' F' H' hx s S' => hx E σ' F' H' S' (c.mono s), c.rt, c.bk, c.ct⟩
theorem xs_next (h : B.nx Γ M) : Xs K tNext Γ M B := fun E σ F H S c => c.nx Γ M σ F H h (Same.refl F) S
theorem xs_brk (h : B.bk Γ M) : Xs K tBreak Γ M B := fun E σ F H S c => c.bk Γ M σ F H h (Same.refl F) S
theorem xs_cont (h : B.ct Γ M) : Xs K tCont Γ M B := fun E σ F H S c => c.ct Γ M σ F H h (Same.refl F) S
theorem xs_weak (w : Le Γ' Γ) (h : Xs K t Γ' M B) : Xs K t Γ M B := fun E σ F H S c => h E σ F H (S.env (w.sat S.sr)) c
/-- what a pure expression leaves -/
theorem es_pure (w : Vw M Γ Γr) (h : Ed K te Γr d) (n : noL d = true) : Es K te Γ M d M := fun σ F H S Q q =>
  h σ H (S.view w) Q fun v H' e r => q v _ H' (S.sub.trans (cut_mono e)) ((S.grow e).fix) ((S.grow e).rep n r)
theorem es_var {i : Nat} (h : Γ[i]? = some (some d)) : Es K (tVar i) Γ M d M := fun σ F H S Q q => by
  obtain ⟨v, h1, h2⟩ := S.sr.env i d h
  exact ⟨v, h1, q v F H (Same.refl F) S h2⟩
theorem es_any (h : Ed K te Γ d) : Es K te Γ [] d [] := fun σ F H S Q q =>
  h σ H (S.sr.mono S.ex) Q fun v H' e r => q v H' H' (S.ex.trans e) ⟨Same.refl _, S.sr.mono (S.ex.trans e), (fun _ h => nomatch h), List.nodup_nil⟩ r
theorem es_new (w : Vw M Γ Γr) (h : En K te Γr ds) (n : noLs ds = true) : Es K te Γ M (.lst ds) M := fun σ F H S Q q =>
  h σ H (S.view w) Q fun p H' vs e hp hp' r => q _ _ H' (S.sub.trans (cut_mono e)) ((S.grow e).fix) (.lst (by
    rw [cut_out]
    · exact hp'
    · intro hm
      obtain ⟨o, ho, _⟩ := S.muts p hm
      rw [hp] at ho; cases ho) ((S.grow e).reps n r))
theorem ets_pure (w : Vw M Γ Γr) (h : Et K tc Γr b) : Ets K tc Γ M b M := fun σ F H S Q q =>
  h σ H (S.view w) Q fun H' e => q F H' (Same.refl F) (S.grow e)
/-! ### assignments -/
theorem xs_asgS {g : TG} {T : Tg} (h : Es K te Γ M d M') (hg : Gt K g T) (hb : bindT T d Γ = some Γ') (q : B.nx Γ' M') : Xs K (tAsg te g) Γ M B := fun E σ F H S c =>
  h σ F H S _ fun v F' H' e S' r => hg v d σ F' H' Γ Γ' S'.ex S'.sr r hb _ fun σ' s' _ => c.nx _ _ σ' F' H' q e (S'.env s')
theorem xs_setS {i : Nat} (h : Es K te Γ M d M') (q : B.nx (Γ.set i (some d)) M') : Xs K (tAsg te (gName i)) Γ M B := xs_asgS h gt_nm (by simp only [bindT]) q
theorem xs_set {i : Nat} (w : Vw M Γ Γr) (h : Ed K te Γr d) (n : noL d = true) (q : B.nx (Γ.set i (some d)) M) : Xs K (tAsg te (gName i)) Γ M B := xs_setS (es_pure w h n) q
theorem xs_setN {i : Nat} (w : Vw M Γ Γr) (h : En K te Γr ds) (n : noLs ds = true) (q : B.nx (Γ.set i (some (.lst ds))) M) : Xs K (tAsg te (gName i)) Γ M B := xs_setS (es_new w h n) q
theorem xs_setA {i : Nat} (h : Ed K te Γ d) (q : B.nx (Γ.set i (some d)) []) : Xs K (tAsg te (gName i)) Γ [] B := xs_setS (es_any h) q
/-- a new list that will change -/
theorem xs_setM {i : Nat} (w : Vw M Γ Γr) (h : En K te Γr ds) (n : noLs ds = true) (q : ∀ p, B.nx (Γ.set i (some (.adr p))) ((p, .lst ds) :: M)) : Xs K (tAsg te (gName i)) Γ M B := fun E σ F H S c =>
  h σ H (S.view w) _ fun p H' vs e hp hp' r => by
    have S1 := S.grow e
    have hm : p ∉ dom M := fun hm => by
      obtain ⟨o, ho, _⟩ := S.muts p hm
      rw [hp] at ho; cases ho
    have nF : ∀ b ∈ dom M, b ≠ p := fun b hb z => hm (z ▸ hb)
    have muts : ∀ b ∈ p :: dom M, ∃ o, H' b = some o ∧ isMut o = true := fun b hb => by
      rcases List.mem_cons.mp hb with rfl | hb
      · exact ⟨_, hp', rfl⟩
      · exact S1.muts b hb
    have sub : Same F (cut (p :: dom M) H') := fun a o ha => by
      have h1 : a ≠ p := ne_of_none (S.ex a o ha) hp
      have h2 : a ∉ dom M := fun z => by rw [S.out a z] at ha; cases ha
      rw [cut_out (by simp [h1]; exact fun x z => h2 (List.mem_map.mpr ⟨(a, x), z, rfl⟩))]
      exact S1.ex a o ha
    have S2 : Sat K Γ ((p, .lst ds) :: M) σ (cut (p :: dom M) H') H' := ⟨cut_same _ _, S.sr.mono sub, fun z hz => by
      rcases List.mem_cons.mp hz with rfl | hz
      · exact ⟨cut_in (List.mem_cons_self ..), _, hp', vs, rfl, r.cutM muts n⟩
      · obtain ⟨h1, o, h2, h3⟩ := S1.mem z hz
        exact ⟨cut_in (List.mem_cons_of_mem _ (List.mem_map.mpr ⟨z, hz, rfl⟩)), o, h2, h3.mono sub⟩, List.nodup_cons.mpr ⟨hm, S.nd⟩⟩
    exact c.nx _ _ _ _ H' (q p) sub (S2.set i .adr)
theorem xs_drop (w : Vw M Γ Γr) (h : Ed K te Γr d) (q : B.nx Γ M) : Xs K (tDrop te) Γ M B := fun E σ F H S c =>
  h σ H (S.view w) _ fun v H' e r => c.nx Γ M σ F H' q (Same.refl F) (S.grow e)
theorem xs_dropS (h : Es K te Γ M d M') (q : B.nx Γ M') : Xs K (tDrop te) Γ M B := fun E σ F H S c =>
  h σ F H S _ fun v F' H' e S' r => c.nx Γ M' σ F' H' q e S'
theorem xs_ret (w : Vw M Γ Γr) (h : Ed K te Γr d) (q : B.rt d M) : Xs K (tRet te) Γ M B := fun E σ F H S c =>
  h σ H (S.view w) _ fun v H' e r => c.rt d M Γ σ v F H' q (Same.refl F) (S.grow e) r
theorem xs_retS (h : Es K te Γ M d M') (q : B.rt d M') : Xs K (tRet te) Γ M B := fun E σ F H S c =>
  h σ F H S _ fun v F' H' e S' r => c.rt d M' Γ σ v F' H' q e S' (r.mono S'.ex)
theorem xs_retN (q : B.rt .non M) : Xs K tRetN Γ M B := fun E σ F H S c => c.rt .non M Γ σ .non F H q (Same.refl F) S .non
/-- a new list handed back -/
theorem xs_retL (w : Vw M Γ Γr) (h : En K te Γr ds) (n : noLs ds = true) (q : ∀ p, B.rt (.adr p) ((p, .lst ds) :: M)) : Xs K (tRet te) Γ M B := fun E σ F H S c => by
  have h' : Xs K (tAsg te (gName Γ.length)) Γ M { B with nx := fun Γ' M' => ∃ p, M' = (p, .lst ds) :: M ∧ False } → True := fun _ => trivial
  exact h σ H (S.view w) _ fun p H' vs e hp hp' r => by
    have S1 := S.grow e
    have hm : p ∉ dom M := fun hm => by
      obtain ⟨o, ho, _⟩ := S.muts p hm
      rw [hp] at ho; cases ho
    have muts : ∀ b ∈ p :: dom M, ∃ o, H' b = some o ∧ isMut o = true := fun b hb => by
      rcases List.mem_cons.mp hb with rfl | hb
      · exact ⟨_, hp', rfl⟩
      · exact S1.muts b hb
    have sub : Same F (cut (p :: dom M) H') := fun a o ha => by
      have h1 : a ≠ p := ne_of_none (S.ex a o ha) hp
      have h2 : a ∉ dom M := fun z => by rw [S.out a z] at ha; cases ha
      rw [cut_out (by simp [h1]; exact fun x z => h2 (List.mem_map.mpr ⟨(a, x), z, rfl⟩))]
      exact S1.ex a o ha
    have S2 : Sat K Γ ((p, .lst ds) :: M) σ (cut (p :: dom M) H') H' := ⟨cut_same _ _, S.sr.mono sub, fun z hz => by
      rcases List.mem_cons.mp hz with rfl | hz
      · exact ⟨cut_in (List.mem_cons_self ..), _, hp', vs, rfl, r.cutM muts n⟩
      · obtain ⟨h1, o, h2, h3⟩ := S1.mem z hz
        exact ⟨cut_in (List.mem_cons_of_mem _ (List.mem_map.mpr ⟨z, hz, rfl⟩)), o, h2, h3.mono sub⟩, List.nodup_cons.mpr ⟨hm, S.nd⟩⟩
    exact c.rt _ _ Γ σ _ _ H' (q p) sub S2 .adr
theorem xs_if (w : Vw M Γ Γr) (h : Et K tc Γr b) (h1 : b = true → Xs K t Γ M B) (h2 : b = false → Xs K u Γ M B) : Xs K (tIfS tc t u) Γ M B := fun E σ F H S c =>
  h σ H (S.view w) _ fun H' e => by
    cases b with
    | true => exact h1 rfl E σ F H' (S.grow e) c
    | false => exact h2 rfl E σ F H' (S.grow e) c
theorem xs_ifS (h : Ets K tc Γ M b M') (h1 : b = true → Xs K t Γ M' B) (h2 : b = false → Xs K u Γ M' B) : Xs K (tIfS tc t u) Γ M B := fun E σ F H S c =>
  h σ F H S _ fun F' H' e S' => by
    cases b with
    | true => exact h1 rfl E σ F' H' S' (c.mono e)
    | false => exact h2 rfl E σ F' H' S' (c.mono e)
/-! ### objects that change -/
theorem xs_app {i k : Nat} {p : Addr} {xs : List D} (hi : Γ[i]? = some (some (.adr p))) (hk : M[k]? = some (p, .lst xs)) (w : Vw M Γ Γr) (h : Ed K te Γr d) (n : noL d = true) (hz : xs.length < 100000)
    (q : B.nx Γ (M.set k (p, .lst (xs ++ [d])))) : Xs K (tDrop (tBM K "list" rAppend (tVar i) (tCons te tNil))) Γ M B := fun E σ F H S c => by
  obtain ⟨v, h1, h2⟩ := S.sr.env i _ hi
  cases h2
  obtain ⟨hF, o, ho, vs, rfl, rs⟩ := S.mem _ (List.mem_of_getElem? hk)
  refine ⟨_, h1, .inl ⟨rfl, vs, .inl (.inl ho)⟩, h σ H (S.view w) _ fun u H' e r => ⟨p, vs, u, rfl, rfl, e _ _ ho, by rw [rs.len]; exact sz5l hz, ?_⟩⟩
  have S1 := (S.grow e).fix
  exact c.nx _ _ σ _ _ q (S.sub.trans (cut_mono e)) (S1.write hk ⟨_, rfl, (rs.mono (S.sub.trans (cut_mono e))).app (.cons ((S.grow e).rep n r) .nil)⟩)
theorem xs_appS {i k : Nat} {p : Addr} {xs : List D} (hi : Γ[i]? = some (some (.adr p))) (hk0 : ∃ ys, M[k]? = some (p, .lst ys)) (h : Es K te Γ M d M') (hk : M'[k]? = some (p, .lst xs)) (hz : xs.length < 100000)
    (q : B.nx Γ (M'.set k (p, .lst (xs ++ [d])))) : Xs K (tDrop (tBM K "list" rAppend (tVar i) (tCons te tNil))) Γ M B := fun E σ F H S c => by
  obtain ⟨v, h1, h2⟩ := S.sr.env i _ hi
  cases h2
  obtain ⟨ys, hk0⟩ := hk0
  obtain ⟨hF0, o0, ho0, vs0, rfl, rs0⟩ := S.mem _ (List.mem_of_getElem? hk0)
  refine ⟨_, h1, .inl ⟨rfl, vs0, .inl (.inl ho0)⟩, h σ F H S _ fun u F' H' e S' r => ?_⟩
  obtain ⟨hF, o, ho, vs, rfl, rs⟩ := S'.mem _ (List.mem_of_getElem? hk)
  exact ⟨p, vs, u, rfl, rfl, ho, by rw [rs.len]; exact sz5l hz, c.nx _ _ σ _ _ q e (S'.write hk ⟨_, rfl, rs.app (.cons r .nil)⟩)⟩
theorem ixN_reps {H : Hp} {vs : List V} {xs : List D} {j : Int} (r : Reps K H vs xs) : ixN vs.length j = ixN xs.length j := by rw [r.len]
theorem xs_setI {i k m : Nat} {p : Addr} {xs : List D} {j : Int} {tj : TE} (hi : Γ[i]? = some (some (.adr p))) (hk : M[k]? = some (p, .lst xs)) (w : Vw M Γ Γr) (h : Ed K te Γr d) (n : noL d = true) (hj : Ed K tj Γr (.int j)) (hm : ixN xs.length j = some m)
    (q : B.nx Γ (M.set k (p, .lst (xs.set m d)))) : Xs K (tAsg te (gSub (tVar i) tj rSetL)) Γ M B := fun E σ F H S c => by
  obtain ⟨v, h1, h2⟩ := S.sr.env i _ hi
  cases h2
  obtain ⟨hF, o, ho, vs, rfl, rs⟩ := S.mem _ (List.mem_of_getElem? hk)
  refine h σ H (S.view w) _ fun u H' e r => ⟨_, h1, hj σ H' ((S.grow e).view w) _ fun u2 H2 e2 r2 => ?_⟩
  cases r2
  have e3 := e.trans e2
  refine ⟨p, vs, j, m, rfl, rfl, e3 _ _ ho, by rw [ixN_reps rs]; exact hm, ?_⟩
  have S1 := (S.grow e3).fix
  exact c.nx _ _ σ _ _ q (S.sub.trans (cut_mono e3)) (S1.write hk ⟨_, rfl, (rs.mono (S.sub.trans (cut_mono e3))).set m ((S.grow e3).rep n (r.mono e2))⟩)
/-! ### loops -/
def Il (K : PySem.W.Frag) (wi : TI) (Γ : Gm) (M : Mem) (its : List D) (M' : Mem) : Prop := ∀ (σ : L2.St) (F H : Hp), Sat K Γ M σ F H → ∀ R : It → Hp → Prop, (∀ J F1 H1, Same F F1 → Sat K Γ M' σ F1 H1 → Wk K J F1 its → R J H1) → wi σ H R
theorem Il.is {wi : TI} (h : Il K wi Γ M ds M') (e : ds = es) : Il K wi Γ M es M' := e ▸ h
theorem il_range1 {ta : TA} {n : Int} (h : Eas K ta Γ M [.int n] M') (h1 : n ≤ 2 ^ 24) (h2 : -(2 ^ 24) ≤ n) : Il K (iRng1 ta) Γ M ((List.range n.toNat).map fun (i : Nat) => .int (i : Int)) M' := fun σ F H S R q => h σ F H S _ fun vs F1 H1 e S1 r => by
  cases r with
  | cons r1 r2 =>
    cases r1
    cases r2
    exact ⟨n, rfl, by omega, by omega, q _ F1 H1 e S1 (wk_range.cast (by simp))⟩
theorem il_range2 {ta : TA} {m n : Int} (h : Eas K ta Γ M [.int m, .int n] M') (h1 : n ≤ 2 ^ 24) (h2 : -(2 ^ 24) ≤ n) (h3 : m ≤ 2 ^ 24) (h4 : -(2 ^ 24) ≤ m) : Il K (iRng2 ta) Γ M ((List.range (n - m).toNat).map fun (i : Nat) => .int (m + (i : Int))) M' := fun σ F H S R q => h σ F H S _ fun vs F1 H1 e S1 r => by
  cases r with
  | cons r1 r2 =>
    cases r1
    cases r2 with
    | cons r1 r2 =>
      cases r1
      cases r2
      exact ⟨m, n, rfl, ⟨by omega, by omega, by omega, by omega⟩, q _ F1 H1 e S1 wk_range⟩
theorem il_T (h : Es K te Γ M (.tup ds) M') : Il K (iSeq K te) Γ M ds M' := fun σ F H S R q => .inr (h σ F H S _ fun v F1 H1 e S1 r => by
  cases r with
  | tup hs rs => exact ⟨_, rfl, ⟨_, sqT_mono S1.ex hs⟩, q _ F1 H1 e S1 (wk_tup hs rs)⟩)
theorem il_L (h : Es K te Γ M (.lst ds) M') : Il K (iSeq K te) Γ M ds M' := fun σ F H S R q => .inl (h σ F H S _ fun v F1 H1 e S1 r => by
  cases r with
  | lst hs rs => exact ⟨_, rfl, ⟨_, .inl (.inl (S1.ex _ _ hs))⟩, q _ F1 H1 e S1 (wk_lst hs rs)⟩)
theorem il_zipT {ta : TA} (h : Eas K ta Γ M [.tup ds, .tup es] M') : Il K (RZ.iZipA K ta) Γ M ((ds.zip es).map fun p => .tup [p.1, p.2]) M' := fun σ F H S R q => h σ F H S _ fun vs F1 H1 e S1 r => by
  cases r with
  | cons r1 r2 =>
    cases r2 with
    | cons r3 r4 =>
      cases r4
      cases r1 with
      | tup h1 r1 =>
        cases r3 with
        | tup h2 r2 => exact ⟨_, _, _, _, rfl, .inr ⟨sqT_mono S1.ex h1, sqT_mono S1.ex h2, q _ F1 H1 e S1 (wk_zipT h1 h2 r1 r2)⟩⟩
theorem il_zipL {ta : TA} (h : Eas K ta Γ M [.lst ds, .lst es] M') : Il K (RZ.iZipA K ta) Γ M ((ds.zip es).map fun p => .tup [p.1, p.2]) M' := fun σ F H S R q => h σ F H S _ fun vs F1 H1 e S1 r => by
  cases r with
  | cons r1 r2 =>
    cases r2 with
    | cons r3 r4 =>
      cases r4
      cases r1 with
      | lst h1 r1 =>
        cases r3 with
        | lst h2 r2 => exact ⟨_, _, _, _, rfl, .inl ⟨.inl (.inl (S1.ex _ _ h1)), .inl (.inl (S1.ex _ _ h2)), q _ F1 H1 e S1 (wk_zipL h1 h2 r1 r2)⟩⟩
/-- the loop: R by the turn -/
theorem xs_for {wi : TI} {g : TG} {T : Tg} {tb : TS} {its : List D} (hi : Il K wi Γ M its M1) (hg : Gt K g T) (R : Nat → Gm → Mem → Prop) (h0 : ∃ Γ0, Le Γ0 Γ ∧ R 0 Γ0 M1)
    (hs : ∀ (i : Nat) (d : D) Γ' M', its[i]? = some d → R i Γ' M' → noL d = true ∧ ∃ Γ'', bindT T d Γ' = some Γ'' ∧ Xs K tb Γ'' M' { nx := fun Γ2 M2 => ∃ Γ0, Le Γ0 Γ2 ∧ R (i + 1) Γ0 M2, ct := fun Γ2 M2 => ∃ Γ0, Le Γ0 Γ2 ∧ R (i + 1) Γ0 M2, bk := B.nx, rt := B.rt })
    (hd : ∀ Γ' M', R its.length Γ' M' → B.nx Γ' M') : Xs K (tFor wi g tb) Γ M B := fun E σ F H S c => by
  refine hi σ F H S _ fun J F1 H1 e1 S1 W => ?_
  obtain ⟨G, Y, W, hG, hY⟩ := W
  refine for_it W (fun i σ' H' => ∃ Γ' M' F', R i Γ' M' ∧ Same F1 F' ∧ Sat K Γ' M' σ' F' H') ?_ (fun i σ' H' _ ⟨Γ', M', F', _, e, S'⟩ => hG H' (e.trans S'.ex)) ?_ ?_
  · obtain ⟨Γ0, h1, h2⟩ := h0
    exact ⟨Γ0, M1, F1, h2, Same.refl _, S1.env (h1.sat S1.sr)⟩
  · intro i x σ' H2 H3 hi' ⟨Γ', M', F', hR, e, S'⟩ y
    obtain ⟨e3, d, hd', rx⟩ := hY i H2 x H3 hi' (e.trans S'.ex) y
    obtain ⟨n, Γ'', hb, hX⟩ := hs i d Γ' M' hd' hR
    have S3 := S'.grow e3
    refine hg x d σ' _ H3 Γ' Γ'' S3.fix.ex S3.fix.sr (S3.rep n rx) hb _ fun σ2 s2 _ => ?_
    refine hX _ σ2 _ H3 (S3.fix.env s2) ⟨?_, ?_, ?_, ?_⟩
    · intro Γ2 M2 σ3 F2 H4 ⟨Γ0, l, r⟩ s S4
      exact ⟨Γ0, M2, F2, r, e.trans (S3.sub.trans s), S4.env (l.sat S4.sr)⟩
    · intro d2 M2 Γ2 σ3 v2 F2 H4 hr s S4 r4
      exact c.rt d2 M2 Γ2 σ3 v2 F2 H4 hr (e1.trans (e.trans (S3.sub.trans s))) S4 r4
    · intro Γ2 M2 σ3 F2 H4 hr s S4
      exact c.nx Γ2 M2 σ3 F2 H4 hr (e1.trans (e.trans (S3.sub.trans s))) S4
    · intro Γ2 M2 σ3 F2 H4 ⟨Γ0, l, r⟩ s S4
      exact ⟨Γ0, M2, F2, r, e.trans (S3.sub.trans s), S4.env (l.sat S4.sr)⟩
  · intro σ' H' ⟨Γ', M', F', hR, e, S'⟩
    exact c.nx Γ' M' σ' F' H' (hd Γ' M' hR) (e1.trans e) S'
/-- .. told by the turn alone -/
theorem xs_forD {wi : TI} {g : TG} {T : Tg} {tb : TS} {its : List D} (hi : Il K wi Γ M its M1) (hg : Gt K g T) (G : Nat → Gm) (W : Nat → Mem) (h0 : Le (G 0) Γ) (h1 : W 0 = M1)
    (hs : ∀ (i : Nat) (d : D), its[i]? = some d → noL d = true ∧ ∃ Γ'', bindT T d (G i) = some Γ'' ∧ Xs K tb Γ'' (W i) { nx := fun Γ2 M2 => Le (G (i + 1)) Γ2 ∧ W (i + 1) = M2, ct := fun Γ2 M2 => Le (G (i + 1)) Γ2 ∧ W (i + 1) = M2, bk := B.nx, rt := B.rt })
    (hd : B.nx (G its.length) (W its.length)) : Xs K (tFor wi g tb) Γ M B :=
  xs_for hi hg (fun i Γ' M' => Γ' = G i ∧ M' = W i) ⟨G 0, h0, rfl, h1.symm⟩ (fun i d Γ' M' h r => by
    obtain ⟨rfl, rfl⟩ := r
    obtain ⟨n, Γ'', hb, hX⟩ := hs i d h
    refine ⟨n, Γ'', hb, fun E σ F H S c => hX E σ F H S ⟨fun Γ2 M2 σ2 F2 H2 h => c.nx Γ2 M2 σ2 F2 H2 ⟨_, h.1, rfl, h.2.symm⟩, c.rt, c.bk, fun Γ2 M2 σ2 F2 H2 h => c.ct Γ2 M2 σ2 F2 H2 ⟨_, h.1, rfl, h.2.symm⟩⟩⟩) fun Γ' M' r => by
    obtain ⟨rfl, rfl⟩ := r
    exact hd
theorem xs_while {tb : TS} (R : Nat → Gm → Mem → Prop) (h0 : ∃ m Γ0, Le Γ0 Γ ∧ R m Γ0 M)
    (hs : ∀ (m : Nat) Γ' M', R m Γ' M' → ∃ b M1, Ets K tc Γ' M' b M1 ∧ (b = true → Xs K tb Γ' M1 { nx := fun Γ2 M2 => ∃ m' Γ0, m' < m ∧ Le Γ0 Γ2 ∧ R m' Γ0 M2, ct := fun Γ2 M2 => ∃ m' Γ0, m' < m ∧ Le Γ0 Γ2 ∧ R m' Γ0 M2, bk := B.nx, rt := B.rt }) ∧ (b = false → B.nx Γ' M1)) :
    Xs K (tWhile tc tb) Γ M B := fun E σ F H S c => by
  refine ⟨fun m σ' H' => ∃ Γ' M' F', R m Γ' M' ∧ Same F F' ∧ Sat K Γ' M' σ' F' H', ?_, ?_⟩
  · obtain ⟨m, Γ0, l, r⟩ := h0
    exact ⟨m, Γ0, M, F, r, Same.refl _, S.env (l.sat S.sr)⟩
  · rintro m σ' H' ⟨Γ', M', F', hR, e, S'⟩
    obtain ⟨b, M1, ht, h1, h2⟩ := hs m Γ' M' hR
    refine ht σ' F' H' S' _ fun F2 H2 e2 S2 => ?_
    cases b with
    | false => exact c.nx Γ' M1 σ' F2 H2 (h2 rfl) (e.trans e2) S2
    | true =>
      show ∃ N : L2.St → Hp → Prop, _ ∧ _
      refine ⟨fun σ3 H3 => ∃ m', m' < m ∧ ∃ Γ3 M3 F3, R m' Γ3 M3 ∧ Same F F3 ∧ Sat K Γ3 M3 σ3 F3 H3, fun σ3 H3 h => h, h1 rfl _ σ' F2 H2 S2 ⟨?_, ?_, ?_, ?_⟩⟩
      · intro Γ2 M2 σ3 F3 H3 ⟨m', Γ0, lt, l, r⟩ s S3
        exact ⟨m', lt, Γ0, M2, F3, r, e.trans (e2.trans s), S3.env (l.sat S3.sr)⟩
      · intro d M2 Γ2 σ3 v F3 H3 hr s S3 r
        exact c.rt d M2 Γ2 σ3 v F3 H3 hr (e.trans (e2.trans s)) S3 r
      · intro Γ2 M2 σ3 F3 H3 hr s S3
        exact c.nx Γ2 M2 σ3 F3 H3 hr (e.trans (e2.trans s)) S3
      · intro Γ2 M2 σ3 F3 H3 ⟨m', Γ0, lt, l, r⟩ s S3
        exact ⟨m', lt, Γ0, M2, F3, r, e.trans (e2.trans s), S3.env (l.sat S3.sr)⟩
/-! ### expressions that change something -/
/-- a new list that changes no more -/
theorem Sat.freeze {p : Addr} {ds : List D} {σ : L2.St} {F H : Hp} (S : Sat K Γ ((p, .lst ds) :: M) σ F H) : ∃ vs, H p = some (.lst vs) ∧ Sat K Γ M σ (upd F p (.lst vs)) H ∧ Rep K (upd F p (.lst vs)) (.ref p) (.lst ds) ∧ Same F (upd F p (.lst vs)) := by
  obtain ⟨hF, o, ho, vs, rfl, rs⟩ := S.mem _ (List.mem_cons_self ..)
  have e : Same F (upd F p (.lst vs)) := same_new hF
  refine ⟨vs, ho, ⟨fun a u h => ?_, S.sr.mono e, fun q hq => ?_, (List.nodup_cons.mp S.nd).2⟩, .lst upd_same (rs.mono e), e⟩
  · by_cases h2 : a = p
    · subst h2; rw [upd_same] at h; rw [← h]; exact ho
    · rw [upd_ne h2] at h; exact S.ex a u h
  · obtain ⟨h1, u, h2, h3⟩ := S.mem q (List.mem_cons_of_mem _ hq)
    have hne : q.1 ≠ p := fun z => (List.nodup_cons.mp S.nd).1 (by rw [← z]; exact List.mem_map.mpr ⟨q, hq, rfl⟩)
    exact ⟨by rw [upd_ne hne]; exact h1, u, h2, h3.mono e⟩
theorem es_lc {wi : TI} {g : TG} {T : Tg} {vs : List Nat} {its : List D} {n : Nat} (hi : Il K wi Γ M its M1) (hn : its.length = n) (hl : n ≤ 100000) (hg : Gt K g T) (hs : ∀ j ∈ slotsT T, j ∈ vs) (W : Nat → Mem) (v : Nat → D) (h0 : W 0 = M1)
    (hb : ∀ i d, its[i]? = some d → noL d = true ∧ ∃ Γ', bindT T d (wipeD Γ vs) = some Γ' ∧ ∀ f, Es K te Γ' (f :: W i) (v i) (f :: W (i + 1))) : Es K (tLc wi g tYes te vs) Γ M (.lst ((List.range n).map v)) (W n) := fun σ F H S Q q => by
  subst hn
  refine hi σ F H S _ fun J F1 H1 e1 S1 Wk1 Dl hD => ?_
  obtain ⟨G, Y, Wl, hG, hY⟩ := Wk1
  have hDF : F1 Dl = none := S1.ex.free hD
  refine lc_it Wl (fun i H' => ∃ F', Same F1 F' ∧ Sat K Γ ((Dl, .lst ((List.range i).map v)) :: W i) σ F' H') ?_ (fun i H' _ ⟨F', e, S'⟩ => hG H' (e.trans S'.ex)) ?_ ?_
  · rw [h0]
    refine ⟨F1, Same.refl _, ?_⟩
    have hm : Dl ∉ dom M1 := fun hm => by
      obtain ⟨o, ho, _⟩ := S1.muts Dl hm
      rw [hD] at ho; cases ho
    exact (S1.grow (same_new hD)).new hDF hm upd_same ⟨[], rfl, .nil⟩
  · intro i x H2 H3 hi' ⟨F', e2, S2⟩ y
    obtain ⟨e3, d, hd, rx⟩ := hY i H2 x H3 hi' (e2.trans S2.ex) y
    obtain ⟨nd, Γ', hbt, he⟩ := hb i d hd
    have S3 := (S2.grow e3).fix
    have rx' := (S2.grow e3).rep nd rx
    have sub2 := (S2.grow e3).sub
    refine hg x d (L2.wipe σ vs) _ H3 (wipeD Γ vs) Γ' S3.ex (S3.sr.wipe vs) rx' hbt _ fun σ' s' hw => ⟨?_, ?_⟩
    · rw [hw vs hs]
      exact lc_any.wipe_idem σ vs
    · show te σ' H3 _
      refine he _ σ' _ H3 (S3.env s') _ fun u F4 H4 e4 S4 r4 => ?_
      obtain ⟨hF4, o4, ho4, ws, rfl, rs4⟩ := S4.mem _ (List.mem_cons_self ..)
      have lim : ((List.range i).map v).length < 100000 := by rw [List.length_map, List.length_range]; omega
      refine ⟨ws, ho4, by rw [rs4.len]; exact sz5l lim, F4, e2.trans (sub2.trans e4), ?_⟩
      have W4 := S4.write (k := 0) (m' := .lst ((List.range i).map v ++ [v i])) rfl (o := .lst (ws ++ [u])) ⟨_, rfl, rs4.app (.cons r4 .nil)⟩
      rw [List.range_succ, List.map_append]
      exact ⟨W4.ex, S3.sr.mono e4, W4.mem, W4.nd⟩
  · rintro H' ⟨F', e, S'⟩
    obtain ⟨ws, hw, S5, r5, e5⟩ := S'.freeze
    exact q _ _ H' (e1.trans (e.trans e5)) S5 r5
theorem es_op {r : R2} (ha : Es K ta Γ M x M1) (hb : Es K tb Γ M1 y M2) (hr : OpV K r x y d) (n : noL d = true) : Es K (tOp r ta tb) Γ M d M2 := fun σ F H S Q q =>
  ha σ F H S _ fun v F1 H1 e1 S1 r1 => hb σ F1 H1 S1 _ fun w F2 H2 e2 S2 r2 => hr v w H2 Q ((r1.mono e2).mono S2.ex) (r2.mono S2.ex) fun u H3 e3 r3 =>
    q u _ H3 ((e1.trans e2).trans (S2.sub.trans (cut_mono e3))) (S2.grow e3).fix ((S2.grow e3).rep n r3)
theorem es_opN {r : R2} (ha : Es K ta Γ M x M1) (hb : Es K tb Γ M1 y M2) (hr : OpN K r x y ds) (n : noLs ds = true) : Es K (tOp r ta tb) Γ M (.lst ds) M2 := fun σ F H S Q q =>
  ha σ F H S _ fun v F1 H1 e1 S1 r1 => hb σ F1 H1 S1 _ fun w F2 H2 e2 S2 r2 => hr v w H2 Q ((r1.mono e2).mono S2.ex) (r2.mono S2.ex) fun p H3 vs e3 hp hp' r3 =>
    q _ _ H3 ((e1.trans e2).trans (S2.sub.trans (cut_mono e3))) (S2.grow e3).fix (.lst (by
      rw [cut_out]
      · exact hp'
      · intro hm
        obtain ⟨o, ho, _⟩ := S2.muts p hm
        rw [hp] at ho; cases ho) ((S2.grow e3).reps n r3))
theorem eas_nil : Eas K tNil Γ M [] M := fun σ F H S Q q => q [] F H (Same.refl F) S .nil
theorem eas_cons {tr : TA} (h : Es K te Γ M x M1) (hr : Eas K tr Γ M1 ds M2) : Eas K (tCons te tr) Γ M (x :: ds) M2 := fun σ F H S Q q =>
  h σ F H S _ fun v F1 H1 e1 S1 r1 => hr σ F1 H1 S1 _ fun vs F2 H2 e2 S2 r2 => q _ F2 H2 (e1.trans e2) S2 (.cons (r1.mono e2) r2)
theorem eas_pure {ta : TA} (w : Vw M Γ Γr) (h : Ea K ta Γr ds) (n : noLs ds = true) : Eas K ta Γ M ds M := fun σ F H S Q q =>
  h σ H (S.view w) Q fun vs H' e r => q vs _ H' (S.sub.trans (cut_mono e)) (S.grow e).fix ((S.grow e).reps n r)
theorem es_cb {r : List V → Hp → VK → Prop} {ta : TA} (h : Eas K ta Γ M ds M1) (hr : CbV K r ds d) (n : noL d = true) : Es K (tCB r ta) Γ M d M1 := fun σ F H S Q q =>
  h σ F H S _ fun vs F1 H1 e1 S1 r1 => hr vs H1 Q (r1.mono S1.ex) fun u H3 e3 r3 => q u _ H3 (e1.trans (S1.sub.trans (cut_mono e3))) (S1.grow e3).fix ((S1.grow e3).rep n r3)
theorem es_cbN {r : List V → Hp → VK → Prop} {ta : TA} (h : Eas K ta Γ M ds M1) (hr : CbN K r ds es) (n : noLs es = true) : Es K (tCB r ta) Γ M (.lst es) M1 := fun σ F H S Q q =>
  h σ F H S _ fun vs F1 H1 e1 S1 r1 => hr vs H1 Q (r1.mono S1.ex) fun p H3 vs e3 hp hp' r3 => q _ _ H3 (e1.trans (S1.sub.trans (cut_mono e3))) (S1.grow e3).fix (.lst (by
      rw [cut_out]
      · exact hp'
      · intro hm
        obtain ⟨o, ho, _⟩ := S1.muts p hm
        rw [hp] at ho; cases ho) ((S1.grow e3).reps n r3))
theorem es_tup {ta : TA} (h : Eas K ta Γ M ds M1) (hl : ds.length ≤ 100000) : Es K (tTup ta) Γ M (.tup ds) M1 := fun σ F H S Q q =>
  h σ F H S _ fun vs F1 H1 e1 S1 r1 => ⟨by rw [r1.len]; exact sz5 hl, fun p hp => by
    have S2 := S1.grow (same_new (o := .tup vs) hp)
    have hm : p ∉ dom M1 := fun hm => by
      obtain ⟨o, ho, _⟩ := S1.muts p hm
      rw [hp] at ho; cases ho
    have e2 : Same F1 (cut (dom M1) (upd H1 p (.tup vs))) := S2.sub
    exact q _ _ _ (e1.trans e2) S2.fix (.tup (.inl (.inl (by rw [cut_out hm]; exact upd_same))) (r1.mono e2))⟩
theorem es_lst {ta : TA} (h : Eas K ta Γ M ds M1) (hl : ds.length ≤ 100000) : Es K (tLst ta) Γ M (.lst ds) M1 := fun σ F H S Q q =>
  h σ F H S _ fun vs F1 H1 e1 S1 r1 => ⟨by rw [r1.len]; exact sz5 hl, fun p hp => by
    have S2 := S1.grow (same_new (o := .lst vs) hp)
    have hm : p ∉ dom M1 := fun hm => by
      obtain ⟨o, ho, _⟩ := S1.muts p hm
      rw [hp] at ho; cases ho
    have e2 : Same F1 (cut (dom M1) (upd H1 p (.lst vs))) := S2.sub
    exact q _ _ _ (e1.trans e2) S2.fix (.lst (by rw [cut_out hm]; exact upd_same) (r1.mono e2))⟩
theorem es_if (h : Ets K tc Γ M b M1) (h1 : b = true → Es K ta Γ M1 d M2) (h2 : b = false → Es K tb Γ M1 d M2) : Es K (tIf tc ta tb) Γ M d M2 := fun σ F H S Q q =>
  h σ F H S _ fun F1 H1 e1 S1 => by
    cases b with
    | true => exact h1 rfl σ F1 H1 S1 Q fun v F' H' e => q v F' H' (e1.trans e)
    | false => exact h2 rfl σ F1 H1 S1 Q fun v F' H' e => q v F' H' (e1.trans e)
theorem ets_test (h : Es K te Γ M (.bl b) M1) : Ets K (tTest te) Γ M b M1 := fun σ F H S Q q => h σ F H S _ fun v F1 H1 e1 S1 r1 => by
  cases r1
  exact ⟨b, rfl, q F1 H1 e1 S1⟩
theorem ets_B (h : Es K te Γ M (.bl b) M1) : Ets K (tB te) Γ M b M1 := fun σ F H S Q q => h σ F H S _ fun v F1 H1 e1 S1 r1 => by
  cases r1
  exact ⟨b, rfl, q F1 H1 e1 S1⟩
theorem ets_not (h : Ets K tc Γ M b M1) : Ets K (tNot tc) Γ M (!b) M1 := fun σ F H S Q q => h σ F H S _ fun F1 H1 e1 S1 => q F1 H1 e1 S1
theorem ets_and {a b : Bool} (h1 : Ets K tc Γ M a M1) (h2 : a = true → Ets K td Γ M1 b M2) (h3 : a = false → M1 = M2) : Ets K (tAnd tc td) Γ M (a && b) M2 := fun σ F H S Q q => h1 σ F H S _ fun F1 H1 e1 S1 => by
  cases a with
  | true => exact h2 rfl σ F1 H1 S1 Q fun F' H' e => q F' H' (e1.trans e)
  | false => cases h3 rfl; exact q F1 H1 e1 S1
theorem ets_or {a b : Bool} (h1 : Ets K tc Γ M a M1) (h2 : a = false → Ets K td Γ M1 b M2) (h3 : a = true → M1 = M2) : Ets K (tOr tc td) Γ M (a || b) M2 := fun σ F H S Q q => h1 σ F H S _ fun F1 H1 e1 S1 => by
  cases a with
  | false => exact h2 rfl σ F1 H1 S1 Q fun F' H' e => q F' H' (e1.trans e)
  | true => cases h3 rfl; exact q F1 H1 e1 S1
end

/-! ### promises -/
/-- pure: P tells the value by the arguments -/
def spF (K : PySem.W.Frag) (P : List D → D → Prop) : Sp := fun vs H Q _ => ∃ ds d, P ds d ∧ Reps K H vs ds ∧ ∀ v H', Same H H' → Rep K H' v d → Q v H'
/-- pure: the value is a new list -/
def spL (K : PySem.W.Frag) (P : List D → List D → Prop) : Sp := fun vs H Q _ => ∃ ds es, P ds es ∧ Reps K H vs ds ∧ ∀ p H' ws, Same H H' → H p = none → H' p = some (.lst ws) → Reps K H' ws es → Q (.ref p) H'
/-- the object at a is changed from mo to mo', the others of Mf are left -/
def spM (K : PySem.W.Frag) (P : Addr → List D → MO → D → MO → Prop) : Sp := fun vs H Q _ => ∃ a ds mo d mo' F Mf, P a ds mo d mo' ∧ Sat K [] ((a, mo) :: Mf) [] F H ∧ Reps K F vs ds ∧
  ∀ v F' H', Same F F' → Sat K [] ((a, mo') :: Mf) [] F' H' → Rep K F' v d → Q v H'
theorem Sat.perm {K : PySem.W.Frag} {Γ : Gm} {M M' : Mem} {σ : L2.St} {F H : Hp} (S : Sat K Γ M σ F H) (p : M.Perm M') : Sat K Γ M' σ F H :=
  ⟨S.ex, S.sr, fun q hq => S.mem q (p.symm.subset hq), (p.map _).nodup S.nd⟩
theorem Sat.only {K : PySem.W.Frag} {Γ : Gm} {M : Mem} {σ : L2.St} {F H : Hp} (S : Sat K Γ M σ F H) : Sat K [] M [] F H := ⟨S.ex, ⟨rfl, fun i d h => by simp at h⟩, S.mem, S.nd⟩
theorem perm_front {α : Type} {x : α} : ∀ {l : List α} {k : Nat}, l[k]? = some x → l.Perm (x :: l.eraseIdx k)
  | [], _, h => by simp at h
  | a :: l, 0, h => by simp at h; subst h; exact List.Perm.refl _
  | a :: l, k + 1, h => by
    have q := perm_front (l := l) (k := k) (by simpa using h)
    exact (q.cons a).trans (List.Perm.swap x a _)
theorem perm_set {α : Type} {y : α} : ∀ {l : List α} {k : Nat}, k < l.length → (y :: l.eraseIdx k).Perm (l.set k y)
  | [], _, h => by simp at h
  | a :: l, 0, h => List.Perm.refl _
  | a :: l, k + 1, h => (List.Perm.swap a y _).trans ((perm_set (l := l) (k := k) (by simpa using h)).cons a)
section
variable {K : PySem.W.Frag} {Γ : Gm} {M M1 : Mem} {d : D} {ds es : List D} {E : XK} {ta : TA}
theorem ed_call {P : List D → D → Prop} (h : Ea K ta Γ ds) (hp : P ds d) : Ed K (tCall (spF K P) [] E ta) Γ d := fun σ H S Q q =>
  h σ H S _ fun vs H1 e1 r1 => ⟨ds, d, hp, by rw [List.append_nil]; exact r1, fun v H' e r => q v H' (e1.trans e) r⟩
theorem en_call {P : List D → List D → Prop} (h : Ea K ta Γ ds) (hp : P ds es) : En K (tCall (spL K P) [] E ta) Γ es := fun σ H S Q q =>
  h σ H S _ fun vs H1 e1 r1 => ⟨ds, es, hp, by rw [List.append_nil]; exact r1, fun p H' ws e hn hp' r => q p H' ws (e1.trans e) (e1.free hn) hp' r⟩
theorem es_call {P : List D → D → Prop} (h : Eas K ta Γ M ds M1) (hp : P ds d) (n : noL d = true) : Es K (tCall (spF K P) [] E ta) Γ M d M1 := fun σ F H S Q q =>
  h σ F H S _ fun vs F1 H1 e1 S1 r1 => ⟨ds, d, hp, by rw [List.append_nil]; exact r1.mono S1.ex, fun v H' e r => q v _ H' (e1.trans (S1.sub.trans (cut_mono e))) (S1.grow e).fix ((S1.grow e).rep n r)⟩
theorem es_callL {P : List D → List D → Prop} (h : Eas K ta Γ M ds M1) (hp : P ds es) (n : noLs es = true) : Es K (tCall (spL K P) [] E ta) Γ M (.lst es) M1 := fun σ F H S Q q =>
  h σ F H S _ fun vs F1 H1 e1 S1 r1 => ⟨ds, es, hp, by rw [List.append_nil]; exact r1.mono S1.ex, fun p H' ws e hn hp' r => q _ _ H' (e1.trans (S1.sub.trans (cut_mono e))) (S1.grow e).fix (.lst (by
      rw [cut_out]
      · exact hp'
      · intro hm
        obtain ⟨o, ho, _⟩ := S1.muts p hm
        rw [hn] at ho; cases ho) ((S1.grow e).reps n r))⟩
theorem es_callM {P : Addr → List D → MO → D → MO → Prop} {a : Addr} {mo mo' : MO} {k : Nat} (h : Eas K ta Γ M ds M1) (hk : M1[k]? = some (a, mo)) (hp : P a ds mo d mo') : Es K (tCall (spM K P) [] E ta) Γ M d (M1.set k (a, mo')) := fun σ F H S Q q =>
  h σ F H S _ fun vs F1 H1 e1 S1 r1 => by
    refine ⟨a, ds, mo, d, mo', F1, M1.eraseIdx k, hp, (S1.only.perm (perm_front hk)), by rw [List.append_nil]; exact r1, fun v F' H' e S2 r => ?_⟩
    have S3 := S2.perm (perm_set (y := (a, mo')) (List.getElem?_eq_some_iff.mp hk).1)
    exact q v F' H' (e1.trans e) ⟨S3.ex, S1.sr.mono e, S3.mem, S3.nd⟩ r
end
end Q

/-! Rules by syntax for the readings of Wb .. Wd; defs as promises. -/
namespace Q
open PySem PySem.Spec PyProof.Rows L2

/-! ### enumerate of a tuple -/
set_option maxHeartbeats 1000000 in
theorem enumB_new {v : Value} {ob : Obj} {Hv : Heap → Prop} (Bg : Begins v ob Hv) :
    Meets (Builtin.«enumerate.__new__» ⟨[.type "enumerate", v], []⟩) (fun _ R s0 => Hv s0.heap ∧
      R (.ok (.ret (.ref (s0.heap.push ob).objs.size))) { s0 with heap := (s0.heap.push ob).push { cls := .type "enumerate", data := .fields #[.none, .bool false, .ref s0.heap.objs.size, rawInt 0, .none, .none] } }) :=
  .of_wp fun Pg wd Ar R s0 hyp => by
    obtain ⟨hp, gg, dd, kk, oo⟩ := s0; obtain ⟨ha, hyp⟩ := hyp
    have subE := sub_enumerate
    have it1 : ∀ {A' : Around} {E' : Value → Shared → Prop} {Q' : Value → Shared → Prop}, Q' (.ref hp.objs.size) ⟨hp.push ob, gg, dd, kk, oo⟩ → wpAny (model Pg wd) A' (pyIter v) Q' E' ⟨hp, gg, dd, kk, oo⟩ :=
      fun q => Bg.iter Pg wd _ _ ⟨hp, gg, dd, kk, oo⟩ _ ha q
    wp_walk using it1
    refine wpAny_stack_any fun stk => wpAny_pure ?_
    split
    · rename_i cc _ _ _ _ _
      cases (cc == Value.type "enumerate")
      all_goals (wp_walk using it1; exact ⟨_, rfl, hyp⟩)
    · wp_walk using it1
      exact ⟨_, rfl, hyp⟩
theorem enumB_call {Pg : Program} {wd : World} {Ar : Around} {E' : Value → Shared → Prop} {s0 : Shared} {v : Value} {ob : Obj} {Hv : Heap → Prop} {Q' : Value → Shared → Prop} (Bg : Begins v ob Hv) (ha : Hv s0.heap)
    (hyp : ∀ hp', IsEnum hp' (s0.heap.objs.size + 1) s0.heap.objs.size 0 .none → hp'.get? s0.heap.objs.size = some ob → (∀ b o, s0.heap.get? b = some o → hp'.get? b = some o) → Q' (.ref (s0.heap.objs.size + 1)) { s0 with heap := hp' }) :
    wpAny (model Pg wd) Ar (call (.type "enumerate") [v]) Q' E' s0 := by
  refine callType_new F.called_enumerate (by decide) (F.typeCall_enumerate_1 _) (F.newCall_enumerate_1 _) (fun u => F.args_object_init_2 u _) F.entry_enumerate_new (enumB_new Bg) ⟨ha, ?_⟩
  have size1 : (s0.heap.push ob).objs.size = s0.heap.objs.size + 1 := Heap.size_push ..
  show _ ∧ _
  rw [size1]
  have isE : IsEnum ((s0.heap.push ob).push { cls := .type "enumerate", data := .fields #[.none, .bool false, .ref s0.heap.objs.size, rawInt 0, .none, .none] }) (s0.heap.objs.size + 1) s0.heap.objs.size 0 .none := by
    have z := Heap.get?_push_size (s0.heap.push ob) (o := { cls := .type "enumerate", data := .fields #[.none, .bool false, .ref s0.heap.objs.size, rawInt 0, .none, .none] }) rfl
    rw [size1] at z
    exact z
  exact ⟨⟨_, isE, rfl⟩, hyp _ isE (Heap.get?_push_of_some _ (Heap.get?_push_size _ Bg.free)) fun b o q => Heap.get?_push_of_some _ (Heap.get?_push_of_some _ q)⟩
/-- the tuple at a, each item with its place in a new pair -/
def IteT (K : PySem.W.Frag) (a : Addr) : It :=
  ⟨fun i H => ∃ (xs : List V) (x : V), SqT K H a xs ∧ xs[i]? = some x, fun i H v H' => ∃ T x, v = .ref T ∧ H T = none ∧ H' = upd H T (.tup [.int (i : Nat), x]) ∧ ∀ xs, SqT K H a xs → xs[i]? = some x, fun i H => ∃ xs : List V, SqT K H a xs ∧ xs.length ≤ i⟩
theorem turn_enumT {P : Program} {w : World} {K : PySem.W.Frag} {elts : List Expr} {kk : Nat} {tpos : Pos} (a e it : Addr) :
    Turn P w K (.Tuple elts kk tpos) (IteT K a) [e, it] e (fun i h => (∃ old, IsEnum h e it (0 + ((i : Nat) : Int)) old) ∧ h.IsTupleIter it a i ∧ e ≠ it) where
  mem := by simp
  obj := fun i h st b hb => by
    obtain ⟨⟨old, he⟩, ⟨o, ho, hc, hd⟩, _⟩ := st
    rcases List.mem_cons.mp hb with z | hb
    · rw [z]; exact ⟨_, he, fun v q => nomatch q⟩
    · rw [List.mem_singleton.mp hb]
      exact ⟨o, ho, fun v q => by rw [hd] at q; cases q⟩
  keep := fun i h h' st k => ⟨let ⟨old, he⟩ := st.1; ⟨old, k e (by simp) _ he⟩, st.2.1.at fun o q => k it (by simp) o q, st.2.2⟩
  item := by
    rintro X rfl rfl rfl hc i pins s σ H E I hf ⟨⟨old, he⟩, hit, hne⟩ ⟨xs, x, hq, hx⟩
    obtain ⟨its, rv, p, hz⟩ := I.tuple hq
    obtain ⟨u, hu, ru⟩ := rv.get hx
    have ha : a ≠ it := fun z => by
      obtain ⟨o1, h1, c1, _⟩ := hit
      obtain ⟨o2, h2, c2, _⟩ := p
      rw [z, h1] at h2; cases h2
      rw [c1] at c2
      exact absurd (Value.type.inj c2) (by decide)
    have hea : e ≠ a := fun z => by
      obtain ⟨o2, h2, c2, _⟩ := p
      have h1 : s.heap.get? e = some _ := he
      rw [z, h2] at h1; cases h1
      exact absurd (Value.type.inj c2) (by decide)
    have size_e : e < s.heap.objs.size := Heap.lt_size he
    have size_it : it < s.heap.objs.size := by obtain ⟨_, q, _⟩ := hit; exact Heap.lt_size q
    refine wpAny_pyNext_enum_itemC (Draws.tuple (A := X.A.in1) (I.ok.hd hc) it a ha its.toArray) he ⟨hit, p⟩ (by rw [List.size_toArray, ← rv.length]; exact (List.getElem?_eq_some_iff.mp hx).1) hne (by simp [hne, hea]) fun u' h' tk hu' ho st' hT hsz hk => ?_
    have eu : u' = u := by
      have : its.toArray[i]? = some u := by simpa using hu
      rw [this] at hu'; exact (Option.some.inj hu').symm
    subst eu
    refine ⟨_, rfl, wpAny_letOwnedTupleGo_enum (s := { s with heap := h', toks := tk + 1 }) ho fun h'' he' sb => ?_⟩
    have newT : h''.get? s.heap.objs.size = some { cls := .type "tuple", data := .seq #[.int (0 + (i : Int)) tk, u'] } := (sb.2 _ (Nat.ne_of_gt size_e)).trans hT
    have ok2 : ObjOk X.prog X.w (upd H s.heap.objs.size (.tup [.int (i : Nat), x])) h'' s.heap.objs.size (.tup [.int (i : Nat), x]) :=
      ⟨by show 2 ≤ sizeLine; decide, [.int (0 + (i : Int)) tk, u'], .cons ⟨tk, by rw [Int.zero_add]⟩ (.cons ru .nil), ⟨_, newT, rfl, _, rfl⟩⟩
    have I2 := I.turnedNew (t' := tk + 1) (ch := [e, it]) (fun b ob hb q => (sb.2 b fun z => hb (by rw [z]; exact List.mem_cons_self ..)).trans (hk b ob (fun z => hb (by rw [z]; exact List.mem_cons_self ..)) (fun z => hb (by rw [z]; simp)) q)) hf (Nat.le_refl _) ok2
    refine ⟨.ref s.heap.objs.size, _, I2, rfl, ⟨_, x, rfl, I.hok.fresh (Nat.le_refl _), rfl, fun ys hy => by rw [I.tuple_inj hy hq]; exact hx⟩, ⟨⟨u', ?_⟩, st'.1.at fun o q => (sb.2 it (Ne.symm hne)).trans q, hne⟩, fun b hb => ?_⟩
    · rw [show (0 : Int) + ((i + 1 : Nat) : Int) = 0 + (i : Int) + 1 by omega]
      exact he'
    · have lt : b < s.heap.objs.size := by
        rcases List.mem_cons.mp hb with z | z
        · rw [z]; exact size_e
        · rw [List.mem_singleton.mp z]; exact size_it
      rw [upd_ne (Nat.ne_of_lt lt)]
      exact (hf b hb).1
  done := by
    rintro X rfl rfl rfl hc i pins s σ H E I hf ⟨⟨old, he⟩, hit, hne⟩ ⟨xs, hq, hx⟩
    obtain ⟨its, rv, p, hz⟩ := I.tuple hq
    have hl := rv.length
    obtain ⟨f0, f1, f2, f3, f4, f5⟩ := hf it (by simp)
    have ha : a ≠ it := fun z => by
      obtain ⟨o1, h1, c1, _⟩ := hit
      obtain ⟨o2, h2, c2, _⟩ := p
      rw [z, h1] at h2; cases h2
      rw [c1] at c2
      exact absurd (Value.type.inj c2) (by decide)
    have fin : ∀ h', Heap.ExtBut it s.heap h' → Inv X pins σ H { s with heap := h' } := fun h' eb => I.turned (t' := s.toks) (fun b o hb q => eb b o hb q) f0 f1 f3 f4 f5
    have hnx : wpAny (model X.prog X.w) X.A.in1 (Builtin.SmallTypes.nextOf (.ref it)) (fun _ _ => False) (fun e' s' => ∃ h' a', e' = Value.ref a' ∧ s' = { s with heap := h' } ∧ Heap.ExtBut it s.heap h' ∧ ∃ o, h'.get? a' = some o ∧ o.cls = .type "StopIteration") s :=
      wpAny_nextOf_tuple_end (I.ok.hd hc) hit p (by simp; omega) fun h' e' eb q => ⟨h', e', rfl, rfl, eb, q⟩
    have D : Draws X.prog X.w X.A.in1 it [it, a] i (fun _ _ => False) (fun j h => j = i ∧ h.IsTupleIter it a i ∧ h.IsTuple a its.toArray) :=
      { live := fun _ _ st => let ⟨o, ho, _⟩ := st.2.1; ⟨o, ho⟩
        frame := fun _ _ _ st hk => ⟨st.1, st.2.1.at fun o e => hk it (by simp) o e, st.2.2.at fun o e => hk a (by simp) o e⟩
        item := fun j s' Q' E' hj st _ => absurd st.1 (Nat.ne_of_lt hj)
        done := fun s' Q' E' st hE => wpAny_nextOf_tuple_end (I.ok.hd hc) st.2.1 st.2.2 (by simp; omega) hE }
    exact wpAny_pyNext_enum_endD D he ⟨rfl, hit, p⟩ fun h' eb => ⟨rfl, fin h' eb⟩
  self := fun A i s Q E st h => let ⟨⟨_, he⟩, _⟩ := st; wpAny_pyIter_enum he h
def iEnumA (K : PySem.W.Frag) (ta : TA) : TI := fun σ H R => iEnum K ta σ H R ∨ ta σ H fun vs H1 => ∃ a xs, vs = [.ref a] ∧ SqT K H1 a xs ∧ R (IteT K a) H1
theorem PI.or {X : Cx} {tg iter : Expr} {a b : TI} (h1 : PI X tg iter a) (h2 : PI X tg iter b) : PI X tg iter (fun σ H R => a σ H R ∨ b σ H R) :=
  ⟨fun pins s σ H R I h => h.elim (h1.run pins s σ H R I) (h2.run pins s σ H R I)⟩
theorem pi_enumA {X : Cx} {e : Expr} {ta : TA} {p pos tpos : Pos} {elts : List Expr} {kk : Nat} (hg : Gl X "enumerate") (hm : X.mg "enumerate" = none) (ha : PA X [e] ta) (hs : starEach [e] X.env = [(false, eval e X.env)] := by rfl) :
    PI X (.Tuple elts kk tpos) (.Call (.Name "enumerate" p) [e] [] pos) (iEnumA X.K ta) := by
  refine PI.or (pi_enum hg hm ha hs) ⟨fun pins s σ H R I h => ?_⟩
  refine Call_ (ld_blt I hg hm boot_enumerate (PyProof.Rows.callWith_type1 (thn (ha.run pos pins s σ H _ I h) fun us s1 ⟨vs, H1, I1, r1, q1⟩ => ?_) hs rfl))
  obtain ⟨a, xs, rfl, hq, q⟩ := q1
  obtain ⟨u, rfl, rx⟩ := vals1 r1
  cases rx
  obtain ⟨its, rv, pt, hz⟩ := I1.tuple hq
  refine enumB_call (begins_tuple a its.toArray) pt fun h' he hit hk => wpAny_pyIter_enum he ?_
  have I2 : Inv X pins σ H1 { s1 with heap := h' } := I1.kept (t' := s1.toks) hk
  refine ⟨s1.heap.objs.size + 1, [s1.heap.objs.size + 1, s1.heap.objs.size], _, _, H1, rfl, I2, turn_enumT a (s1.heap.objs.size + 1) s1.heap.objs.size, ⟨⟨.none, he⟩, ⟨_, hit, rfl, rfl⟩, Nat.succ_ne_self _⟩, fun b hb => ?_, q⟩
  have ge : s1.heap.objs.size ≤ b := by
    rcases List.mem_cons.mp hb with z | z
    · rw [z]; exact Nat.le_succ _
    · rw [List.mem_singleton.mp z]; exact Nat.le_refl _
  exact I1.fpOk ge (I1.hok.fresh ge)
section
variable {K : PySem.W.Frag} {F : Hp}
theorem walk_enumT {a : Addr} {xs : List V} : Walk (IteT K a) xs.length (fun H => SqT K H a xs) (YPair (fun i => some (.int (i : Nat))) (fun i => xs[i]?)) := by
  refine ⟨fun i _ hi q => ⟨xs, xs[i], q, by simp [hi]⟩, fun _ q => ⟨xs, q, Nat.le_refl _⟩, fun i H v H' _ q y => ?_⟩
  obtain ⟨T, x, h1, h2, h3, h4⟩ := y
  exact ⟨T, .int (i : Nat), x, h1, h2, h3, rfl, h4 xs q⟩
theorem wk_enumT {a : Addr} {vs : List V} {ds : List D} (h : SqT K F a vs) (r : Reps K F vs ds) : Wk K (IteT K a) F (ds.zipIdx.map fun p => .tup [.int (p.2 : Nat), p.1]) := by
  refine ⟨fun H => SqT K H a vs, YPair (fun i => some (.int (i : Nat))) (fun i => vs[i]?), ?_, fun H' e => sqT_mono e h, ?_⟩
  · rw [List.length_map, List.length_zipIdx, ← r.len]; exact walk_enumT
  · intro i H' x H'' hi e y
    obtain ⟨T, v, u, rfl, nT, rfl, h1, h2⟩ := y
    obtain ⟨d2, g2, q2⟩ := r.atV h2
    cases h1
    refine ⟨same_new nT, .tup [.int (i : Nat), d2], by rw [List.getElem?_map, List.getElem?_zipIdx, g2]; simp, .tup (.inl (.inl upd_same)) (.cons .int (.cons (q2.mono (e.trans (same_new nT))) .nil))⟩
variable {Γ : Gm} {ds : List D} {ta : TA} {M M' : Mem}
theorem ie_enumT (h : Ea K ta Γ [.tup ds]) : Ie K (iEnumA K ta) Γ (ds.zipIdx.map fun p => .tup [.int (p.2 : Nat), p.1]) := fun σ H S R q => .inr (h σ H S _ fun vs H1 e r => by
  cases r with
  | cons r1 r2 =>
    cases r2
    cases r1 with
    | tup h1 r1 => exact ⟨_, _, rfl, h1, q _ H1 e (wk_enumT h1 r1)⟩)
theorem ie_enumL (h : Ea K ta Γ [.lst ds]) : Ie K (iEnumA K ta) Γ (ds.zipIdx.map fun p => .tup [.int (p.2 : Nat), p.1]) := fun σ H S R q => .inl (h σ H S _ fun vs H1 e r => by
  cases r with
  | cons r1 r2 =>
    cases r2
    cases r1 with
    | lst h1 r1 => exact ⟨_, _, rfl, .inl (.inl h1), q _ H1 e (wk_enumL h1 r1)⟩)
theorem il_enumT (h : Eas K ta Γ M [.tup ds] M') : Il K (iEnumA K ta) Γ M (ds.zipIdx.map fun p => .tup [.int (p.2 : Nat), p.1]) M' := fun σ F H S R q => .inr (h σ F H S _ fun vs F1 H1 e S1 r => by
  cases r with
  | cons r1 r2 =>
    cases r2
    cases r1 with
    | tup h1 r1 => exact ⟨_, _, rfl, sqT_mono S1.ex h1, q _ F1 H1 e S1 (wk_enumT h1 r1)⟩)
theorem il_enumL (h : Eas K ta Γ M [.lst ds] M') : Il K (iEnumA K ta) Γ M (ds.zipIdx.map fun p => .tup [.int (p.2 : Nat), p.1]) M' := fun σ F H S R q => .inl (h σ F H S _ fun vs F1 H1 e S1 r => by
  cases r with
  | cons r1 r2 =>
    cases r2
    cases r1 with
    | lst h1 r1 => exact ⟨_, _, rfl, .inl (.inl (S1.ex _ _ h1)), q _ F1 H1 e S1 (wk_enumL h1 r1)⟩)
end

/-! ### rules by syntax -/
section
variable {X : Cx}
theorem pi_seq {tg l : Expr} {tl : TE} (h : PE X l tl) : PI X tg l (iSeq X.K tl) := PI.or (pi_list h) (pi_tup h)
theorem PG.or {tg : Expr} {a b : TG} (h1 : PG X tg a) (h2 : PG X tg b) : PG X tg (fun v σ H Q => a v σ H Q ∨ b v σ H Q) :=
  ⟨fun pins s σ H v u Q I r h => h.elim (h1.run pins s σ H v u Q I r) (h2.run pins s σ H v u Q I r)⟩
/-- (a, b, ..) = a tuple or a list -/
def gSeq (K : PySem.W.Frag) (n : Nat) (t : TGs) : TG := fun v σ H Q => gTup K n t v σ H Q ∨ gUnl K n t v σ H Q
theorem pg_seq {es : List Expr} {k : Nat} {t : TGs} {n : Nat} {pos : Pos} (hc : X.calm = true) (h : PGs X es t) (hn : (assignEach es X.env).length = n := by rfl) (hst : (assignEach es X.env).findIdx? (·.1) = none := by rfl) :
    PG X (.Tuple es k pos) (gSeq X.K n t) := PG.or (pg_tup hc h hn hst) (pg_unl hc h hn hst)
/-- a def by its name: the promise for positional arguments -/
structure Cal (P : Program) (w : World) (K : PySem.W.Frag) (mg : Str → Option Value) (base : Heap) (k : Nat) (x : Str) (sp : Sp) : Prop where
  ex : ∃ f : Addr, FnR P w K mg base (L2.CX P w) k f sp ∧ mg x = some (.ref f) ∧ PySem.W.keepIn K (.ref f) = true
theorem pe_cal {k j : Nat} {x : Str} {sp : Sp} {p pos : Pos} {e : Expr} {es : List Expr} {t : TA} (c : Cal X.prog X.w X.K X.mg X.base k x sp) (hr : Room j X.A) (hk : k ≤ j) (hg : Gl X x) (ha : PA X (e :: es) t)
    (hdb : (x == ("__debug__" : Str)) = false := by decide) (he : starEach (e :: es) X.env = (false, eval e X.env) :: starEach es X.env := by rfl) (hpl : (backTo pos (starEach es X.env)).any (·.1) = false := by rfl) :
    PE X (.Call (.Name x p) (e :: es) [] pos) (tCall sp [] E0 t) := by
  obtain ⟨f, F, h1, h2⟩ := c.ex
  refine ⟨fun pins s σ H Q I h => ?_⟩
  refine wpAny_Call_Name_kw (ld_glob I hg h1 ?_ hdb)
  refine PySem.W.callWith_K (h₀ := X.base) I.ok.mod.kin h2 (thn (ha.run pos pins s σ H _ I h) fun us s1 ⟨vs, H1, I1, r, q⟩ => ⟨I1.kIn, ?_⟩) he hpl
  have q' : sp (vs ++ []) H1 Q E0 := q
  rw [List.append_nil] at q'
  exact wpAny_call (run_fnR (F.mono hk) hr passL I1 r q')
/-- f(*e) -/
def tCallX (K : PySem.W.Frag) (sp : Sp) (te : TE) : TE := fun σ H Q => te σ H fun y H1 => ∃ a xs, y = V.ref a ∧ (SqT K H1 a xs ∨ SqL K H1 a xs) ∧ sp xs H1 Q E0
theorem pe_calX {k j : Nat} {x : Str} {sp : Sp} {p pos spos : Pos} {e : Expr} {te : TE} (c : Cal X.prog X.w X.K X.mg X.base k x sp) (hr : Room j X.A) (hk : k ≤ j) (hg : Gl X x) (he : PE X e te)
    (hdb : (x == ("__debug__" : Str)) = false := by decide) (hst : starEach [.Starred e spos] X.env = [(true, eval e X.env)] := by rfl) :
    PE X (.Call (.Name x p) [.Starred e spos] [] pos) (tCallX X.K sp te) := by
  obtain ⟨f, F, h1, h2⟩ := c.ex
  exact StX.pe_callS1 (F.mono hk) hr h2 hg h1 passL he hdb hst
end
section
variable {K : PySem.W.Frag} {Γ : Gm} {ds : List D} {d : D} {te : TE}
theorem ed_callX {P : List D → D → Prop} (h : Ed K te Γ (.tup ds)) (hp : P ds d) : Ed K (tCallX K (spF K P) te) Γ d := fun σ H S Q q =>
  h σ H S _ fun v H1 e1 r1 => by
    cases r1 with
    | tup hs r1 => exact ⟨_, _, rfl, .inl hs, ds, d, hp, r1, fun v H' e r => q v H' (e1.trans e) r⟩
variable {M M' : Mem} {B : En2} {Γ' : Gm}
theorem xs_asgL {n : Nat} {g : TGs} {Ts : List Tg} (h : Es K te Γ M (.lst ds) M') (hg : Gts K g Ts) (hn : ds.length = n) (hb : bindTs Ts ds Γ = some Γ') (q : B.nx Γ' M') : Xs K (tAsg te (gSeq K n g)) Γ M B := fun E σ F H S c =>
  h σ F H S _ fun v F' H' e S' r => by
    cases r with
    | lst hs rs => exact .inr ⟨_, _, rfl, .inl (.inl (S'.ex _ _ hs)), by rw [rs.len]; exact hn, hg _ ds σ F' H' Γ Γ' S'.ex S'.sr rs hb _ fun σ' s' _ => c.nx _ _ σ' F' H' q e (S'.env s')⟩
theorem xs_asgT {n : Nat} {g : TGs} {Ts : List Tg} (h : Es K te Γ M (.tup ds) M') (hg : Gts K g Ts) (hn : ds.length = n) (hb : bindTs Ts ds Γ = some Γ') (q : B.nx Γ' M') : Xs K (tAsg te (gSeq K n g)) Γ M B := fun E σ F H S c =>
  h σ F H S _ fun v F' H' e S' r => by
    cases r with
    | tup hs rs => exact .inl ⟨_, _, rfl, sqT_mono S'.ex hs, by rw [rs.len]; exact hn, hg _ ds σ F' H' Γ Γ' S'.ex S'.sr rs hb _ fun σ' s' _ => c.nx _ _ σ' F' H' q e (S'.env s')⟩
/-- a, b = x, y -/
theorem xs_par {i j : Nat} {ta : TA} {x y : D} (h : Eas K ta Γ M [x, y] M') (q : B.nx ((Γ.set i (some x)).set j (some y)) M') : Xs K (tPar i j ta) Γ M B := fun E σ F H S c =>
  h σ F H S _ fun vs F' H' e S' r => by
    cases r with
    | cons r1 r2 => cases r2 with
      | cons r2 r3 =>
        cases r3
        exact ⟨_, _, rfl, c.nx _ _ _ F' H' q e ((S'.set i r1).set j r2)⟩
end

/-! ### defs -/
section
variable {P : Program} {w : World} {K : PySem.W.Frag} {mg : Str → Option Value} {base : Heap}
/-- the environment at a def's entry -/
def startD (N : List Str) (ds : List D) : Gm := ds.map some ++ List.replicate (N.length - ds.length) none
theorem sat_start {N : List Str} {ds : List D} {vs : List V} {H : Hp} (r : Reps K H vs ds) : SatR K (startD N ds) (L2.start N vs) H := by
  refine ⟨by simp [startD, L2.start, r.len], fun i d h => ?_⟩
  unfold startD at h
  by_cases hi : i < ds.length
  · rw [List.getElem?_append_left (by simpa using hi), List.getElem?_map] at h
    cases e : ds[i]? with
    | none => rw [e] at h; cases h
    | some d' =>
      rw [e] at h
      have z : d' = d := by simpa using h
      subst z
      obtain ⟨v, h1, h2⟩ := r.at e
      refine ⟨v, ?_, h2⟩
      unfold L2.start
      rw [List.getElem?_append_left (by rw [List.length_map, r.len]; exact hi), List.getElem?_map, h1]
      rfl
  · rw [List.getElem?_append_right (by simpa using hi), List.getElem?_replicate] at h
    split at h <;> cases h
/-- the body of a def, its context quiet: what a reading of it is to be shown of -/
abbrev Bdy (P : Program) (w : World) (K : PySem.W.Frag) (mg : Str → Option Value) (base : Heap) (k : Nat) (N : List Str) (qual : Str) (st : Stmt) (t : TS) : Prop :=
  ∀ (f : Addr) (cdv : Value) (A : Around) (outer : List Env) (s : Shared) (H : Hp) (E : XK), Room k (A.deeper (envOfC qual (defScope st) s.heap.objs.size f cdv)) → PSs (cxOf (L2.CX P w) P w K mg base N qual (defScope st) f cdv A outer s H E).nox (defBody st) t
theorem fn_F {x qual : Str} {st : Stmt} {f : Addr} {fd : FuncData} {N ps : List Str} {k : Nat} {Pr : List D → D → Prop} {t : TS} (F : Fun K x qual st f fd) (S : FnScope N ps (defScope st)) (hb : Bdy P w K mg base k N qual st t)
    (hl : ∀ ds d, Pr ds d → ds.length = ps.length) (h : ∀ ds d, Pr ds d → Xs K t (startD N ds) [] { nx := fun _ _ => d = .non, rt := fun d' _ => d' = d }) : FnOk P w K mg base (L2.CX P w) (k + 1) f fd ps (spF K Pr) := by
  refine F.okX S (fun vs H Q E ⟨ds, d, hp, r, _⟩ => r.len.trans (hl ds d hp)) fun cdv A outer s H vs Q E hr ⟨ds, d, hp, r, q⟩ => ⟨t, PSs.nox (hb f cdv A outer s H E hr), ?_⟩
  refine h ds d hp _ _ H H ⟨Same.refl _, sat_start r, (fun _ h => nomatch h), List.nodup_nil⟩ ⟨?_, ?_, fun _ _ _ _ _ h => h.elim, fun _ _ _ _ _ h => h.elim⟩
  · rintro Γ M σ F' H' rfl e S'
    exact q _ H' (e.trans S'.ex) .non
  · rintro d' M Γ σ v F' H' rfl e S' r'
    exact q v H' (e.trans S'.ex) r'
theorem fn_L {x qual : Str} {st : Stmt} {f : Addr} {fd : FuncData} {N ps : List Str} {k : Nat} {Pr : List D → List D → Prop} {t : TS} (F : Fun K x qual st f fd) (S : FnScope N ps (defScope st)) (hb : Bdy P w K mg base k N qual st t)
    (hl : ∀ ds d, Pr ds d → ds.length = ps.length) (h : ∀ ds es, Pr ds es → Xs K t (startD N ds) [] { nx := fun _ _ => False, rt := fun d' M' => ∃ p, d' = .adr p ∧ (p, .lst es) ∈ M' }) : FnOk P w K mg base (L2.CX P w) (k + 1) f fd ps (spL K Pr) := by
  refine F.okX S (fun vs H Q E ⟨ds, d, hp, r, _⟩ => r.len.trans (hl ds d hp)) fun cdv A outer s H vs Q E hr ⟨ds, es, hp, r, q⟩ => ⟨t, PSs.nox (hb f cdv A outer s H E hr), ?_⟩
  refine h ds es hp _ _ H H ⟨Same.refl _, sat_start r, (fun _ h => nomatch h), List.nodup_nil⟩ ⟨fun _ _ _ _ _ h => h.elim, ?_, fun _ _ _ _ _ h => h.elim, fun _ _ _ _ _ h => h.elim⟩
  rintro d' M Γ σ v F' H' ⟨p, rfl, hm⟩ e S' r'
  cases r'
  obtain ⟨h1, o, h2, ws, rfl, h3⟩ := S'.mem _ hm
  exact q p H' ws (e.trans S'.ex) (e.free h1) h2 (h3.mono S'.ex)
theorem fn_M {x qual : Str} {st : Stmt} {f : Addr} {fd : FuncData} {N ps : List Str} {k : Nat} {Pr : Addr → List D → MO → D → MO → Prop} {t : TS} (F : Fun K x qual st f fd) (S : FnScope N ps (defScope st)) (hb : Bdy P w K mg base k N qual st t)
    (hl : ∀ a ds mo d mo', Pr a ds mo d mo' → ds.length = ps.length ∧ noL d = true) (h : ∀ a ds mo d mo' Mf, Pr a ds mo d mo' → Xs K t (startD N ds) ((a, mo) :: Mf) { nx := fun _ M' => d = .non ∧ M' = (a, mo') :: Mf, rt := fun d' M' => d' = d ∧ M' = (a, mo') :: Mf }) :
    FnOk P w K mg base (L2.CX P w) (k + 1) f fd ps (spM K Pr) := by
  refine F.okX S (fun vs H Q E ⟨a, ds, mo, d, mo', G, Mf, hp, _, r, _⟩ => r.len.trans (hl a ds mo d mo' hp).1) fun cdv A outer s H vs Q E hr ⟨a, ds, mo, d, mo', G, Mf, hp, S0, r, q⟩ => ⟨t, PSs.nox (hb f cdv A outer s H E hr), ?_⟩
  refine h a ds mo d mo' Mf hp _ _ G H (S0.env (sat_start r)) ⟨?_, ?_, fun _ _ _ _ _ h => h.elim, fun _ _ _ _ _ h => h.elim⟩
  · rintro Γ M σ F' H' ⟨rfl, rfl⟩ e S'
    exact q _ F' H' e S'.only .non
  · rintro d' M Γ σ v F' H' ⟨rfl, rfl⟩ e S' r'
    exact q v _ H' (e.trans S'.sub) S'.fix.only (S'.rep (hl a ds mo _ mo' hp).2 r')
theorem cal_of {x : Str} {st : Stmt} {f : Addr} {fd : FuncData} {ps : List Str} {k : Nat} {sp : Sp} {qual : Str} (F : Fun K x qual st f fd) (h : FnOk P w K mg base (L2.CX P w) k f fd ps sp) (b : Binds K fd ps []) (g : mg x = some (.ref f)) : Cal P w K mg base k x sp :=
  ⟨f, (h.raw b .nil).imp fun vs H Q E q => by rw [List.append_nil]; exact q, g, F.kp⟩
end
end Q

/-! Built-in names; a module's ints; comprehensions of two clauses; xs[::-1]; par3. -/
namespace Q
open PySem PySem.Spec PyProof.Rows L2
theorem bt_len : bootBuiltins "len" = some (.builtin "len") := by decide +kernel
theorem bt_min : bootBuiltins "min" = some (.builtin "min") := by decide +kernel
theorem bt_max : bootBuiltins "max" = some (.builtin "max") := by decide +kernel
theorem bt_abs : bootBuiltins "abs" = some (.builtin "abs") := by decide +kernel
theorem bt_sum : bootBuiltins "sum" = some (.builtin "sum") := by decide +kernel
theorem bt_all : bootBuiltins "all" = some (.builtin "all") := by decide +kernel
theorem bt_any : bootBuiltins "any" = some (.builtin "any") := by decide +kernel
theorem bt_sorted : bootBuiltins "sorted" = some (.builtin "sorted") := by decide +kernel
theorem bt_isinstance : bootBuiltins "isinstance" = some (.builtin "isinstance") := by decide +kernel
theorem bt_int : bootBuiltins "int" = some (.type "int") := by decide +kernel
theorem bt_bool : bootBuiltins "bool" = some (.type "bool") := by decide +kernel
theorem bt_str : bootBuiltins "str" = some (.type "str") := by decide +kernel
theorem bt_tuple : bootBuiltins "tuple" = some (.type "tuple") := by decide +kernel
theorem bt_list : bootBuiltins "list" = some (.type "list") := by decide +kernel
theorem bt_dict : bootBuiltins "dict" = some (.type "dict") := by decide +kernel
theorem bt_set : bootBuiltins "set" = some (.type "set") := by decide +kernel
theorem pe_gint {X : Cx} {x : Str} {i : Int} {pos : Pos} (hg : Gl X x) (h : ∃ t, X.mg x = some (.int i t)) (hd : (x == ("__debug__" : Str)) = false := by decide) : PE X (.Name x pos) (tC (.int i)) := by
  obtain ⟨t, h⟩ := h
  exact pe_glob hg h ⟨t, rfl⟩ hd
section
variable {K : PySem.W.Frag} {Γ : Gm} {te : TE} {xs : List D}
theorem en_rev (h : Ed K te Γ (.lst xs)) : En K (tRevL K te) Γ xs.reverse := fun σ H S Q q =>
  h σ H S _ fun v H1 e r => by
    cases r with
    | lst hp r => exact ⟨_, _, rfl, .inl (.inl hp), fun p hn => q p _ _ (e.trans (same_new hn)) (e.free hn) upd_same (r.rev.mono (same_new hn))⟩
variable {M M' : Mem} {B : En2}
theorem xs_par3 {i j l : Nat} {ta : TA} {x y z : D} (h : Eas K ta Γ M [x, y, z] M') (q : B.nx (((Γ.set i (some x)).set j (some y)).set l (some z)) M') : Xs K (tPar3 i j l ta) Γ M B := fun E σ F H S c =>
  h σ F H S _ fun vs F' H' e S' r => by
    cases r with
    | cons r1 r2 => cases r2 with
      | cons r2 r3 => cases r3 with
        | cons r3 r4 =>
          cases r4
          exact ⟨_, _, _, rfl, c.nx _ _ _ F' H' q e (((S'.set i r1).set j r2).set l r3)⟩
end
end Q

/-! Rules for ints and bools in tuples, lists, comprehensions. -/
namespace Q
open PySem PySem.Spec PyProof.Rows L2
abbrev tupI (xs : List Int) : D := .tup (xs.map .int)
abbrev lstI (xs : List Int) : D := .lst (xs.map .int)
/-- the int at a place -/
def gi (xs : List Int) (i : Int) : Int := xs.getD i.toNat 0
theorem gi_nat (xs : List Int) (i : Nat) : gi xs (i : Int) = xs.getD i 0 := by unfold gi; rw [Int.toNat_natCast]
section
variable {K : PySem.W.Frag} {Γ : Gm} {te : TE} {tt : TT} {wi : TI} {g : TG} {T : Tg} {vs : List Nat} {α : Type} {xs : List α} {f : α → D} {c : α → Bool} {u : α → Int} {v : α → Bool} {ns : List Int}
theorem atI_int {i : Int} (h0 : 0 ≤ i) (h1 : i < ns.length) : atI (ns.map D.int) i = some (.int (gi ns i)) := by
  obtain ⟨j, rfl⟩ := Int.eq_ofNat_of_zero_le h0
  rw [atI_nat (j := j) (v := .int (gi ns j))]
  rw [gi_nat, List.getElem?_map]
  have : j < ns.length := by omega
  rw [List.getD_eq_getElem?_getD, List.getElem?_eq_getElem this]
  rfl
theorem ov_ixTI {i : Int} (h0 : 0 ≤ i) (h1 : i < ns.length) : OpV K (rIx K) (.tup (ns.map .int)) (.int i) (.int (gi ns i)) := ov_ixT (atI_int h0 h1)
theorem ov_ixLI {i : Int} (h0 : 0 ≤ i) (h1 : i < ns.length) : OpV K (rIx K) (.lst (ns.map .int)) (.int i) (.int (gi ns i)) := ov_ixL (atI_int h0 h1)
theorem cv_lenTI : CbV K (bLen K) [.tup (ns.map .int)] (.int (ns.length : Nat)) := by
  have h := cv_lenT (K := K) (xs := ns.map D.int)
  rw [List.length_map] at h
  exact h
theorem cv_lenLI : CbV K (bLen K) [.lst (ns.map .int)] (.int (ns.length : Nat)) := by
  have h := cv_lenL (K := K) (xs := ns.map D.int)
  rw [List.length_map] at h
  exact h
theorem mm {β γ δ : Type} (as : List β) (p : β → γ) (q : γ → δ) : as.map (fun a => q (p a)) = (as.map p).map q := by rw [List.map_map]; rfl
theorem en_lcI (hi : Ie K wi Γ (xs.map f)) (hl : xs.length ≤ 100000) (hg : Gt K g T) (hs : ∀ j ∈ slotsT T, j ∈ vs)
    (hb : ∀ x ∈ xs, ∃ Γ', bindT T (f x) (wipeD Γ vs) = some Γ' ∧ Ed K te Γ' (.int (u x))) : En K (tLc wi g tYes te vs) Γ ((xs.map u).map .int) :=
  (en_lc (v := fun x => .int (u x)) hi hl hg hs fun x hx => let ⟨Γ', h1, h2⟩ := hb x hx; ⟨Γ', h1, h2, noL_int _⟩).is (mm _ _ _)
theorem en_lcB (hi : Ie K wi Γ (xs.map f)) (hl : xs.length ≤ 100000) (hg : Gt K g T) (hs : ∀ j ∈ slotsT T, j ∈ vs)
    (hb : ∀ x ∈ xs, ∃ Γ', bindT T (f x) (wipeD Γ vs) = some Γ' ∧ Ed K te Γ' (.bl (v x))) : En K (tLc wi g tYes te vs) Γ ((xs.map v).map .bl) :=
  (en_lc (v := fun x => .bl (v x)) hi hl hg hs fun x hx => let ⟨Γ', h1, h2⟩ := hb x hx; ⟨Γ', h1, h2, noL_bl _⟩).is (mm _ _ _)
theorem en_lcIfI (hi : Ie K wi Γ (xs.map f)) (hl : xs.length ≤ 100000) (hg : Gt K g T) (hs : ∀ j ∈ slotsT T, j ∈ vs)
    (hb : ∀ x ∈ xs, ∃ Γ', bindT T (f x) (wipeD Γ vs) = some Γ' ∧ Et K tt Γ' (c x) ∧ (c x = true → Ed K te Γ' (.int (u x)))) : En K (tLc wi g tt te vs) Γ (((xs.filter c).map u).map .int) :=
  (en_lcIf (v := fun x => .int (u x)) hi hl hg hs fun x hx => let ⟨Γ', h1, h2, h3⟩ := hb x hx; ⟨Γ', h1, h2, fun hc => ⟨h3 hc, noL_int _⟩⟩).is (mm _ _ _)
theorem en_lcRI {ta : TA} {n : Int} {j : Nat} {u : Nat → Int} (hr : Ea K ta Γ [.int n]) (hs : j ∈ vs) (h1 : n ≤ 100000) (h2 : -(2 ^ 24) ≤ n) (hb : ∀ k : Nat, (k : Int) < n → Ed K te ((wipeD Γ vs).set j (some (.int (k : Int)))) (.int (u k))) :
    En K (tLc (iRng1 ta) (gName j) tYes te vs) Γ (((List.range n.toNat).map u).map .int) :=
  (en_lcR (u := fun k => .int (u k)) hr h1 h2 hs fun k hk => ⟨hb k hk, noL_int _⟩).is (mm _ _ _)
theorem en_lcRIfI {ta : TA} {n : Int} {j : Nat} {u : Nat → Int} {c : Nat → Bool} (hr : Ea K ta Γ [.int n]) (hs : j ∈ vs) (h1 : n ≤ 100000) (h2 : -(2 ^ 24) ≤ n)
    (hb : ∀ k : Nat, (k : Int) < n → Et K tt ((wipeD Γ vs).set j (some (.int (k : Int)))) (c k) ∧ (c k = true → Ed K te ((wipeD Γ vs).set j (some (.int (k : Int)))) (.int (u k)))) :
    En K (tLc (iRng1 ta) (gName j) tt te vs) Γ ((((List.range n.toNat).filter c).map u).map .int) :=
  (en_lcRIf (u := fun k => .int (u k)) hr h1 h2 hs fun k hk => ⟨(hb k hk).1, fun hc => ⟨(hb k hk).2 hc, noL_int _⟩⟩).is (mm _ _ _)
theorem en_lcR2I {ta : TA} {m n : Int} {j : Nat} {u : Nat → Int} (hr : Ea K ta Γ [.int m, .int n]) (hs : j ∈ vs) (h1 : n ≤ 50000) (h2 : -(2 ^ 24) ≤ n) (h3 : m ≤ 50000) (h4 : -50000 ≤ m)
    (hb : ∀ k : Nat, m + (k : Int) < n → Ed K te ((wipeD Γ vs).set j (some (.int (m + (k : Int))))) (.int (u k))) :
    En K (tLc (iRng2 ta) (gName j) tYes te vs) Γ (((List.range (n - m).toNat).map u).map .int) :=
  (en_lcR2 (u := fun k => .int (u k)) hr h1 h2 h3 h4 hs fun k hk => ⟨hb k hk, noL_int _⟩).is (mm _ _ _)
theorem en_lcR2IfI {ta : TA} {m n : Int} {j : Nat} {u : Nat → Int} {c : Nat → Bool} (hr : Ea K ta Γ [.int m, .int n]) (hs : j ∈ vs) (h1 : n ≤ 50000) (h2 : -(2 ^ 24) ≤ n) (h3 : m ≤ 50000) (h4 : -50000 ≤ m)
    (hb : ∀ k : Nat, m + (k : Int) < n → Et K tt ((wipeD Γ vs).set j (some (.int (m + (k : Int))))) (c k) ∧ (c k = true → Ed K te ((wipeD Γ vs).set j (some (.int (m + (k : Int))))) (.int (u k)))) :
    En K (tLc (iRng2 ta) (gName j) tt te vs) Γ ((((List.range (n - m).toNat).filter c).map u).map .int) :=
  (en_lcR2If (u := fun k => .int (u k)) hr h1 h2 h3 h4 hs fun k hk => ⟨(hb k hk).1, fun hc => ⟨(hb k hk).2 hc, noL_int _⟩⟩).is (mm _ _ _)
/-- over pairs of two rows of ints -/
theorem en_zipI {ta : TA} {i j : Nat} {as bs : List Int} {u : Int → Int → Int} (h : Ea K ta Γ [.tup (as.map .int), .tup (bs.map .int)]) (hl : as.length ≤ 100000) (hi : i ∈ vs) (hj : j ∈ vs)
    (hb : ∀ a b, (a, b) ∈ as.zip bs → Ed K te (((wipeD Γ vs).set i (some (.int a))).set j (some (.int b))) (.int (u a b))) : En K (tLc (RZ.iZipA K ta) (gTup K 2 (gCons (gName i) (gCons (gName j) gNil))) tYes te vs) Γ (((as.zip bs).map fun p => u p.1 p.2).map .int) := by
  refine en_lcI (xs := as.zip bs) (f := fun p => .tup [.int p.1, .int p.2]) (u := fun p => u p.1 p.2) ((ie_zipT h).is ?_) ?_ (T := .tp [.nm i, .nm j]) (gt_tp (gts_cons gt_nm (gts_cons gt_nm gts_nil)) rfl) ?_ fun p hp => ?_
  · rw [List.zip_map, List.map_map]; rfl
  · rw [List.length_zip]; omega
  · intro k hk
    have : k = i ∨ k = j := by simpa [slotsT, slotsTs] using hk
    rcases this with rfl | rfl <;> assumption
  · exact ⟨_, by simp only [bindT, bindTs, Option.bind_some], hb p.1 p.2 hp⟩
theorem en_zipB {ta : TA} {i j : Nat} {as bs : List Int} {u : Int → Int → Bool} (h : Ea K ta Γ [.tup (as.map .int), .tup (bs.map .int)]) (hl : as.length ≤ 100000) (hi : i ∈ vs) (hj : j ∈ vs)
    (hb : ∀ a b, (a, b) ∈ as.zip bs → Ed K te (((wipeD Γ vs).set i (some (.int a))).set j (some (.int b))) (.bl (u a b))) : En K (tLc (RZ.iZipA K ta) (gTup K 2 (gCons (gName i) (gCons (gName j) gNil))) tYes te vs) Γ (((as.zip bs).map fun p => u p.1 p.2).map .bl) := by
  refine en_lcB (xs := as.zip bs) (f := fun p => .tup [.int p.1, .int p.2]) (v := fun p => u p.1 p.2) ((ie_zipT h).is ?_) ?_ (T := .tp [.nm i, .nm j]) (gt_tp (gts_cons gt_nm (gts_cons gt_nm gts_nil)) rfl) ?_ fun p hp => ?_
  · rw [List.zip_map, List.map_map]; rfl
  · rw [List.length_zip]; omega
  · intro k hk
    have : k = i ∨ k = j := by simpa [slotsT, slotsTs] using hk
    rcases this with rfl | rfl <;> assumption
  · exact ⟨_, by simp only [bindT, bindTs, Option.bind_some], hb p.1 p.2 hp⟩
theorem en_zipLB {ta : TA} {i j : Nat} {as bs : List Int} {u : Int → Int → Bool} (h : Ea K ta Γ [.lst (as.map .int), .lst (bs.map .int)]) (hl : as.length ≤ 100000) (hi : i ∈ vs) (hj : j ∈ vs)
    (hb : ∀ a b, (a, b) ∈ as.zip bs → Ed K te (((wipeD Γ vs).set i (some (.int a))).set j (some (.int b))) (.bl (u a b))) : En K (tLc (RZ.iZipA K ta) (gTup K 2 (gCons (gName i) (gCons (gName j) gNil))) tYes te vs) Γ (((as.zip bs).map fun p => u p.1 p.2).map .bl) := by
  refine en_lcB (xs := as.zip bs) (f := fun p => .tup [.int p.1, .int p.2]) (v := fun p => u p.1 p.2) ((ie_zipL h).is ?_) ?_ (T := .tp [.nm i, .nm j]) (gt_tp (gts_cons gt_nm (gts_cons gt_nm gts_nil)) rfl) ?_ fun p hp => ?_
  · rw [List.zip_map, List.map_map]; rfl
  · rw [List.length_zip]; omega
  · intro k hk
    have : k = i ∨ k = j := by simpa [slotsT, slotsTs] using hk
    rcases this with rfl | rfl <;> assumption
  · exact ⟨_, by simp only [bindT, bindTs, Option.bind_some], hb p.1 p.2 hp⟩
theorem cutD_map (ns : List Int) (lo hi : Option Int) : cutD (ns.map .int) lo hi = (((ns.drop (HT.sIx ns.length 0 lo)).take (HT.sIx ns.length ns.length hi - HT.sIx ns.length 0 lo))).map .int := by
  unfold cutD
  rw [List.length_map, List.map_take, List.map_drop]
/-- row[1:] -/
theorem sv_tail : SlV K (oSl K) (.tup (ns.map .int)) (some 1) none (.tup (ns.tail.map .int)) := by
  have h := sv_T (K := K) (xs := ns.map D.int) (lo := some 1) (hi := none)
  rw [cutD_map] at h
  have e : (ns.drop (HT.sIx ns.length 0 (some 1))).take (HT.sIx ns.length ns.length none - HT.sIx ns.length 0 (some 1)) = ns.tail := by
    rw [show HT.sIx ns.length 0 (some 1) = min 1 ns.length from HT.sIx_nat ns.length 0 1, HT.sIx_none]
    cases ns with
    | nil => rfl
    | cons a r =>
      rw [show min 1 (a :: r).length = 1 by rw [List.length_cons]; omega, List.drop_one, List.tail_cons]
      exact List.take_of_length_le (by rw [List.length_cons]; omega)
  rw [e] at h
  exact h
theorem sn_tail : SlN K (oSl K) (.lst (ns.map .int)) (some 1) none (ns.tail.map .int) := by
  have h := sn_L (K := K) (xs := ns.map D.int) (lo := some 1) (hi := none)
  rw [cutD_map] at h
  have e : (ns.drop (HT.sIx ns.length 0 (some 1))).take (HT.sIx ns.length ns.length none - HT.sIx ns.length 0 (some 1)) = ns.tail := by
    rw [show HT.sIx ns.length 0 (some 1) = min 1 ns.length from HT.sIx_nat ns.length 0 1, HT.sIx_none]
    cases ns with
    | nil => rfl
    | cons a r =>
      rw [show min 1 (a :: r).length = 1 by rw [List.length_cons]; omega, List.drop_one, List.tail_cons]
      exact List.take_of_length_le (by rw [List.length_cons]; omega)
  rw [e] at h
  exact h
/-- row[:k] -/
theorem sn_take {k : Int} (h0 : 0 ≤ k) : SlN K (oSl K) (.lst (ns.map .int)) none (some k) ((ns.take k.toNat).map .int) := by
  have h := sn_L (K := K) (xs := ns.map D.int) (lo := none) (hi := some k)
  rw [cutD_map] at h
  have e : (ns.drop (HT.sIx ns.length 0 none)).take (HT.sIx ns.length ns.length (some k) - HT.sIx ns.length 0 none) = ns.take k.toNat := by
    obtain ⟨j, rfl⟩ := Int.eq_ofNat_of_zero_le h0
    rw [HT.sIx_none, show HT.sIx ns.length ns.length (some (j : Int)) = min j ns.length from HT.sIx_nat ns.length ns.length j, List.drop_zero, Nat.sub_zero, Int.toNat_natCast]
    by_cases hj : j ≤ ns.length
    · rw [Nat.min_eq_left hj]
    · rw [Nat.min_eq_right (by omega), List.take_of_length_le (Nat.le_refl _), List.take_of_length_le (by omega)]
  rw [e] at h
  exact h
/-- the place of the first like int -/
theorem mv_index {n : Int} (hn : n ∈ ns) : MtV K (rIndex K) (.lst (ns.map .int)) [.int n] (.int (ns.idxOf n : Nat)) := fun v ws H Q r rs q => by
  cases r with
  | lst hp r =>
    cases reps_int_inv r
    cases rs with
    | cons r1 r2 =>
      cases r2
      cases r1
      have hlt : ns.idxOf n < ns.length := List.idxOf_lt_length_iff.mpr hn
      refine ⟨_, _, .int n, ns.idxOf n, .int n, rfl, rfl, .inl (.inl hp), rfl, ?_, ?_, by simp [eqV], fun m z hm hz => ?_, q _ H (Same.refl H) .int⟩
      · rw [List.all_map]; exact List.all_eq_true.mpr fun _ _ => rfl
      · rw [List.getElem?_map, List.getElem?_eq_getElem hlt, List.getElem_idxOf hlt]
        rfl
      · rw [List.getElem?_map] at hz
        have hm2 : m < ns.length := by omega
        rw [List.getElem?_eq_getElem hm2] at hz
        cases hz
        simp only [eqV, beq_eq_false_iff_ne, ne_eq]
        intro e
        have := List.not_of_lt_findIdx (p := (· == n)) (xs := ns) (i := m) (by simpa [List.idxOf] using hm)
        simp [e] at this
theorem tyl_lst {H : Hp} {v : V} {ds : List D} (r : Rep K H v (.lst ds)) : tyV K "list" v H := by
  cases r with
  | lst h _ => exact .inl ⟨rfl, _, .inl (.inl h)⟩
theorem ed_bmL {r : V → List V → Hp → VK → Prop} {to : TE} {ta : TA} {ds es : List D} {d : D} (h : Ed K to Γ (.lst es)) (ha : Ea K ta Γ ds) (hr : MtV K r (.lst es) ds d) : Ed K (tBM K "list" r to ta) Γ d := ed_bm h (fun _ _ r => tyl_lst r) ha hr
end
/-! ints compared deep -/
theorem pys_ints (ns : List Int) : pys (ns.map D.int) = ns.map PyData.int := by
  rw [pys_map, List.map_map]
  exact List.map_congr_left fun _ _ => by simp [py]
theorem lay_ints : ∀ ns : List Int, PyData.canLayAll0 (ns.map PyData.int) = true
  | [] => by simp [PyData.canLayAll0]
  | n :: ns => by simp [PyData.canLayAll0, PyData.canLay0, lay_ints ns]
theorem depth_ints : ∀ ns : List Int, PyData.depthAll (ns.map PyData.int) = 0
  | [] => by simp [PyData.depthAll]
  | n :: ns => by simp [PyData.depthAll, PyData.depth, depth_ints ns]
theorem shaped_tupI (ns : List Int) : shapedD (.tup (ns.map .int)) = true := by
  simp [shapedD, py, pys_ints, SeqAt.shaped, PyData.canLay0, lay_ints, PyData.depth, depth_ints]
theorem shaped_lstI (ns : List Int) : shapedD (.lst (ns.map .int)) = true := by
  simp [shapedD, py, pys_ints, SeqAt.shaped, PyData.canLay0, lay_ints, PyData.depth, depth_ints]
theorem eqv_ints : ∀ as bs : List Int, PyData.eqvAll (as.map PyData.int) (bs.map PyData.int) = decide (as = bs)
  | [], [] => by simp [PyData.eqvAll]
  | [], _ :: _ => by simp [PyData.eqvAll]
  | _ :: _, [] => by simp [PyData.eqvAll]
  | a :: as, b :: bs => by
    by_cases h : a = b <;> simp [PyData.eqvAll, PyData.eqv, eqv_ints as bs, h]
theorem eqD_tupI (as bs : List Int) : eqD (.tup (as.map .int)) (.tup (bs.map .int)) = decide (as = bs) := by
  simp [eqD, py, pys_ints, PyData.eqv, eqv_ints]
theorem eqD_lstI (as bs : List Int) : eqD (.lst (as.map .int)) (.lst (bs.map .int)) = decide (as = bs) := by
  simp [eqD, py, pys_ints, PyData.eqv, eqv_ints]
section
variable {K : PySem.W.Frag}
theorem ov_eqTI {as bs : List Int} : OpV K (oEq K) (.tup (as.map .int)) (.tup (bs.map .int)) (.bl (decide (as = bs))) := eqD_tupI as bs ▸ ov_eqD (shaped_tupI as) (shaped_tupI bs)
theorem ov_neTI {as bs : List Int} : OpV K (oNe K) (.tup (as.map .int)) (.tup (bs.map .int)) (.bl (!decide (as = bs))) := eqD_tupI as bs ▸ ov_neD (shaped_tupI as) (shaped_tupI bs)
theorem ov_eqLI {as bs : List Int} : OpV K (oEq K) (.lst (as.map .int)) (.lst (bs.map .int)) (.bl (decide (as = bs))) := eqD_lstI as bs ▸ ov_eqD (shaped_lstI as) (shaped_lstI bs)
theorem ov_neLI {as bs : List Int} : OpV K (oNe K) (.lst (as.map .int)) (.lst (bs.map .int)) (.bl (!decide (as = bs))) := eqD_lstI as bs ▸ ov_neD (shaped_lstI as) (shaped_lstI bs)
end
end Q

/-! Loops that end early; comprehensions of two clauses; over enumerate. -/
namespace Q
open PySem PySem.Spec PyProof.Rows L2
section
variable {K : PySem.W.Frag} {Γ : Gm} {M M1 : Mem} {B : En2}
/-- a loop that hands back at the first turn i where f i tells something -/
theorem xs_find {wi : TI} {g : TG} {T : Tg} {tb : TS} {its : List D} {β : Type} (hi : Il K wi Γ M its M1) (hg : Gt K g T) (G : Nat → Gm) (W : Nat → Mem) (f : Nat → Option β) (h0 : Le (G 0) Γ) (h1 : W 0 = M1)
    (hs : ∀ (i : Nat) (d : D), its[i]? = some d → (∀ j, j < i → f j = none) → noL d = true ∧ ∃ Γ'', bindT T d (G i) = some Γ'' ∧ Xs K tb Γ'' (W i) { nx := fun Γ2 M2 => Le (G (i + 1)) Γ2 ∧ W (i + 1) = M2 ∧ f i = none, ct := fun Γ2 M2 => Le (G (i + 1)) Γ2 ∧ W (i + 1) = M2 ∧ f i = none, bk := B.nx, rt := B.rt })
    (hd : (∀ j, j < its.length → f j = none) → B.nx (G its.length) (W its.length)) : Xs K (tFor wi g tb) Γ M B :=
  xs_for hi hg (fun i Γ' M' => Γ' = G i ∧ M' = W i ∧ ∀ j, j < i → f j = none) ⟨G 0, h0, rfl, h1.symm, fun j hj => absurd hj (Nat.not_lt_zero _)⟩ (fun i d Γ' M' h r => by
    obtain ⟨rfl, rfl, hn⟩ := r
    obtain ⟨n, Γ'', hb, hX⟩ := hs i d h hn
    have step : f i = none → ∀ j, j < i + 1 → f j = none := fun hf j hj => by
      by_cases e : j = i
      · rw [e]; exact hf
      · exact hn j (by omega)
    exact ⟨n, Γ'', hb, fun E σ F H S c => hX E σ F H S ⟨fun Γ2 M2 σ2 F2 H2 h => c.nx Γ2 M2 σ2 F2 H2 ⟨_, h.1, rfl, h.2.1.symm, step h.2.2⟩, c.rt, c.bk, fun Γ2 M2 σ2 F2 H2 h => c.ct Γ2 M2 σ2 F2 H2 ⟨_, h.1, rfl, h.2.1.symm, step h.2.2⟩⟩⟩) fun Γ' M' r => by
    obtain ⟨rfl, rfl, hn⟩ := r
    exact hd hn
theorem wipe_idem2 (σ : L2.St) (vs : List Nat) : L2.wipe (L2.wipe σ vs) vs = L2.wipe σ vs := lc_any.wipe_idem σ vs
variable {te : TE} {tt tt1 : TT} {wi wi1 : TI} {g g1 : TG} {T T1 : Tg} {vs vs1 : List Nat} {α β : Type} {xs : List α} {f : α → D} {ys : α → List β} {f1 : α → β → D} {c : α → Bool} {c1 : α → β → Bool} {v : α → β → D}
theorem flatMap_take_succ {γ : Type} {l : α → List γ} {i : Nat} {x : α} (h : xs[i]? = some x) : (xs.take (i + 1)).flatMap l = (xs.take i).flatMap l ++ l x := by
  rw [List.take_add_one, h, List.flatMap_append]
  simp
theorem ed_es {d : D} (h : Es K te Γ [] d []) : Ed K te Γ d := fun σ H S Q q =>
  h σ H H ⟨Same.refl _, S, (fun _ h => nomatch h), List.nodup_nil⟩ Q fun v F' H' e S' r => q v H' (e.trans S'.ex) (r.mono S'.ex)
theorem es_lc2 (hi : Il K wi Γ M (xs.map f) M1) (hg : Gt K g T) (hs : ∀ j ∈ slotsT T, j ∈ vs) (hg1 : Gt K g1 T1) (hs1 : ∀ j ∈ slotsT T1, j ∈ vs1)
    (hl : ((xs.filter c).flatMap fun x => (ys x)).length ≤ 100000)
    (hb : ∀ x ∈ xs, noL (f x) = true ∧ ∃ Γ1, bindT T (f x) (wipeD Γ vs) = some Γ1 ∧ ∀ m, Ets K tt Γ1 (m :: M1) (c x) (m :: M1) ∧ (c x = true → Il K wi1 Γ1 (m :: M1) ((ys x).map (f1 x)) (m :: M1) ∧
      ∀ y ∈ ys x, noL (f1 x y) = true ∧ ∃ Γ2, bindT T1 (f1 x y) (wipeD Γ1 vs1) = some Γ2 ∧ Ets K tt1 Γ2 (m :: M1) (c1 x y) (m :: M1) ∧ (c1 x y = true → Es K te Γ2 (m :: M1) (v x y) (m :: M1)))) :
    Es K (tLc2 wi g tt wi1 g1 tt1 te vs vs1) Γ M (.lst ((xs.filter c).flatMap fun x => ((ys x).filter (c1 x)).map (v x))) M1 := fun σ F H S Q q => by
  have hle : ∀ zs : List α, (zs.flatMap fun x => ((ys x).filter (c1 x)).map (v x)).length ≤ (zs.flatMap fun x => ys x).length := fun zs => by
    induction zs with
    | nil => simp
    | cons a r ih =>
      rw [List.flatMap_cons, List.flatMap_cons, List.length_append, List.length_append, List.length_map]
      have := List.length_filter_le (c1 a) (ys a)
      omega
  refine hi σ F H S _ fun J F1 H1 e1 S1 W Dl hD => ?_
  obtain ⟨G, Y, W, hG, hY⟩ := W
  rw [List.length_map] at W hY
  have hDF : F1 Dl = none := S1.ex.free hD
  have hmD : Dl ∉ dom M1 := fun hm => by
    obtain ⟨o, ho, _⟩ := S1.muts Dl hm
    rw [hD] at ho; cases ho
  refine ⟨fun i m H' => m = xs.length - i ∧ i ≤ xs.length ∧ ∃ F', Same F1 F' ∧ Sat K Γ ((Dl, .lst (((xs.take i).filter c).flatMap fun x => ((ys x).filter (c1 x)).map (v x))) :: M1) σ F' H', ⟨xs.length, by simp, Nat.zero_le _, F1, Same.refl _, (S1.grow (same_new hD)).new hDF hmD upd_same ⟨[], rfl, by simp; exact .nil⟩⟩, ?_⟩
  rintro i m H2 ⟨rfl, hle2, F', e2, S2⟩
  have hGo := hG H2 (e2.trans S2.ex)
  by_cases hlt : i < xs.length
  rotate_left
  · have e : i = xs.length := by omega
    subst e
    rw [List.take_length] at S2
    obtain ⟨ws, hw, S5, r5, e5⟩ := S2.freeze
    exact .inl ⟨W.stops H2 hGo, q _ _ H2 (e1.trans (e2.trans e5)) S5 r5⟩
  refine .inr ⟨W.goes i H2 hlt hGo, fun H' => ∃ F', Same F1 F' ∧ Sat K Γ ((Dl, .lst (((xs.take (i + 1)).filter c).flatMap fun x => ((ys x).filter (c1 x)).map (v x))) :: M1) σ F' H', fun H' h => ⟨xs.length - (i + 1), by omega, rfl, hlt, h⟩, fun x H3 y => ?_⟩
  have y := W.yields i H2 x H3 hlt hGo y
  obtain ⟨e3, d, hd, rx⟩ := hY i H2 x H3 hlt (e2.trans S2.ex) y
  have hxi : xs[i]? = some xs[i] := List.getElem?_eq_getElem hlt
  rw [List.getElem?_map, hxi] at hd
  have ed : d = f xs[i] := (Option.some.inj hd).symm
  subst ed
  obtain ⟨nd, Γ1, hbt, hrest⟩ := hb xs[i] (List.getElem_mem hlt)
  have S3 := (S2.grow e3).fix
  have rx' := (S2.grow e3).rep nd rx
  have sub2 := (S2.grow e3).sub
  refine hg x (f xs[i]) (L2.wipe σ vs) _ H3 (wipeD Γ vs) Γ1 S3.ex (S3.sr.wipe vs) rx' hbt _ fun σ' S' hw => ⟨(hw vs hs).trans (wipe_idem2 σ vs), ?_⟩
  obtain ⟨ht, hc1⟩ := hrest (Dl, .lst (((xs.take i).filter c).flatMap fun x => ((ys x).filter (c1 x)).map (v x)))
  refine ht σ' _ H3 (S3.env S') _ fun F4 H4 e4 S4 => ?_
  have sr4 : SatR K Γ σ F4 := S3.sr.mono e4
  cases hc : c xs[i] with
  | false =>
    show ∃ F', _
    refine ⟨F4, e2.trans (sub2.trans e4), ?_⟩
    rw [filter_take_succ hxi, hc, if_neg Bool.false_ne_true, List.append_nil]
    exact S4.env sr4
  | true =>
    show wi1 σ' H4 _
    refine (hc1 hc).1 σ' F4 H4 S4 _ fun J1 F5 H5 e5 S5 W1 => ?_
    obtain ⟨G1, Y1, W1, hG1, hY1⟩ := W1
    rw [List.length_map] at W1 hY1
    have sr5 : SatR K Γ σ F5 := sr4.mono e5
    have e15 : Same F1 F5 := (e2.trans (sub2.trans e4)).trans e5
    refine ⟨fun j m H' => m = (ys xs[i]).length - j ∧ j ≤ (ys xs[i]).length ∧ ∃ F', Same F5 F' ∧ Sat K Γ1 ((Dl, .lst ((((xs.take i).filter c).flatMap fun x => ((ys x).filter (c1 x)).map (v x)) ++ (((ys xs[i]).take j).filter (c1 xs[i])).map (v xs[i]))) :: M1) σ' F' H', ⟨(ys xs[i]).length, by simp, Nat.zero_le _, F5, Same.refl _, by simpa using S5⟩, ?_⟩
    rintro j m H6 ⟨rfl, hj, F6, e6, S6⟩
    have hGo1 := hG1 H6 (e6.trans S6.ex)
    by_cases hlj : j < (ys xs[i]).length
    rotate_left
    · have e : j = (ys xs[i]).length := by omega
      subst e
      rw [List.take_length] at S6
      refine .inl ⟨W1.stops H6 hGo1, F6, e15.trans e6, ?_⟩
      rw [filter_take_succ hxi, hc, if_pos rfl, List.flatMap_append, List.flatMap_cons, List.flatMap_nil, List.append_nil]
      exact S6.env (sr5.mono e6)
    refine .inr ⟨W1.goes j H6 hlj hGo1, fun H' => ∃ F', Same F5 F' ∧ Sat K Γ1 ((Dl, .lst ((((xs.take i).filter c).flatMap fun x => ((ys x).filter (c1 x)).map (v x)) ++ (((ys xs[i]).take (j + 1)).filter (c1 xs[i])).map (v xs[i]))) :: M1) σ' F' H', fun H' h => ⟨(ys xs[i]).length - (j + 1), by omega, rfl, hlj, h⟩, fun x1 H7 y1 => ?_⟩
    have y1 := W1.yields j H6 x1 H7 hlj hGo1 y1
    obtain ⟨e7, d1, hd1, rx1⟩ := hY1 j H6 x1 H7 hlj (e6.trans S6.ex) y1
    have hyj : (ys xs[i])[j]? = some (ys xs[i])[j] := List.getElem?_eq_getElem hlj
    rw [List.getElem?_map, hyj] at hd1
    have ed1 : d1 = f1 xs[i] (ys xs[i])[j] := (Option.some.inj hd1).symm
    subst ed1
    obtain ⟨ht2, hc2⟩ := hrest (Dl, .lst ((((xs.take i).filter c).flatMap fun x => ((ys x).filter (c1 x)).map (v x)) ++ (((ys xs[i]).take j).filter (c1 xs[i])).map (v xs[i])))
    obtain ⟨nd1, Γ2, hbt1, ht1, he1⟩ := (hc2 hc).2 _ (List.getElem_mem hlj)
    have S7 := (S6.grow e7).fix
    have rx1' := (S6.grow e7).rep nd1 rx1
    have sub6 := (S6.grow e7).sub
    refine hg1 x1 _ (L2.wipe σ' vs1) _ H7 (wipeD Γ1 vs1) Γ2 S7.ex (S7.sr.wipe vs1) rx1' hbt1 _ fun σ3 S'' hw1 => ⟨(hw1 vs1 hs1).trans (wipe_idem2 σ' vs1), ?_⟩
    refine ht1 σ3 _ H7 (S7.env S'') _ fun F8 H8 e8 S8 => ?_
    have sr8 : SatR K Γ1 σ' F8 := S7.sr.mono e8
    cases hcc : c1 xs[i] (ys xs[i])[j] with
    | false =>
      show ∃ F', _
      refine ⟨F8, e6.trans (sub6.trans e8), ?_⟩
      rw [filter_take_succ hyj, hcc, if_neg Bool.false_ne_true, List.append_nil]
      exact S8.env sr8
    | true =>
      show te σ3 H8 _
      refine he1 hcc σ3 F8 H8 S8 _ fun u F9 H9 e9 S9 r9 => ?_
      obtain ⟨hF9, o9, ho9, ws, rfl, rs9⟩ := S9.mem _ (List.mem_cons_self ..)
      refine ⟨ws, ho9, ?_, F9, e6.trans (sub6.trans (e8.trans e9)), ?_⟩
      · rw [rs9.len]
        apply sz5l
        have h1 : xs.filter c = (xs.take i).filter c ++ (xs.drop i).filter c := by rw [← List.filter_append, List.take_append_drop]
        have h2 : xs.drop i = xs[i] :: xs.drop (i + 1) := List.drop_eq_getElem_cons hlt
        rw [h1, h2, List.filter_cons, if_pos hc, List.flatMap_append, List.flatMap_cons, List.length_append, List.length_append] at hl
        rw [List.length_append, List.length_map]
        have h3 := hle ((xs.take i).filter c)
        have h4 := List.length_filter_le (c1 xs[i]) ((ys xs[i]).take j)
        rw [List.length_take] at h4
        omega
      · have W4 := S9.write (k := 0) rfl (o := .lst (ws ++ [u])) (m' := .lst (((((xs.take i).filter c).flatMap fun x => ((ys x).filter (c1 x)).map (v x)) ++ (((ys xs[i]).take j).filter (c1 xs[i])).map (v xs[i])) ++ [v xs[i] (ys xs[i])[j]])) ⟨_, rfl, rs9.app (.cons r9 .nil)⟩
        rw [filter_take_succ hyj, hcc, if_pos rfl, List.map_append, ← List.append_assoc]
        exact ⟨W4.ex, sr8.mono e9, W4.mem, W4.nd⟩
/-! ### over enumerate -/
theorem zipIdx_filter (xs : List Int) (p : Int → Bool) : ((xs.zipIdx.filter fun q => p q.1).map fun q => ((q.2 : Nat) : Int)) = (((List.range xs.length).filter fun (k : Nat) => p (gi xs k)).map fun (k : Nat) => ((k : Nat) : Int)) := by
  have h : xs.zipIdx = (List.range xs.length).map fun (k : Nat) => (gi xs k, k) := by
    apply List.ext_getElem?
    intro i
    rw [List.getElem?_zipIdx, List.getElem?_map]
    by_cases hi : i < xs.length
    · rw [List.getElem?_range hi, List.getElem?_eq_getElem hi]
      simp only [Option.map_some]
      rw [gi_nat, List.getD_eq_getElem?_getD, List.getElem?_eq_getElem hi, Nat.zero_add]
      rfl
    · rw [List.getElem?_eq_none (by omega), List.getElem?_eq_none (by simp; omega)]
      rfl
  rw [h, List.filter_map, List.map_map]
  rfl
end
end Q

/-! Defs that hand back a new list that changes; defs with *args; the draws, alike in all laws. -/
namespace Q
open PySem PySem.Spec PyProof.Rows L2
section
variable {K : PySem.W.Frag} {Γ : Gm} {M M1 : Mem} {B : En2} {ta : TA} {ds es : List D} {d : D}
/-- the value is a new list, which may be changed -/
def spN (K : PySem.W.Frag) (P : List D → List D → Prop) : Sp := fun vs H Q _ => ∃ ds es, P ds es ∧ Reps K H vs ds ∧ ∀ p F' H' ws, Same H F' → Same F' H' → F' p = none → H' p = some (.lst ws) → Reps K F' ws es → Q (.ref p) H'
theorem xs_callN {P : List D → List D → Prop} {E : XK} {i : Nat} (h : Ea K ta Γ ds) (hp : P ds es) (q : ∀ p, B.nx (Γ.set i (some (.adr p))) [(p, .lst es)]) : Xs K (tAsg (tCall (spN K P) [] E ta) (gName i)) Γ [] B := fun Ed σ F H S c =>
  h σ H (S.sr.mono S.ex) _ fun vs H1 e1 r1 => ⟨ds, es, hp, by rw [List.append_nil]; exact r1, fun p F' H' ws a1 a2 a3 a4 a5 => by
    have e := (S.ex.trans e1).trans a1
    have S2 : Sat K Γ [(p, .lst es)] σ F' H' := ⟨a2, S.sr.mono e, fun z hz => by
      rw [List.mem_singleton.mp hz]
      exact ⟨a3, _, a4, ws, rfl, a5⟩, List.nodup_cons.mpr ⟨by simp, List.nodup_nil⟩⟩
    exact c.nx _ _ _ F' H' (q p) e (S2.set i .adr)⟩
/-- a new list handed back, of anything -/
theorem xs_retLS (h : Eas K ta Γ M ds M1) (hl : ds.length ≤ 100000) (q : ∀ p, B.rt (.adr p) ((p, .lst ds) :: M1)) : Xs K (tRet (tLst ta)) Γ M B := fun E σ F H S c =>
  h σ F H S _ fun vs F1 H1 e1 S1 r1 => ⟨by rw [r1.len]; exact sz5 hl, fun p hp => by
    have hm : p ∉ dom M1 := fun hm => by
      obtain ⟨o, ho, _⟩ := S1.muts p hm
      rw [hp] at ho; cases ho
    have S2 := (S1.grow (same_new (o := .lst vs) hp)).new (S1.ex.free hp) hm upd_same (m := .lst ds) ⟨vs, rfl, r1⟩
    exact c.rt _ _ Γ σ _ F1 _ (q p) e1 S2 .adr⟩
/-- a new list of anything, kept as one that changes -/
theorem xs_setLS {i : Nat} (h : Eas K ta Γ M ds M1) (hl : ds.length ≤ 100000) (q : ∀ p, B.nx (Γ.set i (some (.adr p))) ((p, .lst ds) :: M1)) : Xs K (tAsg (tLst ta) (gName i)) Γ M B := fun E σ F H S c =>
  h σ F H S _ fun vs F1 H1 e1 S1 r1 => ⟨by rw [r1.len]; exact sz5 hl, fun p hp => by
    have hm : p ∉ dom M1 := fun hm => by
      obtain ⟨o, ho, _⟩ := S1.muts p hm
      rw [hp] at ho; cases ho
    have S2 := (S1.grow (same_new (o := .lst vs) hp)).new (S1.ex.free hp) hm upd_same (m := .lst ds) ⟨vs, rfl, r1⟩
    exact c.nx _ _ _ F1 _ (q p) e1 (S2.set i .adr)⟩
end
section
variable {P : Program} {w : World} {K : PySem.W.Frag} {mg : Str → Option Value} {base : Heap}
theorem fn_N {x qual : Str} {st : Stmt} {f : Addr} {fd : FuncData} {N ps : List Str} {k : Nat} {Pr : List D → List D → Prop} {t : TS} (F : Fun K x qual st f fd) (S : FnScope N ps (defScope st)) (hb : Bdy P w K mg base k N qual st t)
    (hl : ∀ ds d, Pr ds d → ds.length = ps.length) (h : ∀ ds es, Pr ds es → Xs K t (startD N ds) [] { nx := fun _ _ => False, rt := fun d' M' => ∃ p, d' = .adr p ∧ (p, .lst es) ∈ M' }) : FnOk P w K mg base (L2.CX P w) (k + 1) f fd ps (spN K Pr) := by
  refine F.okX S (fun vs H Q E ⟨ds, d, hp, r, _⟩ => r.len.trans (hl ds d hp)) fun cdv A outer s H vs Q E hr ⟨ds, es, hp, r, q⟩ => ⟨t, PSs.nox (hb f cdv A outer s H E hr), ?_⟩
  refine h ds es hp _ _ H H ⟨Same.refl _, sat_start r, (fun _ h => nomatch h), List.nodup_nil⟩ ⟨fun _ _ _ _ _ h => h.elim, ?_, fun _ _ _ _ _ h => h.elim, fun _ _ _ _ _ h => h.elim⟩
  rintro d' M Γ σ v F' H' ⟨p, rfl, hm⟩ e S' r'
  cases r'
  obtain ⟨h1, o, h2, ws, rfl, h3⟩ := S'.mem _ hm
  exact q p F' H' ws e S'.ex h1 h2 h3
/-- def f(*v) -/
theorem fn_S {name qual : Str} {st : Stmt} {f : Addr} {N : List Str} {pv : Str} {k : Nat} {Pr : List D → D → Prop} {t : TS} {oc dV kV doc pm cdv ct : Value} {od an : Option Addr} {osl : Array (Option Value)}
    (lk : K.lookup f = some ⟨oc, od, .func (PySem.W.fnOf name qual (defArgs st) (defBody st) (defScope st) dV kV doc pm an cdv ct), osl⟩) (hcd : PySem.W.codeIn K cdv qual = true) (S : FnScope N [pv] (defScope st))
    (hb : ∀ rest : List Value, bindArgs (PySem.W.fnOf name qual (defArgs st) (defBody st) (defScope st) dV kV doc pm an cdv ct) ⟨rest, []⟩ = (newTuple rest >>= fun t => pure [(pv, t)]))
    (hB : Bdy P w K mg base k N qual st t) (hl : ∀ ds d, Pr ds d → ds.length ≤ 100000) (h : ∀ ds d, Pr ds d → Xs K t (startD N [.tup ds]) [] { nx := fun _ _ => d = .non, rt := fun d' _ => d' = d }) : FnR P w K mg base (L2.CX P w) (k + 1) f (spF K Pr) := by
  refine FnR.imp (StX.fn_star (ps := []) (sp := spF K fun ds d => ∃ es, Pr es d ∧ ds = [.tup es]) lk hcd S StX.cxUp (fun us rest hu => ?_) fun A outer s H vs Q E hr hs => ?_) fun vs H Q E hs => ?_
  · have : us = [] := List.eq_nil_of_length_eq_zero hu
    subst this
    exact hb rest
  · obtain ⟨ds, d, ⟨es, hp, rfl⟩, r, q⟩ := hs
    refine ⟨t, PSs.nox (hB f cdv A outer s H E hr), ?_⟩
    refine h es d hp _ _ H H ⟨Same.refl _, sat_start r, (fun _ h => nomatch h), List.nodup_nil⟩ ⟨?_, ?_, fun _ _ _ _ _ h => h.elim, fun _ _ _ _ _ h => h.elim⟩
    · rintro Γ M σ F' H' rfl e S'
      exact q _ H' (e.trans S'.ex) .non
    · rintro d' M Γ σ v F' H' rfl e S' r'
      exact q v H' (e.trans S'.ex) r'
  · obtain ⟨ds, d, hp, r, q⟩ := hs
    refine ⟨[], vs, rfl, rfl, by rw [r.len]; exact sz5 (hl ds d hp), fun p hn => ⟨[.tup ds], d, ⟨ds, hp, rfl⟩, ?_, fun v H' e r' => q v H' ((same_new hn).trans e) r'⟩⟩
    exact .cons (.tup (.inl (.inl upd_same)) (r.mono (same_new hn))) .nil
end
/-! ### the draws -/
structure Dr where
  scr : List Int
  pos : Nat
  big : Int
  x : Int
namespace Dr
def ds (s : Dr) : List D := [lstI s.scr, .int s.pos, .int s.big, .int s.x]
structure Ok (s : Dr) : Prop where
  x0 : 0 ≤ s.x
  x1 : s.x < 2147483648
  b0 : 0 ≤ s.big
def init (ns : List Int) : Dr := ⟨ns, 0, 0, 1⟩
theorem init_ok (ns : List Int) : (init ns).Ok := ⟨(by decide : (0 : Int) ≤ 1), (by decide : (1 : Int) < 2147483648), (by decide : (0 : Int) ≤ 0)⟩
/-- a cell eaten -/
def ate (s : Dr) : Dr := ⟨s.scr, s.pos + 1, if 1000000000000000000 ≤ gi s.scr s.pos then gi s.scr s.pos else s.big, (s.x * 48271 + gi s.scr s.pos + 13) % 2147483647⟩
def eat (s : Dr) : Dr := if s.big = 0 ∧ (s.pos : Int) < s.scr.length then s.ate else s
def val (s : Dr) (L : Int) : Int := if 0 < s.big then s.big % L else ((s.x * 69621 + 7) % 2147483629) / 11 % L
def fin (s : Dr) (L : Int) : Dr := if 0 < s.big then { s with big := s.big / L } else { s with x := (s.x * 69621 + 7) % 2147483629 }
/-- the value drawn below L -/
def get (s : Dr) (L : Int) : Int := s.eat.val L
def next (s : Dr) (L : Int) : Dr := s.eat.fin L
theorem ate_ok {s : Dr} (h : s.Ok) : s.ate.Ok := by
  refine ⟨?_, ?_, ?_⟩
  · show 0 ≤ _ % _
    omega
  · show _ % _ < _
    omega
  · have := h.b0
    unfold ate
    dsimp only
    split <;> omega
theorem eat_ok {s : Dr} (h : s.Ok) : s.eat.Ok := by
  unfold eat
  split
  · exact ate_ok h
  · exact h
theorem next_ok {s : Dr} (h : s.Ok) {L : Int} (hL : 0 < L) : (s.next L).Ok := by
  have h := eat_ok h
  unfold next fin
  have := h.x0
  have := h.x1
  have := h.b0
  split
  · refine ⟨h.x0, h.x1, ?_⟩
    show 0 ≤ _ / L
    exact Int.ediv_nonneg h.b0 (by omega)
  · refine ⟨?_, ?_, h.b0⟩
    · show 0 ≤ _ % _
      omega
    · show _ % _ < _
      omega
theorem get_lo {s : Dr} {L : Int} (hL : 0 < L) : 0 ≤ s.get L := by
  unfold get val
  split
  · exact Int.emod_nonneg _ (by omega)
  · exact Int.emod_nonneg _ (by omega)
theorem get_hi {s : Dr} {L : Int} (hL : 0 < L) : s.get L < L := by
  unfold get val
  split
  · exact Int.emod_lt_of_pos _ hL
  · exact Int.emod_lt_of_pos _ hL
end Dr
def spDraws (K : PySem.W.Frag) : Sp := fun vs H Q _ => ∃ (a : Addr) (ns : List Int), vs = [.ref a] ∧ SqL K H a (ns.map V.int) ∧ ns.length ≤ 63 ∧ ∀ p F' H' ws, Same H F' → Same F' H' → F' p = none → H' p = some (.lst ws) → Reps K F' ws (Dr.init ns).ds → Q (.ref p) H'
def T_draws (K : PySem.W.Frag) : TS := (tRet (tLst (tCons (tCB (bList K) (tCons (tVar 0) tNil)) (tCons (tC (.int 0)) (tCons (tC (.int 0)) (tCons (tC (.int 1)) tNil))))))
def T_draw (K : PySem.W.Frag) : TS :=
  (tSeq (tIfS (tAnd (tTest (tOp (oEq K) (tOp (rIx K) (tVar 0) (tC (.int 2))) (tC (.int 0)))) (tTest (tOp (oLt K) (tOp (rIx K) (tVar 0) (tC (.int 1))) (tCB (bLen K) (tCons (tOp (rIx K) (tVar 0) (tC (.int 0))) tNil))))) (tSeq (tAsg (tOp (rIx K) (tOp (rIx K) (tVar 0) (tC (.int 0))) (tOp (rIx K) (tVar 0) (tC (.int 1)))) (gName 2)) (tSeq (tAsg (tOp (oAdd K) (tOp (rIx K) (tVar 0) (tC (.int 1))) (tC (.int 1))) (gSub (tVar 0) (tC (.int 1)) rSetL)) (tSeq (tIfS (tTest (tOp oGe (tVar 2) (tOp oPow (tC (.int 10)) (tC (.int 18))))) (tAsg (tVar 2) (gSub (tVar 0) (tC (.int 2)) rSetL)) tNext) (tAsg (tOp oMod (tCB (bInt) (tCons (tOp (oAdd K) (tOp (oAdd K) (tOp oMul (tOp (rIx K) (tVar 0) (tC (.int 3))) (tC (.int 48271))) (tVar 2)) (tC (.int 13))) tNil)) (tC (.int 2147483647))) (gSub (tVar 0) (tC (.int 3)) rSetL))))) tNext) (tSeq (tIfS (tTest (tOp oGt (tOp (rIx K) (tVar 0) (tC (.int 2))) (tC (.int 0)))) (tSeq (tAsg (tOp oMod (tCB (bInt) (tCons (tOp (rIx K) (tVar 0) (tC (.int 2))) tNil)) (tVar 1)) (gName 3)) (tSeq (tAsg (tOp oDiv (tOp (rIx K) (tVar 0) (tC (.int 2))) (tVar 1)) (gSub (tVar 0) (tC (.int 2)) rSetL)) (tRet (tVar 3)))) tNext) (tSeq (tAsg (tOp oMod (tCB (bInt) (tCons (tOp (oAdd K) (tOp oMul (tOp (rIx K) (tVar 0) (tC (.int 3))) (tC (.int 69621))) (tC (.int 7))) tNil)) (tC (.int 2147483629))) (gSub (tVar 0) (tC (.int 3)) rSetL)) (tRet (tOp oMod (tCB (bInt) (tCons (tOp oDiv (tOp (rIx K) (tVar 0) (tC (.int 3))) (tC (.int 11))) tNil)) (tVar 1))))))
def T_pick (K : PySem.W.Frag) (sp : Sp) : TS := (tRet (tOp (rIx K) (tVar 1) (tCall sp [] E0 (tCons (tVar 0) (tCons (tCB (bLen K) (tCons (tVar 1) tNil)) tNil)))))
def pr_draw (a : Addr) (ds : List D) (mo : MO) (d : D) (mo' : MO) : Prop := ∃ (s : Dr) (L : Int), s.Ok ∧ 0 < L ∧ L < 1073741824 ∧ ds = [.adr a, .int L] ∧ mo = .lst s.ds ∧ d = .int (s.get L) ∧ mo' = .lst (s.next L).ds
def pr_pick (a : Addr) (ds : List D) (mo : MO) (d : D) (mo' : MO) : Prop := ∃ (s : Dr) (row : List D), s.Ok ∧ 0 < row.length ∧ row.length < 100000 ∧ noLs row = true ∧ (ds = [.adr a, .lst row] ∨ ds = [.adr a, .tup row]) ∧ mo = .lst s.ds ∧ d = row.getD (s.get row.length).toNat .non ∧ mo' = .lst (s.next row.length).ds
section
variable {P : Program} {w : World} {K : PySem.W.Frag} {mg : Str → Option Value} {base : Heap}
theorem fn_draws {x qual : Str} {st : Stmt} {f : Addr} {fd : FuncData} {N : List Str} {k : Nat} (F : Fun K x qual st f fd) (S : FnScope N ["script"] (defScope st)) (hb : Bdy P w K mg base k N qual st (T_draws K)) : FnOk P w K mg base (L2.CX P w) (k + 1) f fd ["script"] (spDraws K) := by
  refine F.okX S (fun vs H Q E ⟨a, ns, e, _⟩ => by rw [e]; rfl) fun cdv A outer s H vs Q E hr ⟨a, ns, e, hS, hl, q⟩ => ⟨_, PSs.nox (hb f cdv A outer s H E hr), ?_⟩
  subst e
  refine ⟨.ref a, rfl, a, ns.map V.int, rfl, .inl hS, fun l hl => ?_⟩
  refine ⟨by show (4 : Nat) ≤ sizeLine; decide, fun p hp => ?_⟩
  have hpl : l ≠ p := fun z => by subst z; rw [upd_same] at hp; cases hp
  refine q p (upd H l (.lst (ns.map V.int))) _ _ (same_new hl) (same_new hp) hp upd_same ?_
  exact .cons (.lst upd_same (reps_int _)) (.cons .int (.cons .int (.cons .int .nil)))
/-- draws in a slot -/
theorem dr_ix {Γ : Gm} {i : Nat} {s : Dr} {j : Int} {d : D} (h : Γ[i]? = some (some (.lst s.ds))) (hj : atI s.ds j = some d) : Ed K (tOp (rIx K) (tVar i) (tC (.int j))) Γ d := ed_op (ed_var h) ed_int (ov_ixL hj)
end
end Q

/-! The draws, the law's comparison and its start, alike in all laws. -/
namespace Q
open PySem PySem.Spec PyProof.Rows L2
local macro_rules | `(tactic| walk_at "e1") => `(tactic| with_reducible first
  | exact ed_int | exact ed_bl | exact ed_str | exact ed_non | exact ed_ty | exact ea_nil | exact et_yes | exact eo_none
  | (apply ed_var; with_unfolding_all rfl)
  | apply ea_cons
  | apply ed_op | apply ed_cb | apply ed_un | apply eo_some | apply et_test | apply et_B | apply ed_notV | apply et_not | apply ed_tup
  | exact ov_addI | exact ov_subI | exact ov_ltI | exact ov_leI | exact ov_gtI | exact ov_geI | exact ov_eqI | exact ov_neI | exact ov_is | exact ov_isn | exact uv_neg
  | exact cv_lenTI | exact cv_lenLI | exact cv_min2 | exact cv_max2 | exact cv_intI | exact cv_tupleL | exact cv_all
  | apply ov_ixTI | apply ov_ixLI | apply cv_minL | apply cv_maxL | apply ov_mulI
  | (apply En.ed; apply en_lcRI) | (apply En.ed; apply en_lcR2I) | (intro kk hkk) | decide)
local macro_rules | `(tactic| walk_at "ed") => `(tactic| repeat' walk_at "e1")
section
variable {P : Program} {w : World} {K : PySem.W.Frag} {mg : Str → Option Value} {base : Heap}
theorem ok_draw (a : Addr) (ds : List D) (mo : MO) (d : D) (mo' : MO) (Mf : Mem) (N : List Str) (hN : N.length = 4) (h : pr_draw a ds mo d mo') :
    Xs K (T_draw K) (startD N ds) ((a, mo) :: Mf) { nx := fun _ M' => d = .non ∧ M' = (a, mo') :: Mf, rt := fun d' M' => d' = d ∧ M' = (a, mo') :: Mf } := by
  obtain ⟨s, L, hk, hL0, hL1, rfl, rfl, rfl, rfl⟩ := h
  have e0 : startD N [.adr a, .int L] = [some (.adr a), some (.int L), none, none] := by simp [startD, hN]
  rw [e0]
  unfold Dr.get Dr.next
  have second : ∀ (s : Dr), s.Ok → ∀ z : Option D, Xs K (tSeq (tIfS (tTest (tOp oGt (tOp (rIx K) (tVar 0) (tC (.int 2))) (tC (.int 0)))) (tSeq (tAsg (tOp oMod (tCB (bInt) (tCons (tOp (rIx K) (tVar 0) (tC (.int 2))) tNil)) (tVar 1)) (gName 3)) (tSeq (tAsg (tOp oDiv (tOp (rIx K) (tVar 0) (tC (.int 2))) (tVar 1)) (gSub (tVar 0) (tC (.int 2)) rSetL)) (tRet (tVar 3)))) tNext) (tSeq (tAsg (tOp oMod (tCB (bInt) (tCons (tOp (oAdd K) (tOp oMul (tOp (rIx K) (tVar 0) (tC (.int 3))) (tC (.int 69621))) (tC (.int 7))) tNil)) (tC (.int 2147483629))) (gSub (tVar 0) (tC (.int 3)) rSetL)) (tRet (tOp oMod (tCB (bInt) (tCons (tOp oDiv (tOp (rIx K) (tVar 0) (tC (.int 3))) (tC (.int 11))) tNil)) (tVar 1)))))
      [some (.adr a), some (.int L), z, none] ((a, .lst s.ds) :: Mf) { nx := fun _ M' => (.int (s.val L) : D) = .non ∧ M' = (a, .lst (s.fin L).ds) :: Mf, rt := fun d' M' => d' = .int (s.val L) ∧ M' = (a, .lst (s.fin L).ds) :: Mf } := by
    intro s hk z
    have hx0 := hk.x0
    have hx1 := hk.x1
    have V : Vw ((a, .lst s.ds) :: Mf) [some (.adr a), some (.int L), z, none] [some (.lst s.ds), some (.int L), z, none] := .adr 0 rfl Vw.self
    apply xs_seq
    apply xs_if V (b := decide (0 < s.big)) (et_test (ed_op (dr_ix rfl rfl) ed_int ov_gtI))
    · intro e
      have e := of_decide_eq_true e
      unfold Dr.val Dr.fin
      rw [if_pos e, if_pos e]
      apply xs_seq
      apply xs_set V (d := .int (s.big % L)) (ed_op (ed_cb (ea_cons (dr_ix (d := .int s.big) rfl rfl) ea_nil) cv_intI) (ed_var rfl) (ov_modI hL0)) rfl
      apply xs_seq
      apply xs_setI (i := 0) (k := 0) (m := 2) (j := 2) rfl rfl (.adr 0 rfl Vw.self) (d := .int (s.big / L)) (ed_op (dr_ix rfl rfl) (ed_var rfl) (ov_divI ⟨hL0, hL1⟩)) rfl ed_int rfl
      exact xs_ret Vw.self (ed_var rfl) ⟨rfl, rfl⟩
    · intro e
      have e := of_decide_eq_false e
      unfold Dr.val Dr.fin
      rw [if_neg e, if_neg e]
      apply xs_next
      apply xs_seq
      apply xs_setI (i := 0) (k := 0) (m := 3) (j := 3) rfl rfl V (d := .int ((s.x * 69621 + 7) % 2147483629)) _ rfl ed_int rfl
      · apply xs_ret (.adr 0 rfl Vw.self) (d := .int (((s.x * 69621 + 7) % 2147483629) / 11 % L))
        · exact ed_op (ed_cb (ea_cons (ed_op (dr_ix (s := { s with x := (s.x * 69621 + 7) % 2147483629 }) (d := .int ((s.x * 69621 + 7) % 2147483629)) rfl rfl) ed_int (ov_divI ⟨by decide, by decide⟩)) ea_nil) cv_intI) (ed_var rfl) (ov_modI hL0)
        · exact ⟨rfl, rfl⟩
      · exact ed_op (ed_cb (ea_cons (ed_op (ed_op (dr_ix (d := .int s.x) rfl rfl) ed_int (ov_mulI (.inl ⟨by omega, by omega⟩))) ed_int ov_addI) ea_nil) cv_intI) ed_int (ov_modI (by decide))
  have V : Vw ((a, .lst s.ds) :: Mf) [some (.adr a), some (.int L), none, none] [some (.lst s.ds), some (.int L), none, none] := .adr 0 rfl Vw.self
  have hx0 := hk.x0
  have hx1 := hk.x1
  apply xs_seq
  apply xs_if V (b := decide (s.big = 0) && decide ((s.pos : Int) < s.scr.length))
  · apply et_and
    · exact et_test (ed_op (dr_ix rfl rfl) ed_int ov_eqI)
    · intro _
      exact et_test (ed_op (dr_ix (d := .int s.pos) rfl rfl) (ed_cb (ea_cons (dr_ix (d := lstI s.scr) rfl rfl) ea_nil) cv_lenLI) ov_ltI)
  · intro e
    rw [Bool.and_eq_true, decide_eq_true_eq, decide_eq_true_eq] at e
    have ee : s.eat = s.ate := by unfold Dr.eat; rw [if_pos e]
    rw [ee]
    have hok := Dr.ate_ok hk
    apply xs_seq
    apply xs_set V (d := .int (gi s.scr s.pos)) (ed_op (dr_ix (d := lstI s.scr) rfl rfl) (dr_ix (d := .int s.pos) rfl rfl) (ov_ixLI (by omega) e.2)) rfl
    apply xs_seq
    apply xs_setI (i := 0) (k := 0) (m := 1) (j := 1) rfl rfl (.adr 0 rfl Vw.self) (d := .int ((s.pos : Int) + 1)) (ed_op (dr_ix (s := s) rfl rfl) ed_int ov_addI) rfl ed_int rfl
    have step : ∀ b : Int, Xs K (tAsg (tOp oMod (tCB (bInt) (tCons (tOp (oAdd K) (tOp (oAdd K) (tOp oMul (tOp (rIx K) (tVar 0) (tC (.int 3))) (tC (.int 48271))) (tVar 2)) (tC (.int 13))) tNil)) (tC (.int 2147483647))) (gSub (tVar 0) (tC (.int 3)) rSetL)) [some (.adr a), some (.int L), some (.int (gi s.scr s.pos)), none]
        ((a, .lst (Dr.ds ⟨s.scr, s.pos + 1, b, s.x⟩)) :: Mf) { nx := fun Γ' M' => Γ' = [some (.adr a), some (.int L), some (.int (gi s.scr s.pos)), none] ∧ M' = ((a, .lst (Dr.ds ⟨s.scr, s.pos + 1, b, (s.x * 48271 + gi s.scr s.pos + 13) % 2147483647⟩)) :: Mf), rt := fun _ _ => False } := by
      intro b
      apply xs_setI (i := 0) (k := 0) (m := 3) (j := 3) rfl rfl (.adr 0 rfl Vw.self) (d := .int ((s.x * 48271 + gi s.scr s.pos + 13) % 2147483647)) _ rfl ed_int rfl (by exact ⟨rfl, rfl⟩)
      exact ed_op (ed_cb (ea_cons (ed_op (ed_op (ed_op (dr_ix (s := ⟨s.scr, s.pos + 1, b, s.x⟩) (d := .int s.x) rfl rfl) ed_int (ov_mulI (.inl ⟨by omega, by omega⟩))) (ed_var rfl) ov_addI) ed_int ov_addI) ea_nil) cv_intI) ed_int (ov_modI (by decide))
    have weak : ∀ {t : TS} {G : Gm} {M : Mem} {B C : En2}, Xs K t G M B → (∀ Γ' M', B.nx Γ' M' → C.nx Γ' M') → (∀ d' M', B.rt d' M' → C.rt d' M') → (∀ Γ' M', B.bk Γ' M' → C.bk Γ' M') → (∀ Γ' M', B.ct Γ' M' → C.ct Γ' M') → Xs K t G M C := fun hx h1 h2 h3 h4 E σ F H S c =>
      hx E σ F H S ⟨fun Γ M σ F' H' hh => c.nx Γ M σ F' H' (h1 _ _ hh), fun d M Γ σ v F' H' hh => c.rt d M Γ σ v F' H' (h2 _ _ hh), fun Γ M σ F' H' hh => c.bk Γ M σ F' H' (h3 _ _ hh), fun Γ M σ F' H' hh => c.ct Γ M σ F' H' (h4 _ _ hh)⟩
    apply xs_seq
    apply xs_if Vw.self (b := decide (1000000000000000000 ≤ gi s.scr s.pos))
    · refine et_test (ed_op (ed_var rfl) ((ed_op ed_int ed_int (ov_powI ⟨by decide, by decide, by decide⟩)).is ?_) ov_geI)
      rfl
    · intro e2
      have e2 := of_decide_eq_true e2
      apply xs_setI (i := 0) (k := 0) (m := 2) (j := 2) rfl rfl Vw.self (ed_var rfl) rfl ed_int rfl
      refine weak (step (gi s.scr s.pos)) ?_ (fun _ _ h => h.elim) (fun _ _ h => h.elim) (fun _ _ h => h.elim)
      rintro Γ' M' ⟨rfl, rfl⟩
      have q := second s.ate hok (some (.int (gi s.scr s.pos)))
      unfold Dr.ate at q ⊢
      rw [if_pos e2] at q ⊢
      exact q
    · intro e2
      have e2 := of_decide_eq_false e2
      apply xs_next
      refine weak (step s.big) ?_ (fun _ _ h => h.elim) (fun _ _ h => h.elim) (fun _ _ h => h.elim)
      rintro Γ' M' ⟨rfl, rfl⟩
      have q := second s.ate hok (some (.int (gi s.scr s.pos)))
      unfold Dr.ate at q ⊢
      rw [if_neg e2] at q ⊢
      exact q
  · intro e
    have ee : s.eat = s := by
      unfold Dr.eat
      rw [if_neg]
      intro z
      simp [z.1, z.2] at e
    rw [ee]
    apply xs_next
    exact second s hk none
theorem noLs_mem : ∀ {ds : List D}, noLs ds = true → ∀ d ∈ ds, noL d = true := fun {ds} => by
  induction ds with
  | nil => intro _ d h; cases h
  | cons a r ih =>
    intro h d hd
    rw [noLs, Bool.and_eq_true] at h
    rcases List.mem_cons.mp hd with rfl | hd
    · exact h.1
    · exact ih h.2 d hd
theorem pick_noL {s : Dr} {row : List D} (hn : noLs row = true) (h0 : 0 < row.length) : noL (row.getD (s.get row.length).toNat .non) = true := by
  have lo := Dr.get_lo (s := s) (L := row.length) (by omega)
  have hi := Dr.get_hi (s := s) (L := row.length) (by omega)
  rw [List.getD_eq_getElem?_getD, List.getElem?_eq_getElem (by omega)]
  exact noLs_mem hn _ (List.getElem_mem _)
theorem ok_pick (a : Addr) (ds : List D) (mo : MO) (d : D) (mo' : MO) (Mf : Mem) (N : List Str) (hN : N.length = 2) (h : pr_pick a ds mo d mo') :
    Xs K (T_pick K (spM K pr_draw)) (startD N ds) ((a, mo) :: Mf) { nx := fun _ M' => d = .non ∧ M' = (a, mo') :: Mf, rt := fun d' M' => d' = d ∧ M' = (a, mo') :: Mf } := by
  obtain ⟨s, row, hk, h0, h1, hn, hd, rfl, rfl, rfl⟩ := h
  have lo := Dr.get_lo (s := s) (L := row.length) (by omega)
  have hi := Dr.get_hi (s := s) (L := row.length) (by omega)
  obtain ⟨j, hj⟩ := Int.eq_ofNat_of_zero_le lo
  have hj2 : j < row.length := by omega
  have ha : atI row (s.get row.length) = some (row.getD (s.get row.length).toNat .non) := by
    rw [hj]
    apply atI_nat
    rw [Int.toNat_natCast, List.getD_eq_getElem?_getD, List.getElem?_eq_getElem hj2]
    rfl
  have hnl := pick_noL (s := s) hn h0
  rcases hd with rfl | rfl
  · have e0 : startD N [.adr a, .lst row] = [some (.adr a), some (.lst row)] := by simp [startD, hN]
    rw [e0]
    apply xs_retS (es_op (es_var (d := .lst row) rfl) (es_callM (k := 0) (P := pr_draw) (ds := [.adr a, .int row.length]) (eas_cons (es_var rfl) (eas_cons (es_cb (eas_cons (es_var (d := .lst row) rfl) eas_nil) cv_lenL rfl) eas_nil)) rfl ⟨s, row.length, hk, by omega, by omega, rfl, rfl, rfl, rfl⟩) (ov_ixL ha) hnl)
    exact ⟨rfl, rfl⟩
  · have e0 : startD N [.adr a, .tup row] = [some (.adr a), some (.tup row)] := by simp [startD, hN]
    rw [e0]
    apply xs_retS (es_op (es_var (d := .tup row) rfl) (es_callM (k := 0) (P := pr_draw) (ds := [.adr a, .int row.length]) (eas_cons (es_var rfl) (eas_cons (es_cb (eas_cons (es_var (d := .tup row) rfl) eas_nil) cv_lenT rfl) eas_nil)) rfl ⟨s, row.length, hk, by omega, by omega, rfl, rfl, rfl, rfl⟩) (ov_ixT ha) hnl)
    exact ⟨rfl, rfl⟩
end
end Q

/-! The law's comparison of what is told with what is due, alike in all laws. -/
namespace Q
open PySem PySem.Spec PyProof.Rows L2
local macro_rules | `(tactic| walk_at "e1") => `(tactic| with_reducible first
  | exact ed_int | exact ed_bl | exact ed_str | exact ed_non | exact ed_ty | exact ea_nil | exact et_yes | exact eo_none
  | (apply ed_var; with_unfolding_all rfl)
  | apply ea_cons
  | apply ed_op | apply ed_cb | apply ed_un | apply eo_some | apply et_test | apply et_B | apply ed_notV | apply et_not | apply ed_tup
  | exact ov_addI | exact ov_subI | exact ov_ltI | exact ov_leI | exact ov_gtI | exact ov_geI | exact ov_eqI | exact ov_neI | exact ov_is | exact ov_isn | exact uv_neg
  | exact cv_lenTI | exact cv_lenLI | exact cv_min2 | exact cv_max2 | exact cv_intI | exact cv_tupleL | exact cv_all
  | apply ov_ixTI | apply ov_ixLI | apply cv_minL | apply cv_maxL | apply ov_mulI
  | (apply En.ed; apply en_lcRI) | (apply En.ed; apply en_lcR2I) | (intro kk hkk) | decide)
local macro_rules | `(tactic| walk_at "ed") => `(tactic| repeat' walk_at "e1")
def T_same (K : PySem.W.Frag) (sp : Sp) : TS :=
  (tSeq (tIfS (tOr (tB (tCB (bIsi K) (tCons (tVar 1) (tCons (tC (.ty "tuple")) tNil)))) (tB (tCB (bIsi K) (tCons (tVar 1) (tCons (tC (.ty "list")) tNil))))) (tSeq (tIfS (tAnd (tB (tCB (bIsi K) (tCons (tVar 1) (tCons (tC (.ty "tuple")) tNil)))) (tNot (tB (tCB (bIsi K) (tCons (tVar 0) (tCons (tC (.ty "tuple")) tNil)))))) (tRet (tC (.bl false))) tNext) (tSeq (tIfS (tAnd (tB (tCB (bIsi K) (tCons (tVar 1) (tCons (tC (.ty "list")) tNil)))) (tNot (tB (tCB (bIsi K) (tCons (tVar 0) (tCons (tC (.ty "list")) tNil)))))) (tRet (tC (.bl false))) tNext) (tSeq (tIfS (tTest (tOp (oNe K) (tCB (bLen K) (tCons (tVar 0) tNil)) (tCB (bLen K) (tCons (tVar 1) tNil)))) (tRet (tC (.bl false))) tNext) (tSeq (tFor (iRng1 (tCons (tCB (bLen K) (tCons (tVar 1) tNil)) tNil)) (gName 2) (tIfS (tNot (tB (tCall sp [] E0 (tCons (tOp (rIx K) (tVar 0) (tVar 2)) (tCons (tOp (rIx K) (tVar 1) (tVar 2)) tNil))))) (tRet (tC (.bl false))) tNext)) (tRet (tC (.bl true))))))) tNext) (tSeq (tIfS (tB (tCB (bIsi K) (tCons (tVar 1) (tCons (tC (.ty "str")) tNil)))) (tRet (tAndV (tCB (bIsi K) (tCons (tVar 0) (tCons (tC (.ty "str")) tNil))) (tOp (oEq K) (tVar 0) (tVar 1)))) tNext) (tSeq (tIfS (tTest (tOp oIs (tVar 1) (tC .non))) (tRet (tOp oIs (tVar 0) (tC .non))) tNext) (tSeq (tIfS (tOr (tB (tCB (bIsi K) (tCons (tVar 1) (tCons (tC (.ty "bool")) tNil)))) (tB (tCB (bIsi K) (tCons (tVar 0) (tCons (tC (.ty "bool")) tNil))))) (tRet (tAndV (tCB (bIsi K) (tCons (tVar 1) (tCons (tC (.ty "bool")) tNil))) (tAndV (tCB (bIsi K) (tCons (tVar 0) (tCons (tC (.ty "bool")) tNil))) (tOp (oEq K) (tVar 0) (tVar 1))))) tNext) (tRet (tAndV (tCB (bIsi K) (tCons (tVar 0) (tCons (tC (.ty "int")) tNil))) (tAndV (tCB (bIsi K) (tCons (tVar 1) (tCons (tC (.ty "int")) tNil))) (tOp (oEq K) (tVar 0) (tVar 1)))))))))
mutual
/-- the law's comparison -/
def sameD : D → D → Bool
  | a, .tup es => match a with
    | .tup as => sameDs as es
    | _ => false
  | a, .lst es => match a with
    | .lst as => sameDs as es
    | _ => false
  | a, .str s => match a with
    | .str t => decide (t = s)
    | _ => false
  | a, .non => isNon a
  | a, .bl b => match a with
    | .bl c => decide (c = b)
    | _ => false
  | a, .int i => match a with
    | .int j => decide (j = i)
    | _ => false
  | _, _ => false
def sameDs : List D → List D → Bool
  | [], [] => true
  | a :: as, e :: es => sameD a e && sameDs as es
  | [], _ :: _ => false
  | _ :: _, [] => false
end
mutual
def plainD : D → Bool
  | .non => true
  | .bl _ => true
  | .int _ => true
  | .str _ => true
  | .tup ds => plainDs ds && decide (ds.length ≤ 100000)
  | .lst ds => plainDs ds && decide (ds.length ≤ 100000)
  | _ => false
def plainDs : List D → Bool
  | [] => true
  | d :: ds => plainD d && plainDs ds
end
mutual
def depD : D → Nat
  | .tup ds => depDs ds + 1
  | .lst ds => depDs ds + 1
  | _ => 0
def depDs : List D → Nat
  | [] => 0
  | d :: ds => max (depD d) (depDs ds)
end
theorem depDs_mem : ∀ {ds : List D} {d : D}, d ∈ ds → depD d ≤ depDs ds
  | e :: ds, d, h => by
    rw [depDs]
    rcases List.mem_cons.mp h with rfl | h
    · exact Nat.le_max_left _ _
    · exact Nat.le_trans (depDs_mem h) (Nat.le_max_right _ _)
theorem plainDs_mem : ∀ {ds : List D} {d : D}, plainDs ds = true → d ∈ ds → plainD d = true
  | e :: ds, d, hp, h => by
    rw [plainDs, Bool.and_eq_true] at hp
    rcases List.mem_cons.mp h with rfl | h
    · exact hp.1
    · exact plainDs_mem hp.2 h
mutual
theorem sameD_refl : ∀ {d : D}, plainD d = true → sameD d d = true
  | .non, _ => by simp [sameD, isNon]
  | .bl b, _ => by simp [sameD]
  | .int b, _ => by simp [sameD]
  | .str b, _ => by simp [sameD]
  | .tup ds, h => by
    rw [plainD, Bool.and_eq_true] at h
    simp only [sameD]
    exact sameDs_refl h.1
  | .lst ds, h => by
    rw [plainD, Bool.and_eq_true] at h
    simp only [sameD]
    exact sameDs_refl h.1
  | .ty _, h => by simp [plainD] at h
  | .adr _, h => by simp [plainD] at h
  | .obj _ _ _, h => by simp [plainD] at h
theorem sameDs_refl : ∀ {ds : List D}, plainDs ds = true → sameDs ds ds = true
  | [], _ => by simp [sameDs]
  | d :: ds, h => by
    rw [plainDs, Bool.and_eq_true] at h
    simp only [sameDs, sameD_refl h.1, sameDs_refl h.2, Bool.and_self]
end
theorem sameDs_iff : ∀ {as es : List D}, sameDs as es = true ↔ as.length = es.length ∧ ∀ i, i < es.length → sameD (as.getD i .non) (es.getD i .non) = true
  | [], [] => by simp [sameDs]
  | [], _ :: _ => by simp [sameDs]
  | _ :: _, [] => by simp [sameDs]
  | a :: as, e :: es => by
    rw [sameDs, Bool.and_eq_true, sameDs_iff]
    refine ⟨fun ⟨h1, h2, h3⟩ => ⟨by simp [h2], fun i hi => ?_⟩, fun ⟨h1, h2⟩ => ⟨h2 0 (by simp), by simpa using h1, fun i hi => h2 (i + 1) (by simpa using hi)⟩⟩
    cases i with
    | zero => exact h1
    | succ i => exact h3 i (by simpa using hi)
def isiB : D → String → Bool
  | .tup _, n => n == "tuple"
  | .lst _, n => n == "list"
  | .str _, n => n == "str"
  | .bl _, n => n == "bool" || n == "int"
  | .int _, n => n == "int"
  | _, _ => false
theorem kit_tab : (["NoneType", "bool", "int", "str", "tuple", "list"].all fun t => ["tuple", "list", "str", "bool", "int"].all fun n => kitB t n == some (t == n || (t == "bool" && n == "int"))) = true := by decide +kernel
theorem kit_at {t n : String} (ht : t ∈ ["NoneType", "bool", "int", "str", "tuple", "list"]) (hn : n ∈ ["tuple", "list", "str", "bool", "int"]) : kitB t n = some (t == n || (t == "bool" && n == "int")) := by
  have := kit_tab
  rw [List.all_eq_true] at this
  have := this t ht
  rw [List.all_eq_true] at this
  exact eq_of_beq (this n hn)
section
variable {P : Program} {w : World} {K : PySem.W.Frag} {mg : Str → Option Value} {base : Heap} {Γ : Gm}
theorem cv_isiP {a : D} {n : String} (hp : plainD a = true) (hn : n ∈ ["tuple", "list", "str", "bool", "int"]) : CbV K (bIsi K) [a, .ty n] (.bl (isiB a n)) := by
  cases a with
  | non =>
    refine cv_isi (t := "NoneType") rfl ((kit_at (by decide) hn).trans ?_)
    simp only [List.mem_cons, List.not_mem_nil, or_false] at hn
    rcases hn with rfl | rfl | rfl | rfl | rfl <;> rfl
  | bl b =>
    refine cv_isi (t := "bool") rfl ((kit_at (by decide) hn).trans ?_)
    simp only [List.mem_cons, List.not_mem_nil, or_false] at hn
    rcases hn with rfl | rfl | rfl | rfl | rfl <;> rfl
  | int b =>
    refine cv_isi (t := "int") rfl ((kit_at (by decide) hn).trans ?_)
    simp only [List.mem_cons, List.not_mem_nil, or_false] at hn
    rcases hn with rfl | rfl | rfl | rfl | rfl <;> rfl
  | str b =>
    refine cv_isi (t := "str") rfl ((kit_at (by decide) hn).trans ?_)
    simp only [List.mem_cons, List.not_mem_nil, or_false] at hn
    rcases hn with rfl | rfl | rfl | rfl | rfl <;> rfl
  | tup b =>
    refine cv_isi (t := "tuple") rfl ((kit_at (by decide) hn).trans ?_)
    simp only [List.mem_cons, List.not_mem_nil, or_false] at hn
    rcases hn with rfl | rfl | rfl | rfl | rfl <;> rfl
  | lst b =>
    refine cv_isi (t := "list") rfl ((kit_at (by decide) hn).trans ?_)
    simp only [List.mem_cons, List.not_mem_nil, or_false] at hn
    rcases hn with rfl | rfl | rfl | rfl | rfl <;> rfl
  | ty _ => simp [plainD] at hp
  | adr _ => simp [plainD] at hp
  | obj _ _ _ => simp [plainD] at hp
theorem ed_isiP {a : D} {n : String} {i : Nat} (h : Γ[i]? = some (some a)) (hp : plainD a = true) (hn : n ∈ ["tuple", "list", "str", "bool", "int"]) : Ed K (tCB (bIsi K) (tCons (tVar i) (tCons (tC (.ty n)) tNil))) Γ (.bl (isiB a n)) :=
  ed_cb (ea_cons (ed_var h) (ea_cons ed_ty ea_nil)) (cv_isiP hp hn)
/-- below depth n -/
def pr_same (n : Nat) (ds : List D) (d : D) : Prop := ∃ a e, plainD a = true ∧ plainD e = true ∧ depD e < n ∧ ds = [a, e] ∧ d = .bl (sameD a e)
abbrev Bv (d : D) : En2 := { nx := fun _ _ => d = .non, rt := fun d' _ => d' = d }
theorem same_tail {A E : D} {as es : List D} {n : Nat} {B : En2} (hB : ∀ M, B.rt (.bl (sameDs as es)) M) (hA : plainDs as = true) (hE : plainDs es = true) (hl : es.length ≤ 100000) (hd : depDs es < n)
    (la : CbV K (bLen K) [A] (.int as.length)) (le : CbV K (bLen K) [E] (.int es.length)) (xa : ∀ i d, atI as i = some d → OpV K (rIx K) A (.int i) d) (xe : ∀ i d, atI es i = some d → OpV K (rIx K) E (.int i) d) :
    Xs K (tSeq (tIfS (tTest (tOp (oNe K) (tCB (bLen K) (tCons (tVar 0) tNil)) (tCB (bLen K) (tCons (tVar 1) tNil)))) (tRet (tC (.bl false))) tNext) (tSeq (tFor (iRng1 (tCons (tCB (bLen K) (tCons (tVar 1) tNil)) tNil)) (gName 2) (tIfS (tNot (tB (tCall (spF K (pr_same n)) [] E0 (tCons (tOp (rIx K) (tVar 0) (tVar 2)) (tCons (tOp (rIx K) (tVar 1) (tVar 2)) tNil))))) (tRet (tC (.bl false))) tNext)) (tRet (tC (.bl true))))) [some A, some E, none] [] B := by
  apply xs_seq
  apply xs_if Vw.self (b := !decide ((as.length : Int) = es.length)) (et_test (ed_op (ed_cb (ea_cons (ed_var rfl) ea_nil) la) (ed_cb (ea_cons (ed_var rfl) ea_nil) le) ov_neI))
  · intro e
    apply xs_ret Vw.self ed_bl
    have hB' := hB []
    have : sameDs as es = false := by
      rw [Bool.eq_false_iff]
      intro z
      have := (sameDs_iff.mp z).1
      simp [this] at e
    rw [this] at hB'
    exact hB'
  · intro e
    have e : as.length = es.length := by
      have : (as.length : Int) = es.length := by simpa using e
      omega
    apply xs_next
    apply xs_seq
    apply xs_find (il_range1 (n := es.length) (eas_pure Vw.self (ea_cons (ed_cb (ea_cons (ed_var rfl) ea_nil) le) ea_nil) rfl) (by omega) (by omega)) gt_nm (fun _ => [some A, some E, none]) (fun _ => [])
      (fun i => if sameD (as.getD i .non) (es.getD i .non) = true then none else some ()) (by exact ⟨rfl, rfl, trivial⟩) rfl
    · intro i d hd' hn
      rw [List.getElem?_map] at hd'
      obtain ⟨j, hj, rfl⟩ := Option.map_eq_some_iff.mp hd'
      obtain ⟨h1, h2⟩ := List.getElem?_eq_some_iff.mp hj
      have hi : i < es.length := by simpa using h1
      have ej : j = i := by rw [← h2]; simp
      subst ej
      have g1 : as[j]? = some (as.getD j .non) := by rw [List.getD_eq_getElem?_getD, List.getElem?_eq_getElem (by omega)]; rfl
      have g2 : es[j]? = some (es.getD j .non) := by rw [List.getD_eq_getElem?_getD, List.getElem?_eq_getElem (by omega)]; rfl
      refine ⟨rfl, _, rfl, ?_⟩
      apply xs_if Vw.self (b := !sameD (as.getD j .non) (es.getD j .non))
      · apply et_not
        apply et_B
        apply ed_call (ea_cons (ed_op (ed_var rfl) (ed_var rfl) (xa j _ (atI_nat g1))) (ea_cons (ed_op (ed_var rfl) (ed_var rfl) (xe j _ (atI_nat g2))) ea_nil))
        exact ⟨_, _, plainDs_mem hA (List.mem_of_getElem? g1), plainDs_mem hE (List.mem_of_getElem? g2), Nat.lt_of_le_of_lt (depDs_mem (List.mem_of_getElem? g2)) hd, rfl, rfl⟩
      · intro e2
        apply xs_ret Vw.self ed_bl
        have hB' := hB []
        have : sameDs as es = false := by
          rw [Bool.eq_false_iff]
          intro z
          have := (sameDs_iff.mp z).2 j hi
          rw [this] at e2
          cases e2
        rw [this] at hB'
        exact hB'
      · intro e2
        apply xs_next
        refine ⟨⟨rfl, rfl, trivial⟩, rfl, ?_⟩
        rw [if_pos (by simpa using e2)]
    · intro hn
      apply xs_ret Vw.self ed_bl
      have hB' := hB []
      have : sameDs as es = true := sameDs_iff.mpr ⟨e, fun i hi => by
        have := hn i (by simpa using hi)
        by_cases z : sameD (as.getD i .non) (es.getD i .non) = true
        · exact z
        · rw [if_neg z] at this
          cases this⟩
      rw [this] at hB'
      exact hB'
theorem ok_same (n : Nat) (N : List Str) (hN : N.length = 3) (ds : List D) (d : D) (h : pr_same (n + 1) ds d) : Xs K (T_same K (spF K (pr_same n))) (startD N ds) [] (Bv d) := by
  obtain ⟨a, e, ha, he, hd, rfl, rfl⟩ := h
  have e0 : startD N [a, e] = [some a, some e, none] := by simp [startD, hN]
  rw [e0]
  apply xs_seq
  apply xs_if Vw.self (b := isiB e "tuple" || isiB e "list") (et_or (et_B (ed_isiP rfl he (by decide))) fun _ => et_B (ed_isiP rfl he (by decide)))
  · intro hs
    apply xs_seq
    apply xs_if Vw.self (b := isiB e "tuple" && !isiB a "tuple") (et_and (et_B (ed_isiP rfl he (by decide))) fun _ => et_not (et_B (ed_isiP rfl ha (by decide))))
    · intro q
      apply xs_ret Vw.self ed_bl
      cases e <;> simp [isiB] at q
      cases a <;> simp [isiB] at q <;> simp [sameD]
    intro q1
    apply xs_next
    apply xs_seq
    apply xs_if Vw.self (b := isiB e "list" && !isiB a "list") (et_and (et_B (ed_isiP rfl he (by decide))) fun _ => et_not (et_B (ed_isiP rfl ha (by decide))))
    · intro q
      apply xs_ret Vw.self ed_bl
      cases e <;> simp [isiB] at q
      cases a <;> simp [isiB] at q <;> simp [sameD]
    intro q2
    apply xs_next
    cases e with
    | tup es =>
      cases a with
      | tup as =>
        rw [plainD, Bool.and_eq_true, decide_eq_true_eq] at ha he
        rw [depD] at hd
        simp only [sameD]
        exact same_tail (fun _ => rfl) ha.1 he.1 he.2 (by omega) cv_lenT cv_lenT (fun i d h => ov_ixT h) fun i d h => ov_ixT h
      | _ => simp [isiB] at q1
    | lst es =>
      cases a with
      | lst as =>
        rw [plainD, Bool.and_eq_true, decide_eq_true_eq] at ha he
        rw [depD] at hd
        simp only [sameD]
        exact same_tail (fun _ => rfl) ha.1 he.1 he.2 (by omega) cv_lenL cv_lenL (fun i d h => ov_ixL h) fun i d h => ov_ixL h
      | _ => simp [isiB] at q2
    | _ => simp [isiB] at hs
  · intro hs
    apply xs_next
    apply xs_seq
    apply xs_if Vw.self (b := isiB e "str") (et_B (ed_isiP rfl he (by decide)))
    · intro q
      cases e <;> simp [isiB] at q
      rename_i s
      apply xs_ret Vw.self _ rfl
      cases a with
      | str t =>
        apply Ed.is
        · apply ed_andV (ed_isiP rfl ha (by decide))
          intro _
          exact ed_op (ed_var rfl) (ed_var rfl) ov_eqS
        · simp [isiB, sameD]
      | _ =>
        apply Ed.is
        · apply ed_andV (b := true) (ed_isiP rfl ha (by decide))
          intro z
          simp [isiB] at z
        · simp [isiB, sameD]
    intro q1
    apply xs_next
    apply xs_seq
    apply xs_if Vw.self (b := isNon e) (et_test (ed_op (ed_var rfl) ed_non ov_is))
    · intro q
      cases e <;> simp [isNon] at q
      apply xs_ret Vw.self _ rfl
      simp only [sameD]
      exact ed_op (ed_var rfl) ed_non ov_is
    intro q2
    apply xs_next
    apply xs_seq
    apply xs_if Vw.self (b := isiB e "bool" || isiB a "bool") (et_or (et_B (ed_isiP rfl he (by decide))) fun _ => et_B (ed_isiP rfl ha (by decide)))
    · intro q
      apply xs_ret Vw.self _ rfl
      cases e with
      | bl b =>
        cases a with
        | bl c =>
          apply Ed.is
          · apply ed_andV (ed_isiP rfl he (by decide))
            intro _
            apply ed_andV (ed_isiP rfl ha (by decide))
            intro _
            exact ed_op (ed_var rfl) (ed_var rfl) ov_eqB
          · simp [isiB, sameD]
        | _ =>
          apply Ed.is
          · apply ed_andV (ed_isiP rfl he (by decide))
            intro _
            apply ed_andV (b := true) (ed_isiP rfl ha (by decide))
            intro z
            simp [isiB] at z
          · simp [isiB, sameD]
      | int b =>
        cases a <;> simp [isiB] at q
        apply Ed.is
        · apply ed_andV (b := true) (ed_isiP rfl he (by decide))
          intro z
          simp [isiB] at z
        · simp [isiB, sameD]
      | non => simp [isNon] at q2
      | _ => simp [isiB, plainD] at hs q1 he
    intro q3
    apply xs_next
    apply xs_ret Vw.self _ rfl
    cases e with
    | int b =>
      cases a with
      | int c =>
        apply Ed.is
        · apply ed_andV (ed_isiP rfl ha (by decide))
          intro _
          apply ed_andV (ed_isiP rfl he (by decide))
          intro _
          exact ed_op (ed_var rfl) (ed_var rfl) ov_eqI
        · simp [isiB, sameD]
      | bl c => simp [isiB] at q3
      | _ =>
        apply Ed.is
        · apply ed_andV (b := true) (ed_isiP rfl ha (by decide))
          intro z
          simp [isiB] at z
        · simp [isiB, sameD]
    | non => simp [isNon] at q2
    | bl b => simp [isiB] at q3
    | _ => simp [isiB, plainD] at hs q1 he
end
end Q

/-! The law's start; the comparison as a def; what the kit's written part tells of a def. -/
namespace Q
open PySem PySem.Spec PyProof.Rows L2
section
variable {P : Program} {w : World} {K : PySem.W.Frag} {mg : Str → Option Value} {base : Heap}
theorem fn_same {st : Stmt} {f : Addr} {fd : FuncData} {N : List Str} (F : Fun K "_law_same" "_law_same" st f fd) (S : FnScope N ["actual", "expected"] (defScope st)) (hN : N.length = 3) (bd : Binds K fd ["actual", "expected"] []) (g : mg "_law_same" = some (.ref f))
    (hb : ∀ (lv : Nat) (sp : Sp), Cal P w K mg base lv "_law_same" sp → Bdy P w K mg base lv N "_law_same" st (T_same K sp)) : ∀ n, Cal P w K mg base n "_law_same" (spF K (pr_same n))
  | 0 => ⟨f, fun A outer s H us vs Q E hr e0 r ⟨ds, d, ⟨_, _, _, _, h, _⟩, _⟩ => absurd h (Nat.not_lt_zero _), g, F.kp⟩
  | n + 1 => cal_of F (fn_F F S (hb n _ (fn_same F S hN bd g hb n)) (fun ds d ⟨a, e, _, _, _, h, _⟩ => by rw [h]; rfl) fun ds d h => ok_same n N hN ds d h) bd g
theorem Sat.drop {Γ : Gm} {pre M : Mem} {σ : L2.St} {F H : Hp} (S : Sat K Γ (pre ++ M) σ F H) : Sat K Γ M σ F H :=
  ⟨S.ex, S.sr, fun q hq => S.mem q (List.mem_append_right _ hq), by
    have := S.nd
    rw [dom, List.map_append, List.nodup_append] at this
    exact this.2.1⟩
/-- as fn_M; objects of the def's own are forgotten -/
theorem fn_M2 {x qual : Str} {st : Stmt} {f : Addr} {fd : FuncData} {N ps : List Str} {k : Nat} {Pr : Addr → List D → MO → D → MO → Prop} {t : TS} (F : Fun K x qual st f fd) (S : FnScope N ps (defScope st)) (hb : Bdy P w K mg base k N qual st t)
    (hl : ∀ a ds mo d mo', Pr a ds mo d mo' → ds.length = ps.length ∧ noL d = true) (h : ∀ a ds mo d mo' Mf, Pr a ds mo d mo' → Xs K t (startD N ds) ((a, mo) :: Mf) { nx := fun _ M' => d = .non ∧ ∃ pre, M' = pre ++ (a, mo') :: Mf, rt := fun d' M' => d' = d ∧ ∃ pre, M' = pre ++ (a, mo') :: Mf }) :
    FnOk P w K mg base (L2.CX P w) (k + 1) f fd ps (spM K Pr) := by
  refine F.okX S (fun vs H Q E ⟨a, ds, mo, d, mo', G, Mf, hp, _, r, _⟩ => r.len.trans (hl a ds mo d mo' hp).1) fun cdv A outer s H vs Q E hr ⟨a, ds, mo, d, mo', G, Mf, hp, S0, r, q⟩ => ⟨t, PSs.nox (hb f cdv A outer s H E hr), ?_⟩
  refine h a ds mo d mo' Mf hp _ _ G H (S0.env (sat_start r)) ⟨?_, ?_, fun _ _ _ _ _ h => h.elim, fun _ _ _ _ _ h => h.elim⟩
  · rintro Γ M σ F' H' ⟨rfl, pre, rfl⟩ e S'
    exact q _ F' H' e S'.drop.only .non
  · rintro d' M Γ σ v F' H' ⟨rfl, pre, rfl⟩ e S' r'
    exact q v _ H' (e.trans S'.sub) S'.fix.drop.only (S'.rep (hl a ds mo _ mo' hp).2 r')
def spLaw (K : PySem.W.Frag) : Sp := fun vs H Q _ => ∃ (a : Addr) (ns : List Int), vs = [.ref a] ∧ SqL K H a (ns.map V.int) ∧ ns.length ≤ 63 ∧ ∀ H', Q (.bl true) H'
abbrev Bt1 : En2 := { nx := fun _ _ => False, rt := fun d _ => d = .bl true }
/-- the law: behind the draws' start -/
theorem fn_law {st : Stmt} {f : Addr} {fd : FuncData} {N : List Str} {k : Nat} {u : TS} (F : Fun K "law" "law" st f fd) (S : FnScope N ["script"] (defScope st)) (hb : Bdy P w K mg base k N "law" st (tSeq (tAsg (tCall (spDraws K) [] E0 (tCons (tVar 0) tNil)) (gName 1)) u)) (hN : 2 ≤ N.length)
    (h : ∀ (ns : List Int) (p : Addr), ns.length ≤ 63 → Xs K u (none :: some (.adr p) :: List.replicate (N.length - 2) none) [(p, .lst (Dr.init ns).ds)] Bt1) : FnOk P w K mg base (L2.CX P w) (k + 1) f fd ["script"] (spLaw K) := by
  refine F.okX S (fun vs H Q E ⟨a, ns, e, _⟩ => by rw [e]; rfl) fun cdv A outer s H vs Q E hr ⟨a, ns, e, hS, hl, q⟩ => ⟨_, PSs.nox (hb f cdv A outer s H E hr), ?_⟩
  subst e
  refine ⟨.ref a, rfl, a, ns, rfl, hS, hl, fun p F' H' ws e1 e2 hp hp' r => ?_⟩
  have S0 : Sat K (none :: some (.adr p) :: List.replicate (N.length - 2) none) [(p, .lst (Dr.init ns).ds)] ((L2.start N [.ref a]).set 1 (some (.ref p))) F' H' := by
    refine ⟨e2, ?_, fun z hz => ?_, List.nodup_cons.mpr ⟨by simp, List.nodup_nil⟩⟩
    · obtain ⟨m, hm⟩ : ∃ m, N.length = m + 2 := ⟨N.length - 2, by omega⟩
      have e0 : (L2.start N [V.ref a]).set 1 (some (.ref p)) = some (.ref a) :: some (.ref p) :: List.replicate m none := by
        unfold L2.start
        rw [hm]
        rfl
      rw [e0, hm]
      refine ⟨by simp, fun i d hd => ?_⟩
      match i, hd with
      | 0, hd => cases hd
      | 1, hd =>
        cases hd
        exact ⟨_, rfl, .adr⟩
      | i + 2, hd =>
        have hd : (List.replicate (m + 2 - 2) (none : Option D))[i]? = some (some d) := hd
        rw [List.getElem?_replicate] at hd
        split at hd <;> cases hd
    · rw [List.mem_singleton.mp hz]
      exact ⟨hp, _, hp', ws, rfl, r⟩
  refine h ns p hl _ _ F' H' S0 ⟨fun _ _ _ _ _ h => h.elim, ?_, fun _ _ _ _ _ h => h.elim, fun _ _ _ _ _ h => h.elim⟩
  rintro d' M Γ σ v F2 H2 rfl e S2 r2
  cases r2
  exact q H2
theorem xs_imp {t : TS} {G : Gm} {M : Mem} {B C : En2} (hx : Xs K t G M B) (h1 : ∀ Γ' M', B.nx Γ' M' → C.nx Γ' M') (h2 : ∀ d' M', B.rt d' M' → C.rt d' M') (h3 : ∀ Γ' M', B.bk Γ' M' → C.bk Γ' M') (h4 : ∀ Γ' M', B.ct Γ' M' → C.ct Γ' M') : Xs K t G M C := fun E σ F H S c =>
  hx E σ F H S ⟨fun Γ M σ F' H' hh => c.nx Γ M σ F' H' (h1 _ _ hh), fun d M Γ σ v F' H' hh => c.rt d M Γ σ v F' H' (h2 _ _ hh), fun Γ M σ F' H' hh => c.bk Γ M σ F' H' (h3 _ _ hh), fun Γ M σ F' H' hh => c.ct Γ M σ F' H' (h4 _ _ hh)⟩
/-- a, b = [..], y: the list a new one that will change -/
theorem xs_parM {Γ Γr : Gm} {M : Mem} {B : En2} {i j : Nat} {ta te : TE} {ds : List D} {y : D} (w : Vw M Γ Γr) (h : En K ta Γr ds) (n : noLs ds = true) (h2 : Ed K te Γr y) (n2 : noL y = true) (q : ∀ p, B.nx ((Γ.set i (some (.adr p))).set j (some y)) ((p, .lst ds) :: M)) : Xs K (tPar i j (tCons ta (tCons te tNil))) Γ M B := fun E σ F H S c =>
  h σ H (S.view w) _ fun p H1 vs e hp hp' r => by
    have S1 := S.grow e
    have hm : p ∉ dom M := fun hm => by
      obtain ⟨o, ho, _⟩ := S.muts p hm
      rw [hp] at ho; cases ho
    refine h2 σ H1 (S1.view w) _ fun v H' e2 r2 => ?_
    have S2 := S1.grow e2
    have hp2 := e2 _ _ hp'
    have muts : ∀ b ∈ p :: dom M, ∃ o, H' b = some o ∧ isMut o = true := fun b hb => by
      rcases List.mem_cons.mp hb with rfl | hb
      · exact ⟨_, hp2, rfl⟩
      · exact S2.muts b hb
    have sub : Same F (cut (p :: dom M) H') := fun a o ha => by
      have h1 : a ≠ p := ne_of_none (S.ex a o ha) hp
      have h2 : a ∉ dom M := fun z => by rw [S.out a z] at ha; cases ha
      rw [cut_out (by simp [h1]; exact fun x z => h2 (List.mem_map.mpr ⟨(a, x), z, rfl⟩))]
      exact S2.ex a o ha
    have S3 : Sat K Γ ((p, .lst ds) :: M) σ (cut (p :: dom M) H') H' := ⟨cut_same _ _, S.sr.mono sub, fun z hz => by
      rcases List.mem_cons.mp hz with rfl | hz
      · exact ⟨cut_in (List.mem_cons_self ..), _, hp2, vs, rfl, (r.mono e2).cutM muts n⟩
      · obtain ⟨h1, o, h2, h3⟩ := S2.mem z hz
        exact ⟨cut_in (List.mem_cons_of_mem _ (List.mem_map.mpr ⟨z, hz, rfl⟩)), o, h2, h3.mono sub⟩, List.nodup_cons.mpr ⟨hm, S.nd⟩⟩
    exact ⟨_, _, rfl, c.nx _ _ _ _ H' (q p) sub ((S3.set i .adr).set j (r2.cutM muts n2))⟩
/-- the law's comparison of a value with itself -/
theorem same_no {Γ : Gm} {ta : TA} {d : D} {n : Nat} (h : Ea K ta Γ [d, d]) (hp : plainD d = true) (hd : depD d < n) : Et K (tNot (tB (tCall (spF K (pr_same n)) [] E0 ta))) Γ false := by
  refine (et_not (et_B (ed_call h ⟨d, d, hp, hp, hd, rfl, rfl⟩))).is ?_
  rw [sameD_refl hp]
  rfl
theorem same_yes {Γ : Gm} {ta : TA} {d : D} {n : Nat} (h : Ea K ta Γ [d, d]) (hp : plainD d = true) (hd : depD d < n) : Ed K (tCall (spF K (pr_same n)) [] E0 ta) Γ (.bl true) := by
  refine (ed_call h ⟨d, d, hp, hp, hd, rfl, rfl⟩).is ?_
  rw [sameD_refl hp]
theorem et_no {Γ : Gm} {tc td : TT} (h1 : Et K tc Γ false) (h2 : Et K td Γ false) : Et K (tOr tc td) Γ false := et_or h1 fun _ => h2
/-- if .. : return False -/
theorem xs_no {Γ Γr : Gm} {M : Mem} {B : En2} {tc : TT} {t : TS} (w : Vw M Γ Γr) (h : Et K tc Γr false) (q : B.nx Γ M) : Xs K (tIfS tc t tNext) Γ M B := xs_if w h (fun e => by cases e) fun _ => xs_next q
end
theorem plainDs_ints : ∀ ns : List Int, plainDs (ns.map D.int) = true
  | [] => rfl
  | n :: ns => by simp [plainDs, plainD, plainDs_ints ns]
theorem depDs_ints : ∀ ns : List Int, depDs (ns.map D.int) = 0
  | [] => rfl
  | n :: ns => by simp [depDs, depD, depDs_ints ns]
theorem plain_tupI {ns : List Int} (h : ns.length ≤ 100000) : plainD (tupI ns) = true := by simp [plainD, plainDs_ints, h]
theorem plain_lstI {ns : List Int} (h : ns.length ≤ 100000) : plainD (lstI ns) = true := by simp [plainD, plainDs_ints, h]
theorem dep_tupI (ns : List Int) : depD (tupI ns) = 1 := by simp [depD, depDs_ints]
theorem dep_lstI (ns : List Int) : depD (lstI ns) = 1 := by simp [depD, depDs_ints]
theorem Cal.up {P : Program} {w : World} {K : PySem.W.Frag} {mg : Str → Option Value} {base : Heap} {j k : Nat} {x : Str} {sp : Sp} (c : Cal P w K mg base j x sp) (h : j ≤ k) : Cal P w K mg base k x sp := by
  obtain ⟨f, F, h1, h2⟩ := c.ex
  exact ⟨f, F.mono h, h1, h2⟩
/-- a def among the names of the written part -/
structure Dn (K : PySem.W.Frag) (x qual : Str) (st : Stmt) : Prop where
  ex : ∃ (f : Addr) (oc : Value) (od : Option Addr) (sl : Array (Option Value)) (kV dc pm cd ct : Value) (an : Option Addr), PySem.W.nsIn K mainGlobals x = some (some (.ref f)) ∧
    K.lookup f = some ⟨oc, od, .func (PySem.W.fnOf x qual (defArgs st) (defBody st) (defScope st) .none kV dc pm an cd ct), sl⟩ ∧ PySem.W.codeIn K cd qual = true ∧ PySem.W.keepIn K (.ref f) = true
theorem Dn.mk' {K : PySem.W.Frag} {x qual : Str} {st : Stmt} {f : Addr} {oc : Value} {od : Option Addr} {sl : Array (Option Value)} {kV dc pm cd ct : Value} {an : Option Addr} (a : PySem.W.nsIn K mainGlobals x = some (some (.ref f)))
    (l : K.lookup f = some ⟨oc, od, .func (PySem.W.fnOf x qual (defArgs st) (defBody st) (defScope st) .none kV dc pm an cd ct), sl⟩) (c : PySem.W.codeIn K cd qual = true) (k : PySem.W.keepIn K (.ref f) = true) : Dn K x qual st := ⟨f, oc, od, sl, kV, dc, pm, cd, ct, an, a, l, c, k⟩
/-- .. at a heap with the module's names -/
structure Df (K : PySem.W.Frag) (mg : Str → Option Value) (x qual : Str) (st : Stmt) (ps : List Str) : Prop where
  ex : ∃ (f : Addr) (fd : FuncData), Fun K x qual st f fd ∧ Binds K fd ps [] ∧ mg x = some (.ref f)
theorem Dn.df {K : PySem.W.Frag} {x qual : Str} {st : Stmt} {h : Heap} {mg : Str → Option Value} {ps : List Str} (d : Dn K x qual st) (X : K.In h) (G : h.Ns mainGlobals mg)
    (hb : ∀ (kV dc pm : Value) (an : Option Addr) (cd ct : Value) (us : List Value), us.length = ps.length → bindArgs (PySem.W.fnOf x qual (defArgs st) (defBody st) (defScope st) .none kV dc pm an cd ct) ⟨us, []⟩ = pure (ps.zip us)) : Df K mg x qual st ps := by
  obtain ⟨f, oc, od, sl, kV, dc, pm, cd, ct, an, a, l, c, k⟩ := d.ex
  have F := fun_mk (st := st) l c k
  exact ⟨f, _, F, F.binds (ps := ps) hb, PySem.W.mg_of X G a⟩
end Q

/-! Printed by gen.py: each def's reading and its derivation. -/
namespace K04
open PySem PySem.Spec PyProof.Rows L2 Q
def topS (i : Nat) : Stmt := PySem.Challenge.pw_whenwright_k04_whole_curves_of_two_hundr.main.body.getD i (.Pass ⟨0, 0, 0, 0⟩)
/-- what the module's names hold of built-ins and constants -/
structure Bt (mg : Str → Option Value) : Prop where
  b_isinstance : mg "isinstance" = none
  b_int : mg "int" = none
  b_bool : mg "bool" = none
  b_tuple : mg "tuple" = none
  b_len : mg "len" = none
  b_all : mg "all" = none
  b_zip : mg "zip" = none
  b_range : mg "range" = none
  b_max : mg "max" = none
  b_min : mg "min" = none
  b_list : mg "list" = none
  b_enumerate : mg "enumerate" = none
  b_sorted : mg "sorted" = none
  b_str : mg "str" = none
  c_MOST_STEPS : ∃ t, mg "MOST_STEPS" = some (.int 200 t)
section
variable {P : Program} {w : World} {K : PySem.W.Frag} {mg : Str → Option Value} {base : Heap}

abbrev s_is_integer : Stmt := topS 5
abbrev nm_is_integer : List Str := ["value"]
theorem sc_is_integer : FnScope nm_is_integer ["value"] (defScope s_is_integer) := ⟨rfl, rfl, rfl, by decide +kernel, rfl, by decide +kernel, by decide +kernel⟩
/-- the reading of is_integer; slots: value 0 -/
def t_is_integer (K : PySem.W.Frag) : TS :=
  (tRet (tAndV (tCB (bIsi K) (tCons (tVar 0) (tCons (tC (.ty "int")) tNil))) (tNotV (tCB (bIsi K) (tCons (tVar 0) (tCons (tC (.ty "bool")) tNil))))))
theorem b_is_integer {lv : Nat} (G : Bt mg) : Bdy P w K mg base lv nm_is_integer "is_integer" s_is_integer (t_is_integer K) := fun f cdv A outer s H E hr =>
  (pss_one (ps_ret (pe_and (pe_callB cr_bIsi rfl G.b_isinstance bt_isinstance (pa_cons (pv 0) (pa_cons (pe_bltn rfl G.b_int bt_int rfl) pa_nil))) (pe_one (pe_not (pe_callB cr_bIsi rfl G.b_isinstance bt_isinstance (pa_cons (pv 0) (pa_cons (pe_bltn rfl G.b_bool bt_bool rfl) pa_nil))))))))

abbrev s_is_curve : Stmt := topS 8
abbrev nm_is_curve : List Str := ["value", "one", "other"]
theorem sc_is_curve : FnScope nm_is_curve ["value"] (defScope s_is_curve) := ⟨rfl, rfl, rfl, by decide +kernel, rfl, by decide +kernel, by decide +kernel⟩
/-- the reading of is_curve; slots: value 0, one 1, other 2 -/
def t_is_curve (K : PySem.W.Frag) (sp_is_integer : Sp) : TS :=
  (tSeq (tIfS (tOr (tNot (tB (tCB (bIsi K) (tCons (tVar 0) (tCons (tC (.ty "tuple")) tNil))))) (tOr (tNot (tTest (tChain oLe oLe (tC (.int 1)) (tCB (bLen K) (tCons (tVar 0) tNil)) (tC (.int 200))))) (tNot (tB (tCB (rAll K) (tCons (tLc (iSeq K (tVar 0)) (gName 1) tYes (tCall sp_is_integer [] E0 (tCons (tVar 1) tNil)) [1]) tNil)))))) (tRet (tC (.bl false))) tNext) (tRet (tAndV (tOp (oEq K) (tOp (rIx K) (tVar 0) (tC (.int 0))) (tC (.int 0))) (tCB (rAll K) (tCons (tLc (RZ.iZipA K (tCons (tVar 0) (tCons (tSl (oSl K) (tVar 0) (tPart (tC (.int 1))) tNoPart) tNil))) (gTup K 2 (gCons (gName 1) (gCons (gName 2) gNil))) tYes (tOp oLe (tVar 1) (tVar 2)) [1, 2]) tNil)))))
theorem b_is_curve {lv : Nat} (G : Bt mg) {sp_is_integer : Sp} (c_is_integer : Cal P w K mg base lv "is_integer" sp_is_integer) : Bdy P w K mg base lv nm_is_curve "is_curve" s_is_curve (t_is_curve K sp_is_integer) := fun f cdv A outer s H E hr =>
  (pss_cons (ps_if (PW.pt (pw_or (pt_not (pt_val (pe_callB cr_bIsi rfl G.b_isinstance bt_isinstance (pa_cons (pv 0) (pa_cons (pe_bltn rfl G.b_tuple bt_tuple rfl) pa_nil))))) (pw_or (pt_not (pt_chain op_oLe op_oLe pe_int (pe_callB cr_bLen rfl G.b_len bt_len (pa_cons (pv 0) pa_nil)) (pe_gint rfl G.c_MOST_STEPS))) (pw_or1 (pt_not (pt_val (pe_callB (cr_bAll rfl) rfl G.b_all bt_all (pa_cons (pe_lc (own := [("one", 1)]) rfl sc_is_curve.nd (pi_seq (pv 0)) (blkOk_by (by kernel_rfl)) (fun _ _ _ _ _ => (pg_name (i := 1) sc_is_curve.nd rfl (Or.inl rfl))) (fun _ _ _ _ _ => pts_nil) (fun _ _ _ _ _ => (pe_cal c_is_integer hr (Nat.le_refl _) rfl (pa_cons (pv 1) pa_nil)))) pa_nil)))))))) (pss_one (ps_ret pe_bl)) pss_nil) (pss_one (ps_ret (pe_and (pe_cmpR (op_oEq hr) (pe_ix ix_seq (pv 0) pe_int (fun _ _ => rfl)) pe_int (nomark _)) (pe_one (pe_callB (cr_bAll rfl) rfl G.b_all bt_all (pa_cons (pe_lc (own := [("one", 1), ("other", 2)]) rfl sc_is_curve.nd (RZ.pi_zipA rfl G.b_zip (pa_cons (pv 0) (pa_cons (pe_slice sl_oSl (pv 0) (po_some pe_int) po_none) pa_nil))) (blkOk_by (by kernel_rfl)) (fun _ _ _ _ _ => (pg_tup rfl (pgs_cons (pg_name (i := 1) sc_is_curve.nd rfl (Or.inl rfl)) (pgs_cons (pg_name (i := 2) sc_is_curve.nd rfl (Or.inl rfl)) pgs_nil)))) (fun _ _ _ _ _ => pts_nil) (fun _ _ _ _ _ => (pe_cmpR op_oLe (pv 1) (pv 2) (nomark _)))) pa_nil)))))))

abbrev s_look_at_curves : Stmt := topS 9
abbrev nm_look_at_curves : List Str := ["curves", "curve"]
theorem sc_look_at_curves : FnScope nm_look_at_curves ["curves"] (defScope s_look_at_curves) := ⟨rfl, rfl, rfl, by decide +kernel, rfl, by decide +kernel, by decide +kernel⟩
/-- the reading of look_at_curves; slots: curves 0, curve 1 -/
def t_look_at_curves (K : PySem.W.Frag) (sp_is_curve : Sp) : TS :=
  (tFor (iSeq K (tVar 0)) (gName 1) (tIfS (tOr (tNot (tB (tCall sp_is_curve [] E0 (tCons (tVar 1) tNil)))) (tTest (tOp (oNe K) (tCB (bLen K) (tCons (tVar 1) tNil)) (tCB (bLen K) (tCons (tOp (rIx K) (tVar 0) (tC (.int 0))) tNil))))) tNever tNext))
theorem b_look_at_curves {lv : Nat} (G : Bt mg) {sp_is_curve : Sp} (c_is_curve : Cal P w K mg base lv "is_curve" sp_is_curve) : Bdy P w K mg base lv nm_look_at_curves "look_at_curves" s_look_at_curves (t_look_at_curves K sp_is_curve) := fun f cdv A outer s H E hr =>
  (pss_one (ps_for PassesOwn.never rfl (pi_seq (pv 0)) (pg_name (i := 1) sc_look_at_curves.nd rfl (Or.inl rfl)) (pss_one (ps_if (PW.pt (pw_or (pt_not (pt_val (pe_cal c_is_curve hr (Nat.le_refl _) rfl (pa_cons (pv 1) pa_nil)))) (pw_or1 (pt_cmpR (op_oNe hr) (pe_callB cr_bLen rfl G.b_len bt_len (pa_cons (pv 1) pa_nil)) (pe_callB cr_bLen rfl G.b_len bt_len (pa_cons (pe_ix ix_seq (pv 0) pe_int (fun _ _ => rfl)) pa_nil)) (nomark _))))) (pss_one ps_never) pss_nil))))

abbrev s_bucket : Stmt := topS 10
abbrev nm_bucket : List Str := ["burst", "rate", "size", "step"]
theorem sc_bucket : FnScope nm_bucket ["burst", "rate", "size"] (defScope s_bucket) := ⟨rfl, rfl, rfl, by decide +kernel, rfl, by decide +kernel, by decide +kernel⟩
/-- the reading of bucket; slots: burst 0, rate 1, size 2, step 3 -/
def t_bucket (K : PySem.W.Frag) : TS :=
  (tRet (tCB (bTuple K) (tCons (tOp (oAdd K) (tLst (tCons (tC (.int 0)) tNil)) (tLc (iRng2 (tCons (tC (.int 1)) (tCons (tVar 2) tNil))) (gName 3) tYes (tOp (oAdd K) (tVar 0) (tOp oMul (tVar 1) (tVar 3))) [3])) tNil)))
theorem b_bucket {lv : Nat} (G : Bt mg) : Bdy P w K mg base lv nm_bucket "bucket" s_bucket (t_bucket K) := fun f cdv A outer s H E hr =>
  (pss_one (ps_ret (pe_callTy cr_bTuple rfl G.b_tuple bt_tuple (pa_cons (pe_op op_oAdd (pe_lst (pa_cons pe_int pa_nil)) (pe_lc (own := [("step", 3)]) rfl sc_bucket.nd (pi_range2 rfl G.b_range (pa_cons pe_int (pa_cons (pv 2) pa_nil))) (blkOk_by (by kernel_rfl)) (fun _ _ _ _ _ => (pg_name (i := 3) sc_bucket.nd rfl (Or.inl rfl))) (fun _ _ _ _ _ => pts_nil) (fun _ _ _ _ _ => (pe_op op_oAdd (pv 0) (pe_op op_oMul (pv 1) (pv 3)))))) pa_nil))))

abbrev s_late_rate : Stmt := topS 11
abbrev nm_late_rate : List Str := ["late", "rate", "size", "step"]
theorem sc_late_rate : FnScope nm_late_rate ["late", "rate", "size"] (defScope s_late_rate) := ⟨rfl, rfl, rfl, by decide +kernel, rfl, by decide +kernel, by decide +kernel⟩
/-- the reading of late_rate; slots: late 0, rate 1, size 2, step 3 -/
def t_late_rate (K : PySem.W.Frag) : TS :=
  (tRet (tCB (bTuple K) (tCons (tLc (iRng1 (tCons (tVar 2) tNil)) (gName 3) tYes (tOp oMul (tVar 1) (tCB (bMax K) (tCons (tC (.int 0)) (tCons (tOp oSub (tVar 3) (tVar 0)) tNil)))) [3]) tNil)))
theorem b_late_rate {lv : Nat} (G : Bt mg) : Bdy P w K mg base lv nm_late_rate "late_rate" s_late_rate (t_late_rate K) := fun f cdv A outer s H E hr =>
  (pss_one (ps_ret (pe_callTy cr_bTuple rfl G.b_tuple bt_tuple (pa_cons (pe_lc (own := [("step", 3)]) rfl sc_late_rate.nd (pi_range1 rfl G.b_range (pa_cons (pv 2) pa_nil)) (blkOk_by (by kernel_rfl)) (fun _ _ _ _ _ => (pg_name (i := 3) sc_late_rate.nd rfl (Or.inl rfl))) (fun _ _ _ _ _ => pts_nil) (fun _ _ _ _ _ => (pe_op op_oMul (pv 1) (pe_callB (cr_bMax rfl) rfl G.b_max bt_max (pa_cons pe_int (pa_cons (pe_op op_oSub (pv 3) (pv 0)) pa_nil)))))) pa_nil))))

abbrev s_least_of : Stmt := topS 12
abbrev nm_least_of : List Str := ["first", "other", "one", "two"]
theorem sc_least_of : FnScope nm_least_of ["first", "other"] (defScope s_least_of) := ⟨rfl, rfl, rfl, by decide +kernel, rfl, by decide +kernel, by decide +kernel⟩
/-- the reading of least_of; slots: first 0, other 1, one 2, two 3 -/
def t_least_of (K : PySem.W.Frag) (sp_look_at_curves : Sp) : TS :=
  (tSeq (tDrop (tCall sp_look_at_curves [] E0 (tCons (tVar 0) (tCons (tVar 1) tNil)))) (tRet (tCB (bTuple K) (tCons (tLc (RZ.iZipA K (tCons (tVar 0) (tCons (tVar 1) tNil))) (gTup K 2 (gCons (gName 2) (gCons (gName 3) gNil))) tYes (tCB (bMin K) (tCons (tVar 2) (tCons (tVar 3) tNil))) [2, 3]) tNil))))
theorem b_least_of {lv : Nat} (G : Bt mg) {sp_look_at_curves : Sp} (c_look_at_curves : Cal P w K mg base lv "look_at_curves" sp_look_at_curves) : Bdy P w K mg base lv nm_least_of "least_of" s_least_of (t_least_of K sp_look_at_curves) := fun f cdv A outer s H E hr =>
  (pss_cons (ps_expr (pe_cal c_look_at_curves hr (Nat.le_refl _) rfl (pa_cons (pv 0) (pa_cons (pv 1) pa_nil)))) (pss_one (ps_ret (pe_callTy cr_bTuple rfl G.b_tuple bt_tuple (pa_cons (pe_lc (own := [("one", 2), ("two", 3)]) rfl sc_least_of.nd (RZ.pi_zipA rfl G.b_zip (pa_cons (pv 0) (pa_cons (pv 1) pa_nil))) (blkOk_by (by kernel_rfl)) (fun _ _ _ _ _ => (pg_tup rfl (pgs_cons (pg_name (i := 2) sc_least_of.nd rfl (Or.inl rfl)) (pgs_cons (pg_name (i := 3) sc_least_of.nd rfl (Or.inl rfl)) pgs_nil)))) (fun _ _ _ _ _ => pts_nil) (fun _ _ _ _ _ => (pe_callB (cr_bMin rfl) rfl G.b_min bt_min (pa_cons (pv 2) (pa_cons (pv 3) pa_nil))))) pa_nil)))))

abbrev s_put_behind : Stmt := topS 13
abbrev nm_put_behind : List Str := ["first", "other", "step", "k"]
theorem sc_put_behind : FnScope nm_put_behind ["first", "other"] (defScope s_put_behind) := ⟨rfl, rfl, rfl, by decide +kernel, rfl, by decide +kernel, by decide +kernel⟩
/-- the reading of put_behind; slots: first 0, other 1, step 2, k 3 -/
def t_put_behind (K : PySem.W.Frag) (sp_look_at_curves : Sp) : TS :=
  (tSeq (tDrop (tCall sp_look_at_curves [] E0 (tCons (tVar 0) (tCons (tVar 1) tNil)))) (tRet (tCB (bTuple K) (tCons (tLc (iRng1 (tCons (tCB (bLen K) (tCons (tVar 0) tNil)) tNil)) (gName 2) tYes (tCB (bMin K) (tCons (tLc (iRng1 (tCons (tOp (oAdd K) (tVar 2) (tC (.int 1))) tNil)) (gName 3) tYes (tOp (oAdd K) (tOp (rIx K) (tVar 0) (tVar 3)) (tOp (rIx K) (tVar 1) (tOp oSub (tVar 2) (tVar 3)))) [3]) tNil)) [2]) tNil))))
theorem b_put_behind {lv : Nat} (G : Bt mg) {sp_look_at_curves : Sp} (c_look_at_curves : Cal P w K mg base lv "look_at_curves" sp_look_at_curves) : Bdy P w K mg base lv nm_put_behind "put_behind" s_put_behind (t_put_behind K sp_look_at_curves) := fun f cdv A outer s H E hr =>
  (pss_cons (ps_expr (pe_cal c_look_at_curves hr (Nat.le_refl _) rfl (pa_cons (pv 0) (pa_cons (pv 1) pa_nil)))) (pss_one (ps_ret (pe_callTy cr_bTuple rfl G.b_tuple bt_tuple (pa_cons (pe_lc (own := [("step", 2)]) rfl sc_put_behind.nd (pi_range1 rfl G.b_range (pa_cons (pe_callB cr_bLen rfl G.b_len bt_len (pa_cons (pv 0) pa_nil)) pa_nil)) (blkOk_by (by kernel_rfl)) (fun _ _ _ _ _ => (pg_name (i := 2) sc_put_behind.nd rfl (Or.inr rfl))) (fun _ _ _ _ _ => pts_nil) (fun _ _ _ _ _ => (pe_callB (cr_bMin rfl) rfl G.b_min bt_min (pa_cons (pe_lc (own := [("k", 3)]) rfl sc_put_behind.nd (pi_range1 rfl G.b_range (pa_cons (pe_op op_oAdd (pv 2) pe_int) pa_nil)) (blkOk_by (by kernel_rfl)) (fun _ _ _ _ _ => (pg_name (i := 3) sc_put_behind.nd rfl (Or.inl rfl))) (fun _ _ _ _ _ => pts_nil) (fun _ _ _ _ _ => (pe_op op_oAdd (pe_ix ix_seq (pv 0) (pv 3) (fun _ _ => rfl)) (pe_ix ix_seq (pv 1) (pe_op op_oSub (pv 2) (pv 3)) (fun _ _ => rfl))))) pa_nil)))) pa_nil)))))

abbrev s_put_off : Stmt := topS 14
abbrev nm_put_off : List Str := ["first", "other", "half", "step", "k"]
theorem sc_put_off : FnScope nm_put_off ["first", "other"] (defScope s_put_off) := ⟨rfl, rfl, rfl, by decide +kernel, rfl, by decide +kernel, by decide +kernel⟩
/-- the reading of put_off; slots: first 0, other 1, half 2, step 3, k 4 -/
def t_put_off (K : PySem.W.Frag) (sp_look_at_curves : Sp) : TS :=
  (tSeq (tDrop (tCall sp_look_at_curves [] E0 (tCons (tVar 0) (tCons (tVar 1) tNil)))) (tSeq (tAsg (tOp oDiv (tOp (oAdd K) (tCB (bLen K) (tCons (tVar 0) tNil)) (tC (.int 1))) (tC (.int 2))) (gName 2)) (tRet (tCB (bTuple K) (tCons (tLc (iRng1 (tCons (tVar 2) tNil)) (gName 3) tYes (tCB (bMax K) (tCons (tLc (iRng1 (tCons (tOp oSub (tCB (bLen K) (tCons (tVar 0) tNil)) (tVar 3)) tNil)) (gName 4) tYes (tOp oSub (tOp (rIx K) (tVar 0) (tOp (oAdd K) (tVar 3) (tVar 4))) (tOp (rIx K) (tVar 1) (tVar 4))) [4]) tNil)) [3]) tNil)))))
theorem b_put_off {lv : Nat} (G : Bt mg) {sp_look_at_curves : Sp} (c_look_at_curves : Cal P w K mg base lv "look_at_curves" sp_look_at_curves) : Bdy P w K mg base lv nm_put_off "put_off" s_put_off (t_put_off K sp_look_at_curves) := fun f cdv A outer s H E hr =>
  (pss_cons (ps_expr (pe_cal c_look_at_curves hr (Nat.le_refl _) rfl (pa_cons (pv 0) (pa_cons (pv 1) pa_nil)))) (pss_cons (ps_set (i := 2) sc_put_off.nd rfl (Or.inl rfl) (pe_op op_oDiv (pe_op op_oAdd (pe_callB cr_bLen rfl G.b_len bt_len (pa_cons (pv 0) pa_nil)) pe_int) pe_int)) (pss_one (ps_ret (pe_callTy cr_bTuple rfl G.b_tuple bt_tuple (pa_cons (pe_lc (own := [("step", 3)]) rfl sc_put_off.nd (pi_range1 rfl G.b_range (pa_cons (pv 2) pa_nil)) (blkOk_by (by kernel_rfl)) (fun _ _ _ _ _ => (pg_name (i := 3) sc_put_off.nd rfl (Or.inr rfl))) (fun _ _ _ _ _ => pts_nil) (fun _ _ _ _ _ => (pe_callB (cr_bMax rfl) rfl G.b_max bt_max (pa_cons (pe_lc (own := [("k", 4)]) rfl sc_put_off.nd (pi_range1 rfl G.b_range (pa_cons (pe_op op_oSub (pe_callB cr_bLen rfl G.b_len bt_len (pa_cons (pv 0) pa_nil)) (pv 3)) pa_nil)) (blkOk_by (by kernel_rfl)) (fun _ _ _ _ _ => (pg_name (i := 4) sc_put_off.nd rfl (Or.inl rfl))) (fun _ _ _ _ _ => pts_nil) (fun _ _ _ _ _ => (pe_op op_oSub (pe_ix ix_seq (pv 0) (pe_op op_oAdd (pv 3) (pv 4)) (fun _ _ => rfl)) (pe_ix ix_seq (pv 1) (pv 4) (fun _ _ => rfl))))) pa_nil)))) pa_nil))))))

abbrev s_closed : Stmt := topS 15
abbrev nm_closed : List Str := ["curve", "found", "step", "k"]
theorem sc_closed : FnScope nm_closed ["curve"] (defScope s_closed) := ⟨rfl, rfl, rfl, by decide +kernel, rfl, by decide +kernel, by decide +kernel⟩
/-- the reading of closed; slots: curve 0, found 1, step 2, k 3 -/
def t_closed (K : PySem.W.Frag) (sp_look_at_curves : Sp) : TS :=
  (tSeq (tDrop (tCall sp_look_at_curves [] E0 (tCons (tVar 0) tNil))) (tSeq (tAsg (tCB (bList K) (tCons (tVar 0) tNil)) (gName 1)) (tSeq (tFor (iRng2 (tCons (tC (.int 1)) (tCons (tCB (bLen K) (tCons (tVar 0) tNil)) tNil))) (gName 2) (tAsg (tCB (bMin K) (tCons (tOp (oAdd K) (tLst (tCons (tOp (rIx K) (tVar 0) (tVar 2)) tNil)) (tLc (iRng2 (tCons (tC (.int 1)) (tCons (tVar 2) tNil))) (gName 3) tYes (tOp (oAdd K) (tOp (rIx K) (tVar 1) (tVar 3)) (tOp (rIx K) (tVar 1) (tOp oSub (tVar 2) (tVar 3)))) [3])) tNil)) (gSub (tVar 1) (tVar 2) rSetL))) (tRet (tCB (bTuple K) (tCons (tVar 1) tNil))))))
theorem b_closed {lv : Nat} (G : Bt mg) {sp_look_at_curves : Sp} (c_look_at_curves : Cal P w K mg base lv "look_at_curves" sp_look_at_curves) : Bdy P w K mg base lv nm_closed "closed" s_closed (t_closed K sp_look_at_curves) := fun f cdv A outer s H E hr =>
  (pss_cons (ps_expr (pe_cal c_look_at_curves hr (Nat.le_refl _) rfl (pa_cons (pv 0) pa_nil))) (pss_cons (ps_set (i := 1) sc_closed.nd rfl (Or.inr rfl) (pe_callTy cr_bList rfl G.b_list bt_list (pa_cons (pv 0) pa_nil))) (pss_cons (ps_for PassesOwn.never rfl (pi_range2 rfl G.b_range (pa_cons pe_int (pa_cons (pe_callB cr_bLen rfl G.b_len bt_len (pa_cons (pv 0) pa_nil)) pa_nil))) (pg_name (i := 2) sc_closed.nd rfl (Or.inr rfl)) (pss_one (ps_asg (pe_callB (cr_bMin rfl) rfl G.b_min bt_min (pa_cons (pe_op op_oAdd (pe_lst (pa_cons (pe_ix ix_seq (pv 0) (pv 2) (fun _ _ => rfl)) pa_nil)) (pe_lc (own := [("k", 3)]) rfl sc_closed.nd (pi_range2 rfl G.b_range (pa_cons pe_int (pa_cons (pv 2) pa_nil))) (blkOk_by (by kernel_rfl)) (fun _ _ _ _ _ => (pg_name (i := 3) sc_closed.nd rfl (Or.inl rfl))) (fun _ _ _ _ _ => pts_nil) (fun _ _ _ _ _ => (pe_op op_oAdd (pe_ix ix_seq (pv 1) (pv 3) (fun _ _ => rfl)) (pe_ix ix_seq (pv 1) (pe_op op_oSub (pv 2) (pv 3)) (fun _ _ => rfl)))))) pa_nil)) (pg_sub (pv 1) (pv 2) set_list)))) (pss_one (ps_ret (pe_callTy cr_bTuple rfl G.b_tuple bt_tuple (pa_cons (pv 1) pa_nil)))))))

abbrev s_is_closed : Stmt := topS 16
abbrev nm_is_closed : List Str := ["curve"]
theorem sc_is_closed : FnScope nm_is_closed ["curve"] (defScope s_is_closed) := ⟨rfl, rfl, rfl, by decide +kernel, rfl, by decide +kernel, by decide +kernel⟩
/-- the reading of is_closed; slots: curve 0 -/
def t_is_closed (K : PySem.W.Frag) (sp_look_at_curves : Sp) (sp_closed : Sp) : TS :=
  (tSeq (tDrop (tCall sp_look_at_curves [] E0 (tCons (tVar 0) tNil))) (tRet (tOp (oEq K) (tCall sp_closed [] E0 (tCons (tVar 0) tNil)) (tVar 0))))
theorem b_is_closed {lv : Nat} (G : Bt mg) {sp_look_at_curves : Sp} (c_look_at_curves : Cal P w K mg base lv "look_at_curves" sp_look_at_curves) {sp_closed : Sp} (c_closed : Cal P w K mg base lv "closed" sp_closed) : Bdy P w K mg base lv nm_is_closed "is_closed" s_is_closed (t_is_closed K sp_look_at_curves sp_closed) := fun f cdv A outer s H E hr =>
  (pss_cons (ps_expr (pe_cal c_look_at_curves hr (Nat.le_refl _) rfl (pa_cons (pv 0) pa_nil))) (pss_one (ps_ret (pe_cmpR (op_oEq hr) (pe_cal c_closed hr (Nat.le_refl _) rfl (pa_cons (pv 0) pa_nil)) (pv 0) (nomark _)))))

abbrev s_keeps_within : Stmt := topS 17
abbrev nm_keeps_within : List Str := ["came", "curve", "step", "start"]
theorem sc_keeps_within : FnScope nm_keeps_within ["came", "curve"] (defScope s_keeps_within) := ⟨rfl, rfl, rfl, by decide +kernel, rfl, by decide +kernel, by decide +kernel⟩
/-- the reading of keeps_within; slots: came 0, curve 1, step 2, start 3 -/
def t_keeps_within (K : PySem.W.Frag) (sp_look_at_curves : Sp) : TS :=
  (tSeq (tDrop (tCall sp_look_at_curves [] E0 (tCons (tVar 0) (tCons (tVar 1) tNil)))) (tSeq (tFor (iRng1 (tCons (tCB (bLen K) (tCons (tVar 0) tNil)) tNil)) (gName 2) (tFor (iRng1 (tCons (tVar 2) tNil)) (gName 3) (tIfS (tTest (tOp oGt (tOp oSub (tOp (rIx K) (tVar 0) (tVar 2)) (tOp (rIx K) (tVar 0) (tVar 3))) (tOp (rIx K) (tVar 1) (tOp oSub (tVar 2) (tVar 3))))) (tRet (tTup (tCons (tVar 3) (tCons (tVar 2) tNil)))) tNext))) (tRet (tC .non))))
theorem b_keeps_within {lv : Nat} (G : Bt mg) {sp_look_at_curves : Sp} (c_look_at_curves : Cal P w K mg base lv "look_at_curves" sp_look_at_curves) : Bdy P w K mg base lv nm_keeps_within "keeps_within" s_keeps_within (t_keeps_within K sp_look_at_curves) := fun f cdv A outer s H E hr =>
  (pss_cons (ps_expr (pe_cal c_look_at_curves hr (Nat.le_refl _) rfl (pa_cons (pv 0) (pa_cons (pv 1) pa_nil)))) (pss_cons (ps_for PassesOwn.never rfl (pi_range1 rfl G.b_range (pa_cons (pe_callB cr_bLen rfl G.b_len bt_len (pa_cons (pv 0) pa_nil)) pa_nil)) (pg_name (i := 2) sc_keeps_within.nd rfl (Or.inl rfl)) (pss_one (ps_for PassesOwn.never rfl (pi_range1 rfl G.b_range (pa_cons (pv 2) pa_nil)) (pg_name (i := 3) sc_keeps_within.nd rfl (Or.inl rfl)) (pss_one (ps_if (pt_cmpR op_oGt (pe_op op_oSub (pe_ix ix_seq (pv 0) (pv 2) (fun _ _ => rfl)) (pe_ix ix_seq (pv 0) (pv 3) (fun _ _ => rfl))) (pe_ix ix_seq (pv 1) (pe_op op_oSub (pv 2) (pv 3)) (fun _ _ => rfl)) (nomark _)) (pss_one (ps_ret (pe_tup (pa_cons (pv 3) (pa_cons (pv 2) pa_nil))))) pss_nil))))) (pss_one (ps_ret pe_non))))

abbrev s_greatest_gap : Stmt := topS 18
abbrev nm_greatest_gap : List Str := ["first", "other", "gaps", "one", "two"]
theorem sc_greatest_gap : FnScope nm_greatest_gap ["first", "other"] (defScope s_greatest_gap) := ⟨rfl, rfl, rfl, by decide +kernel, rfl, by decide +kernel, by decide +kernel⟩
/-- the reading of greatest_gap; slots: first 0, other 1, gaps 2, one 3, two 4 -/
def t_greatest_gap (K : PySem.W.Frag) (sp_look_at_curves : Sp) : TS :=
  (tSeq (tDrop (tCall sp_look_at_curves [] E0 (tCons (tVar 0) (tCons (tVar 1) tNil)))) (tSeq (tAsg (tLc (RZ.iZipA K (tCons (tVar 0) (tCons (tVar 1) tNil))) (gTup K 2 (gCons (gName 3) (gCons (gName 4) gNil))) tYes (tOp oSub (tVar 3) (tVar 4)) [3, 4]) (gName 2)) (tRet (tTup (tCons (tCB (bMax K) (tCons (tVar 2) tNil)) (tCons (tBM K "list" (rIndex K) (tVar 2) (tCons (tCB (bMax K) (tCons (tVar 2) tNil)) tNil)) tNil))))))
theorem b_greatest_gap {lv : Nat} (G : Bt mg) {sp_look_at_curves : Sp} (c_look_at_curves : Cal P w K mg base lv "look_at_curves" sp_look_at_curves) : Bdy P w K mg base lv nm_greatest_gap "greatest_gap" s_greatest_gap (t_greatest_gap K sp_look_at_curves) := fun f cdv A outer s H E hr =>
  (pss_cons (ps_expr (pe_cal c_look_at_curves hr (Nat.le_refl _) rfl (pa_cons (pv 0) (pa_cons (pv 1) pa_nil)))) (pss_cons (ps_setLc (i := 2) (own := [("one", 3), ("two", 4)]) rfl sc_greatest_gap.nd rfl rfl (sw_true rfl rfl rfl (by decide +kernel)) (RZ.pi_zipA rfl G.b_zip (pa_cons (pv 0) (pa_cons (pv 1) pa_nil))) (blkOk_by (by kernel_rfl)) (fun _ _ _ _ _ => (pg_tup rfl (pgs_cons (pg_name (i := 3) sc_greatest_gap.nd rfl (Or.inl rfl)) (pgs_cons (pg_name (i := 4) sc_greatest_gap.nd rfl (Or.inl rfl)) pgs_nil)))) (fun _ _ _ _ _ => pts_nil) (fun _ _ _ _ _ => (pe_op op_oSub (pv 3) (pv 4)))) (pss_one (ps_ret (pe_tup (pa_cons (pe_callB (cr_bMax rfl) rfl G.b_max bt_max (pa_cons (pv 2) pa_nil)) (pa_cons (pe_bm PySem.F.plainAttrs_list PySem.F.slot_list_index PySem.F.type_list_index mt_index (pv 2) (pa_cons (pe_callB (cr_bMax rfl) rfl G.b_max bt_max (pa_cons (pv 2) pa_nil)) pa_nil)) pa_nil)))))))

abbrev s_greatest_wait : Stmt := topS 19
abbrev nm_greatest_wait : List Str := ["first", "other", "waits", "step", "one", "goods", "k"]
theorem sc_greatest_wait : FnScope nm_greatest_wait ["first", "other"] (defScope s_greatest_wait) := ⟨rfl, rfl, rfl, by decide +kernel, rfl, by decide +kernel, by decide +kernel⟩
/-- the reading of greatest_wait; slots: first 0, other 1, waits 2, step 3, one 4, goods 5, k 6 -/
def t_greatest_wait (K : PySem.W.Frag) (sp_look_at_curves : Sp) : TS :=
  (tSeq (tDrop (tCall sp_look_at_curves [] E0 (tCons (tVar 0) (tCons (tVar 1) tNil)))) (tSeq (tAsg (tLst tNil) (gName 2)) (tSeq (tFor (iEnumA K (tCons (tVar 0) tNil)) (gTup K 2 (gCons (gName 3) (gCons (gName 4) gNil))) (tSeq (tAsg (tLc (iRng1 (tCons (tCB (bLen K) (tCons (tVar 1) tNil)) tNil)) (gName 6) (tTest (tOp oGe (tOp (rIx K) (tVar 1) (tVar 6)) (tVar 4))) (tVar 6) [6]) (gName 5)) (tSeq (tIfS (tTest (tOp (oEq K) (tCB (bLen K) (tCons (tVar 5) tNil)) (tC (.int 0)))) (tRet (tC .non)) tNext) (tDrop (tBM K "list" rAppend (tVar 2) (tCons (tCB (bMax K) (tCons (tC (.int 0)) (tCons (tOp oSub (tOp (rIx K) (tVar 5) (tC (.int 0))) (tVar 3)) tNil))) tNil)))))) (tRet (tTup (tCons (tCB (bMax K) (tCons (tVar 2) tNil)) (tCons (tBM K "list" (rIndex K) (tVar 2) (tCons (tCB (bMax K) (tCons (tVar 2) tNil)) tNil)) tNil)))))))
theorem b_greatest_wait {lv : Nat} (G : Bt mg) {sp_look_at_curves : Sp} (c_look_at_curves : Cal P w K mg base lv "look_at_curves" sp_look_at_curves) : Bdy P w K mg base lv nm_greatest_wait "greatest_wait" s_greatest_wait (t_greatest_wait K sp_look_at_curves) := fun f cdv A outer s H E hr =>
  (pss_cons (ps_expr (pe_cal c_look_at_curves hr (Nat.le_refl _) rfl (pa_cons (pv 0) (pa_cons (pv 1) pa_nil)))) (pss_cons (ps_set (i := 2) sc_greatest_wait.nd rfl (Or.inl rfl) (pe_lst pa_nil)) (pss_cons (ps_for PassesOwn.never rfl (pi_enumA rfl G.b_enumerate (pa_cons (pv 0) pa_nil)) (pg_tup rfl (pgs_cons (pg_name (i := 3) sc_greatest_wait.nd rfl (Or.inl rfl)) (pgs_cons (pg_name (i := 4) sc_greatest_wait.nd rfl (Or.inr rfl)) pgs_nil))) (pss_cons (ps_setLc (i := 5) (own := [("k", 6)]) rfl sc_greatest_wait.nd rfl rfl (sw_true rfl rfl rfl (by decide +kernel)) (pi_range1 rfl G.b_range (pa_cons (pe_callB cr_bLen rfl G.b_len bt_len (pa_cons (pv 1) pa_nil)) pa_nil)) (blkOk_by (by kernel_rfl)) (fun _ _ _ _ _ => (pg_name (i := 6) sc_greatest_wait.nd rfl (Or.inl rfl))) (fun _ _ _ _ _ => (pts_one (pt_cmpR op_oGe (pe_ix ix_seq (pv 1) (pv 6) (fun _ _ => rfl)) (pv 4) (nomark _)))) (fun _ _ _ _ _ => (pv 6))) (pss_cons (ps_if (pt_cmpR (op_oEq hr) (pe_callB cr_bLen rfl G.b_len bt_len (pa_cons (pv 5) pa_nil)) pe_int (nomark _)) (pss_one (ps_ret pe_non)) pss_nil) (pss_one (ps_expr (pe_bm PySem.F.plainAttrs_list PySem.F.slot_list_append PySem.F.type_list_append mt_append (pv 2) (pa_cons (pe_callB (cr_bMax rfl) rfl G.b_max bt_max (pa_cons pe_int (pa_cons (pe_op op_oSub (pe_ix ix_seq (pv 5) pe_int (fun _ _ => rfl)) (pv 3)) pa_nil))) pa_nil))))))) (pss_one (ps_ret (pe_tup (pa_cons (pe_callB (cr_bMax rfl) rfl G.b_max bt_max (pa_cons (pv 2) pa_nil)) (pa_cons (pe_bm PySem.F.plainAttrs_list PySem.F.slot_list_index PySem.F.type_list_index mt_index (pv 2) (pa_cons (pe_callB (cr_bMax rfl) rfl G.b_max bt_max (pa_cons (pv 2) pa_nil)) pa_nil)) pa_nil))))))))

abbrev s_turned : Stmt := topS 20
abbrev nm_turned : List Str := ["curve", "most", "found", "number", "goods", "step", "one"]
theorem sc_turned : FnScope nm_turned ["curve", "most"] (defScope s_turned) := ⟨rfl, rfl, rfl, by decide +kernel, rfl, by decide +kernel, by decide +kernel⟩
/-- the reading of turned; slots: curve 0, most 1, found 2, number 3, goods 4, step 5, one 6 -/
def t_turned (K : PySem.W.Frag) (sp_look_at_curves : Sp) : TS :=
  (tSeq (tDrop (tCall sp_look_at_curves [] E0 (tCons (tVar 0) tNil))) (tSeq (tAsg (tLst tNil) (gName 2)) (tSeq (tFor (iRng1 (tCons (tOp (oAdd K) (tVar 1) (tC (.int 1))) tNil)) (gName 3) (tSeq (tAsg (tLc (iEnumA K (tCons (tVar 0) tNil)) (gTup K 2 (gCons (gName 5) (gCons (gName 6) gNil))) (tTest (tOp oGe (tVar 6) (tVar 3))) (tVar 5) [5, 6]) (gName 4)) (tDrop (tBM K "list" rAppend (tVar 2) (tCons (tIf (tTest (tOp oGt (tCB (bLen K) (tCons (tVar 4) tNil)) (tC (.int 0)))) (tOp (rIx K) (tVar 4) (tC (.int 0))) (tC .non)) tNil))))) (tRet (tCB (bTuple K) (tCons (tVar 2) tNil))))))
theorem b_turned {lv : Nat} (G : Bt mg) {sp_look_at_curves : Sp} (c_look_at_curves : Cal P w K mg base lv "look_at_curves" sp_look_at_curves) : Bdy P w K mg base lv nm_turned "turned" s_turned (t_turned K sp_look_at_curves) := fun f cdv A outer s H E hr =>
  (pss_cons (ps_expr (pe_cal c_look_at_curves hr (Nat.le_refl _) rfl (pa_cons (pv 0) pa_nil))) (pss_cons (ps_set (i := 2) sc_turned.nd rfl (Or.inl rfl) (pe_lst pa_nil)) (pss_cons (ps_for PassesOwn.never rfl (pi_range1 rfl G.b_range (pa_cons (pe_op op_oAdd (pv 1) pe_int) pa_nil)) (pg_name (i := 3) sc_turned.nd rfl (Or.inr rfl)) (pss_cons (ps_setLc (i := 4) (own := [("step", 5), ("one", 6)]) rfl sc_turned.nd rfl rfl (sw_true rfl rfl rfl (by decide +kernel)) (pi_enumA rfl G.b_enumerate (pa_cons (pv 0) pa_nil)) (blkOk_by (by kernel_rfl)) (fun _ _ _ _ _ => (pg_tup rfl (pgs_cons (pg_name (i := 5) sc_turned.nd rfl (Or.inl rfl)) (pgs_cons (pg_name (i := 6) sc_turned.nd rfl (Or.inl rfl)) pgs_nil)))) (fun _ _ _ _ _ => (pts_one (pt_cmpR op_oGe (pv 6) (pv 3) (nomark _)))) (fun _ _ _ _ _ => (pv 5))) (pss_one (ps_expr (pe_bm PySem.F.plainAttrs_list PySem.F.slot_list_append PySem.F.type_list_append mt_append (pv 2) (pa_cons (pe_ifExp (pt_cmpR op_oGt (pe_callB cr_bLen rfl G.b_len bt_len (pa_cons (pv 4) pa_nil)) pe_int (nomark _)) (pe_ix ix_seq (pv 4) pe_int (fun _ _ => rfl)) pe_non) pa_nil)))))) (pss_one (ps_ret (pe_callTy cr_bTuple rfl G.b_tuple bt_tuple (pa_cons (pv 2) pa_nil)))))))

abbrev s_is_steep_less : Stmt := topS 21
abbrev nm_is_steep_less : List Str := ["curve", "steps", "one", "two"]
theorem sc_is_steep_less : FnScope nm_is_steep_less ["curve"] (defScope s_is_steep_less) := ⟨rfl, rfl, rfl, by decide +kernel, rfl, by decide +kernel, by decide +kernel⟩
/-- the reading of is_steep_less; slots: curve 0, steps 1, one 2, two 3 -/
def t_is_steep_less (K : PySem.W.Frag) (sp_look_at_curves : Sp) : TS :=
  (tSeq (tDrop (tCall sp_look_at_curves [] E0 (tCons (tVar 0) tNil))) (tSeq (tAsg (tLc (RZ.iZipA K (tCons (tVar 0) (tCons (tSl (oSl K) (tVar 0) (tPart (tC (.int 1))) tNoPart) tNil))) (gTup K 2 (gCons (gName 2) (gCons (gName 3) gNil))) tYes (tOp oSub (tVar 3) (tVar 2)) [2, 3]) (gName 1)) (tRet (tCB (rAll K) (tCons (tLc (RZ.iZipA K (tCons (tVar 1) (tCons (tSl (oSl K) (tVar 1) (tPart (tC (.int 1))) tNoPart) tNil))) (gTup K 2 (gCons (gName 2) (gCons (gName 3) gNil))) tYes (tOp oGe (tVar 2) (tVar 3)) [2, 3]) tNil)))))
theorem b_is_steep_less {lv : Nat} (G : Bt mg) {sp_look_at_curves : Sp} (c_look_at_curves : Cal P w K mg base lv "look_at_curves" sp_look_at_curves) : Bdy P w K mg base lv nm_is_steep_less "is_steep_less" s_is_steep_less (t_is_steep_less K sp_look_at_curves) := fun f cdv A outer s H E hr =>
  (pss_cons (ps_expr (pe_cal c_look_at_curves hr (Nat.le_refl _) rfl (pa_cons (pv 0) pa_nil))) (pss_cons (ps_setLc (i := 1) (own := [("one", 2), ("two", 3)]) rfl sc_is_steep_less.nd rfl rfl (sw_true rfl rfl rfl (by decide +kernel)) (RZ.pi_zipA rfl G.b_zip (pa_cons (pv 0) (pa_cons (pe_slice sl_oSl (pv 0) (po_some pe_int) po_none) pa_nil))) (blkOk_by (by kernel_rfl)) (fun _ _ _ _ _ => (pg_tup rfl (pgs_cons (pg_name (i := 2) sc_is_steep_less.nd rfl (Or.inl rfl)) (pgs_cons (pg_name (i := 3) sc_is_steep_less.nd rfl (Or.inl rfl)) pgs_nil)))) (fun _ _ _ _ _ => pts_nil) (fun _ _ _ _ _ => (pe_op op_oSub (pv 3) (pv 2)))) (pss_one (ps_ret (pe_callB (cr_bAll rfl) rfl G.b_all bt_all (pa_cons (pe_lc (own := [("one", 2), ("two", 3)]) rfl sc_is_steep_less.nd (RZ.pi_zipA rfl G.b_zip (pa_cons (pv 1) (pa_cons (pe_slice sl_oSl (pv 1) (po_some pe_int) po_none) pa_nil))) (blkOk_by (by kernel_rfl)) (fun _ _ _ _ _ => (pg_tup rfl (pgs_cons (pg_name (i := 2) sc_is_steep_less.nd rfl (Or.inl rfl)) (pgs_cons (pg_name (i := 3) sc_is_steep_less.nd rfl (Or.inl rfl)) pgs_nil)))) (fun _ _ _ _ _ => pts_nil) (fun _ _ _ _ _ => (pe_cmpR op_oGe (pv 2) (pv 3) (nomark _)))) pa_nil))))))

abbrev s_is_steep_more : Stmt := topS 22
abbrev nm_is_steep_more : List Str := ["curve", "steps", "one", "two"]
theorem sc_is_steep_more : FnScope nm_is_steep_more ["curve"] (defScope s_is_steep_more) := ⟨rfl, rfl, rfl, by decide +kernel, rfl, by decide +kernel, by decide +kernel⟩
/-- the reading of is_steep_more; slots: curve 0, steps 1, one 2, two 3 -/
def t_is_steep_more (K : PySem.W.Frag) (sp_look_at_curves : Sp) : TS :=
  (tSeq (tDrop (tCall sp_look_at_curves [] E0 (tCons (tVar 0) tNil))) (tSeq (tAsg (tLc (RZ.iZipA K (tCons (tVar 0) (tCons (tSl (oSl K) (tVar 0) (tPart (tC (.int 1))) tNoPart) tNil))) (gTup K 2 (gCons (gName 2) (gCons (gName 3) gNil))) tYes (tOp oSub (tVar 3) (tVar 2)) [2, 3]) (gName 1)) (tRet (tCB (rAll K) (tCons (tLc (RZ.iZipA K (tCons (tVar 1) (tCons (tSl (oSl K) (tVar 1) (tPart (tC (.int 1))) tNoPart) tNil))) (gTup K 2 (gCons (gName 2) (gCons (gName 3) gNil))) tYes (tOp oLe (tVar 2) (tVar 3)) [2, 3]) tNil)))))
theorem b_is_steep_more {lv : Nat} (G : Bt mg) {sp_look_at_curves : Sp} (c_look_at_curves : Cal P w K mg base lv "look_at_curves" sp_look_at_curves) : Bdy P w K mg base lv nm_is_steep_more "is_steep_more" s_is_steep_more (t_is_steep_more K sp_look_at_curves) := fun f cdv A outer s H E hr =>
  (pss_cons (ps_expr (pe_cal c_look_at_curves hr (Nat.le_refl _) rfl (pa_cons (pv 0) pa_nil))) (pss_cons (ps_setLc (i := 1) (own := [("one", 2), ("two", 3)]) rfl sc_is_steep_more.nd rfl rfl (sw_true rfl rfl rfl (by decide +kernel)) (RZ.pi_zipA rfl G.b_zip (pa_cons (pv 0) (pa_cons (pe_slice sl_oSl (pv 0) (po_some pe_int) po_none) pa_nil))) (blkOk_by (by kernel_rfl)) (fun _ _ _ _ _ => (pg_tup rfl (pgs_cons (pg_name (i := 2) sc_is_steep_more.nd rfl (Or.inl rfl)) (pgs_cons (pg_name (i := 3) sc_is_steep_more.nd rfl (Or.inl rfl)) pgs_nil)))) (fun _ _ _ _ _ => pts_nil) (fun _ _ _ _ _ => (pe_op op_oSub (pv 3) (pv 2)))) (pss_one (ps_ret (pe_callB (cr_bAll rfl) rfl G.b_all bt_all (pa_cons (pe_lc (own := [("one", 2), ("two", 3)]) rfl sc_is_steep_more.nd (RZ.pi_zipA rfl G.b_zip (pa_cons (pv 1) (pa_cons (pe_slice sl_oSl (pv 1) (po_some pe_int) po_none) pa_nil))) (blkOk_by (by kernel_rfl)) (fun _ _ _ _ _ => (pg_tup rfl (pgs_cons (pg_name (i := 2) sc_is_steep_more.nd rfl (Or.inl rfl)) (pgs_cons (pg_name (i := 3) sc_is_steep_more.nd rfl (Or.inl rfl)) pgs_nil)))) (fun _ _ _ _ _ => pts_nil) (fun _ _ _ _ _ => (pe_cmpR op_oLe (pv 2) (pv 3) (nomark _)))) pa_nil))))))

abbrev s_merged_steps : Stmt := topS 23
abbrev nm_merged_steps : List Str := ["first", "other", "steps", "found", "step", "row", "one", "two"]
theorem sc_merged_steps : FnScope nm_merged_steps ["first", "other"] (defScope s_merged_steps) := ⟨rfl, rfl, rfl, by decide +kernel, rfl, by decide +kernel, by decide +kernel⟩
/-- the reading of merged_steps; slots: first 0, other 1, steps 2, found 3, step 4, row 5, one 6, two 7 -/
def t_merged_steps (K : PySem.W.Frag) : TS :=
  (tSeq (tAsg (tCB (rSortedI K) (tCons (tLc2 (iSeq K (tTup (tCons (tVar 0) (tCons (tVar 1) tNil)))) (gName 5) tYes (RZ.iZipA K (tCons (tVar 5) (tCons (tSl (oSl K) (tVar 5) (tPart (tC (.int 1))) tNoPart) tNil))) (gTup K 2 (gCons (gName 6) (gCons (gName 7) gNil))) tYes (tOp oSub (tVar 7) (tVar 6)) [5, 6, 7] [6, 7]) tNil)) (gName 2)) (tSeq (tAsg (tLst (tCons (tC (.int 0)) tNil)) (gName 3)) (tSeq (tFor (iSeq K (tSl (oSl K) (tVar 2) tNoPart (tPart (tOp oSub (tCB (bLen K) (tCons (tVar 0) tNil)) (tC (.int 1)))))) (gName 4) (tDrop (tBM K "list" rAppend (tVar 3) (tCons (tOp (oAdd K) (tOp (rIx K) (tVar 3) (tUn uNeg (tC (.int 1)))) (tVar 4)) tNil)))) (tRet (tCB (bTuple K) (tCons (tVar 3) tNil))))))
theorem b_merged_steps {lv : Nat} (G : Bt mg) : Bdy P w K mg base lv nm_merged_steps "merged_steps" s_merged_steps (t_merged_steps K) := fun f cdv A outer s H E hr =>
  (pss_cons (ps_set (i := 2) sc_merged_steps.nd rfl (Or.inl rfl) (pe_callB cr_bSorted rfl G.b_sorted bt_sorted (pa_cons (pe_lc2 (own := [("row", 5), ("one", 6), ("two", 7)]) (vs1 := [6, 7]) rfl sc_merged_steps.nd (pi_seq (pe_tup (pa_cons (pv 0) (pa_cons (pv 1) pa_nil)))) (blkOk_by (by kernel_rfl)) (by decide) (fun _ _ _ _ _ => (pg_name (i := 5) sc_merged_steps.nd rfl (Or.inl rfl))) (fun _ _ _ _ _ => pts_nil) (fun _ _ _ _ _ => (RZ.pi_zipA rfl G.b_zip (pa_cons (pv 5) (pa_cons (pe_slice sl_oSl (pv 5) (po_some pe_int) po_none) pa_nil)))) (fun _ _ _ _ _ => (pg_tup rfl (pgs_cons (pg_name (i := 6) sc_merged_steps.nd rfl (Or.inl rfl)) (pgs_cons (pg_name (i := 7) sc_merged_steps.nd rfl (Or.inl rfl)) pgs_nil)))) (fun _ _ _ _ _ => pts_nil) (fun _ _ _ _ _ => (pe_op op_oSub (pv 7) (pv 6)))) pa_nil))) (pss_cons (ps_set (i := 3) sc_merged_steps.nd rfl (Or.inl rfl) (pe_lst (pa_cons pe_int pa_nil))) (pss_cons (ps_for PassesOwn.never rfl (pi_seq (pe_slice sl_oSl (pv 2) po_none (po_some (pe_op op_oSub (pe_callB cr_bLen rfl G.b_len bt_len (pa_cons (pv 0) pa_nil)) pe_int)))) (pg_name (i := 4) sc_merged_steps.nd rfl (Or.inl rfl)) (pss_one (ps_expr (pe_bm PySem.F.plainAttrs_list PySem.F.slot_list_append PySem.F.type_list_append mt_append (pv 3) (pa_cons (pe_op op_oAdd (pe_ix ix_seq (pv 3) (pe_un un_uNeg pe_int) (fun _ _ => rfl)) (pv 4)) pa_nil))))) (pss_one (ps_ret (pe_callTy cr_bTuple rfl G.b_tuple bt_tuple (pa_cons (pv 3) pa_nil)))))))

abbrev s_least_done : Stmt := topS 25
abbrev nm_least_done : List Str := ["came", "service"]
theorem sc_least_done : FnScope nm_least_done ["came", "service"] (defScope s_least_done) := ⟨rfl, rfl, rfl, by decide +kernel, rfl, by decide +kernel, by decide +kernel⟩
/-- the reading of least_done; slots: came 0, service 1 -/
def t_least_done (K : PySem.W.Frag) (sp_put_behind : Sp) : TS :=
  (tRet (tCall sp_put_behind [] E0 (tCons (tVar 0) (tCons (tVar 1) tNil))))
theorem b_least_done {lv : Nat} (G : Bt mg) {sp_put_behind : Sp} (c_put_behind : Cal P w K mg base lv "put_behind" sp_put_behind) : Bdy P w K mg base lv nm_least_done "least_done" s_least_done (t_least_done K sp_put_behind) := fun f cdv A outer s H E hr =>
  (pss_one (ps_ret (pe_cal c_put_behind hr (Nat.le_refl _) rfl (pa_cons (pv 0) (pa_cons (pv 1) pa_nil)))))

abbrev s_serves : Stmt := topS 26
abbrev nm_serves : List Str := ["came", "done", "service", "due", "step"]
theorem sc_serves : FnScope nm_serves ["came", "done", "service"] (defScope s_serves) := ⟨rfl, rfl, rfl, by decide +kernel, rfl, by decide +kernel, by decide +kernel⟩
/-- the reading of serves; slots: came 0, done 1, service 2, due 3, step 4 -/
def t_serves (K : PySem.W.Frag) (sp_look_at_curves : Sp) (sp_least_done : Sp) : TS :=
  (tSeq (tDrop (tCall sp_look_at_curves [] E0 (tCons (tVar 0) (tCons (tVar 1) (tCons (tVar 2) tNil))))) (tSeq (tAsg (tCall sp_least_done [] E0 (tCons (tVar 0) (tCons (tVar 2) tNil))) (gName 3)) (tSeq (tFor (iRng1 (tCons (tCB (bLen K) (tCons (tVar 0) tNil)) tNil)) (gName 4) (tIfS (tOr (tTest (tOp oGt (tOp (rIx K) (tVar 1) (tVar 4)) (tOp (rIx K) (tVar 0) (tVar 4)))) (tTest (tOp (oLt K) (tOp (rIx K) (tVar 1) (tVar 4)) (tOp (rIx K) (tVar 3) (tVar 4))))) (tRet (tVar 4)) tNext)) (tRet (tC .non)))))
theorem b_serves {lv : Nat} (G : Bt mg) {sp_look_at_curves : Sp} (c_look_at_curves : Cal P w K mg base lv "look_at_curves" sp_look_at_curves) {sp_least_done : Sp} (c_least_done : Cal P w K mg base lv "least_done" sp_least_done) : Bdy P w K mg base lv nm_serves "serves" s_serves (t_serves K sp_look_at_curves sp_least_done) := fun f cdv A outer s H E hr =>
  (pss_cons (ps_expr (pe_cal c_look_at_curves hr (Nat.le_refl _) rfl (pa_cons (pv 0) (pa_cons (pv 1) (pa_cons (pv 2) pa_nil))))) (pss_cons (ps_set (i := 3) sc_serves.nd rfl (Or.inl rfl) (pe_cal c_least_done hr (Nat.le_refl _) rfl (pa_cons (pv 0) (pa_cons (pv 2) pa_nil)))) (pss_cons (ps_for PassesOwn.never rfl (pi_range1 rfl G.b_range (pa_cons (pe_callB cr_bLen rfl G.b_len bt_len (pa_cons (pv 0) pa_nil)) pa_nil)) (pg_name (i := 4) sc_serves.nd rfl (Or.inl rfl)) (pss_one (ps_if (PW.pt (pw_or (pt_cmpR op_oGt (pe_ix ix_seq (pv 1) (pv 4) (fun _ _ => rfl)) (pe_ix ix_seq (pv 0) (pv 4) (fun _ _ => rfl)) (nomark _)) (pw_or1 (pt_cmpR (op_oLt hr) (pe_ix ix_seq (pv 1) (pv 4) (fun _ _ => rfl)) (pe_ix ix_seq (pv 3) (pv 4) (fun _ _ => rfl)) (nomark _))))) (pss_one (ps_ret (pv 4))) pss_nil))) (pss_one (ps_ret pe_non)))))

abbrev s_bounds : Stmt := topS 27
abbrev nm_bounds : List Str := ["arrival", "service", "wait"]
theorem sc_bounds : FnScope nm_bounds ["arrival", "service"] (defScope s_bounds) := ⟨rfl, rfl, rfl, by decide +kernel, rfl, by decide +kernel, by decide +kernel⟩
/-- the reading of bounds; slots: arrival 0, service 1, wait 2 -/
def t_bounds (K : PySem.W.Frag) (sp_look_at_curves : Sp) (sp_greatest_wait : Sp) (sp_greatest_gap : Sp) : TS :=
  (tSeq (tDrop (tCall sp_look_at_curves [] E0 (tCons (tVar 0) (tCons (tVar 1) tNil)))) (tSeq (tAsg (tCall sp_greatest_wait [] E0 (tCons (tVar 0) (tCons (tVar 1) tNil))) (gName 2)) (tRet (tTup (tCons (tOp (rIx K) (tCall sp_greatest_gap [] E0 (tCons (tVar 0) (tCons (tVar 1) tNil))) (tC (.int 0))) (tCons (tIf (tTest (tOp oIs (tVar 2) (tC .non))) (tC .non) (tOp (rIx K) (tVar 2) (tC (.int 0)))) tNil))))))
theorem b_bounds {lv : Nat} (G : Bt mg) {sp_look_at_curves : Sp} (c_look_at_curves : Cal P w K mg base lv "look_at_curves" sp_look_at_curves) {sp_greatest_wait : Sp} (c_greatest_wait : Cal P w K mg base lv "greatest_wait" sp_greatest_wait) {sp_greatest_gap : Sp} (c_greatest_gap : Cal P w K mg base lv "greatest_gap" sp_greatest_gap) : Bdy P w K mg base lv nm_bounds "bounds" s_bounds (t_bounds K sp_look_at_curves sp_greatest_wait sp_greatest_gap) := fun f cdv A outer s H E hr =>
  (pss_cons (ps_expr (pe_cal c_look_at_curves hr (Nat.le_refl _) rfl (pa_cons (pv 0) (pa_cons (pv 1) pa_nil)))) (pss_cons (ps_set (i := 2) sc_bounds.nd rfl (Or.inl rfl) (pe_cal c_greatest_wait hr (Nat.le_refl _) rfl (pa_cons (pv 0) (pa_cons (pv 1) pa_nil)))) (pss_one (ps_ret (pe_tup (pa_cons (pe_ix ix_seq (pe_cal c_greatest_gap hr (Nat.le_refl _) rfl (pa_cons (pv 0) (pa_cons (pv 1) pa_nil))) pe_int (fun _ _ => rfl)) (pa_cons (pe_ifExp (pt_cmpR op_oIs (pv 2) pe_non (nomark _)) pe_non (pe_ix ix_seq (pv 2) pe_int (fun _ _ => rfl))) pa_nil)))))))

abbrev s_out_bound : Stmt := topS 28
abbrev nm_out_bound : List Str := ["arrival", "service"]
theorem sc_out_bound : FnScope nm_out_bound ["arrival", "service"] (defScope s_out_bound) := ⟨rfl, rfl, rfl, by decide +kernel, rfl, by decide +kernel, by decide +kernel⟩
/-- the reading of out_bound; slots: arrival 0, service 1 -/
def t_out_bound (K : PySem.W.Frag) (sp_put_off : Sp) : TS :=
  (tRet (tCall sp_put_off [] E0 (tCons (tVar 0) (tCons (tVar 1) tNil))))
theorem b_out_bound {lv : Nat} (G : Bt mg) {sp_put_off : Sp} (c_put_off : Cal P w K mg base lv "put_off" sp_put_off) : Bdy P w K mg base lv nm_out_bound "out_bound" s_out_bound (t_out_bound K sp_put_off) := fun f cdv A outer s H E hr =>
  (pss_one (ps_ret (pe_cal c_put_off hr (Nat.le_refl _) rfl (pa_cons (pv 0) (pa_cons (pv 1) pa_nil)))))

abbrev s_left_over : Stmt := topS 29
abbrev nm_left_over : List Str := ["service", "arrival", "found", "best", "one", "two"]
theorem sc_left_over : FnScope nm_left_over ["service", "arrival"] (defScope s_left_over) := ⟨rfl, rfl, rfl, by decide +kernel, rfl, by decide +kernel, by decide +kernel⟩
/-- the reading of left_over; slots: service 0, arrival 1, found 2, best 3, one 4, two 5 -/
def t_left_over (K : PySem.W.Frag) (sp_look_at_curves : Sp) : TS :=
  (tSeq (tDrop (tCall sp_look_at_curves [] E0 (tCons (tVar 0) (tCons (tVar 1) tNil)))) (tSeq (tAsg (tLst tNil) (gName 2)) (tSeq (tAsg (tC (.int 0)) (gName 3)) (tSeq (tFor (RZ.iZipA K (tCons (tVar 0) (tCons (tVar 1) tNil))) (gTup K 2 (gCons (gName 4) (gCons (gName 5) gNil))) (tSeq (tAsg (tCB (bMax K) (tCons (tVar 3) (tCons (tOp oSub (tVar 4) (tVar 5)) tNil))) (gName 3)) (tDrop (tBM K "list" rAppend (tVar 2) (tCons (tVar 3) tNil))))) (tRet (tCB (bTuple K) (tCons (tVar 2) tNil)))))))
theorem b_left_over {lv : Nat} (G : Bt mg) {sp_look_at_curves : Sp} (c_look_at_curves : Cal P w K mg base lv "look_at_curves" sp_look_at_curves) : Bdy P w K mg base lv nm_left_over "left_over" s_left_over (t_left_over K sp_look_at_curves) := fun f cdv A outer s H E hr =>
  (pss_cons (ps_expr (pe_cal c_look_at_curves hr (Nat.le_refl _) rfl (pa_cons (pv 0) (pa_cons (pv 1) pa_nil)))) (pss_cons (ps_set (i := 2) sc_left_over.nd rfl (Or.inl rfl) (pe_lst pa_nil)) (pss_cons (ps_set (i := 3) sc_left_over.nd rfl (Or.inl rfl) pe_int) (pss_cons (ps_for PassesOwn.never rfl (RZ.pi_zipA rfl G.b_zip (pa_cons (pv 0) (pa_cons (pv 1) pa_nil))) (pg_tup rfl (pgs_cons (pg_name (i := 4) sc_left_over.nd rfl (Or.inl rfl)) (pgs_cons (pg_name (i := 5) sc_left_over.nd rfl (Or.inl rfl)) pgs_nil))) (pss_cons (ps_set (i := 3) sc_left_over.nd rfl (Or.inl rfl) (pe_callB (cr_bMax rfl) rfl G.b_max bt_max (pa_cons (pv 3) (pa_cons (pe_op op_oSub (pv 4) (pv 5)) pa_nil)))) (pss_one (ps_expr (pe_bm PySem.F.plainAttrs_list PySem.F.slot_list_append PySem.F.type_list_append mt_append (pv 2) (pa_cons (pv 3) pa_nil)))))) (pss_one (ps_ret (pe_callTy cr_bTuple rfl G.b_tuple bt_tuple (pa_cons (pv 2) pa_nil))))))))

abbrev s_in_a_row : Stmt := topS 30
abbrev nm_in_a_row : List Str := ["services", "found", "service"]
theorem sc_in_a_row : FnScope nm_in_a_row ["services"] (defScope s_in_a_row) := ⟨rfl, rfl, rfl, by decide +kernel, rfl, by decide +kernel, by decide +kernel⟩
/-- the reading of in_a_row; slots: services 0, found 1, service 2 -/
def t_in_a_row (K : PySem.W.Frag) (sp_look_at_curves : Sp) (sp_put_behind : Sp) : TS :=
  (tSeq (tIfS (tTest (tOp (oEq K) (tCB (bLen K) (tCons (tVar 0) tNil)) (tC (.int 0)))) tNever tNext) (tSeq (tDrop (tCallX K sp_look_at_curves (tVar 0))) (tSeq (tAsg (tOp (rIx K) (tVar 0) (tC (.int 0))) (gName 1)) (tSeq (tFor (iSeq K (tSl (oSl K) (tVar 0) (tPart (tC (.int 1))) tNoPart)) (gName 2) (tAsg (tCall sp_put_behind [] E0 (tCons (tVar 1) (tCons (tVar 2) tNil))) (gName 1))) (tRet (tVar 1))))))
theorem b_in_a_row {lv : Nat} (G : Bt mg) {sp_look_at_curves : Sp} (c_look_at_curves : Cal P w K mg base lv "look_at_curves" sp_look_at_curves) {sp_put_behind : Sp} (c_put_behind : Cal P w K mg base lv "put_behind" sp_put_behind) : Bdy P w K mg base lv nm_in_a_row "in_a_row" s_in_a_row (t_in_a_row K sp_look_at_curves sp_put_behind) := fun f cdv A outer s H E hr =>
  (pss_cons (ps_if (pt_cmpR (op_oEq hr) (pe_callB cr_bLen rfl G.b_len bt_len (pa_cons (pv 0) pa_nil)) pe_int (nomark _)) (pss_one ps_never) pss_nil) (pss_cons (ps_expr (pe_calX c_look_at_curves hr (Nat.le_refl _) rfl (pv 0))) (pss_cons (ps_set (i := 1) sc_in_a_row.nd rfl (Or.inl rfl) (pe_ix ix_seq (pv 0) pe_int (fun _ _ => rfl))) (pss_cons (ps_for PassesOwn.never rfl (pi_seq (pe_slice sl_oSl (pv 0) (po_some pe_int) po_none)) (pg_name (i := 2) sc_in_a_row.nd rfl (Or.inl rfl)) (pss_one (ps_set (i := 1) sc_in_a_row.nd rfl (Or.inl rfl) (pe_cal c_put_behind hr (Nat.le_refl _) rfl (pa_cons (pv 1) (pa_cons (pv 2) pa_nil)))))) (pss_one (ps_ret (pv 1)))))))

abbrev s_shaped : Stmt := topS 31
abbrev nm_shaped : List Str := ["came", "curve", "found", "step", "most", "start"]
theorem sc_shaped : FnScope nm_shaped ["came", "curve"] (defScope s_shaped) := ⟨rfl, rfl, rfl, by decide +kernel, rfl, by decide +kernel, by decide +kernel⟩
/-- the reading of shaped; slots: came 0, curve 1, found 2, step 3, most 4, start 5 -/
def t_shaped (K : PySem.W.Frag) (sp_look_at_curves : Sp) (sp_closed : Sp) : TS :=
  (tSeq (tDrop (tCall sp_look_at_curves [] E0 (tCons (tVar 0) (tCons (tVar 1) tNil)))) (tSeq (tIfS (tTest (tOp (oNe K) (tCall sp_closed [] E0 (tCons (tVar 1) tNil)) (tVar 1))) tNever tNext) (tSeq (tAsg (tLst (tCons (tC (.int 0)) tNil)) (gName 2)) (tSeq (tFor (iRng2 (tCons (tC (.int 1)) (tCons (tCB (bLen K) (tCons (tVar 0) tNil)) tNil))) (gName 3) (tSeq (tAsg (tCB (bMin K) (tCons (tLc (iRng1 (tCons (tVar 3) tNil)) (gName 5) tYes (tOp (oAdd K) (tOp (rIx K) (tVar 2) (tVar 5)) (tOp (rIx K) (tVar 1) (tOp oSub (tVar 3) (tVar 5)))) [5]) tNil)) (gName 4)) (tDrop (tBM K "list" rAppend (tVar 2) (tCons (tCB (bMin K) (tCons (tOp (rIx K) (tVar 0) (tVar 3)) (tCons (tVar 4) tNil))) tNil))))) (tRet (tCB (bTuple K) (tCons (tVar 2) tNil)))))))
theorem b_shaped {lv : Nat} (G : Bt mg) {sp_look_at_curves : Sp} (c_look_at_curves : Cal P w K mg base lv "look_at_curves" sp_look_at_curves) {sp_closed : Sp} (c_closed : Cal P w K mg base lv "closed" sp_closed) : Bdy P w K mg base lv nm_shaped "shaped" s_shaped (t_shaped K sp_look_at_curves sp_closed) := fun f cdv A outer s H E hr =>
  (pss_cons (ps_expr (pe_cal c_look_at_curves hr (Nat.le_refl _) rfl (pa_cons (pv 0) (pa_cons (pv 1) pa_nil)))) (pss_cons (ps_if (pt_cmpR (op_oNe hr) (pe_cal c_closed hr (Nat.le_refl _) rfl (pa_cons (pv 1) pa_nil)) (pv 1) (nomark _)) (pss_one ps_never) pss_nil) (pss_cons (ps_set (i := 2) sc_shaped.nd rfl (Or.inr rfl) (pe_lst (pa_cons pe_int pa_nil))) (pss_cons (ps_for PassesOwn.never rfl (pi_range2 rfl G.b_range (pa_cons pe_int (pa_cons (pe_callB cr_bLen rfl G.b_len bt_len (pa_cons (pv 0) pa_nil)) pa_nil))) (pg_name (i := 3) sc_shaped.nd rfl (Or.inr rfl)) (pss_cons (ps_set (i := 4) sc_shaped.nd rfl (Or.inl rfl) (pe_callB (cr_bMin rfl) rfl G.b_min bt_min (pa_cons (pe_lc (own := [("start", 5)]) rfl sc_shaped.nd (pi_range1 rfl G.b_range (pa_cons (pv 3) pa_nil)) (blkOk_by (by kernel_rfl)) (fun _ _ _ _ _ => (pg_name (i := 5) sc_shaped.nd rfl (Or.inl rfl))) (fun _ _ _ _ _ => pts_nil) (fun _ _ _ _ _ => (pe_op op_oAdd (pe_ix ix_seq (pv 2) (pv 5) (fun _ _ => rfl)) (pe_ix ix_seq (pv 1) (pe_op op_oSub (pv 3) (pv 5)) (fun _ _ => rfl))))) pa_nil))) (pss_one (ps_expr (pe_bm PySem.F.plainAttrs_list PySem.F.slot_list_append PySem.F.type_list_append mt_append (pv 2) (pa_cons (pe_callB (cr_bMin rfl) rfl G.b_min bt_min (pa_cons (pe_ix ix_seq (pv 0) (pv 3) (fun _ _ => rfl)) (pa_cons (pv 4) pa_nil))) pa_nil)))))) (pss_one (ps_ret (pe_callTy cr_bTuple rfl G.b_tuple bt_tuple (pa_cons (pv 2) pa_nil))))))))

abbrev s__law_draws : Stmt := topS 33
abbrev nm__law_draws : List Str := ["script"]
theorem sc__law_draws : FnScope nm__law_draws ["script"] (defScope s__law_draws) := ⟨rfl, rfl, rfl, by decide +kernel, rfl, by decide +kernel, by decide +kernel⟩
/-- the reading of _law_draws; slots: script 0 -/
def t__law_draws (K : PySem.W.Frag) : TS :=
  (tRet (tLst (tCons (tCB (bList K) (tCons (tVar 0) tNil)) (tCons (tC (.int 0)) (tCons (tC (.int 0)) (tCons (tC (.int 1)) tNil))))))
theorem b__law_draws {lv : Nat} (G : Bt mg) : Bdy P w K mg base lv nm__law_draws "_law_draws" s__law_draws (t__law_draws K) := fun f cdv A outer s H E hr =>
  (pss_one (ps_ret (pe_lst (pa_cons (pe_callTy cr_bList rfl G.b_list bt_list (pa_cons (pv 0) pa_nil)) (pa_cons pe_int (pa_cons pe_int (pa_cons pe_int pa_nil)))))))

abbrev s__law_draw : Stmt := topS 34
abbrev nm__law_draw : List Str := ["draws", "limit", "cell", "value"]
theorem sc__law_draw : FnScope nm__law_draw ["draws", "limit"] (defScope s__law_draw) := ⟨rfl, rfl, rfl, by decide +kernel, rfl, by decide +kernel, by decide +kernel⟩
/-- the reading of _law_draw; slots: draws 0, limit 1, cell 2, value 3 -/
def t__law_draw (K : PySem.W.Frag) : TS :=
  (tSeq (tIfS (tAnd (tTest (tOp (oEq K) (tOp (rIx K) (tVar 0) (tC (.int 2))) (tC (.int 0)))) (tTest (tOp (oLt K) (tOp (rIx K) (tVar 0) (tC (.int 1))) (tCB (bLen K) (tCons (tOp (rIx K) (tVar 0) (tC (.int 0))) tNil))))) (tSeq (tAsg (tOp (rIx K) (tOp (rIx K) (tVar 0) (tC (.int 0))) (tOp (rIx K) (tVar 0) (tC (.int 1)))) (gName 2)) (tSeq (tAsg (tOp (oAdd K) (tOp (rIx K) (tVar 0) (tC (.int 1))) (tC (.int 1))) (gSub (tVar 0) (tC (.int 1)) rSetL)) (tSeq (tIfS (tTest (tOp oGe (tVar 2) (tOp oPow (tC (.int 10)) (tC (.int 18))))) (tAsg (tVar 2) (gSub (tVar 0) (tC (.int 2)) rSetL)) tNext) (tAsg (tOp oMod (tCB (bInt) (tCons (tOp (oAdd K) (tOp (oAdd K) (tOp oMul (tOp (rIx K) (tVar 0) (tC (.int 3))) (tC (.int 48271))) (tVar 2)) (tC (.int 13))) tNil)) (tC (.int 2147483647))) (gSub (tVar 0) (tC (.int 3)) rSetL))))) tNext) (tSeq (tIfS (tTest (tOp oGt (tOp (rIx K) (tVar 0) (tC (.int 2))) (tC (.int 0)))) (tSeq (tAsg (tOp oMod (tCB (bInt) (tCons (tOp (rIx K) (tVar 0) (tC (.int 2))) tNil)) (tVar 1)) (gName 3)) (tSeq (tAsg (tOp oDiv (tOp (rIx K) (tVar 0) (tC (.int 2))) (tVar 1)) (gSub (tVar 0) (tC (.int 2)) rSetL)) (tRet (tVar 3)))) tNext) (tSeq (tAsg (tOp oMod (tCB (bInt) (tCons (tOp (oAdd K) (tOp oMul (tOp (rIx K) (tVar 0) (tC (.int 3))) (tC (.int 69621))) (tC (.int 7))) tNil)) (tC (.int 2147483629))) (gSub (tVar 0) (tC (.int 3)) rSetL)) (tRet (tOp oMod (tCB (bInt) (tCons (tOp oDiv (tOp (rIx K) (tVar 0) (tC (.int 3))) (tC (.int 11))) tNil)) (tVar 1))))))
theorem b__law_draw {lv : Nat} (G : Bt mg) : Bdy P w K mg base lv nm__law_draw "_law_draw" s__law_draw (t__law_draw K) := fun f cdv A outer s H E hr =>
  (pss_cons (ps_if (PW.pt (pw_and (pt_cmpR (op_oEq hr) (pe_ix ix_seq (pv 0) pe_int (fun _ _ => rfl)) pe_int (nomark _)) (pw_and1 (pt_cmpR (op_oLt hr) (pe_ix ix_seq (pv 0) pe_int (fun _ _ => rfl)) (pe_callB cr_bLen rfl G.b_len bt_len (pa_cons (pe_ix ix_seq (pv 0) pe_int (fun _ _ => rfl)) pa_nil)) (nomark _))))) (pss_cons (ps_set (i := 2) sc__law_draw.nd rfl (Or.inl rfl) (pe_ix ix_seq (pe_ix ix_seq (pv 0) pe_int (fun _ _ => rfl)) (pe_ix ix_seq (pv 0) pe_int (fun _ _ => rfl)) (fun _ _ => rfl))) (pss_cons (ps_asg (pe_op op_oAdd (pe_ix ix_seq (pv 0) pe_int (fun _ _ => rfl)) pe_int) (pg_sub (pv 0) pe_int set_list)) (pss_cons (ps_if (pt_cmpR op_oGe (pv 2) (pe_op op_oPow pe_int pe_int) (nomark _)) (pss_one (ps_asg (pv 2) (pg_sub (pv 0) pe_int set_list))) pss_nil) (pss_one (ps_asg (pe_op op_oMod (pe_callTy cr_bInt rfl G.b_int bt_int (pa_cons (pe_op op_oAdd (pe_op op_oAdd (pe_op op_oMul (pe_ix ix_seq (pv 0) pe_int (fun _ _ => rfl)) pe_int) (pv 2)) pe_int) pa_nil)) pe_int) (pg_sub (pv 0) pe_int set_list)))))) pss_nil) (pss_cons (ps_if (pt_cmpR op_oGt (pe_ix ix_seq (pv 0) pe_int (fun _ _ => rfl)) pe_int (nomark _)) (pss_cons (ps_set (i := 3) sc__law_draw.nd rfl (Or.inl rfl) (pe_op op_oMod (pe_callTy cr_bInt rfl G.b_int bt_int (pa_cons (pe_ix ix_seq (pv 0) pe_int (fun _ _ => rfl)) pa_nil)) (pv 1))) (pss_cons (ps_asg (pe_op op_oDiv (pe_ix ix_seq (pv 0) pe_int (fun _ _ => rfl)) (pv 1)) (pg_sub (pv 0) pe_int set_list)) (pss_one (ps_ret (pv 3))))) pss_nil) (pss_cons (ps_asg (pe_op op_oMod (pe_callTy cr_bInt rfl G.b_int bt_int (pa_cons (pe_op op_oAdd (pe_op op_oMul (pe_ix ix_seq (pv 0) pe_int (fun _ _ => rfl)) pe_int) pe_int) pa_nil)) pe_int) (pg_sub (pv 0) pe_int set_list)) (pss_one (ps_ret (pe_op op_oMod (pe_callTy cr_bInt rfl G.b_int bt_int (pa_cons (pe_op op_oDiv (pe_ix ix_seq (pv 0) pe_int (fun _ _ => rfl)) pe_int) pa_nil)) (pv 1)))))))

abbrev s__law_same : Stmt := topS 35
abbrev nm__law_same : List Str := ["actual", "expected", "k"]
theorem sc__law_same : FnScope nm__law_same ["actual", "expected"] (defScope s__law_same) := ⟨rfl, rfl, rfl, by decide +kernel, rfl, by decide +kernel, by decide +kernel⟩
/-- the reading of _law_same; slots: actual 0, expected 1, k 2 -/
def t__law_same (K : PySem.W.Frag) (sp__law_same : Sp) : TS :=
  (tSeq (tIfS (tOr (tB (tCB (bIsi K) (tCons (tVar 1) (tCons (tC (.ty "tuple")) tNil)))) (tB (tCB (bIsi K) (tCons (tVar 1) (tCons (tC (.ty "list")) tNil))))) (tSeq (tIfS (tAnd (tB (tCB (bIsi K) (tCons (tVar 1) (tCons (tC (.ty "tuple")) tNil)))) (tNot (tB (tCB (bIsi K) (tCons (tVar 0) (tCons (tC (.ty "tuple")) tNil)))))) (tRet (tC (.bl false))) tNext) (tSeq (tIfS (tAnd (tB (tCB (bIsi K) (tCons (tVar 1) (tCons (tC (.ty "list")) tNil)))) (tNot (tB (tCB (bIsi K) (tCons (tVar 0) (tCons (tC (.ty "list")) tNil)))))) (tRet (tC (.bl false))) tNext) (tSeq (tIfS (tTest (tOp (oNe K) (tCB (bLen K) (tCons (tVar 0) tNil)) (tCB (bLen K) (tCons (tVar 1) tNil)))) (tRet (tC (.bl false))) tNext) (tSeq (tFor (iRng1 (tCons (tCB (bLen K) (tCons (tVar 1) tNil)) tNil)) (gName 2) (tIfS (tNot (tB (tCall sp__law_same [] E0 (tCons (tOp (rIx K) (tVar 0) (tVar 2)) (tCons (tOp (rIx K) (tVar 1) (tVar 2)) tNil))))) (tRet (tC (.bl false))) tNext)) (tRet (tC (.bl true))))))) tNext) (tSeq (tIfS (tB (tCB (bIsi K) (tCons (tVar 1) (tCons (tC (.ty "str")) tNil)))) (tRet (tAndV (tCB (bIsi K) (tCons (tVar 0) (tCons (tC (.ty "str")) tNil))) (tOp (oEq K) (tVar 0) (tVar 1)))) tNext) (tSeq (tIfS (tTest (tOp oIs (tVar 1) (tC .non))) (tRet (tOp oIs (tVar 0) (tC .non))) tNext) (tSeq (tIfS (tOr (tB (tCB (bIsi K) (tCons (tVar 1) (tCons (tC (.ty "bool")) tNil)))) (tB (tCB (bIsi K) (tCons (tVar 0) (tCons (tC (.ty "bool")) tNil))))) (tRet (tAndV (tCB (bIsi K) (tCons (tVar 1) (tCons (tC (.ty "bool")) tNil))) (tAndV (tCB (bIsi K) (tCons (tVar 0) (tCons (tC (.ty "bool")) tNil))) (tOp (oEq K) (tVar 0) (tVar 1))))) tNext) (tRet (tAndV (tCB (bIsi K) (tCons (tVar 0) (tCons (tC (.ty "int")) tNil))) (tAndV (tCB (bIsi K) (tCons (tVar 1) (tCons (tC (.ty "int")) tNil))) (tOp (oEq K) (tVar 0) (tVar 1)))))))))
theorem b__law_same {lv : Nat} (G : Bt mg) {sp__law_same : Sp} (c__law_same : Cal P w K mg base lv "_law_same" sp__law_same) : Bdy P w K mg base lv nm__law_same "_law_same" s__law_same (t__law_same K sp__law_same) := fun f cdv A outer s H E hr =>
  (pss_cons (ps_if (PW.pt (pw_or (pt_val (pe_callB cr_bIsi rfl G.b_isinstance bt_isinstance (pa_cons (pv 1) (pa_cons (pe_bltn rfl G.b_tuple bt_tuple rfl) pa_nil)))) (pw_or1 (pt_val (pe_callB cr_bIsi rfl G.b_isinstance bt_isinstance (pa_cons (pv 1) (pa_cons (pe_bltn rfl G.b_list bt_list rfl) pa_nil))))))) (pss_cons (ps_if (PW.pt (pw_and (pt_val (pe_callB cr_bIsi rfl G.b_isinstance bt_isinstance (pa_cons (pv 1) (pa_cons (pe_bltn rfl G.b_tuple bt_tuple rfl) pa_nil)))) (pw_and1 (pt_not (pt_val (pe_callB cr_bIsi rfl G.b_isinstance bt_isinstance (pa_cons (pv 0) (pa_cons (pe_bltn rfl G.b_tuple bt_tuple rfl) pa_nil)))))))) (pss_one (ps_ret pe_bl)) pss_nil) (pss_cons (ps_if (PW.pt (pw_and (pt_val (pe_callB cr_bIsi rfl G.b_isinstance bt_isinstance (pa_cons (pv 1) (pa_cons (pe_bltn rfl G.b_list bt_list rfl) pa_nil)))) (pw_and1 (pt_not (pt_val (pe_callB cr_bIsi rfl G.b_isinstance bt_isinstance (pa_cons (pv 0) (pa_cons (pe_bltn rfl G.b_list bt_list rfl) pa_nil)))))))) (pss_one (ps_ret pe_bl)) pss_nil) (pss_cons (ps_if (pt_cmpR (op_oNe hr) (pe_callB cr_bLen rfl G.b_len bt_len (pa_cons (pv 0) pa_nil)) (pe_callB cr_bLen rfl G.b_len bt_len (pa_cons (pv 1) pa_nil)) (nomark _)) (pss_one (ps_ret pe_bl)) pss_nil) (pss_cons (ps_for PassesOwn.never rfl (pi_range1 rfl G.b_range (pa_cons (pe_callB cr_bLen rfl G.b_len bt_len (pa_cons (pv 1) pa_nil)) pa_nil)) (pg_name (i := 2) sc__law_same.nd rfl (Or.inl rfl)) (pss_one (ps_if (pt_not (pt_val (pe_cal c__law_same hr (Nat.le_refl _) rfl (pa_cons (pe_ix ix_seq (pv 0) (pv 2) (fun _ _ => rfl)) (pa_cons (pe_ix ix_seq (pv 1) (pv 2) (fun _ _ => rfl)) pa_nil))))) (pss_one (ps_ret pe_bl)) pss_nil))) (pss_one (ps_ret pe_bl)))))) pss_nil) (pss_cons (ps_if (pt_val (pe_callB cr_bIsi rfl G.b_isinstance bt_isinstance (pa_cons (pv 1) (pa_cons (pe_bltn rfl G.b_str bt_str rfl) pa_nil)))) (pss_one (ps_ret (pe_and (pe_callB cr_bIsi rfl G.b_isinstance bt_isinstance (pa_cons (pv 0) (pa_cons (pe_bltn rfl G.b_str bt_str rfl) pa_nil))) (pe_one (pe_cmpR (op_oEq hr) (pv 0) (pv 1) (nomark _)))))) pss_nil) (pss_cons (ps_if (pt_cmpR op_oIs (pv 1) pe_non (nomark _)) (pss_one (ps_ret (pe_cmpR op_oIs (pv 0) pe_non (nomark _)))) pss_nil) (pss_cons (ps_if (PW.pt (pw_or (pt_val (pe_callB cr_bIsi rfl G.b_isinstance bt_isinstance (pa_cons (pv 1) (pa_cons (pe_bltn rfl G.b_bool bt_bool rfl) pa_nil)))) (pw_or1 (pt_val (pe_callB cr_bIsi rfl G.b_isinstance bt_isinstance (pa_cons (pv 0) (pa_cons (pe_bltn rfl G.b_bool bt_bool rfl) pa_nil))))))) (pss_one (ps_ret (pe_and (pe_callB cr_bIsi rfl G.b_isinstance bt_isinstance (pa_cons (pv 1) (pa_cons (pe_bltn rfl G.b_bool bt_bool rfl) pa_nil))) (pe_and (pe_callB cr_bIsi rfl G.b_isinstance bt_isinstance (pa_cons (pv 0) (pa_cons (pe_bltn rfl G.b_bool bt_bool rfl) pa_nil))) (pe_one (pe_cmpR (op_oEq hr) (pv 0) (pv 1) (nomark _))))))) pss_nil) (pss_one (ps_ret (pe_and (pe_callB cr_bIsi rfl G.b_isinstance bt_isinstance (pa_cons (pv 0) (pa_cons (pe_bltn rfl G.b_int bt_int rfl) pa_nil))) (pe_and (pe_callB cr_bIsi rfl G.b_isinstance bt_isinstance (pa_cons (pv 1) (pa_cons (pe_bltn rfl G.b_int bt_int rfl) pa_nil))) (pe_one (pe_cmpR (op_oEq hr) (pv 0) (pv 1) (nomark _)))))))))))

abbrev s__law_pick : Stmt := topS 36
abbrev nm__law_pick : List Str := ["draws", "row"]
theorem sc__law_pick : FnScope nm__law_pick ["draws", "row"] (defScope s__law_pick) := ⟨rfl, rfl, rfl, by decide +kernel, rfl, by decide +kernel, by decide +kernel⟩
/-- the reading of _law_pick; slots: draws 0, row 1 -/
def t__law_pick (K : PySem.W.Frag) (sp__law_draw : Sp) : TS :=
  (tRet (tOp (rIx K) (tVar 1) (tCall sp__law_draw [] E0 (tCons (tVar 0) (tCons (tCB (bLen K) (tCons (tVar 1) tNil)) tNil)))))
theorem b__law_pick {lv : Nat} (G : Bt mg) {sp__law_draw : Sp} (c__law_draw : Cal P w K mg base lv "_law_draw" sp__law_draw) : Bdy P w K mg base lv nm__law_pick "_law_pick" s__law_pick (t__law_pick K sp__law_draw) := fun f cdv A outer s H E hr =>
  (pss_one (ps_ret (pe_ix ix_seq (pv 1) (pe_cal c__law_draw hr (Nat.le_refl _) rfl (pa_cons (pv 0) (pa_cons (pe_callB cr_bLen rfl G.b_len bt_len (pa_cons (pv 1) pa_nil)) pa_nil))) (fun _ _ => rfl))))

abbrev s__law_curve : Stmt := topS 37
abbrev nm__law_curve : List Str := ["draws", "size", "found", "k"]
theorem sc__law_curve : FnScope nm__law_curve ["draws", "size"] (defScope s__law_curve) := ⟨rfl, rfl, rfl, by decide +kernel, rfl, by decide +kernel, by decide +kernel⟩
/-- the reading of _law_curve; slots: draws 0, size 1, found 2, k 3 -/
def t__law_curve (K : PySem.W.Frag) (sp__law_pick : Sp) : TS :=
  (tSeq (tAsg (tLst (tCons (tC (.int 0)) tNil)) (gName 2)) (tSeq (tFor (iRng1 (tCons (tOp oSub (tVar 1) (tC (.int 1))) tNil)) (gName 3) (tDrop (tBM K "list" rAppend (tVar 2) (tCons (tOp (oAdd K) (tOp (rIx K) (tVar 2) (tUn uNeg (tC (.int 1)))) (tCall sp__law_pick [] E0 (tCons (tVar 0) (tCons (tLst (tCons (tC (.int 0)) (tCons (tC (.int 0)) (tCons (tC (.int 1)) (tCons (tC (.int 2)) (tCons (tC (.int 7)) tNil)))))) tNil)))) tNil)))) (tRet (tCB (bTuple K) (tCons (tVar 2) tNil)))))
theorem b__law_curve {lv : Nat} (G : Bt mg) {sp__law_pick : Sp} (c__law_pick : Cal P w K mg base lv "_law_pick" sp__law_pick) : Bdy P w K mg base lv nm__law_curve "_law_curve" s__law_curve (t__law_curve K sp__law_pick) := fun f cdv A outer s H E hr =>
  (pss_cons (ps_set (i := 2) sc__law_curve.nd rfl (Or.inl rfl) (pe_lst (pa_cons pe_int pa_nil))) (pss_cons (ps_for PassesOwn.never rfl (pi_range1 rfl G.b_range (pa_cons (pe_op op_oSub (pv 1) pe_int) pa_nil)) (pg_name (i := 3) sc__law_curve.nd rfl (Or.inl rfl)) (pss_one (ps_expr (pe_bm PySem.F.plainAttrs_list PySem.F.slot_list_append PySem.F.type_list_append mt_append (pv 2) (pa_cons (pe_op op_oAdd (pe_ix ix_seq (pv 2) (pe_un un_uNeg pe_int) (fun _ _ => rfl)) (pe_cal c__law_pick hr (Nat.le_refl _) rfl (pa_cons (pv 0) (pa_cons (pe_lst (pa_cons pe_int (pa_cons pe_int (pa_cons pe_int (pa_cons pe_int (pa_cons pe_int pa_nil)))))) pa_nil)))) pa_nil))))) (pss_one (ps_ret (pe_callTy cr_bTuple rfl G.b_tuple bt_tuple (pa_cons (pv 2) pa_nil))))))

abbrev s__law_some : Stmt := topS 38
abbrev nm__law_some : List Str := ["draws", "size", "kind", "one", "two", "step"]
theorem sc__law_some : FnScope nm__law_some ["draws", "size"] (defScope s__law_some) := ⟨rfl, rfl, rfl, by decide +kernel, rfl, by decide +kernel, by decide +kernel⟩
/-- the reading of _law_some; slots: draws 0, size 1, kind 2, one 3, two 4, step 5 -/
def t__law_some (K : PySem.W.Frag) (sp__law_draw : Sp) (sp__law_curve : Sp) : TS :=
  (tSeq (tAsg (tTup (tCons (tCall sp__law_draw [] E0 (tCons (tVar 0) (tCons (tC (.int 3)) tNil))) (tCons (tCall sp__law_draw [] E0 (tCons (tVar 0) (tCons (tC (.int 20)) tNil))) (tCons (tCall sp__law_draw [] E0 (tCons (tVar 0) (tCons (tC (.int 4)) tNil))) tNil)))) (gSeq K 3 (gCons (gName 2) (gCons (gName 3) (gCons (gName 4) gNil))))) (tSeq (tIfS (tTest (tOp (oEq K) (tVar 2) (tC (.int 0)))) (tRet (tCall sp__law_curve [] E0 (tCons (tVar 0) (tCons (tVar 1) tNil)))) tNext) (tSeq (tIfS (tTest (tOp (oEq K) (tVar 2) (tC (.int 1)))) (tRet (tCB (bTuple K) (tCons (tOp (oAdd K) (tLst (tCons (tC (.int 0)) tNil)) (tLc (iRng2 (tCons (tC (.int 1)) (tCons (tVar 1) tNil))) (gName 5) tYes (tOp (oAdd K) (tVar 3) (tOp oMul (tVar 4) (tVar 5))) [5])) tNil))) tNext) (tRet (tCB (bTuple K) (tCons (tLc (iRng1 (tCons (tVar 1) tNil)) (gName 5) tYes (tOp oMul (tVar 4) (tCB (bMax K) (tCons (tOp oSub (tVar 5) (tVar 3)) (tCons (tC (.int 0)) tNil)))) [5]) tNil))))))
theorem b__law_some {lv : Nat} (G : Bt mg) {sp__law_draw : Sp} (c__law_draw : Cal P w K mg base lv "_law_draw" sp__law_draw) {sp__law_curve : Sp} (c__law_curve : Cal P w K mg base lv "_law_curve" sp__law_curve) : Bdy P w K mg base lv nm__law_some "_law_some" s__law_some (t__law_some K sp__law_draw sp__law_curve) := fun f cdv A outer s H E hr =>
  (pss_cons (ps_asg (pe_tup (pa_cons (pe_cal c__law_draw hr (Nat.le_refl _) rfl (pa_cons (pv 0) (pa_cons pe_int pa_nil))) (pa_cons (pe_cal c__law_draw hr (Nat.le_refl _) rfl (pa_cons (pv 0) (pa_cons pe_int pa_nil))) (pa_cons (pe_cal c__law_draw hr (Nat.le_refl _) rfl (pa_cons (pv 0) (pa_cons pe_int pa_nil))) pa_nil)))) (pg_seq rfl (pgs_cons (pg_name (i := 2) sc__law_some.nd rfl (Or.inl rfl)) (pgs_cons (pg_name (i := 3) sc__law_some.nd rfl (Or.inr rfl)) (pgs_cons (pg_name (i := 4) sc__law_some.nd rfl (Or.inr rfl)) pgs_nil))))) (pss_cons (ps_if (pt_cmpR (op_oEq hr) (pv 2) pe_int (nomark _)) (pss_one (ps_ret (pe_cal c__law_curve hr (Nat.le_refl _) rfl (pa_cons (pv 0) (pa_cons (pv 1) pa_nil))))) pss_nil) (pss_cons (ps_if (pt_cmpR (op_oEq hr) (pv 2) pe_int (nomark _)) (pss_one (ps_ret (pe_callTy cr_bTuple rfl G.b_tuple bt_tuple (pa_cons (pe_op op_oAdd (pe_lst (pa_cons pe_int pa_nil)) (pe_lc (own := [("step", 5)]) rfl sc__law_some.nd (pi_range2 rfl G.b_range (pa_cons pe_int (pa_cons (pv 1) pa_nil))) (blkOk_by (by kernel_rfl)) (fun _ _ _ _ _ => (pg_name (i := 5) sc__law_some.nd rfl (Or.inl rfl))) (fun _ _ _ _ _ => pts_nil) (fun _ _ _ _ _ => (pe_op op_oAdd (pv 3) (pe_op op_oMul (pv 4) (pv 5)))))) pa_nil)))) pss_nil) (pss_one (ps_ret (pe_callTy cr_bTuple rfl G.b_tuple bt_tuple (pa_cons (pe_lc (own := [("step", 5)]) rfl sc__law_some.nd (pi_range1 rfl G.b_range (pa_cons (pv 1) pa_nil)) (blkOk_by (by kernel_rfl)) (fun _ _ _ _ _ => (pg_name (i := 5) sc__law_some.nd rfl (Or.inl rfl))) (fun _ _ _ _ _ => pts_nil) (fun _ _ _ _ _ => (pe_op op_oMul (pv 4) (pe_callB (cr_bMax rfl) rfl G.b_max bt_max (pa_cons (pe_op op_oSub (pv 5) (pv 3)) (pa_cons pe_int pa_nil)))))) pa_nil)))))))

abbrev s__law_behind : Stmt := topS 39
abbrev nm__law_behind : List Str := ["first", "other", "at", "k"]
theorem sc__law_behind : FnScope nm__law_behind ["first", "other"] (defScope s__law_behind) := ⟨rfl, rfl, rfl, by decide +kernel, rfl, by decide +kernel, by decide +kernel⟩
/-- the reading of _law_behind; slots: first 0, other 1, at 2, k 3 -/
def t__law_behind (K : PySem.W.Frag) : TS :=
  (tRet (tCB (bTuple K) (tCons (tLc (iRng1 (tCons (tCB (bLen K) (tCons (tVar 0) tNil)) tNil)) (gName 2) tYes (tCB (bMin K) (tCons (tLc (iRng1 (tCons (tOp (oAdd K) (tVar 2) (tC (.int 1))) tNil)) (gName 3) tYes (tOp (oAdd K) (tOp (rIx K) (tVar 0) (tVar 3)) (tOp (rIx K) (tVar 1) (tOp oSub (tVar 2) (tVar 3)))) [3]) tNil)) [2]) tNil)))
theorem b__law_behind {lv : Nat} (G : Bt mg) : Bdy P w K mg base lv nm__law_behind "_law_behind" s__law_behind (t__law_behind K) := fun f cdv A outer s H E hr =>
  (pss_one (ps_ret (pe_callTy cr_bTuple rfl G.b_tuple bt_tuple (pa_cons (pe_lc (own := [("at", 2)]) rfl sc__law_behind.nd (pi_range1 rfl G.b_range (pa_cons (pe_callB cr_bLen rfl G.b_len bt_len (pa_cons (pv 0) pa_nil)) pa_nil)) (blkOk_by (by kernel_rfl)) (fun _ _ _ _ _ => (pg_name (i := 2) sc__law_behind.nd rfl (Or.inr rfl))) (fun _ _ _ _ _ => pts_nil) (fun _ _ _ _ _ => (pe_callB (cr_bMin rfl) rfl G.b_min bt_min (pa_cons (pe_lc (own := [("k", 3)]) rfl sc__law_behind.nd (pi_range1 rfl G.b_range (pa_cons (pe_op op_oAdd (pv 2) pe_int) pa_nil)) (blkOk_by (by kernel_rfl)) (fun _ _ _ _ _ => (pg_name (i := 3) sc__law_behind.nd rfl (Or.inl rfl))) (fun _ _ _ _ _ => pts_nil) (fun _ _ _ _ _ => (pe_op op_oAdd (pe_ix ix_seq (pv 0) (pv 3) (fun _ _ => rfl)) (pe_ix ix_seq (pv 1) (pe_op op_oSub (pv 2) (pv 3)) (fun _ _ => rfl))))) pa_nil)))) pa_nil))))

abbrev s__law_off : Stmt := topS 40
abbrev nm__law_off : List Str := ["first", "other", "half", "at", "k"]
theorem sc__law_off : FnScope nm__law_off ["first", "other"] (defScope s__law_off) := ⟨rfl, rfl, rfl, by decide +kernel, rfl, by decide +kernel, by decide +kernel⟩
/-- the reading of _law_off; slots: first 0, other 1, half 2, at 3, k 4 -/
def t__law_off (K : PySem.W.Frag) : TS :=
  (tSeq (tAsg (tOp oDiv (tOp (oAdd K) (tCB (bLen K) (tCons (tVar 0) tNil)) (tC (.int 1))) (tC (.int 2))) (gName 2)) (tRet (tCB (bTuple K) (tCons (tLc (iRng1 (tCons (tVar 2) tNil)) (gName 3) tYes (tCB (bMax K) (tCons (tLc (iRng1 (tCons (tOp oSub (tCB (bLen K) (tCons (tVar 0) tNil)) (tVar 3)) tNil)) (gName 4) tYes (tOp oSub (tOp (rIx K) (tVar 0) (tOp (oAdd K) (tVar 3) (tVar 4))) (tOp (rIx K) (tVar 1) (tVar 4))) [4]) tNil)) [3]) tNil))))
theorem b__law_off {lv : Nat} (G : Bt mg) : Bdy P w K mg base lv nm__law_off "_law_off" s__law_off (t__law_off K) := fun f cdv A outer s H E hr =>
  (pss_cons (ps_set (i := 2) sc__law_off.nd rfl (Or.inl rfl) (pe_op op_oDiv (pe_op op_oAdd (pe_callB cr_bLen rfl G.b_len bt_len (pa_cons (pv 0) pa_nil)) pe_int) pe_int)) (pss_one (ps_ret (pe_callTy cr_bTuple rfl G.b_tuple bt_tuple (pa_cons (pe_lc (own := [("at", 3)]) rfl sc__law_off.nd (pi_range1 rfl G.b_range (pa_cons (pv 2) pa_nil)) (blkOk_by (by kernel_rfl)) (fun _ _ _ _ _ => (pg_name (i := 3) sc__law_off.nd rfl (Or.inr rfl))) (fun _ _ _ _ _ => pts_nil) (fun _ _ _ _ _ => (pe_callB (cr_bMax rfl) rfl G.b_max bt_max (pa_cons (pe_lc (own := [("k", 4)]) rfl sc__law_off.nd (pi_range1 rfl G.b_range (pa_cons (pe_op op_oSub (pe_callB cr_bLen rfl G.b_len bt_len (pa_cons (pv 0) pa_nil)) (pv 3)) pa_nil)) (blkOk_by (by kernel_rfl)) (fun _ _ _ _ _ => (pg_name (i := 4) sc__law_off.nd rfl (Or.inl rfl))) (fun _ _ _ _ _ => pts_nil) (fun _ _ _ _ _ => (pe_op op_oSub (pe_ix ix_seq (pv 0) (pe_op op_oAdd (pv 3) (pv 4)) (fun _ _ => rfl)) (pe_ix ix_seq (pv 1) (pv 4) (fun _ _ => rfl))))) pa_nil)))) pa_nil)))))

abbrev s__law_closed : Stmt := topS 41
abbrev nm__law_closed : List Str := ["curve", "found", "at", "k"]
theorem sc__law_closed : FnScope nm__law_closed ["curve"] (defScope s__law_closed) := ⟨rfl, rfl, rfl, by decide +kernel, rfl, by decide +kernel, by decide +kernel⟩
/-- the reading of _law_closed; slots: curve 0, found 1, at 2, k 3 -/
def t__law_closed (K : PySem.W.Frag) : TS :=
  (tSeq (tAsg (tLst (tCons (tC (.int 0)) tNil)) (gName 1)) (tSeq (tFor (iRng2 (tCons (tC (.int 1)) (tCons (tCB (bLen K) (tCons (tVar 0) tNil)) tNil))) (gName 2) (tDrop (tBM K "list" rAppend (tVar 1) (tCons (tCB (bMin K) (tCons (tOp (oAdd K) (tLst (tCons (tOp (rIx K) (tVar 0) (tVar 2)) tNil)) (tLc (iRng2 (tCons (tC (.int 1)) (tCons (tVar 2) tNil))) (gName 3) tYes (tOp (oAdd K) (tOp (rIx K) (tVar 1) (tVar 3)) (tOp (rIx K) (tVar 1) (tOp oSub (tVar 2) (tVar 3)))) [3])) tNil)) tNil)))) (tRet (tCB (bTuple K) (tCons (tVar 1) tNil)))))
theorem b__law_closed {lv : Nat} (G : Bt mg) : Bdy P w K mg base lv nm__law_closed "_law_closed" s__law_closed (t__law_closed K) := fun f cdv A outer s H E hr =>
  (pss_cons (ps_set (i := 1) sc__law_closed.nd rfl (Or.inr rfl) (pe_lst (pa_cons pe_int pa_nil))) (pss_cons (ps_for PassesOwn.never rfl (pi_range2 rfl G.b_range (pa_cons pe_int (pa_cons (pe_callB cr_bLen rfl G.b_len bt_len (pa_cons (pv 0) pa_nil)) pa_nil))) (pg_name (i := 2) sc__law_closed.nd rfl (Or.inr rfl)) (pss_one (ps_expr (pe_bm PySem.F.plainAttrs_list PySem.F.slot_list_append PySem.F.type_list_append mt_append (pv 1) (pa_cons (pe_callB (cr_bMin rfl) rfl G.b_min bt_min (pa_cons (pe_op op_oAdd (pe_lst (pa_cons (pe_ix ix_seq (pv 0) (pv 2) (fun _ _ => rfl)) pa_nil)) (pe_lc (own := [("k", 3)]) rfl sc__law_closed.nd (pi_range2 rfl G.b_range (pa_cons pe_int (pa_cons (pv 2) pa_nil))) (blkOk_by (by kernel_rfl)) (fun _ _ _ _ _ => (pg_name (i := 3) sc__law_closed.nd rfl (Or.inl rfl))) (fun _ _ _ _ _ => pts_nil) (fun _ _ _ _ _ => (pe_op op_oAdd (pe_ix ix_seq (pv 1) (pv 3) (fun _ _ => rfl)) (pe_ix ix_seq (pv 1) (pe_op op_oSub (pv 2) (pv 3)) (fun _ _ => rfl)))))) pa_nil)) pa_nil))))) (pss_one (ps_ret (pe_callTy cr_bTuple rfl G.b_tuple bt_tuple (pa_cons (pv 1) pa_nil))))))

abbrev s__law_within : Stmt := topS 42
abbrev nm__law_within : List Str := ["came", "curve", "step", "start"]
theorem sc__law_within : FnScope nm__law_within ["came", "curve"] (defScope s__law_within) := ⟨rfl, rfl, rfl, by decide +kernel, rfl, by decide +kernel, by decide +kernel⟩
/-- the reading of _law_within; slots: came 0, curve 1, step 2, start 3 -/
def t__law_within (K : PySem.W.Frag) : TS :=
  (tSeq (tFor (iRng1 (tCons (tCB (bLen K) (tCons (tVar 0) tNil)) tNil)) (gName 2) (tFor (iRng1 (tCons (tVar 2) tNil)) (gName 3) (tIfS (tTest (tOp oGt (tOp oSub (tOp (rIx K) (tVar 0) (tVar 2)) (tOp (rIx K) (tVar 0) (tVar 3))) (tOp (rIx K) (tVar 1) (tOp oSub (tVar 2) (tVar 3))))) (tRet (tTup (tCons (tVar 3) (tCons (tVar 2) tNil)))) tNext))) (tRet (tC .non)))
theorem b__law_within {lv : Nat} (G : Bt mg) : Bdy P w K mg base lv nm__law_within "_law_within" s__law_within (t__law_within K) := fun f cdv A outer s H E hr =>
  (pss_cons (ps_for PassesOwn.never rfl (pi_range1 rfl G.b_range (pa_cons (pe_callB cr_bLen rfl G.b_len bt_len (pa_cons (pv 0) pa_nil)) pa_nil)) (pg_name (i := 2) sc__law_within.nd rfl (Or.inl rfl)) (pss_one (ps_for PassesOwn.never rfl (pi_range1 rfl G.b_range (pa_cons (pv 2) pa_nil)) (pg_name (i := 3) sc__law_within.nd rfl (Or.inl rfl)) (pss_one (ps_if (pt_cmpR op_oGt (pe_op op_oSub (pe_ix ix_seq (pv 0) (pv 2) (fun _ _ => rfl)) (pe_ix ix_seq (pv 0) (pv 3) (fun _ _ => rfl))) (pe_ix ix_seq (pv 1) (pe_op op_oSub (pv 2) (pv 3)) (fun _ _ => rfl)) (nomark _)) (pss_one (ps_ret (pe_tup (pa_cons (pv 3) (pa_cons (pv 2) pa_nil))))) pss_nil))))) (pss_one (ps_ret pe_non)))

abbrev s__law_gap : Stmt := topS 43
abbrev nm__law_gap : List Str := ["first", "other", "gaps", "k"]
theorem sc__law_gap : FnScope nm__law_gap ["first", "other"] (defScope s__law_gap) := ⟨rfl, rfl, rfl, by decide +kernel, rfl, by decide +kernel, by decide +kernel⟩
/-- the reading of _law_gap; slots: first 0, other 1, gaps 2, k 3 -/
def t__law_gap (K : PySem.W.Frag) : TS :=
  (tSeq (tAsg (tLc (iRng1 (tCons (tCB (bLen K) (tCons (tVar 0) tNil)) tNil)) (gName 3) tYes (tOp oSub (tOp (rIx K) (tVar 0) (tVar 3)) (tOp (rIx K) (tVar 1) (tVar 3))) [3]) (gName 2)) (tRet (tTup (tCons (tCB (bMax K) (tCons (tVar 2) tNil)) (tCons (tBM K "list" (rIndex K) (tVar 2) (tCons (tCB (bMax K) (tCons (tVar 2) tNil)) tNil)) tNil)))))
theorem b__law_gap {lv : Nat} (G : Bt mg) : Bdy P w K mg base lv nm__law_gap "_law_gap" s__law_gap (t__law_gap K) := fun f cdv A outer s H E hr =>
  (pss_cons (ps_setLc (i := 2) (own := [("k", 3)]) rfl sc__law_gap.nd rfl rfl (sw_true rfl rfl rfl (by decide +kernel)) (pi_range1 rfl G.b_range (pa_cons (pe_callB cr_bLen rfl G.b_len bt_len (pa_cons (pv 0) pa_nil)) pa_nil)) (blkOk_by (by kernel_rfl)) (fun _ _ _ _ _ => (pg_name (i := 3) sc__law_gap.nd rfl (Or.inl rfl))) (fun _ _ _ _ _ => pts_nil) (fun _ _ _ _ _ => (pe_op op_oSub (pe_ix ix_seq (pv 0) (pv 3) (fun _ _ => rfl)) (pe_ix ix_seq (pv 1) (pv 3) (fun _ _ => rfl))))) (pss_one (ps_ret (pe_tup (pa_cons (pe_callB (cr_bMax rfl) rfl G.b_max bt_max (pa_cons (pv 2) pa_nil)) (pa_cons (pe_bm PySem.F.plainAttrs_list PySem.F.slot_list_index PySem.F.type_list_index mt_index (pv 2) (pa_cons (pe_callB (cr_bMax rfl) rfl G.b_max bt_max (pa_cons (pv 2) pa_nil)) pa_nil)) pa_nil))))))

abbrev s__law_wait : Stmt := topS 44
abbrev nm__law_wait : List Str := ["first", "other", "waits", "step", "later", "k"]
theorem sc__law_wait : FnScope nm__law_wait ["first", "other"] (defScope s__law_wait) := ⟨rfl, rfl, rfl, by decide +kernel, rfl, by decide +kernel, by decide +kernel⟩
/-- the reading of _law_wait; slots: first 0, other 1, waits 2, step 3, later 4, k 5 -/
def t__law_wait (K : PySem.W.Frag) : TS :=
  (tSeq (tAsg (tLst tNil) (gName 2)) (tSeq (tFor (iRng1 (tCons (tCB (bLen K) (tCons (tVar 0) tNil)) tNil)) (gName 3) (tSeq (tAsg (tLc (iRng2 (tCons (tVar 3) (tCons (tCB (bLen K) (tCons (tVar 0) tNil)) tNil))) (gName 5) (tTest (tOp oGe (tOp (rIx K) (tVar 1) (tVar 5)) (tOp (rIx K) (tVar 0) (tVar 3)))) (tVar 5) [5]) (gName 4)) (tSeq (tIfS (tTest (tOp (oEq K) (tCB (bLen K) (tCons (tVar 4) tNil)) (tC (.int 0)))) (tRet (tC .non)) tNext) (tDrop (tBM K "list" rAppend (tVar 2) (tCons (tOp oSub (tOp (rIx K) (tVar 4) (tC (.int 0))) (tVar 3)) tNil)))))) (tRet (tTup (tCons (tCB (bMax K) (tCons (tVar 2) tNil)) (tCons (tBM K "list" (rIndex K) (tVar 2) (tCons (tCB (bMax K) (tCons (tVar 2) tNil)) tNil)) tNil))))))
theorem b__law_wait {lv : Nat} (G : Bt mg) : Bdy P w K mg base lv nm__law_wait "_law_wait" s__law_wait (t__law_wait K) := fun f cdv A outer s H E hr =>
  (pss_cons (ps_set (i := 2) sc__law_wait.nd rfl (Or.inl rfl) (pe_lst pa_nil)) (pss_cons (ps_for PassesOwn.never rfl (pi_range1 rfl G.b_range (pa_cons (pe_callB cr_bLen rfl G.b_len bt_len (pa_cons (pv 0) pa_nil)) pa_nil)) (pg_name (i := 3) sc__law_wait.nd rfl (Or.inr rfl)) (pss_cons (ps_setLc (i := 4) (own := [("k", 5)]) rfl sc__law_wait.nd rfl rfl (sw_true rfl rfl rfl (by decide +kernel)) (pi_range2 rfl G.b_range (pa_cons (pv 3) (pa_cons (pe_callB cr_bLen rfl G.b_len bt_len (pa_cons (pv 0) pa_nil)) pa_nil))) (blkOk_by (by kernel_rfl)) (fun _ _ _ _ _ => (pg_name (i := 5) sc__law_wait.nd rfl (Or.inl rfl))) (fun _ _ _ _ _ => (pts_one (pt_cmpR op_oGe (pe_ix ix_seq (pv 1) (pv 5) (fun _ _ => rfl)) (pe_ix ix_seq (pv 0) (pv 3) (fun _ _ => rfl)) (nomark _)))) (fun _ _ _ _ _ => (pv 5))) (pss_cons (ps_if (pt_cmpR (op_oEq hr) (pe_callB cr_bLen rfl G.b_len bt_len (pa_cons (pv 4) pa_nil)) pe_int (nomark _)) (pss_one (ps_ret pe_non)) pss_nil) (pss_one (ps_expr (pe_bm PySem.F.plainAttrs_list PySem.F.slot_list_append PySem.F.type_list_append mt_append (pv 2) (pa_cons (pe_op op_oSub (pe_ix ix_seq (pv 4) pe_int (fun _ _ => rfl)) (pv 3)) pa_nil))))))) (pss_one (ps_ret (pe_tup (pa_cons (pe_callB (cr_bMax rfl) rfl G.b_max bt_max (pa_cons (pv 2) pa_nil)) (pa_cons (pe_bm PySem.F.plainAttrs_list PySem.F.slot_list_index PySem.F.type_list_index mt_index (pv 2) (pa_cons (pe_callB (cr_bMax rfl) rfl G.b_max bt_max (pa_cons (pv 2) pa_nil)) pa_nil)) pa_nil)))))))

abbrev s__law_steps : Stmt := topS 45
abbrev nm__law_steps : List Str := ["curve", "k"]
theorem sc__law_steps : FnScope nm__law_steps ["curve"] (defScope s__law_steps) := ⟨rfl, rfl, rfl, by decide +kernel, rfl, by decide +kernel, by decide +kernel⟩
/-- the reading of _law_steps; slots: curve 0, k 1 -/
def t__law_steps (K : PySem.W.Frag) : TS :=
  (tRet (tLc (iRng1 (tCons (tOp oSub (tCB (bLen K) (tCons (tVar 0) tNil)) (tC (.int 1))) tNil)) (gName 1) tYes (tOp oSub (tOp (rIx K) (tVar 0) (tOp (oAdd K) (tVar 1) (tC (.int 1)))) (tOp (rIx K) (tVar 0) (tVar 1))) [1]))
theorem b__law_steps {lv : Nat} (G : Bt mg) : Bdy P w K mg base lv nm__law_steps "_law_steps" s__law_steps (t__law_steps K) := fun f cdv A outer s H E hr =>
  (pss_one (ps_ret (pe_lc (own := [("k", 1)]) rfl sc__law_steps.nd (pi_range1 rfl G.b_range (pa_cons (pe_op op_oSub (pe_callB cr_bLen rfl G.b_len bt_len (pa_cons (pv 0) pa_nil)) pe_int) pa_nil)) (blkOk_by (by kernel_rfl)) (fun _ _ _ _ _ => (pg_name (i := 1) sc__law_steps.nd rfl (Or.inl rfl))) (fun _ _ _ _ _ => pts_nil) (fun _ _ _ _ _ => (pe_op op_oSub (pe_ix ix_seq (pv 0) (pe_op op_oAdd (pv 1) pe_int) (fun _ _ => rfl)) (pe_ix ix_seq (pv 0) (pv 1) (fun _ _ => rfl)))))))

abbrev s__law_sums : Stmt := topS 46
abbrev nm__law_sums : List Str := ["steps", "found", "one"]
theorem sc__law_sums : FnScope nm__law_sums ["steps"] (defScope s__law_sums) := ⟨rfl, rfl, rfl, by decide +kernel, rfl, by decide +kernel, by decide +kernel⟩
/-- the reading of _law_sums; slots: steps 0, found 1, one 2 -/
def t__law_sums (K : PySem.W.Frag) : TS :=
  (tSeq (tAsg (tLst (tCons (tC (.int 0)) tNil)) (gName 1)) (tSeq (tFor (iSeq K (tVar 0)) (gName 2) (tDrop (tBM K "list" rAppend (tVar 1) (tCons (tOp (oAdd K) (tOp (rIx K) (tVar 1) (tUn uNeg (tC (.int 1)))) (tVar 2)) tNil)))) (tRet (tCB (bTuple K) (tCons (tVar 1) tNil)))))
theorem b__law_sums {lv : Nat} (G : Bt mg) : Bdy P w K mg base lv nm__law_sums "_law_sums" s__law_sums (t__law_sums K) := fun f cdv A outer s H E hr =>
  (pss_cons (ps_set (i := 1) sc__law_sums.nd rfl (Or.inl rfl) (pe_lst (pa_cons pe_int pa_nil))) (pss_cons (ps_for PassesOwn.never rfl (pi_seq (pv 0)) (pg_name (i := 2) sc__law_sums.nd rfl (Or.inl rfl)) (pss_one (ps_expr (pe_bm PySem.F.plainAttrs_list PySem.F.slot_list_append PySem.F.type_list_append mt_append (pv 1) (pa_cons (pe_op op_oAdd (pe_ix ix_seq (pv 1) (pe_un un_uNeg pe_int) (fun _ _ => rfl)) (pv 2)) pa_nil))))) (pss_one (ps_ret (pe_callTy cr_bTuple rfl G.b_tuple bt_tuple (pa_cons (pv 1) pa_nil))))))

abbrev s__law_told : Stmt := topS 47
abbrev nm__law_told : List Str := ["one", "two", "three", "heap", "wait", "left", "far", "k"]
theorem sc__law_told : FnScope nm__law_told ["one", "two", "three"] (defScope s__law_told) := ⟨rfl, rfl, rfl, by decide +kernel, rfl, by decide +kernel, by decide +kernel⟩
/-- the reading of _law_told; slots: one 0, two 1, three 2, heap 3, wait 4, left 5, far 6, k 7 -/
def t__law_told (K : PySem.W.Frag) (sp__law_same : Sp) (sp_least_of : Sp) (sp__law_behind : Sp) (sp_put_behind : Sp) (sp__law_off : Sp) (sp_put_off : Sp) (sp__law_closed : Sp) (sp_closed : Sp) (sp_is_closed : Sp) (sp__law_within : Sp) (sp_keeps_within : Sp) (sp__law_gap : Sp) (sp_greatest_gap : Sp) (sp__law_wait : Sp) (sp_greatest_wait : Sp) (sp_least_done : Sp) (sp_serves : Sp) (sp_bounds : Sp) (sp_out_bound : Sp) (sp_left_over : Sp) (sp_in_a_row : Sp) (sp_shaped : Sp) : TS :=
  (tSeq (tIfS (tOr (tNot (tB (tCall sp__law_same [] E0 (tCons (tCall sp_least_of [] E0 (tCons (tVar 0) (tCons (tVar 1) tNil))) (tCons (tCB (bTuple K) (tCons (tLc (iRng1 (tCons (tCB (bLen K) (tCons (tVar 0) tNil)) tNil)) (gName 7) tYes (tCB (bMin K) (tCons (tOp (rIx K) (tVar 0) (tVar 7)) (tCons (tOp (rIx K) (tVar 1) (tVar 7)) tNil))) [7]) tNil)) tNil))))) (tNot (tB (tCall sp__law_same [] E0 (tCons (tCall sp_put_behind [] E0 (tCons (tVar 0) (tCons (tVar 1) tNil))) (tCons (tCall sp__law_behind [] E0 (tCons (tVar 0) (tCons (tVar 1) tNil))) tNil)))))) (tRet (tC (.bl false))) tNext) (tSeq (tIfS (tOr (tNot (tB (tCall sp__law_same [] E0 (tCons (tCall sp_put_off [] E0 (tCons (tVar 0) (tCons (tVar 1) tNil))) (tCons (tCall sp__law_off [] E0 (tCons (tVar 0) (tCons (tVar 1) tNil))) tNil))))) (tOr (tNot (tB (tCall sp__law_same [] E0 (tCons (tCall sp_closed [] E0 (tCons (tVar 0) tNil)) (tCons (tCall sp__law_closed [] E0 (tCons (tVar 0) tNil)) tNil))))) (tTest (tOp (oNe K) (tCall sp_is_closed [] E0 (tCons (tVar 0) tNil)) (tOp (oEq K) (tCall sp__law_closed [] E0 (tCons (tVar 0) tNil)) (tVar 0)))))) (tRet (tC (.bl false))) tNext) (tSeq (tIfS (tOr (tNot (tB (tCall sp__law_same [] E0 (tCons (tCall sp_keeps_within [] E0 (tCons (tVar 0) (tCons (tVar 1) tNil))) (tCons (tCall sp__law_within [] E0 (tCons (tVar 0) (tCons (tVar 1) tNil))) tNil))))) (tTest (tOp (oNe K) (tOp oIs (tCall sp_keeps_within [] E0 (tCons (tVar 0) (tCons (tCall sp__law_closed [] E0 (tCons (tVar 1) tNil)) tNil))) (tC .non)) (tOp oIs (tCall sp__law_within [] E0 (tCons (tVar 0) (tCons (tVar 1) tNil))) (tC .non))))) (tRet (tC (.bl false))) tNext) (tSeq (tIfS (tOr (tNot (tB (tCall sp__law_same [] E0 (tCons (tCall sp_greatest_gap [] E0 (tCons (tVar 0) (tCons (tVar 1) tNil))) (tCons (tCall sp__law_gap [] E0 (tCons (tVar 0) (tCons (tVar 1) tNil))) tNil))))) (tNot (tB (tCall sp__law_same [] E0 (tCons (tCall sp_greatest_wait [] E0 (tCons (tVar 0) (tCons (tVar 1) tNil))) (tCons (tCall sp__law_wait [] E0 (tCons (tVar 0) (tCons (tVar 1) tNil))) tNil)))))) (tRet (tC (.bl false))) tNext) (tSeq (tIfS (tOr (tNot (tB (tCall sp__law_same [] E0 (tCons (tCall sp_least_done [] E0 (tCons (tVar 0) (tCons (tVar 1) tNil))) (tCons (tCall sp__law_behind [] E0 (tCons (tVar 0) (tCons (tVar 1) tNil))) tNil))))) (tTest (tOp oIsn (tCall sp_serves [] E0 (tCons (tVar 0) (tCons (tCall sp__law_behind [] E0 (tCons (tVar 0) (tCons (tVar 1) tNil))) (tCons (tVar 1) tNil)))) (tC .non)))) (tRet (tC (.bl false))) tNext) (tSeq (tPar 3 4 (tCons (tOp (rIx K) (tCall sp__law_gap [] E0 (tCons (tVar 0) (tCons (tVar 1) tNil))) (tC (.int 0))) (tCons (tCall sp__law_wait [] E0 (tCons (tVar 0) (tCons (tVar 1) tNil))) tNil))) (tSeq (tIfS (tOr (tNot (tB (tCall sp__law_same [] E0 (tCons (tCall sp_bounds [] E0 (tCons (tVar 0) (tCons (tVar 1) tNil))) (tCons (tTup (tCons (tVar 3) (tCons (tIf (tTest (tOp oIs (tVar 4) (tC .non))) (tC .non) (tOp (rIx K) (tVar 4) (tC (.int 0)))) tNil))) tNil))))) (tNot (tB (tCall sp__law_same [] E0 (tCons (tCall sp_out_bound [] E0 (tCons (tVar 0) (tCons (tVar 1) tNil))) (tCons (tCall sp__law_off [] E0 (tCons (tVar 0) (tCons (tVar 1) tNil))) tNil)))))) (tRet (tC (.bl false))) tNext) (tSeq (tPar 5 6 (tCons (tLst tNil) (tCons (tC (.int 0)) tNil))) (tSeq (tFor (iRng1 (tCons (tCB (bLen K) (tCons (tVar 0) tNil)) tNil)) (gName 7) (tSeq (tAsg (tCB (bMax K) (tCons (tVar 6) (tCons (tOp oSub (tOp (rIx K) (tVar 1) (tVar 7)) (tOp (rIx K) (tVar 0) (tVar 7))) tNil))) (gName 6)) (tDrop (tBM K "list" rAppend (tVar 5) (tCons (tVar 6) tNil))))) (tSeq (tIfS (tOr (tNot (tB (tCall sp__law_same [] E0 (tCons (tCall sp_left_over [] E0 (tCons (tVar 1) (tCons (tVar 0) tNil))) (tCons (tCB (bTuple K) (tCons (tVar 5) tNil)) tNil))))) (tNot (tB (tCall sp__law_same [] E0 (tCons (tCall sp_in_a_row [] E0 (tCons (tTup (tCons (tVar 0) (tCons (tVar 1) (tCons (tVar 2) tNil)))) tNil)) (tCons (tCall sp__law_behind [] E0 (tCons (tCall sp__law_behind [] E0 (tCons (tVar 0) (tCons (tVar 1) tNil))) (tCons (tVar 2) tNil))) tNil)))))) (tRet (tC (.bl false))) tNext) (tRet (tCall sp__law_same [] E0 (tCons (tCall sp_shaped [] E0 (tCons (tVar 2) (tCons (tCall sp__law_closed [] E0 (tCons (tVar 0) tNil)) tNil))) (tCons (tCall sp__law_behind [] E0 (tCons (tVar 2) (tCons (tCall sp__law_closed [] E0 (tCons (tVar 0) tNil)) tNil))) tNil))))))))))))))
theorem b__law_told {lv : Nat} (G : Bt mg) {sp__law_same : Sp} (c__law_same : Cal P w K mg base lv "_law_same" sp__law_same) {sp_least_of : Sp} (c_least_of : Cal P w K mg base lv "least_of" sp_least_of) {sp__law_behind : Sp} (c__law_behind : Cal P w K mg base lv "_law_behind" sp__law_behind) {sp_put_behind : Sp} (c_put_behind : Cal P w K mg base lv "put_behind" sp_put_behind) {sp__law_off : Sp} (c__law_off : Cal P w K mg base lv "_law_off" sp__law_off) {sp_put_off : Sp} (c_put_off : Cal P w K mg base lv "put_off" sp_put_off) {sp__law_closed : Sp} (c__law_closed : Cal P w K mg base lv "_law_closed" sp__law_closed) {sp_closed : Sp} (c_closed : Cal P w K mg base lv "closed" sp_closed) {sp_is_closed : Sp} (c_is_closed : Cal P w K mg base lv "is_closed" sp_is_closed) {sp__law_within : Sp} (c__law_within : Cal P w K mg base lv "_law_within" sp__law_within) {sp_keeps_within : Sp} (c_keeps_within : Cal P w K mg base lv "keeps_within" sp_keeps_within) {sp__law_gap : Sp} (c__law_gap : Cal P w K mg base lv "_law_gap" sp__law_gap) {sp_greatest_gap : Sp} (c_greatest_gap : Cal P w K mg base lv "greatest_gap" sp_greatest_gap) {sp__law_wait : Sp} (c__law_wait : Cal P w K mg base lv "_law_wait" sp__law_wait) {sp_greatest_wait : Sp} (c_greatest_wait : Cal P w K mg base lv "greatest_wait" sp_greatest_wait) {sp_least_done : Sp} (c_least_done : Cal P w K mg base lv "least_done" sp_least_done) {sp_serves : Sp} (c_serves : Cal P w K mg base lv "serves" sp_serves) {sp_bounds : Sp} (c_bounds : Cal P w K mg base lv "bounds" sp_bounds) {sp_out_bound : Sp} (c_out_bound : Cal P w K mg base lv "out_bound" sp_out_bound) {sp_left_over : Sp} (c_left_over : Cal P w K mg base lv "left_over" sp_left_over) {sp_in_a_row : Sp} (c_in_a_row : Cal P w K mg base lv "in_a_row" sp_in_a_row) {sp_shaped : Sp} (c_shaped : Cal P w K mg base lv "shaped" sp_shaped) : Bdy P w K mg base lv nm__law_told "_law_told" s__law_told (t__law_told K sp__law_same sp_least_of sp__law_behind sp_put_behind sp__law_off sp_put_off sp__law_closed sp_closed sp_is_closed sp__law_within sp_keeps_within sp__law_gap sp_greatest_gap sp__law_wait sp_greatest_wait sp_least_done sp_serves sp_bounds sp_out_bound sp_left_over sp_in_a_row sp_shaped) := fun f cdv A outer s H E hr =>
  (pss_cons (ps_if (PW.pt (pw_or (pt_not (pt_val (pe_cal c__law_same hr (Nat.le_refl _) rfl (pa_cons (pe_cal c_least_of hr (Nat.le_refl _) rfl (pa_cons (pv 0) (pa_cons (pv 1) pa_nil))) (pa_cons (pe_callTy cr_bTuple rfl G.b_tuple bt_tuple (pa_cons (pe_lc (own := [("k", 7)]) rfl sc__law_told.nd (pi_range1 rfl G.b_range (pa_cons (pe_callB cr_bLen rfl G.b_len bt_len (pa_cons (pv 0) pa_nil)) pa_nil)) (blkOk_by (by kernel_rfl)) (fun _ _ _ _ _ => (pg_name (i := 7) sc__law_told.nd rfl (Or.inl rfl))) (fun _ _ _ _ _ => pts_nil) (fun _ _ _ _ _ => (pe_callB (cr_bMin rfl) rfl G.b_min bt_min (pa_cons (pe_ix ix_seq (pv 0) (pv 7) (fun _ _ => rfl)) (pa_cons (pe_ix ix_seq (pv 1) (pv 7) (fun _ _ => rfl)) pa_nil))))) pa_nil)) pa_nil))))) (pw_or1 (pt_not (pt_val (pe_cal c__law_same hr (Nat.le_refl _) rfl (pa_cons (pe_cal c_put_behind hr (Nat.le_refl _) rfl (pa_cons (pv 0) (pa_cons (pv 1) pa_nil))) (pa_cons (pe_cal c__law_behind hr (Nat.le_refl _) rfl (pa_cons (pv 0) (pa_cons (pv 1) pa_nil))) pa_nil)))))))) (pss_one (ps_ret pe_bl)) pss_nil) (pss_cons (ps_if (PW.pt (pw_or (pt_not (pt_val (pe_cal c__law_same hr (Nat.le_refl _) rfl (pa_cons (pe_cal c_put_off hr (Nat.le_refl _) rfl (pa_cons (pv 0) (pa_cons (pv 1) pa_nil))) (pa_cons (pe_cal c__law_off hr (Nat.le_refl _) rfl (pa_cons (pv 0) (pa_cons (pv 1) pa_nil))) pa_nil))))) (pw_or (pt_not (pt_val (pe_cal c__law_same hr (Nat.le_refl _) rfl (pa_cons (pe_cal c_closed hr (Nat.le_refl _) rfl (pa_cons (pv 0) pa_nil)) (pa_cons (pe_cal c__law_closed hr (Nat.le_refl _) rfl (pa_cons (pv 0) pa_nil)) pa_nil))))) (pw_or1 (pt_cmpR (op_oNe hr) (pe_cal c_is_closed hr (Nat.le_refl _) rfl (pa_cons (pv 0) pa_nil)) (pe_cmpR (op_oEq hr) (pe_cal c__law_closed hr (Nat.le_refl _) rfl (pa_cons (pv 0) pa_nil)) (pv 0) (nomark _)) (nomark _)))))) (pss_one (ps_ret pe_bl)) pss_nil) (pss_cons (ps_if (PW.pt (pw_or (pt_not (pt_val (pe_cal c__law_same hr (Nat.le_refl _) rfl (pa_cons (pe_cal c_keeps_within hr (Nat.le_refl _) rfl (pa_cons (pv 0) (pa_cons (pv 1) pa_nil))) (pa_cons (pe_cal c__law_within hr (Nat.le_refl _) rfl (pa_cons (pv 0) (pa_cons (pv 1) pa_nil))) pa_nil))))) (pw_or1 (pt_cmpR (op_oNe hr) (pe_cmpR op_oIs (pe_cal c_keeps_within hr (Nat.le_refl _) rfl (pa_cons (pv 0) (pa_cons (pe_cal c__law_closed hr (Nat.le_refl _) rfl (pa_cons (pv 1) pa_nil)) pa_nil))) pe_non (nomark _)) (pe_cmpR op_oIs (pe_cal c__law_within hr (Nat.le_refl _) rfl (pa_cons (pv 0) (pa_cons (pv 1) pa_nil))) pe_non (nomark _)) (nomark _))))) (pss_one (ps_ret pe_bl)) pss_nil) (pss_cons (ps_if (PW.pt (pw_or (pt_not (pt_val (pe_cal c__law_same hr (Nat.le_refl _) rfl (pa_cons (pe_cal c_greatest_gap hr (Nat.le_refl _) rfl (pa_cons (pv 0) (pa_cons (pv 1) pa_nil))) (pa_cons (pe_cal c__law_gap hr (Nat.le_refl _) rfl (pa_cons (pv 0) (pa_cons (pv 1) pa_nil))) pa_nil))))) (pw_or1 (pt_not (pt_val (pe_cal c__law_same hr (Nat.le_refl _) rfl (pa_cons (pe_cal c_greatest_wait hr (Nat.le_refl _) rfl (pa_cons (pv 0) (pa_cons (pv 1) pa_nil))) (pa_cons (pe_cal c__law_wait hr (Nat.le_refl _) rfl (pa_cons (pv 0) (pa_cons (pv 1) pa_nil))) pa_nil)))))))) (pss_one (ps_ret pe_bl)) pss_nil) (pss_cons (ps_if (PW.pt (pw_or (pt_not (pt_val (pe_cal c__law_same hr (Nat.le_refl _) rfl (pa_cons (pe_cal c_least_done hr (Nat.le_refl _) rfl (pa_cons (pv 0) (pa_cons (pv 1) pa_nil))) (pa_cons (pe_cal c__law_behind hr (Nat.le_refl _) rfl (pa_cons (pv 0) (pa_cons (pv 1) pa_nil))) pa_nil))))) (pw_or1 (pt_cmpR op_oIsn (pe_cal c_serves hr (Nat.le_refl _) rfl (pa_cons (pv 0) (pa_cons (pe_cal c__law_behind hr (Nat.le_refl _) rfl (pa_cons (pv 0) (pa_cons (pv 1) pa_nil))) (pa_cons (pv 1) pa_nil)))) pe_non (nomark _))))) (pss_one (ps_ret pe_bl)) pss_nil) (pss_cons (ps_par (i := 3) (j := 4) rfl sc__law_told.nd rfl rfl (by decide) rfl rfl (pa_cons (pe_ix ix_seq (pe_cal c__law_gap hr (Nat.le_refl _) rfl (pa_cons (pv 0) (pa_cons (pv 1) pa_nil))) pe_int (fun _ _ => rfl)) (pa_cons (pe_cal c__law_wait hr (Nat.le_refl _) rfl (pa_cons (pv 0) (pa_cons (pv 1) pa_nil))) pa_nil)) (by rfl)) (pss_cons (ps_if (PW.pt (pw_or (pt_not (pt_val (pe_cal c__law_same hr (Nat.le_refl _) rfl (pa_cons (pe_cal c_bounds hr (Nat.le_refl _) rfl (pa_cons (pv 0) (pa_cons (pv 1) pa_nil))) (pa_cons (pe_tup (pa_cons (pv 3) (pa_cons (pe_ifExp (pt_cmpR op_oIs (pv 4) pe_non (nomark _)) pe_non (pe_ix ix_seq (pv 4) pe_int (fun _ _ => rfl))) pa_nil))) pa_nil))))) (pw_or1 (pt_not (pt_val (pe_cal c__law_same hr (Nat.le_refl _) rfl (pa_cons (pe_cal c_out_bound hr (Nat.le_refl _) rfl (pa_cons (pv 0) (pa_cons (pv 1) pa_nil))) (pa_cons (pe_cal c__law_off hr (Nat.le_refl _) rfl (pa_cons (pv 0) (pa_cons (pv 1) pa_nil))) pa_nil)))))))) (pss_one (ps_ret pe_bl)) pss_nil) (pss_cons (ps_par (i := 5) (j := 6) rfl sc__law_told.nd rfl rfl (by decide) rfl rfl (pa_cons (pe_lst pa_nil) (pa_cons pe_int pa_nil)) (by rfl)) (pss_cons (ps_for PassesOwn.never rfl (pi_range1 rfl G.b_range (pa_cons (pe_callB cr_bLen rfl G.b_len bt_len (pa_cons (pv 0) pa_nil)) pa_nil)) (pg_name (i := 7) sc__law_told.nd rfl (Or.inl rfl)) (pss_cons (ps_set (i := 6) sc__law_told.nd rfl (Or.inl rfl) (pe_callB (cr_bMax rfl) rfl G.b_max bt_max (pa_cons (pv 6) (pa_cons (pe_op op_oSub (pe_ix ix_seq (pv 1) (pv 7) (fun _ _ => rfl)) (pe_ix ix_seq (pv 0) (pv 7) (fun _ _ => rfl))) pa_nil)))) (pss_one (ps_expr (pe_bm PySem.F.plainAttrs_list PySem.F.slot_list_append PySem.F.type_list_append mt_append (pv 5) (pa_cons (pv 6) pa_nil)))))) (pss_cons (ps_if (PW.pt (pw_or (pt_not (pt_val (pe_cal c__law_same hr (Nat.le_refl _) rfl (pa_cons (pe_cal c_left_over hr (Nat.le_refl _) rfl (pa_cons (pv 1) (pa_cons (pv 0) pa_nil))) (pa_cons (pe_callTy cr_bTuple rfl G.b_tuple bt_tuple (pa_cons (pv 5) pa_nil)) pa_nil))))) (pw_or1 (pt_not (pt_val (pe_cal c__law_same hr (Nat.le_refl _) rfl (pa_cons (pe_cal c_in_a_row hr (Nat.le_refl _) rfl (pa_cons (pe_tup (pa_cons (pv 0) (pa_cons (pv 1) (pa_cons (pv 2) pa_nil)))) pa_nil)) (pa_cons (pe_cal c__law_behind hr (Nat.le_refl _) rfl (pa_cons (pe_cal c__law_behind hr (Nat.le_refl _) rfl (pa_cons (pv 0) (pa_cons (pv 1) pa_nil))) (pa_cons (pv 2) pa_nil))) pa_nil)))))))) (pss_one (ps_ret pe_bl)) pss_nil) (pss_one (ps_ret (pe_cal c__law_same hr (Nat.le_refl _) rfl (pa_cons (pe_cal c_shaped hr (Nat.le_refl _) rfl (pa_cons (pv 2) (pa_cons (pe_cal c__law_closed hr (Nat.le_refl _) rfl (pa_cons (pv 0) pa_nil)) pa_nil))) (pa_cons (pe_cal c__law_behind hr (Nat.le_refl _) rfl (pa_cons (pv 2) (pa_cons (pe_cal c__law_closed hr (Nat.le_refl _) rfl (pa_cons (pv 0) pa_nil)) pa_nil))) pa_nil)))))))))))))))

abbrev s_law : Stmt := topS 48
abbrev nm_law : List Str := ["script", "draws", "size", "one", "two", "three", "burst", "rate", "most", "due", "steps", "others", "rising", "also", "k", "number"]
theorem sc_law : FnScope nm_law ["script"] (defScope s_law) := ⟨rfl, rfl, rfl, by decide +kernel, rfl, by decide +kernel, by decide +kernel⟩
/-- the reading of law; slots: script 0, draws 1, size 2, one 3, two 4, three 5, burst 6, rate 7, most 8, due 9, steps 10, others 11, rising 12, also 13, k 14, number 15 -/
def t_law (K : PySem.W.Frag) (sp__law_draws : Sp) (sp__law_pick : Sp) (sp__law_some : Sp) (sp__law_told : Sp) (sp__law_draw : Sp) (sp__law_same : Sp) (sp_bucket : Sp) (sp_late_rate : Sp) (sp_turned : Sp) (sp__law_steps : Sp) (sp__law_sums : Sp) (sp_merged_steps : Sp) (sp__law_behind : Sp) (sp_is_steep_more : Sp) (sp_is_steep_less : Sp) : TS :=
  (tSeq (tAsg (tCall sp__law_draws [] E0 (tCons (tVar 0) tNil)) (gName 1)) (tSeq (tFor (iSeq K (tLst (tCons (tCall sp__law_pick [] E0 (tCons (tVar 1) (tCons (tLst (tCons (tC (.int 1)) (tCons (tC (.int 2)) (tCons (tC (.int 21)) (tCons (tC (.int 60)) tNil))))) tNil))) (tCons (tCall sp__law_pick [] E0 (tCons (tVar 1) (tCons (tLst (tCons (tC (.int 61)) (tCons (tC (.int 120)) (tCons (tC (.int 199)) (tCons (tC (.int 200)) tNil))))) tNil))) tNil)))) (gName 2) (tSeq (tAsg (tLc (iRng1 (tCons (tC (.int 3)) tNil)) (gName 14) tYes (tCall sp__law_some [] E0 (tCons (tVar 1) (tCons (tVar 2) tNil))) [14]) (gSeq K 3 (gCons (gName 3) (gCons (gName 4) (gCons (gName 5) gNil))))) (tSeq (tIfS (tNot (tB (tCall sp__law_told [] E0 (tCons (tVar 3) (tCons (tVar 4) (tCons (tVar 5) tNil)))))) (tRet (tC (.bl false))) tNext) (tSeq (tAsg (tTup (tCons (tCall sp__law_draw [] E0 (tCons (tVar 1) (tCons (tC (.int 30)) tNil))) (tCons (tCall sp__law_draw [] E0 (tCons (tVar 1) (tCons (tC (.int 5)) tNil))) tNil))) (gSeq K 2 (gCons (gName 6) (gCons (gName 7) gNil)))) (tSeq (tIfS (tNot (tB (tCall sp__law_same [] E0 (tCons (tCall sp_bucket [] E0 (tCons (tVar 6) (tCons (tVar 7) (tCons (tVar 2) tNil)))) (tCons (tCB (bTuple K) (tCons (tOp (oAdd K) (tLst (tCons (tC (.int 0)) tNil)) (tLc (iRng2 (tCons (tC (.int 1)) (tCons (tVar 2) tNil))) (gName 14) tYes (tOp (oAdd K) (tVar 6) (tOp oMul (tVar 7) (tVar 14))) [14])) tNil)) tNil))))) (tRet (tC (.bl false))) tNext) (tSeq (tIfS (tNot (tB (tCall sp__law_same [] E0 (tCons (tCall sp_late_rate [] E0 (tCons (tVar 6) (tCons (tVar 7) (tCons (tVar 2) tNil)))) (tCons (tCB (bTuple K) (tCons (tLc (iRng1 (tCons (tVar 2) tNil)) (gName 14) tYes (tOp oMul (tVar 7) (tCB (bMax K) (tCons (tOp oSub (tVar 14) (tVar 6)) (tCons (tC (.int 0)) tNil)))) [14]) tNil)) tNil))))) (tRet (tC (.bl false))) tNext) (tSeq (tAsg (tCall sp__law_pick [] E0 (tCons (tVar 1) (tCons (tLst (tCons (tC (.int 0)) (tCons (tC (.int 5)) (tCons (tOp (rIx K) (tVar 3) (tUn uNeg (tC (.int 1)))) (tCons (tOp (oAdd K) (tOp (rIx K) (tVar 3) (tUn uNeg (tC (.int 1)))) (tC (.int 3))) tNil))))) tNil))) (gName 8)) (tSeq (tAsg (tLc (iRng1 (tCons (tOp (oAdd K) (tVar 8) (tC (.int 1))) tNil)) (gName 15) tYes (tOp (rIx K) (tOp (oAdd K) (tLc (iRng1 (tCons (tVar 2) tNil)) (gName 14) (tTest (tOp oGe (tOp (rIx K) (tVar 3) (tVar 14)) (tVar 15))) (tVar 14) [14]) (tLst (tCons (tC .non) tNil))) (tC (.int 0))) [15]) (gName 9)) (tSeq (tIfS (tNot (tB (tCall sp__law_same [] E0 (tCons (tCall sp_turned [] E0 (tCons (tVar 3) (tCons (tVar 8) tNil))) (tCons (tCB (bTuple K) (tCons (tVar 9) tNil)) tNil))))) (tRet (tC (.bl false))) tNext) (tSeq (tPar 10 11 (tCons (tCB (rSortedI K) (tCons (tCall sp__law_steps [] E0 (tCons (tVar 3) tNil)) tNil)) (tCons (tCB (rSortedI K) (tCons (tCall sp__law_steps [] E0 (tCons (tVar 4) tNil)) tNil)) tNil))) (tSeq (tPar 12 13 (tCons (tCall sp__law_sums [] E0 (tCons (tVar 10) tNil)) (tCons (tCall sp__law_sums [] E0 (tCons (tVar 11) tNil)) tNil))) (tSeq (tIfS (tOr (tNot (tB (tCall sp__law_same [] E0 (tCons (tCall sp_merged_steps [] E0 (tCons (tVar 12) (tCons (tVar 13) tNil))) (tCons (tCall sp__law_sums [] E0 (tCons (tSl (oSl K) (tCB (rSortedI K) (tCons (tOp (oAdd K) (tVar 10) (tVar 11)) tNil)) tNoPart (tPart (tOp oSub (tVar 2) (tC (.int 1))))) tNil)) tNil))))) (tNot (tB (tCall sp__law_same [] E0 (tCons (tCall sp__law_behind [] E0 (tCons (tVar 12) (tCons (tVar 13) tNil))) (tCons (tCall sp_merged_steps [] E0 (tCons (tVar 12) (tCons (tVar 13) tNil))) tNil)))))) (tRet (tC (.bl false))) tNext) (tIfS (tOr (tTest (tOp (oNe K) (tCall sp_is_steep_more [] E0 (tCons (tVar 3) tNil)) (tOp (oEq K) (tVar 10) (tCall sp__law_steps [] E0 (tCons (tVar 3) tNil))))) (tTest (tOp (oNe K) (tCall sp_is_steep_less [] E0 (tCons (tVar 3) tNil)) (tOp (oEq K) (tRevL K (tVar 10)) (tCall sp__law_steps [] E0 (tCons (tVar 3) tNil)))))) (tRet (tC (.bl false))) tNext))))))))))))) (tRet (tC (.bl true)))))
theorem b_law {lv : Nat} (G : Bt mg) {sp__law_draws : Sp} (c__law_draws : Cal P w K mg base lv "_law_draws" sp__law_draws) {sp__law_pick : Sp} (c__law_pick : Cal P w K mg base lv "_law_pick" sp__law_pick) {sp__law_some : Sp} (c__law_some : Cal P w K mg base lv "_law_some" sp__law_some) {sp__law_told : Sp} (c__law_told : Cal P w K mg base lv "_law_told" sp__law_told) {sp__law_draw : Sp} (c__law_draw : Cal P w K mg base lv "_law_draw" sp__law_draw) {sp__law_same : Sp} (c__law_same : Cal P w K mg base lv "_law_same" sp__law_same) {sp_bucket : Sp} (c_bucket : Cal P w K mg base lv "bucket" sp_bucket) {sp_late_rate : Sp} (c_late_rate : Cal P w K mg base lv "late_rate" sp_late_rate) {sp_turned : Sp} (c_turned : Cal P w K mg base lv "turned" sp_turned) {sp__law_steps : Sp} (c__law_steps : Cal P w K mg base lv "_law_steps" sp__law_steps) {sp__law_sums : Sp} (c__law_sums : Cal P w K mg base lv "_law_sums" sp__law_sums) {sp_merged_steps : Sp} (c_merged_steps : Cal P w K mg base lv "merged_steps" sp_merged_steps) {sp__law_behind : Sp} (c__law_behind : Cal P w K mg base lv "_law_behind" sp__law_behind) {sp_is_steep_more : Sp} (c_is_steep_more : Cal P w K mg base lv "is_steep_more" sp_is_steep_more) {sp_is_steep_less : Sp} (c_is_steep_less : Cal P w K mg base lv "is_steep_less" sp_is_steep_less) : Bdy P w K mg base lv nm_law "law" s_law (t_law K sp__law_draws sp__law_pick sp__law_some sp__law_told sp__law_draw sp__law_same sp_bucket sp_late_rate sp_turned sp__law_steps sp__law_sums sp_merged_steps sp__law_behind sp_is_steep_more sp_is_steep_less) := fun f cdv A outer s H E hr =>
  (pss_cons (ps_set (i := 1) sc_law.nd rfl (Or.inr rfl) (pe_cal c__law_draws hr (Nat.le_refl _) rfl (pa_cons (pv 0) pa_nil))) (pss_cons (ps_for PassesOwn.never rfl (pi_seq (pe_lst (pa_cons (pe_cal c__law_pick hr (Nat.le_refl _) rfl (pa_cons (pv 1) (pa_cons (pe_lst (pa_cons pe_int (pa_cons pe_int (pa_cons pe_int (pa_cons pe_int pa_nil))))) pa_nil))) (pa_cons (pe_cal c__law_pick hr (Nat.le_refl _) rfl (pa_cons (pv 1) (pa_cons (pe_lst (pa_cons pe_int (pa_cons pe_int (pa_cons pe_int (pa_cons pe_int pa_nil))))) pa_nil))) pa_nil)))) (pg_name (i := 2) sc_law.nd rfl (Or.inr rfl)) (pss_cons (ps_asg (pe_lc (own := [("k", 14)]) rfl sc_law.nd (pi_range1 rfl G.b_range (pa_cons pe_int pa_nil)) (blkOk_by (by kernel_rfl)) (fun _ _ _ _ _ => (pg_name (i := 14) sc_law.nd rfl (Or.inl rfl))) (fun _ _ _ _ _ => pts_nil) (fun _ _ _ _ _ => (pe_cal c__law_some hr (Nat.le_refl _) rfl (pa_cons (pv 1) (pa_cons (pv 2) pa_nil))))) (pg_seq rfl (pgs_cons (pg_name (i := 3) sc_law.nd rfl (Or.inr rfl)) (pgs_cons (pg_name (i := 4) sc_law.nd rfl (Or.inl rfl)) (pgs_cons (pg_name (i := 5) sc_law.nd rfl (Or.inl rfl)) pgs_nil))))) (pss_cons (ps_if (pt_not (pt_val (pe_cal c__law_told hr (Nat.le_refl _) rfl (pa_cons (pv 3) (pa_cons (pv 4) (pa_cons (pv 5) pa_nil)))))) (pss_one (ps_ret pe_bl)) pss_nil) (pss_cons (ps_asg (pe_tup (pa_cons (pe_cal c__law_draw hr (Nat.le_refl _) rfl (pa_cons (pv 1) (pa_cons pe_int pa_nil))) (pa_cons (pe_cal c__law_draw hr (Nat.le_refl _) rfl (pa_cons (pv 1) (pa_cons pe_int pa_nil))) pa_nil))) (pg_seq rfl (pgs_cons (pg_name (i := 6) sc_law.nd rfl (Or.inr rfl)) (pgs_cons (pg_name (i := 7) sc_law.nd rfl (Or.inr rfl)) pgs_nil)))) (pss_cons (ps_if (pt_not (pt_val (pe_cal c__law_same hr (Nat.le_refl _) rfl (pa_cons (pe_cal c_bucket hr (Nat.le_refl _) rfl (pa_cons (pv 6) (pa_cons (pv 7) (pa_cons (pv 2) pa_nil)))) (pa_cons (pe_callTy cr_bTuple rfl G.b_tuple bt_tuple (pa_cons (pe_op op_oAdd (pe_lst (pa_cons pe_int pa_nil)) (pe_lc (own := [("k", 14)]) rfl sc_law.nd (pi_range2 rfl G.b_range (pa_cons pe_int (pa_cons (pv 2) pa_nil))) (blkOk_by (by kernel_rfl)) (fun _ _ _ _ _ => (pg_name (i := 14) sc_law.nd rfl (Or.inl rfl))) (fun _ _ _ _ _ => pts_nil) (fun _ _ _ _ _ => (pe_op op_oAdd (pv 6) (pe_op op_oMul (pv 7) (pv 14)))))) pa_nil)) pa_nil))))) (pss_one (ps_ret pe_bl)) pss_nil) (pss_cons (ps_if (pt_not (pt_val (pe_cal c__law_same hr (Nat.le_refl _) rfl (pa_cons (pe_cal c_late_rate hr (Nat.le_refl _) rfl (pa_cons (pv 6) (pa_cons (pv 7) (pa_cons (pv 2) pa_nil)))) (pa_cons (pe_callTy cr_bTuple rfl G.b_tuple bt_tuple (pa_cons (pe_lc (own := [("k", 14)]) rfl sc_law.nd (pi_range1 rfl G.b_range (pa_cons (pv 2) pa_nil)) (blkOk_by (by kernel_rfl)) (fun _ _ _ _ _ => (pg_name (i := 14) sc_law.nd rfl (Or.inl rfl))) (fun _ _ _ _ _ => pts_nil) (fun _ _ _ _ _ => (pe_op op_oMul (pv 7) (pe_callB (cr_bMax rfl) rfl G.b_max bt_max (pa_cons (pe_op op_oSub (pv 14) (pv 6)) (pa_cons pe_int pa_nil)))))) pa_nil)) pa_nil))))) (pss_one (ps_ret pe_bl)) pss_nil) (pss_cons (ps_set (i := 8) sc_law.nd rfl (Or.inl rfl) (pe_cal c__law_pick hr (Nat.le_refl _) rfl (pa_cons (pv 1) (pa_cons (pe_lst (pa_cons pe_int (pa_cons pe_int (pa_cons (pe_ix ix_seq (pv 3) (pe_un un_uNeg pe_int) (fun _ _ => rfl)) (pa_cons (pe_op op_oAdd (pe_ix ix_seq (pv 3) (pe_un un_uNeg pe_int) (fun _ _ => rfl)) pe_int) pa_nil))))) pa_nil)))) (pss_cons (ps_setLc (i := 9) (own := [("number", 15)]) rfl sc_law.nd rfl rfl (sw_true rfl rfl rfl (by decide +kernel)) (pi_range1 rfl G.b_range (pa_cons (pe_op op_oAdd (pv 8) pe_int) pa_nil)) (blkOk_by (by kernel_rfl)) (fun _ _ _ _ _ => (pg_name (i := 15) sc_law.nd rfl (Or.inr rfl))) (fun _ _ _ _ _ => pts_nil) (fun _ _ _ _ _ => (pe_ix ix_seq (pe_op op_oAdd (pe_lc (own := [("k", 14)]) rfl sc_law.nd (pi_range1 rfl G.b_range (pa_cons (pv 2) pa_nil)) (blkOk_by (by kernel_rfl)) (fun _ _ _ _ _ => (pg_name (i := 14) sc_law.nd rfl (Or.inl rfl))) (fun _ _ _ _ _ => (pts_one (pt_cmpR op_oGe (pe_ix ix_seq (pv 3) (pv 14) (fun _ _ => rfl)) (pv 15) (nomark _)))) (fun _ _ _ _ _ => (pv 14))) (pe_lst (pa_cons pe_non pa_nil))) pe_int (fun _ _ => rfl)))) (pss_cons (ps_if (pt_not (pt_val (pe_cal c__law_same hr (Nat.le_refl _) rfl (pa_cons (pe_cal c_turned hr (Nat.le_refl _) rfl (pa_cons (pv 3) (pa_cons (pv 8) pa_nil))) (pa_cons (pe_callTy cr_bTuple rfl G.b_tuple bt_tuple (pa_cons (pv 9) pa_nil)) pa_nil))))) (pss_one (ps_ret pe_bl)) pss_nil) (pss_cons (ps_par (i := 10) (j := 11) rfl sc_law.nd rfl rfl (by decide) rfl rfl (pa_cons (pe_callB cr_bSorted rfl G.b_sorted bt_sorted (pa_cons (pe_cal c__law_steps hr (Nat.le_refl _) rfl (pa_cons (pv 3) pa_nil)) pa_nil)) (pa_cons (pe_callB cr_bSorted rfl G.b_sorted bt_sorted (pa_cons (pe_cal c__law_steps hr (Nat.le_refl _) rfl (pa_cons (pv 4) pa_nil)) pa_nil)) pa_nil)) (by rfl)) (pss_cons (ps_par (i := 12) (j := 13) rfl sc_law.nd rfl rfl (by decide) rfl rfl (pa_cons (pe_cal c__law_sums hr (Nat.le_refl _) rfl (pa_cons (pv 10) pa_nil)) (pa_cons (pe_cal c__law_sums hr (Nat.le_refl _) rfl (pa_cons (pv 11) pa_nil)) pa_nil)) (by rfl)) (pss_cons (ps_if (PW.pt (pw_or (pt_not (pt_val (pe_cal c__law_same hr (Nat.le_refl _) rfl (pa_cons (pe_cal c_merged_steps hr (Nat.le_refl _) rfl (pa_cons (pv 12) (pa_cons (pv 13) pa_nil))) (pa_cons (pe_cal c__law_sums hr (Nat.le_refl _) rfl (pa_cons (pe_slice sl_oSl (pe_callB cr_bSorted rfl G.b_sorted bt_sorted (pa_cons (pe_op op_oAdd (pv 10) (pv 11)) pa_nil)) po_none (po_some (pe_op op_oSub (pv 2) pe_int))) pa_nil)) pa_nil))))) (pw_or1 (pt_not (pt_val (pe_cal c__law_same hr (Nat.le_refl _) rfl (pa_cons (pe_cal c__law_behind hr (Nat.le_refl _) rfl (pa_cons (pv 12) (pa_cons (pv 13) pa_nil))) (pa_cons (pe_cal c_merged_steps hr (Nat.le_refl _) rfl (pa_cons (pv 12) (pa_cons (pv 13) pa_nil))) pa_nil)))))))) (pss_one (ps_ret pe_bl)) pss_nil) (pss_one (ps_if (PW.pt (pw_or (pt_cmpR (op_oNe hr) (pe_cal c_is_steep_more hr (Nat.le_refl _) rfl (pa_cons (pv 3) pa_nil)) (pe_cmpR (op_oEq hr) (pv 10) (pe_cal c__law_steps hr (Nat.le_refl _) rfl (pa_cons (pv 3) pa_nil)) (nomark _)) (nomark _)) (pw_or1 (pt_cmpR (op_oNe hr) (pe_cal c_is_steep_less hr (Nat.le_refl _) rfl (pa_cons (pv 3) pa_nil)) (pe_cmpR (op_oEq hr) (pe_revL (pv 10)) (pe_cal c__law_steps hr (Nat.le_refl _) rfl (pa_cons (pv 3) pa_nil)) (nomark _)) (nomark _))))) (pss_one (ps_ret pe_bl)) pss_nil)))))))))))))) (pss_one (ps_ret pe_bl))))

end
end K04

/-! k04: the mathematics of curves, without the program. -/
namespace K04
open Q
/-- a curve: 0 first, never falling, 1 to 200 steps -/
structure Cur (xs : List Int) : Prop where
  pos : 0 < xs.length
  top : xs.length ≤ 200
  zero : gi xs 0 = 0
  mono : ∀ i j : Int, 0 ≤ i → i ≤ j → j < xs.length → gi xs i ≤ gi xs j
abbrev rg (n : Int) : List Nat := List.range n.toNat
theorem gi_map {n : Nat} {f : Nat → Int} {i : Int} (h0 : 0 ≤ i) (h1 : i < n) : gi ((List.range n).map f) i = f i.toNat := by
  obtain ⟨j, rfl⟩ := Int.eq_ofNat_of_zero_le h0
  have hj : j < n := by omega
  rw [gi_nat, Int.toNat_natCast, List.getD_eq_getElem?_getD, List.getElem?_map, List.getElem?_range hj]
  rfl
theorem gi_ext {xs ys : List Int} (hl : xs.length = ys.length) (h : ∀ i : Int, 0 ≤ i → i < xs.length → gi xs i = gi ys i) : xs = ys := by
  apply List.ext_getElem hl
  intro i h1 h2
  have := h i (by omega) (by omega)
  rw [gi_nat, gi_nat, List.getD_eq_getElem?_getD, List.getD_eq_getElem?_getD, List.getElem?_eq_getElem h1, List.getElem?_eq_getElem h2] at this
  exact this
theorem gi_append_left {xs ys : List Int} {i : Int} (h0 : 0 ≤ i) (h1 : i < xs.length) : gi (xs ++ ys) i = gi xs i := by
  obtain ⟨j, rfl⟩ := Int.eq_ofNat_of_zero_le h0
  rw [gi_nat, gi_nat, List.getD_eq_getElem?_getD, List.getD_eq_getElem?_getD, List.getElem?_append_left (by omega)]
theorem gi_append_last {xs : List Int} {y : Int} {i : Int} (h : i = xs.length) : gi (xs ++ [y]) i = y := by
  subst h
  rw [gi_nat, List.getD_eq_getElem?_getD, List.getElem?_append_right (Nat.le_refl _), Nat.sub_self]
  rfl
theorem gi_mem {xs : List Int} {i : Int} (h0 : 0 ≤ i) (h1 : i < xs.length) : gi xs i ∈ xs := by
  obtain ⟨j, rfl⟩ := Int.eq_ofNat_of_zero_le h0
  rw [gi_nat, List.getD_eq_getElem?_getD, List.getElem?_eq_getElem (by omega)]
  exact List.getElem_mem _
theorem minL_map_le {n : Nat} {f : Nat → Int} {k : Nat} (h : k < n) : minL ((List.range n).map f) ≤ f k := minL_le (List.mem_map.mpr ⟨k, List.mem_range.mpr h, rfl⟩)
theorem minL_map_ex {n : Nat} {f : Nat → Int} (h : 0 < n) : ∃ k, k < n ∧ minL ((List.range n).map f) = f k := by
  have := minL_mem (ns := (List.range n).map f) (fun e => by have := congrArg List.length e; simp at this; omega)
  obtain ⟨k, hk, e⟩ := List.mem_map.mp this
  exact ⟨k, List.mem_range.mp hk, e.symm⟩
/-! ### what the program and the law reckon -/
def least (xs ys : List Int) : List Int := (xs.zip ys).map fun p => min p.1 p.2
def behind (xs ys : List Int) : List Int := (rg xs.length).map fun (step : Nat) => minL ((rg ((step : Int) + 1)).map fun (k : Nat) => gi xs k + gi ys ((step : Int) - k))
def off (xs ys : List Int) : List Int := (rg (((xs.length : Int) + 1) / 2)).map fun (step : Nat) => maxL ((rg ((xs.length : Int) - step)).map fun (k : Nat) => gi xs ((step : Int) + k) - gi ys k)
/-- the closed curve's first i + 1 steps -/
def cl (c : List Int) : Nat → List Int
  | 0 => [0]
  | i + 1 => cl c i ++ [minL ([gi c (1 + (i : Int))] ++ (rg ((1 + (i : Int)) - 1)).map fun (k : Nat) => gi (cl c i) (1 + (k : Int)) + gi (cl c i) (1 + (i : Int) - (1 + (k : Int))))]
def closedC (c : List Int) : List Int := cl c (c.length - 1)
/-- the program's own way to it -/
def clP (c : List Int) : Nat → List Int
  | 0 => c
  | i + 1 => (clP c i).set (i + 1) (minL ([gi c (1 + (i : Int))] ++ (rg ((1 + (i : Int)) - 1)).map fun (k : Nat) => gi (clP c i) (1 + (k : Int)) + gi (clP c i) (1 + (i : Int) - (1 + (k : Int)))))
theorem cl_len (c : List Int) : ∀ i, (cl c i).length = i + 1
  | 0 => rfl
  | i + 1 => by rw [cl, List.length_append, cl_len c i]; rfl
theorem clP_len (c : List Int) : ∀ i, (clP c i).length = c.length
  | 0 => rfl
  | i + 1 => by rw [clP, List.length_set, clP_len c i]
theorem gi_drop_right {xs ys : List Int} {i : Int} (h0 : 0 ≤ i) (h1 : i < xs.length) : gi (xs ++ ys) i = gi xs i := gi_append_left h0 h1
theorem clP_eq {c : List Int} (h : Cur c) : ∀ i, i < c.length → clP c i = cl c i ++ c.drop (i + 1)
  | 0, hi => by
    obtain ⟨a, r, rfl⟩ : ∃ a r, c = a :: r := by
      cases c with
      | nil => simp at hi
      | cons a r => exact ⟨a, r, rfl⟩
    have := h.zero
    have e : a = 0 := this
    subst e
    rfl
  | i + 1, hi => by
    have ih := clP_eq h i (by omega)
    have hl := cl_len c i
    rw [clP, ih, cl]
    have e1 : ∀ k : Nat, k ∈ rg ((1 + (i : Int)) - 1) → gi (cl c i ++ c.drop (i + 1)) (1 + (k : Int)) + gi (cl c i ++ c.drop (i + 1)) (1 + (i : Int) - (1 + (k : Int))) = gi (cl c i) (1 + (k : Int)) + gi (cl c i) (1 + (i : Int) - (1 + (k : Int))) := fun k hk => by
      have hk' := List.mem_range.mp hk
      rw [gi_append_left (by omega) (by omega), gi_append_left (by omega) (by omega)]
    rw [List.map_congr_left e1]
    rw [List.set_append_right _ _ (by omega), hl, Nat.sub_self]
    have e2 : c.drop (i + 1) = c[i + 1] :: c.drop (i + 2) := List.drop_eq_getElem_cons hi
    rw [e2, List.set_cons_zero, List.append_assoc]
    rfl
theorem clP_closed {c : List Int} (h : Cur c) : clP c (c.length - 1) = closedC c := by
  have := h.pos
  rw [clP_eq h _ (by omega), show c.length - 1 + 1 = c.length by omega, List.drop_length, List.append_nil]
  rfl
theorem cl_stable (c : List Int) {i j : Nat} (h : i ≤ j) {k : Int} (h0 : 0 ≤ k) (h1 : k ≤ i) : gi (cl c j) k = gi (cl c i) k := by
  induction j with
  | zero => rw [show i = 0 by omega]
  | succ j ih =>
    by_cases e : i = j + 1
    · rw [e]
    · rw [cl, gi_append_left h0 (by rw [cl_len]; omega), ih (by omega)]
/-- the closed curve, step by step -/
theorem closed_at {c : List Int} (h : Cur c) {n : Int} (h0 : 1 ≤ n) (h1 : n < c.length) :
    gi (closedC c) n = minL ([gi c n] ++ (rg (n - 1)).map fun (k : Nat) => gi (closedC c) (1 + (k : Int)) + gi (closedC c) (n - (1 + (k : Int)))) := by
  obtain ⟨i, rfl⟩ : ∃ i : Nat, n = 1 + (i : Int) := ⟨(n - 1).toNat, by omega⟩
  unfold closedC
  rw [cl_stable c (i := i + 1) (j := c.length - 1) (by omega) (by omega) (by omega)]
  rw [cl, gi_append_last (by rw [cl_len]; omega)]
  congr 1
  congr 1
  apply List.map_congr_left
  intro k hk
  have hk' := List.mem_range.mp hk
  rw [cl_stable c (i := i) (j := c.length - 1) (by omega) (by omega) (by omega), cl_stable c (i := i) (j := c.length - 1) (by omega) (by omega) (by omega)]
theorem closed_len (c : List Int) (h : 0 < c.length) : (closedC c).length = c.length := by
  unfold closedC; rw [cl_len]; omega
theorem closed_zero (c : List Int) : gi (closedC c) 0 = 0 := by
  unfold closedC
  rw [cl_stable c (i := 0) (Nat.zero_le _) (by omega) (by omega)]
  rfl
theorem closed_le {c : List Int} (h : Cur c) {n : Int} (h0 : 0 ≤ n) (h1 : n < c.length) : gi (closedC c) n ≤ gi c n := by
  by_cases e : n = 0
  · subst e; rw [closed_zero, h.zero]; exact Int.le_refl _
  · rw [closed_at h (by omega) h1]
    exact minL_le (by simp)
theorem closed_sub {c : List Int} (h : Cur c) {k n : Int} (h0 : 0 ≤ k) (hk : k ≤ n) (h1 : n < c.length) : gi (closedC c) n ≤ gi (closedC c) k + gi (closedC c) (n - k) := by
  by_cases e : k = 0
  · subst e; rw [closed_zero, Int.sub_zero]; omega
  · by_cases e2 : k = n
    · subst e2; rw [Int.sub_self, closed_zero]; omega
    · rw [closed_at h (n := n) (by omega) h1]
      refine minL_le (List.mem_append_right _ (List.mem_map.mpr ⟨(k - 1).toNat, List.mem_range.mpr (by omega), ?_⟩))
      rw [show 1 + (((k - 1).toNat : Nat) : Int) = k by omega]
/-- what is told of all steps below n by an inequality on the right of each way to make the closed curve -/
theorem closed_ge {c : List Int} (h : Cur c) (P : Int → Int → Prop) (hc : ∀ n : Int, 1 ≤ n → n < c.length → P n (gi c n)) (hs : ∀ (k n : Int) (a b : Int), 1 ≤ k → k < n → n < c.length → P k a → P (n - k) b → P n (a + b)) : ∀ (m : Nat) (n : Int), n = m → 1 ≤ n → n < c.length → P n (gi (closedC c) n) := by
  intro m
  induction m using Nat.strongRecOn with
  | _ m ih =>
    intro n e h0 h1
    rw [closed_at h h0 h1]
    have hm := minL_mem (ns := [gi c n] ++ (rg (n - 1)).map fun (k : Nat) => gi (closedC c) (1 + (k : Int)) + gi (closedC c) (n - (1 + (k : Int)))) (by simp)
    rcases List.mem_append.mp hm with q | q
    · rw [List.mem_singleton.mp q]
      exact hc n h0 h1
    · obtain ⟨k, hk, e2⟩ := List.mem_map.mp q
      have hk' := List.mem_range.mp hk
      rw [← e2]
      exact hs (1 + k) n _ _ (by omega) (by omega) h1 (ih (1 + k) (by omega) _ (by omega) (by omega) (by omega)) (ih (n - (1 + k)).toNat (by omega) _ (by omega) (by omega) (by omega))
/-- monotone, by steps -/
theorem mono_of_step {xs : List Int} (h : ∀ i : Int, 0 ≤ i → i + 1 < xs.length → gi xs i ≤ gi xs (i + 1)) : ∀ i j : Int, 0 ≤ i → i ≤ j → j < xs.length → gi xs i ≤ gi xs j := by
  intro i j h0 hij hj
  obtain ⟨d, rfl⟩ : ∃ d : Nat, j = i + (d : Int) := ⟨(j - i).toNat, by omega⟩
  clear hij
  induction d with
  | zero => rw [show i + ((0 : Nat) : Int) = i by omega]; exact Int.le_refl _
  | succ d ih =>
    have := ih (by omega)
    have h2 := h (i + d) (by omega) (by omega)
    rw [show i + ((d + 1 : Nat) : Int) = i + d + 1 by omega]
    omega
theorem closed_mono_step {c : List Int} (h : Cur c) : ∀ (m : Nat) (n : Int), n = m → 1 ≤ n → n < c.length → gi (closedC c) (n - 1) ≤ gi (closedC c) n := by
  intro m
  induction m using Nat.strongRecOn with
  | _ m ih =>
    intro n e h0 h1
    have hn := closed_at h h0 h1
    have hm := minL_mem (ns := [gi c n] ++ (rg (n - 1)).map fun (k : Nat) => gi (closedC c) (1 + (k : Int)) + gi (closedC c) (n - (1 + (k : Int)))) (by simp)
    rw [← hn] at hm
    rcases List.mem_append.mp hm with q | q
    · rw [List.mem_singleton.mp q]
      have := closed_le h (n := n - 1) (by omega) (by omega)
      have := h.mono (n - 1) n (by omega) (by omega) h1
      omega
    · obtain ⟨k, hk, e2⟩ := List.mem_map.mp q
      have hk' := List.mem_range.mp hk
      rw [← e2]
      have h3 := ih (n - (1 + k)).toNat (by omega) (n - (1 + k)) (by omega) (by omega) (by omega)
      have h4 := closed_sub h (k := 1 + (k : Int)) (n := n - 1) (by omega) (by omega) (by omega)
      rw [show n - 1 - (1 + (k : Int)) = n - (1 + (k : Int)) - 1 by omega] at h4
      omega
theorem closed_cur {c : List Int} (h : Cur c) : Cur (closedC c) := by
  have hl := closed_len c h.pos
  refine ⟨by rw [hl]; exact h.pos, by rw [hl]; exact h.top, closed_zero c, mono_of_step fun i h0 h1 => ?_⟩
  have := closed_mono_step h (i + 1).toNat (i + 1) (by omega) (by omega) (by rw [← hl]; omega)
  rw [show i + 1 - 1 = i by omega] at this
  exact this
theorem closed_closed {c : List Int} (h : Cur c) : closedC (closedC c) = closedC c := by
  have hc := closed_cur h
  have hl := closed_len c h.pos
  have hl2 := closed_len _ hc.pos
  refine gi_ext hl2 fun i h0 h1 => ?_
  rw [hl2] at h1
  by_cases e : i = 0
  · subst e; rw [closed_zero, closed_zero]
  · refine Int.le_antisymm (closed_le hc h0 h1) ?_
    refine closed_ge hc (fun n a => gi (closedC c) n ≤ a) (fun n _ _ => Int.le_refl _) (fun k n a b h1 h2 h3 ha hb => ?_) i.toNat i (by omega) (by omega) h1
    have := closed_sub h (k := k) (n := n) (by omega) (by omega) (by omega)
    show gi (closedC c) n ≤ a + b
    omega
/-! ### put behind -/
theorem behind_len (xs ys : List Int) : (behind xs ys).length = xs.length := by unfold behind; simp
theorem behind_at {xs ys : List Int} {n : Int} (h0 : 0 ≤ n) (h1 : n < xs.length) : gi (behind xs ys) n = minL ((rg (n + 1)).map fun (k : Nat) => gi xs k + gi ys (n - k)) := by
  unfold behind rg
  rw [Int.toNat_natCast, gi_map h0 h1]
  rw [Int.toNat_of_nonneg h0]
theorem behind_le {xs ys : List Int} {k n : Int} (h0 : 0 ≤ k) (hk : k ≤ n) (h1 : n < xs.length) : gi (behind xs ys) n ≤ gi xs k + gi ys (n - k) := by
  rw [behind_at (by omega) h1]
  have := minL_map_le (f := fun (k : Nat) => gi xs k + gi ys (n - k)) (k := k.toNat) (n := (n + 1).toNat) (by omega)
  simp only [Int.toNat_of_nonneg h0] at this
  exact this
theorem behind_ex {xs ys : List Int} {n : Int} (h0 : 0 ≤ n) (h1 : n < xs.length) : ∃ k : Int, 0 ≤ k ∧ k ≤ n ∧ gi (behind xs ys) n = gi xs k + gi ys (n - k) := by
  rw [behind_at h0 h1]
  obtain ⟨k, hk, e⟩ := minL_map_ex (f := fun (k : Nat) => gi xs k + gi ys (n - k)) (n := (n + 1).toNat) (by omega)
  exact ⟨k, by omega, by omega, e⟩
theorem behind_cur {xs ys : List Int} (hx : Cur xs) (hy : Cur ys) (hl : ys.length = xs.length) : Cur (behind xs ys) := by
  have hn := behind_len xs ys
  refine ⟨by rw [hn]; exact hx.pos, by rw [hn]; exact hx.top, ?_, mono_of_step fun i h0 h1 => ?_⟩
  · obtain ⟨k, a, b, e⟩ := behind_ex (xs := xs) (ys := ys) (n := 0) (by omega) (by have := hx.pos; omega)
    rw [e, show k = 0 by omega, hx.zero, Int.sub_self, hy.zero]
    rfl
  · rw [hn] at h1
    obtain ⟨k, a, b, e⟩ := behind_ex (xs := xs) (ys := ys) (n := i + 1) (by omega) h1
    rw [e]
    by_cases hk : k ≤ i
    · have h2 := behind_le (xs := xs) (ys := ys) (k := k) (n := i) a hk (by omega)
      have h3 := hy.mono (i - k) (i + 1 - k) (by omega) (by omega) (by omega)
      omega
    · have h2 := behind_le (xs := xs) (ys := ys) (k := i) (n := i) h0 (by omega) (by omega)
      have h3 := hx.mono i (i + 1) h0 (by omega) h1
      rw [show k = i + 1 by omega, Int.sub_self, hy.zero]
      rw [Int.sub_self, hy.zero] at h2
      omega
theorem behind_le_first {xs ys : List Int} (hy : Cur ys) {n : Int} (h0 : 0 ≤ n) (h1 : n < xs.length) : gi (behind xs ys) n ≤ gi xs n := by
  have := behind_le (xs := xs) (ys := ys) (k := n) (n := n) h0 (Int.le_refl _) h1
  rw [Int.sub_self, hy.zero] at this
  omega
/-! ### kept within -/
def within (cs ys : List Int) : Option (Nat × Nat) := (List.range cs.length).findSome? fun (step : Nat) => (List.range step).findSome? fun (start : Nat) => if gi ys ((step : Int) - start) < gi cs step - gi cs start then some (start, step) else none
theorem findSome_none {n : Nat} {α : Type} {f : Nat → Option α} : (List.range n).findSome? f = none ↔ ∀ i, i < n → f i = none := by
  rw [List.findSome?_eq_none_iff]
  exact ⟨fun h i hi => h i (List.mem_range.mpr hi), fun h i hi => h i (List.mem_range.mp hi)⟩
theorem findSome_at {α : Type} {f : Nat → Option α} {n i : Nat} {a : α} (hi : i < n) (h : f i = some a) (hj : ∀ j, j < i → f j = none) : (List.range n).findSome? f = some a := by
  rw [List.findSome?_eq_some_iff]
  refine ⟨List.range i, i, (List.range' (i + 1) (n - (i + 1))), ?_, h, fun x hx => hj x (List.mem_range.mp hx)⟩
  rw [List.range_eq_range', List.range_eq_range', show n = i + (1 + (n - (i + 1))) by omega, List.range'_append_1.symm]
  congr 1
  rw [show (0 : Nat) + i = i by omega, show 1 + (n - (i + 1)) = (n - (i + 1)) + 1 by omega, List.range'_succ]
  simp
  omega
theorem within_none {cs ys : List Int} : within cs ys = none ↔ ∀ start step : Nat, start < step → step < cs.length → gi cs step - gi cs start ≤ gi ys ((step : Int) - start) := by
  unfold within
  rw [findSome_none]
  refine ⟨fun h start step h1 h2 => ?_, fun h step h2 => ?_⟩
  · have := findSome_none.mp (h step h2) start h1
    split at this
    · cases this
    · omega
  · rw [findSome_none]
    intro start h1
    have := h start step h1 h2
    rw [if_neg (by omega)]
theorem within_closed {cs ys : List Int} (hy : Cur ys) (hl : ys.length = cs.length) : (within cs (closedC ys) = none) ↔ (within cs ys = none) := by
  rw [within_none, within_none]
  refine ⟨fun h a b h1 h2 => ?_, fun h a b h1 h2 => ?_⟩
  · have := h a b h1 h2
    have := closed_le hy (n := (b : Int) - a) (by omega) (by omega)
    omega
  · have key := closed_ge hy (fun n v => ∀ s : Int, 0 ≤ s → s + n < cs.length → gi cs (s + n) - gi cs s ≤ v) (fun n h1 h2 s hs h3 => ?_) (fun k n a b h1 h2 h3 ha hb s hs h4 => ?_) ((b : Int) - a).toNat ((b : Int) - a) (by omega) (by omega) (by omega) a (by omega) (by omega)
    · rw [show (a : Int) + ((b : Int) - a) = b by omega] at key
      exact key
    · have := h s.toNat (s + n).toNat (by omega) (by omega)
      rw [Int.toNat_of_nonneg hs, Int.toNat_of_nonneg (by omega)] at this
      rw [show s + n - s = n by omega] at this
      exact this
    · have q1 := ha s hs (by omega)
      have q2 := hb (s + k) (by omega) (by omega)
      rw [show s + k + (n - k) = s + n by omega] at q2
      omega
/-! ### shaped -/
def sh (cs c : List Int) : Nat → List Int
  | 0 => [0]
  | i + 1 => sh cs c i ++ [min (gi cs (1 + (i : Int))) (minL ((rg (1 + (i : Int))).map fun (k : Nat) => gi (sh cs c i) k + gi c (1 + (i : Int) - k)))]
def shapedC (cs c : List Int) : List Int := sh cs c (cs.length - 1)
theorem sh_len (cs c : List Int) : ∀ i, (sh cs c i).length = i + 1
  | 0 => rfl
  | i + 1 => by rw [sh, List.length_append, sh_len cs c i]; rfl
theorem sh_behind {cs c : List Int} (h1 : Cur cs) (h2 : Cur c) (hl : c.length = cs.length) (hs : ∀ k n : Int, 0 ≤ k → k ≤ n → n < c.length → gi c n ≤ gi c k + gi c (n - k)) : ∀ (i : Nat), i < cs.length → ∀ n : Int, 0 ≤ n → n ≤ i → gi (sh cs c i) n = gi (behind cs c) n := by
  intro i
  induction i with
  | zero =>
    intro hi n h0 hn
    rw [show n = 0 by omega, (behind_cur h1 h2 hl).zero]
    rfl
  | succ i ih =>
    intro hi n h0 hn
    by_cases e : n ≤ i
    · rw [sh, gi_append_left h0 (by rw [sh_len]; omega), ih (by omega) n h0 e]
    · have e' : n = 1 + (i : Int) := by omega
      subst e'
      rw [sh, gi_append_last (by rw [sh_len]; omega)]
      have low : ∀ k : Nat, k < (1 + (i : Int)).toNat → gi (behind cs c) (1 + (i : Int)) ≤ gi (sh cs c i) k + gi c (1 + (i : Int) - k) := fun k hk => by
        rw [ih (by omega) k (by omega) (by omega)]
        obtain ⟨j, a, b, e⟩ := behind_ex (xs := cs) (ys := c) (n := k) (by omega) (by omega)
        rw [e]
        have q1 := behind_le (xs := cs) (ys := c) (k := j) (n := 1 + (i : Int)) a (by omega) (by omega)
        have q2 := hs ((k : Int) - j) (1 + (i : Int) - j) (by omega) (by omega) (by omega)
        rw [show 1 + (i : Int) - j - ((k : Int) - j) = 1 + (i : Int) - k by omega] at q2
        omega
      obtain ⟨k0, hk0, ek0⟩ := minL_map_ex (f := fun (k : Nat) => gi (sh cs c i) k + gi c (1 + (i : Int) - k)) (n := (1 + (i : Int)).toNat) (by omega)
      generalize hm : minL ((List.range (1 + (i : Int)).toNat).map fun (k : Nat) => gi (sh cs c i) k + gi c (1 + (i : Int) - k)) = m
      replace ek0 : m = gi (sh cs c i) k0 + gi c (1 + (i : Int) - k0) := hm.symm.trans ek0
      refine Int.le_antisymm ?_ ?_
      · obtain ⟨j, a, b, e⟩ := behind_ex (xs := cs) (ys := c) (n := 1 + (i : Int)) (by omega) (by omega)
        rw [e]
        by_cases hj : j = 1 + (i : Int)
        · rw [hj, Int.sub_self, h2.zero]
          omega
        · have q1 := minL_map_le (f := fun (k : Nat) => gi (sh cs c i) k + gi c (1 + (i : Int) - k)) (k := j.toNat) (n := (1 + (i : Int)).toNat) (by omega)
          simp only [Int.toNat_of_nonneg a] at q1
          have q2 := ih (by omega) j a (by omega)
          have q3 := behind_le_first (xs := cs) h2 (n := j) a (by omega)
          show min _ _ ≤ _
          omega
      · have q1 := low k0 hk0
        have q2 := behind_le_first (xs := cs) h2 (n := 1 + (i : Int)) (by omega) (by omega)
        show _ ≤ min _ _
        omega
theorem shaped_behind {cs c : List Int} (h1 : Cur cs) (h2 : Cur c) (hl : c.length = cs.length) (hs : ∀ k n : Int, 0 ≤ k → k ≤ n → n < c.length → gi c n ≤ gi c k + gi c (n - k)) : shapedC cs c = behind cs c := by
  have := h1.pos
  have len : (shapedC cs c).length = cs.length := by unfold shapedC; rw [sh_len]; omega
  refine gi_ext (by rw [len, behind_len]) fun i h0 h3 => ?_
  rw [len] at h3
  exact sh_behind h1 h2 hl hs (cs.length - 1) (by omega) i h0 (by omega)
theorem shaped_closed {cs c : List Int} (h1 : Cur cs) (h2 : Cur c) (hl : c.length = cs.length) : shapedC cs (closedC c) = behind cs (closedC c) :=
  shaped_behind h1 (closed_cur h2) (by rw [closed_len c h2.pos]; exact hl) fun k n a b h => closed_sub h2 a b (by rw [closed_len c h2.pos] at h; exact h)
end K04

/-! k04: waits, sorted steps, draws. -/
namespace K04
open Q
/-! ### the first of a range that fits -/
theorem range_split {n k : Nat} (h : k < n) : List.range n = List.range k ++ k :: (List.range' (k + 1) (n - (k + 1))) := by
  rw [List.range_eq_range', List.range_eq_range', show n = k + (1 + (n - (k + 1))) by omega, List.range'_append_1.symm]
  congr 1
  rw [show (0 : Nat) + k = k by omega, show 1 + (n - (k + 1)) = (n - (k + 1)) + 1 by omega, List.range'_succ]
  simp
  omega
theorem filter_first {n k : Nat} {p : Nat → Bool} (h : k < n) (hp : p k = true) (hj : ∀ j, j < k → p j = false) : ∃ r, (List.range n).filter p = k :: r := by
  rw [range_split h, List.filter_append, List.filter_cons, if_pos hp, List.filter_eq_nil_iff.mpr]
  · exact ⟨_, rfl⟩
  · intro j hm
    rw [hj j (List.mem_range.mp hm)]
    exact Bool.false_ne_true
theorem filter_none {n : Nat} {p : Nat → Bool} : (List.range n).filter p = [] ↔ ∀ j, j < n → p j = false := by
  rw [List.filter_eq_nil_iff]
  exact ⟨fun h j hj => by have := h j (List.mem_range.mpr hj); simpa using this, fun h j hj => by rw [h j (List.mem_range.mp hj)]; exact Bool.false_ne_true⟩
theorem least_ex {p : Nat → Bool} : ∀ {n : Nat}, (¬ ∀ j, j < n → p j = false) → ∃ k, k < n ∧ p k = true ∧ ∀ j, j < k → p j = false
  | 0, h => absurd (fun j hj => absurd hj (Nat.not_lt_zero _)) h
  | n + 1, h => by
    by_cases q : ∀ j, j < n → p j = false
    · cases e : p n with
      | true => exact ⟨n, Nat.lt_succ_self _, e, q⟩
      | false =>
        refine absurd (fun j hj => ?_) h
        by_cases z : j = n
        · rw [z, e]
        · exact q j (by omega)
    · obtain ⟨k, h1, h2, h3⟩ := least_ex q
      exact ⟨k, by omega, h2, h3⟩
/-- where the other has reached x (the program's way) -/
def goods (ys : List Int) (x : Int) : List Int := ((rg ys.length).filter fun (k : Nat) => decide (x ≤ gi ys k)).map fun (k : Nat) => (k : Int)
/-- .. from the step i on (the law's way) -/
def later (xs ys : List Int) (i : Nat) : List Int := ((rg ((xs.length : Int) - i)).filter fun (k : Nat) => decide (gi xs i ≤ gi ys ((i : Int) + k))).map fun (k : Nat) => (i : Int) + k
theorem wait_same {xs ys : List Int} (hx : Cur xs) (hy : Cur ys) (hl : ys.length = xs.length) {i : Nat} (hi : i < xs.length) :
    (goods ys (gi xs i) = [] ↔ later xs ys i = []) ∧ (goods ys (gi xs i) ≠ [] → max 0 (gi (goods ys (gi xs i)) 0 - i) = gi (later xs ys i) 0 - i) := by
  have em : ∀ {α : Type} {f : Nat → α} {l : List Nat}, l.map f = [] ↔ l = [] := by simp
  have hn : (rg ((xs.length : Int) - i)) = List.range (xs.length - i) := by
    show List.range _ = _
    congr 1; omega
  have hm : (rg ((ys.length : Nat) : Int)) = List.range xs.length := by
    show List.range _ = _
    rw [Int.toNat_natCast, hl]
  unfold goods later
  rw [hn, hm, em, em, filter_none, filter_none]
  have key : (∀ j, j < xs.length → decide (gi xs i ≤ gi ys (j : Int)) = false) ↔ ∀ j, j < xs.length - i → decide (gi xs i ≤ gi ys ((i : Int) + (j : Nat))) = false := by
    refine ⟨fun h j hj => ?_, fun h j hj => ?_⟩
    · have := h (i + j) (by omega)
      rw [show (((i + j : Nat)) : Int) = (i : Int) + j by omega] at this
      exact this
    · by_cases e : i ≤ j
      · have := h (j - i) (by omega)
        rw [show (i : Int) + ((j - i : Nat) : Int) = j by omega] at this
        exact this
      · have := h 0 (by omega)
        have q := hy.mono j i (by omega) (by omega) (by omega)
        simp at this
        simp
        omega
  refine ⟨key, fun hne => ?_⟩
  have h1 : ¬ ∀ j, j < xs.length → decide (gi xs i ≤ gi ys (j : Int)) = false := fun h => hne (em.mpr (filter_none.mpr h))
  obtain ⟨k, hk, pk, fk⟩ := least_ex h1
  obtain ⟨k2, hk2, pk2, fk2⟩ := least_ex (fun h => h1 (key.mpr h))
  obtain ⟨r, er⟩ := filter_first hk pk fk
  obtain ⟨r2, er2⟩ := filter_first hk2 pk2 fk2
  rw [er, er2]
  show max 0 ((k : Int) - i) = (i : Int) + k2 - i
  simp at pk pk2
  by_cases e : i ≤ k
  · have : k = i + k2 := by
      have a1 := fk2 (k - i)
      have a2 := fk (i + k2)
      by_cases z : k - i < k2
      · have := a1 z
        simp at this
        rw [show (i : Int) + ((k - i : Nat) : Int) = k by omega] at this
        omega
      · by_cases z2 : i + k2 < k
        · have := a2 z2
          simp at this
          rw [show (((i + k2 : Nat)) : Int) = (i : Int) + k2 by omega] at *
          omega
        · omega
    omega
  · have : k2 = 0 := by
      by_cases z : k2 = 0
      · exact z
      · have := fk2 0 (by omega)
        have q := hy.mono k i (by omega) (by omega) (by omega)
        simp at this
        omega
    omega
/-! ### steps and sums -/
def diffs (xs : List Int) : List Int := (xs.zip xs.tail).map fun p => p.2 - p.1
def lawSteps (xs : List Int) : List Int := (rg ((xs.length : Int) - 1)).map fun (k : Nat) => gi xs ((k : Int) + 1) - gi xs k
def sums (xs : List Int) : List Int := (List.range (xs.length + 1)).map fun k => (xs.take k).sum
theorem diffs_len (xs : List Int) : (diffs xs).length = xs.length - 1 := by unfold diffs; simp
theorem diffs_law (xs : List Int) : lawSteps xs = diffs xs := by
  have hl : (lawSteps xs).length = (diffs xs).length := by rw [diffs_len]; unfold lawSteps; simp
  unfold lawSteps diffs at *
  refine List.ext_getElem hl fun i h1 h2 => ?_
  have h2 : i < xs.length - 1 := by simpa using h2
  rw [List.getElem_map, List.getElem_map, List.getElem_zip, List.getElem_tail]
  simp only [List.getElem_range]
  rw [show (i : Int) + 1 = ((i + 1 : Nat) : Int) by omega, gi_nat, gi_nat, List.getD_eq_getElem?_getD, List.getD_eq_getElem?_getD, List.getElem?_eq_getElem (by omega), List.getElem?_eq_getElem (by omega)]
  rfl
theorem sums_len (xs : List Int) : (sums xs).length = xs.length + 1 := by unfold sums; simp
theorem sums_at {xs : List Int} {n : Nat} (h : n ≤ xs.length) : gi (sums xs) n = (xs.take n).sum := by
  unfold sums
  rw [gi_map (by omega) (by omega), Int.toNat_natCast]
theorem take_succ_sum {xs : List Int} {i : Nat} (h : i < xs.length) : (xs.take (i + 1)).sum = (xs.take i).sum + xs[i] := by
  rw [List.take_succ_eq_append_getElem h, List.sum_append]
  simp
theorem diffs_sums (xs : List Int) : diffs (sums xs) = xs := by
  rw [← diffs_law]
  have hl : (lawSteps (sums xs)).length = xs.length := by unfold lawSteps; simp [sums_len]
  unfold lawSteps at *
  refine List.ext_getElem hl fun i h1 h2 => ?_
  rw [List.getElem_map]
  simp only [List.getElem_range]
  rw [show (i : Int) + 1 = ((i + 1 : Nat) : Int) by omega, sums_at (by omega), sums_at (by omega), take_succ_sum h2]
  omega
theorem perm_sum : ∀ {as bs : List Int}, as.Perm bs → as.sum = bs.sum := fun p => by
  induction p with
  | nil => rfl
  | cons x _ ih => rw [List.sum_cons, List.sum_cons, ih]
  | swap x y l => rw [List.sum_cons, List.sum_cons, List.sum_cons, List.sum_cons]; omega
  | trans _ _ h1 h2 => exact h1.trans h2
/-- the least n of a sorted list are worth no more than any n of it -/
theorem least_sum : ∀ {c : List Int}, c.Pairwise (· ≤ ·) → ∀ {t u : List Int}, (t ++ u).Perm c → (c.take t.length).sum ≤ t.sum
  | [], _, t, u, p => by
    have : t ++ u = [] := List.perm_nil.mp p
    have : t = [] := (List.append_eq_nil_iff.mp this).1
    subst this
    simp
  | x :: c, hs, [], u, p => by simp
  | x :: c, hs, y :: t, u, p => by
    obtain ⟨h1, h2⟩ := List.pairwise_cons.mp hs
    by_cases hx : x ∈ y :: t
    · have q : (y :: t).Perm (x :: (y :: t).erase x) := List.perm_cons_erase hx
      have q2 : ((y :: t).erase x ++ u).Perm c := by
        have : (x :: ((y :: t).erase x ++ u)).Perm (x :: c) := ((q.symm.append_right u).trans p)
        exact this.cons_inv
      have ih := least_sum h2 q2
      have e1 : (y :: t).sum = x + ((y :: t).erase x).sum := by rw [← List.sum_cons]; exact perm_sum q
      have e2 : ((y :: t).erase x).length = t.length := by rw [List.length_erase_of_mem hx]; rfl
      rw [e1, List.length_cons, List.take_succ_cons, List.sum_cons, ← e2]
      omega
    · have hxu : x ∈ u := by
        have : x ∈ (y :: t) ++ u := p.symm.subset (List.mem_cons_self ..)
        exact (List.mem_append.mp this).resolve_left hx
      have hy : y ∈ c := by
        have : y ∈ x :: c := p.subset (by simp)
        rcases List.mem_cons.mp this with z | z
        · exact absurd (z ▸ List.mem_cons_self ..) hx
        · exact z
      have q2 : (t ++ (y :: u.erase x)).Perm c := by
        have a1 : u.Perm (x :: u.erase x) := List.perm_cons_erase hxu
        have a2 : ((y :: t) ++ u).Perm (x :: (t ++ (y :: u.erase x))) := by
          refine (a1.append_left (y :: t)).trans ?_
          refine List.perm_middle.trans ?_
          refine List.Perm.cons x ?_
          exact (List.perm_middle (a := y) (l₁ := t) (l₂ := u.erase x)).symm
        exact (a2.symm.trans p).cons_inv
      have ih := least_sum h2 q2
      have := h1 y hy
      rw [List.length_cons, List.take_succ_cons, List.sum_cons, List.sum_cons]
      omega
/-- two ascending rows as one -/
def mrg : List Int → List Int → List Int
  | [], bs => bs
  | a :: as, [] => a :: as
  | a :: as, b :: bs => if a ≤ b then a :: mrg as (b :: bs) else b :: mrg (a :: as) bs
theorem mrg_perm : ∀ as bs : List Int, (mrg as bs).Perm (as ++ bs)
  | [], bs => by rw [mrg]; exact List.Perm.refl _
  | a :: as, [] => by rw [mrg]; simp
  | a :: as, b :: bs => by
    rw [mrg]
    split
    · exact (mrg_perm as (b :: bs)).cons a
    · exact ((mrg_perm (a :: as) bs).cons b).trans List.perm_middle.symm
theorem mrg_sorted : ∀ {as bs : List Int}, as.Pairwise (· ≤ ·) → bs.Pairwise (· ≤ ·) → (mrg as bs).Pairwise (· ≤ ·)
  | [], bs, _, h => by rw [mrg]; exact h
  | a :: as, [], h, _ => by rw [mrg]; exact h
  | a :: as, b :: bs, h1, h2 => by
    obtain ⟨p1, q1⟩ := List.pairwise_cons.mp h1
    obtain ⟨p2, q2⟩ := List.pairwise_cons.mp h2
    rw [mrg]
    split
    · refine List.pairwise_cons.mpr ⟨fun z hz => ?_, mrg_sorted q1 h2⟩
      rcases List.mem_append.mp ((mrg_perm as (b :: bs)).subset hz) with m | m
      · exact p1 z m
      · rcases List.mem_cons.mp m with e | m
        · omega
        · have := p2 z m; omega
    · refine List.pairwise_cons.mpr ⟨fun z hz => ?_, mrg_sorted h1 q2⟩
      rcases List.mem_append.mp ((mrg_perm (a :: as) bs).subset hz) with m | m
      · rcases List.mem_cons.mp m with e | m
        · omega
        · have := p1 z m; omega
      · exact p2 z m
theorem mrg_take : ∀ (as bs : List Int) (n : Nat), n ≤ as.length + bs.length → ∃ k, k ≤ n ∧ ((mrg as bs).take n).sum = (as.take k).sum + (bs.take (n - k)).sum
  | [], bs, n, _ => ⟨0, Nat.zero_le _, by rw [mrg]; simp⟩
  | a :: as, [], n, _ => ⟨n, Nat.le_refl _, by rw [mrg]; simp⟩
  | a :: as, b :: bs, 0, _ => ⟨0, Nat.le_refl _, by simp⟩
  | a :: as, b :: bs, n + 1, h => by
    rw [mrg]
    split
    · obtain ⟨k, h1, h2⟩ := mrg_take as (b :: bs) n (by simp at h ⊢; omega)
      refine ⟨k + 1, by omega, ?_⟩
      rw [List.take_succ_cons, List.sum_cons, h2, List.take_succ_cons, List.sum_cons, show n + 1 - (k + 1) = n - k by omega]
      omega
    · obtain ⟨k, h1, h2⟩ := mrg_take (a :: as) bs n (by simp at h ⊢; omega)
      refine ⟨k, by omega, ?_⟩
      rw [List.take_succ_cons, List.sum_cons, h2, show n + 1 - k = (n - k) + 1 by omega, List.take_succ_cons, List.sum_cons]
      omega
theorem sortI_mrg {as bs : List Int} (h1 : as.Pairwise (· ≤ ·)) (h2 : bs.Pairwise (· ≤ ·)) : sortI (as ++ bs) = mrg as bs :=
  sorted_unique ((sortI_perm _).trans (mrg_perm _ _).symm) (sortI_le _) (mrg_sorted h1 h2)
/-- curves whose steps never fall, put behind one another: the least steps of both -/
theorem behind_merged {as bs : List Int} (h1 : as.Pairwise (· ≤ ·)) (h2 : bs.Pairwise (· ≤ ·)) (hl : bs.length = as.length) : behind (sums as) (sums bs) = sums ((sortI (as ++ bs)).take as.length) := by
  have hlen : ((sortI (as ++ bs)).take as.length).length = as.length := by
    rw [List.length_take, (sortI_perm _).length_eq, List.length_append]; omega
  refine gi_ext (by rw [behind_len, sums_len, sums_len, hlen]) fun i h0 hi => ?_
  rw [behind_len, sums_len] at hi
  obtain ⟨n, rfl⟩ := Int.eq_ofNat_of_zero_le h0
  have hn : n ≤ as.length := by omega
  rw [sums_at (by rw [hlen]; exact hn), List.take_take, Nat.min_eq_left hn]
  refine Int.le_antisymm ?_ ?_
  · rw [sortI_mrg h1 h2]
    obtain ⟨k, hk, e⟩ := mrg_take as bs n (by omega)
    rw [e]
    have q := behind_le (xs := sums as) (ys := sums bs) (k := k) (n := n) (by omega) (by omega) (by rw [sums_len]; omega)
    rw [sums_at (by omega), show (n : Int) - k = ((n - k : Nat) : Int) by omega, sums_at (by omega)] at q
    exact q
  · obtain ⟨k, a, b, e⟩ := behind_ex (xs := sums as) (ys := sums bs) (n := n) (by omega) (by rw [sums_len]; omega)
    obtain ⟨k, rfl⟩ := Int.eq_ofNat_of_zero_le a
    rw [e, sums_at (by omega), show (n : Int) - k = ((n - k : Nat) : Int) by omega, sums_at (by omega)]
    have p : ((as.take k ++ bs.take (n - k)) ++ (as.drop k ++ bs.drop (n - k))).Perm (sortI (as ++ bs)) := by
      refine List.Perm.trans ?_ (sortI_perm _).symm
      have e1 : as = as.take k ++ as.drop k := (List.take_append_drop k as).symm
      have e2 : bs = bs.take (n - k) ++ bs.drop (n - k) := (List.take_append_drop _ bs).symm
      have : (as.take k ++ bs.take (n - k) ++ (as.drop k ++ bs.drop (n - k))).Perm (as.take k ++ as.drop k ++ (bs.take (n - k) ++ bs.drop (n - k))) := by
        rw [List.append_assoc, List.append_assoc]
        refine List.Perm.append_left _ ?_
        rw [← List.append_assoc, ← List.append_assoc]
        exact List.Perm.append_right _ List.perm_append_comm
      rw [← e1, ← e2] at this
      exact this
    have q := least_sum (sortI_le _) p
    rw [List.length_append, List.length_take, List.length_take, Nat.min_eq_left (by omega), Nat.min_eq_left (by omega), show k + (n - k) = n by omega, List.sum_append] at q
    exact q
/-! ### steep -/
theorem adj_sorted : ∀ {s : List Int}, (((s.zip s.tail).map fun p => decide (p.1 ≤ p.2)).all id = true) ↔ s.Pairwise (· ≤ ·)
  | [] => by simp
  | [a] => by simp
  | a :: b :: r => by
    have ih := adj_sorted (s := b :: r)
    rw [show ((a :: b :: r).zip (a :: b :: r).tail) = (a, b) :: ((b :: r).zip (b :: r).tail) from rfl, List.map_cons, List.all_cons, Bool.and_eq_true, ih, List.pairwise_cons (a := a)]
    refine ⟨fun ⟨h1, h2⟩ => ⟨fun z hz => ?_, h2⟩, fun ⟨h1, h2⟩ => ⟨by simpa using h1 b (by simp), h2⟩⟩
    have h1' : a ≤ b := by simpa using h1
    rcases List.mem_cons.mp hz with e | hz
    · omega
    · have := (List.pairwise_cons.mp h2).1 z hz
      omega
theorem adj_sorted_down : ∀ {s : List Int}, (((s.zip s.tail).map fun p => decide (p.2 ≤ p.1)).all id = true) ↔ s.reverse.Pairwise (· ≤ ·)
  | [] => by simp
  | [a] => by simp
  | a :: b :: r => by
    have ih := adj_sorted_down (s := b :: r)
    rw [show ((a :: b :: r).zip (a :: b :: r).tail) = (a, b) :: ((b :: r).zip (b :: r).tail) from rfl, List.map_cons, List.all_cons, Bool.and_eq_true, ih, List.pairwise_reverse, List.pairwise_reverse, List.pairwise_cons (a := a)]
    refine ⟨fun ⟨h1, h2⟩ => ⟨fun z hz => ?_, h2⟩, fun ⟨h1, h2⟩ => ⟨by simpa using h1 b (by simp), h2⟩⟩
    have h1' : b ≤ a := by simpa using h1
    rcases List.mem_cons.mp hz with e | hz
    · omega
    · have := (List.pairwise_cons.mp h2).1 z hz
      omega
theorem sortI_fix {s : List Int} : sortI s = s ↔ s.Pairwise (· ≤ ·) :=
  ⟨fun h => h ▸ sortI_le s, fun h => sorted_unique (sortI_perm s) (sortI_le s) h⟩
theorem steep_more (s : List Int) : (((s.zip s.tail).map fun p => decide (p.1 ≤ p.2)).all id) = decide (sortI s = s) := by
  rw [Bool.eq_iff_iff, adj_sorted, decide_eq_true_eq, sortI_fix]
theorem steep_less (s : List Int) : (((s.zip s.tail).map fun p => decide (p.2 ≤ p.1)).all id) = decide ((sortI s).reverse = s) := by
  rw [Bool.eq_iff_iff, adj_sorted_down, decide_eq_true_eq]
  refine ⟨fun h => ?_, fun h => ?_⟩
  · have : sortI s = s.reverse := sorted_unique ((sortI_perm s).trans (List.reverse_perm s).symm) (sortI_le s) h
    rw [this, List.reverse_reverse]
  · have : s.reverse = sortI s := by
      have := congrArg List.reverse h
      rw [List.reverse_reverse] at this
      exact this.symm
    rw [this]
    exact sortI_le s
end K04

/-! k04: what each def of the program hands back. -/
namespace K04
open PySem PySem.Spec PyProof.Rows L2 Q
local macro_rules | `(tactic| walk_at "e1") => `(tactic| with_reducible first
  | exact ed_int | exact ed_bl | exact ed_str | exact ed_non | exact ed_ty | exact ea_nil | exact et_yes | exact eo_none
  | (apply ed_var; with_unfolding_all rfl)
  | apply ea_cons
  | apply ed_op | apply ed_cb | apply ed_un | apply eo_some | apply et_test | apply et_B | apply ed_notV | apply et_not | apply ed_tup
  | exact ov_addI | exact ov_subI | exact ov_ltI | exact ov_leI | exact ov_gtI | exact ov_geI | exact ov_eqI | exact ov_neI | exact ov_is | exact ov_isn
  | exact cv_lenTI | exact cv_lenLI | exact cv_min2 | exact cv_max2 | exact cv_intI | exact cv_tupleL | exact cv_all
  | apply ov_ixTI | apply ov_ixLI | apply cv_minL | apply cv_maxL | apply ov_mulI
  | (apply En.ed; apply en_lcRI) | (apply En.ed; apply en_lcR2I) | (intro kk hkk) | decide)
local macro_rules | `(tactic| walk_at "ed") => `(tactic| repeat' walk_at "e1")
theorem range_ne {α : Type} {n : Nat} {f : Nat → α} (h : 0 < n) : (List.range n).map f ≠ [] := fun e => by
  have := congrArg List.length e
  simp at this; omega
abbrev Bf (d : D) : En2 := { nx := fun _ _ => d = .non, rt := fun d' _ => d' = d }
/-! promises -/
def pr_is_integer (ds : List D) (d : D) : Prop := ∃ i, ds = [.int i] ∧ d = .bl true
def pr_is_curve (ds : List D) (d : D) : Prop := ∃ xs, Cur xs ∧ ds = [tupI xs] ∧ d = .bl true
def pr_look (ds : List D) (d : D) : Prop := ∃ (xss : List (List Int)) (n : Nat), (∀ xs ∈ xss, Cur xs ∧ xs.length = n) ∧ xss.length ≤ 100 ∧ ds = xss.map tupI ∧ d = .non
section
variable {K : PySem.W.Frag} {Γ : Gm} {sp : Sp} {P : Program} {w : World} {mg : Str → Option Value} {base : Heap}
theorem kit_ii : kitB "int" "int" = some true := by decide +kernel
theorem kit_ib : kitB "int" "bool" = some false := by decide +kernel
theorem kit_tt : kitB "tuple" "tuple" = some true := by decide +kernel
theorem ok_is_integer (ds : List D) (d : D) (h : pr_is_integer ds d) : Xs K (t_is_integer K) (startD nm_is_integer ds) [] (Bf d) := by
  obtain ⟨i, rfl, rfl⟩ := h
  apply xs_ret Vw.self _ rfl
  apply Ed.is
  · apply ed_andV
    · walk_at "ed"
      exact cv_isi rfl kit_ii
    · intro _
      walk_at "ed"
      exact cv_isi rfl kit_ib
  · rfl
theorem ok_is_curve (ds : List D) (d : D) (h : pr_is_curve ds d) : Xs K (t_is_curve K (spF K pr_is_integer)) (startD nm_is_curve ds) [] (Bf d) := by
  obtain ⟨xs, hc, rfl, rfl⟩ := h
  have h1 := hc.pos
  have h2 := hc.top
  apply xs_seq
  apply xs_if Vw.self (b := false)
  · apply Et.is
    · apply et_or
      · walk_at "ed"
        exact cv_isi rfl kit_tt
      · intro _
        apply et_or
        · apply et_not
          apply et_test
          apply ed_chain
          · walk_at "ed"
          · walk_at "ed"
          · walk_at "ed"
          · intro _
            walk_at "ed"
          · intro _
            walk_at "ed"
        · intro _
          apply et_not
          apply et_B
          apply ed_cb (ea_cons (En.ed (en_lcB (xs := xs) (f := D.int) (v := fun _ => true) (T := .nm 1) _ _ gt_nm _ _)) ea_nil) cv_all
          · exact ie_tup (ed_var rfl)
          · omega
          · decide
          · intro x hx
            refine ⟨_, rfl, ?_⟩
            apply ed_call
            · walk_at "ed"
            · exact ⟨x, rfl, rfl⟩
    · simp
      omega
  · intro e
    cases e
  · intro _
    apply xs_next
    apply xs_ret Vw.self _ rfl
    apply Ed.is
    · apply ed_andV
      · walk_at "ed"
        all_goals omega
      · intro _
        apply ed_cb (ea_cons (En.ed (en_zipB (as := xs) (bs := xs.tail) (u := fun a b => decide (a ≤ b)) _ (by omega) (by decide) (by decide) _)) ea_nil) cv_all
        · apply ea_cons
          · walk_at "ed"
          · apply ea_cons
            · apply ed_sl (ed_var rfl) (eo_some ed_int) eo_none sv_tail
            · walk_at "ed"
        · intro a b _
          walk_at "ed"
    · have e1 : gi xs 0 = 0 := hc.zero
      have e2 : ((xs.zip xs.tail).map fun p => decide (p.1 ≤ p.2)).all id = true := by
        rw [adj_sorted, List.pairwise_iff_getElem]
        intro i j hi hj hij
        have := hc.mono i j (by omega) (by omega) (by omega)
        rw [gi_nat, gi_nat, List.getD_eq_getElem?_getD, List.getD_eq_getElem?_getD, List.getElem?_eq_getElem hi, List.getElem?_eq_getElem hj] at this
        exact this
      rw [e1, e2]
      rfl
theorem ok_look (ds : List D) (d : D) (h : ∃ es, pr_look es d ∧ ds = [.tup es]) : Xs K (t_look_at_curves K (spF K pr_is_curve)) (startD nm_look_at_curves ds) [] (Bf d) := by
  obtain ⟨es, ⟨xss, n, hc, hl, rfl, rfl⟩, rfl⟩ := h
  have hno : noLs (xss.map tupI) = true := noLs_map fun xs _ => by simp
  apply xs_forD (il_T (es_var rfl)) (T := .nm 1) gt_nm (fun _ => [some (.tup (xss.map tupI)), none]) (fun _ => []) (by exact ⟨rfl, trivial⟩) rfl
  · intro i d hd
    rw [List.getElem?_map] at hd
    obtain ⟨xs, hx, rfl⟩ := Option.map_eq_some_iff.mp hd
    have hm := List.mem_of_getElem? hx
    obtain ⟨hcx, hlx⟩ := hc xs hm
    refine ⟨by simp, _, rfl, ?_⟩
    have h0 : ∃ ys, xss[0]? = some ys := by
      cases xss with
      | nil => cases hm
      | cons a r => exact ⟨a, rfl⟩
    obtain ⟨ys, h0⟩ := h0
    obtain ⟨hcy, hly⟩ := hc ys (List.mem_of_getElem? h0)
    apply xs_if Vw.self (b := false)
    · apply Et.is
      · apply et_or
        · apply et_not
          apply et_B
          apply ed_call
          · walk_at "ed"
          · exact ⟨xs, hcx, rfl, rfl⟩
        · intro _
          apply et_test
          apply ed_op
          · walk_at "ed"
          · apply ed_cb
            · apply ea_cons
              · apply ed_op (ed_var rfl) ed_int
                apply ov_ixT (d := tupI ys)
                rw [atI_map, show atI xss 0 = some ys from atI_nat (j := 0) h0]
                rfl
              · exact ea_nil
            · exact cv_lenTI
          · exact ov_neI
      · simp [hlx, hly]
    · intro e
      cases e
    · intro _
      apply xs_next
      exact ⟨⟨rfl, trivial⟩, rfl⟩
  · rfl
/-- the look's step in a def -/
theorem look_step {t : TS} {B : En2} {ta : TA} (xss : List (List Int)) (n : Nat) (hc : ∀ xs ∈ xss, Cur xs ∧ xs.length = n) (hl : xss.length ≤ 100) (h : Ea K ta Γ (xss.map tupI)) (q : Xs K t Γ [] B) : Xs K (tSeq (tDrop (tCall (spF K pr_look) [] E0 ta)) t) Γ [] B :=
  xs_seq (xs_drop Vw.self (ed_call h ⟨xss, n, hc, hl, rfl, rfl⟩) q)
/-! curves in one step -/
def C2 (xs ys : List Int) : Prop := Cur xs ∧ Cur ys ∧ ys.length = xs.length
theorem C2.mem {xs ys : List Int} (h : C2 xs ys) : ∀ zs ∈ [xs, ys], Cur zs ∧ zs.length = xs.length := by
  intro zs hz
  rcases List.mem_cons.mp hz with rfl | hz
  · exact ⟨h.1, rfl⟩
  · rw [List.mem_singleton.mp hz]
    exact ⟨h.2.1, h.2.2⟩
theorem C1.mem {xs : List Int} (h : Cur xs) : ∀ zs ∈ [xs], Cur zs ∧ zs.length = xs.length := by
  intro zs hz
  rw [List.mem_singleton.mp hz]
  exact ⟨h, rfl⟩
def bucketL (b r n : Int) : List Int := [0] ++ (rg (n - 1)).map fun (k : Nat) => b + r * (1 + (k : Int))
def lateL (l r n : Int) : List Int := (rg n).map fun (k : Nat) => r * max 0 ((k : Int) - l)
def pr_bucket (ds : List D) (d : D) : Prop := ∃ b r n : Int, 0 ≤ b ∧ b ≤ 1000 ∧ 0 ≤ r ∧ r ≤ 1000 ∧ 0 ≤ n ∧ n ≤ 200 ∧ ds = [.int b, .int r, .int n] ∧ d = tupI (bucketL b r n)
def pr_late (ds : List D) (d : D) : Prop := ∃ b r n : Int, 0 ≤ b ∧ b ≤ 1000 ∧ 0 ≤ r ∧ r ≤ 1000 ∧ 0 ≤ n ∧ n ≤ 200 ∧ ds = [.int b, .int r, .int n] ∧ d = tupI (lateL b r n)
theorem small_mul {i j : Int} (h0 : -1000000 ≤ i) (h1 : i ≤ 1000000) : CMul i j := .inl ⟨by omega, by omega⟩
theorem on_addLI {as bs : List Int} (h : as.length + bs.length ≤ 100000) : OpN K (oAdd K) (.lst (as.map .int)) (.lst (bs.map .int)) ((as ++ bs).map .int) := by
  have q := on_addL (K := K) (xs := as.map D.int) (ys := bs.map D.int) (by simpa using h)
  rw [← List.map_append] at q
  exact q
theorem ed_lst1 {te : TE} {i : Int} (h : Ed K te Γ (.int i)) : Ed K (tLst (tCons te tNil)) Γ (lstI [i]) := (en_lst (ea_cons h ea_nil) (by simp)).ed
theorem ok_bucket (ds : List D) (d : D) (h : pr_bucket ds d) : Xs K (t_bucket K) (startD nm_bucket ds) [] (Bf d) := by
  obtain ⟨b, r, n, h1, h2, h3, h4, h5, h6, rfl, rfl⟩ := h
  apply xs_ret Vw.self _ rfl
  apply Ed.is
  · apply ed_cb
    · apply ea_cons
      · apply En.ed
        apply en_op
        · exact ed_lst1 ed_int
        · walk_at "ed"
          all_goals first | omega | exact small_mul (by omega) (by omega)
        · apply on_addLI
          simp
          omega
      · exact ea_nil
    · exact cv_tupleL
  · rfl
theorem ok_late (ds : List D) (d : D) (h : pr_late ds d) : Xs K (t_late_rate K) (startD nm_late_rate ds) [] (Bf d) := by
  obtain ⟨b, r, n, h1, h2, h3, h4, h5, h6, rfl, rfl⟩ := h
  apply xs_ret Vw.self _ rfl
  apply Ed.is
  · walk_at "ed"
    all_goals first | omega | exact small_mul (by omega) (by omega)
  · rfl
def pr_least (ds : List D) (d : D) : Prop := ∃ xs ys, C2 xs ys ∧ ds = [tupI xs, tupI ys] ∧ d = tupI (least xs ys)
theorem ok_least (ds : List D) (d : D) (h : pr_least ds d) : Xs K (t_least_of K (spF K pr_look)) (startD nm_least_of ds) [] (Bf d) := by
  obtain ⟨xs, ys, hc, rfl, rfl⟩ := h
  have h2 := hc.1.top
  apply look_step [xs, ys] xs.length hc.mem (by simp)
  · simp only [List.map_cons, List.map_nil]
    walk_at "ed"
  apply xs_ret Vw.self _ rfl
  apply Ed.is
  · apply ed_cb (ea_cons (En.ed (en_zipI (as := xs) (bs := ys) (u := fun a b => min a b) _ (by omega) (by decide) (by decide) _)) ea_nil) cv_tupleL
    · walk_at "ed"
    · intro a b _
      walk_at "ed"
  · rfl
def pr_behind (ds : List D) (d : D) : Prop := ∃ xs ys, C2 xs ys ∧ ds = [tupI xs, tupI ys] ∧ d = tupI (behind xs ys)
theorem ok_behind (ds : List D) (d : D) (h : pr_behind ds d) : Xs K (t_put_behind K (spF K pr_look)) (startD nm_put_behind ds) [] (Bf d) := by
  obtain ⟨xs, ys, hc, rfl, rfl⟩ := h
  have h2 := hc.1.top
  have hl := hc.2.2
  apply look_step [xs, ys] xs.length hc.mem (by simp)
  · simp only [List.map_cons, List.map_nil]
    walk_at "ed"
  apply xs_ret Vw.self _ rfl
  apply Ed.is
  · walk_at "ed"
    all_goals first | omega | exact range_ne (by omega)
  · rfl
def pr_off (ds : List D) (d : D) : Prop := ∃ xs ys, C2 xs ys ∧ ds = [tupI xs, tupI ys] ∧ d = tupI (off xs ys)
theorem ok_off (ds : List D) (d : D) (h : pr_off ds d) : Xs K (t_put_off K (spF K pr_look)) (startD nm_put_off ds) [] (Bf d) := by
  obtain ⟨xs, ys, hc, rfl, rfl⟩ := h
  have h2 := hc.1.top
  have hl := hc.2.2
  apply look_step [xs, ys] xs.length hc.mem (by simp)
  · simp only [List.map_cons, List.map_nil]
    walk_at "ed"
  apply xs_seq
  apply xs_set Vw.self (d := .int (((xs.length : Int) + 1) / 2))
  · walk_at "ed"
    exact ov_divI ⟨by decide, by decide⟩
  · simp
  apply xs_ret Vw.self _ rfl
  apply Ed.is
  · walk_at "ed"
    all_goals first | omega | exact range_ne (by omega)
  · rfl
def pr_closed (ds : List D) (d : D) : Prop := ∃ xs, Cur xs ∧ ds = [tupI xs] ∧ d = tupI (closedC xs)
theorem ok_closed (ds : List D) (d : D) (h : pr_closed ds d) : Xs K (t_closed K (spF K pr_look)) (startD nm_closed ds) [] (Bf d) := by
  obtain ⟨xs, hc, rfl, rfl⟩ := h
  have h2 := hc.top
  have h1 := hc.pos
  apply look_step [xs] xs.length (C1.mem hc) (by simp)
  · simp only [List.map_cons, List.map_nil]
    walk_at "ed"
  apply xs_seq
  apply xs_setM Vw.self (en_cb (ea_cons (ed_var rfl) ea_nil) cn_listT) (by simp)
  intro p
  apply xs_seq
  apply xs_forD (M1 := [(p, .lst (xs.map .int))]) (its := (List.range (xs.length - 1)).map fun (i : Nat) => .int (1 + (i : Int))) (Il.is (il_range2 (m := 1) (n := xs.length) (eas_pure (.keep (.adr 0 rfl Vw.self)) _ (by simp)) (by omega) (by omega) (by omega) (by omega)) _) (T := .nm 2) gt_nm
    (fun _ => [some (tupI xs), some (.adr p), none, none]) (fun i => [(p, .lst ((clP xs i).map .int))]) (by exact ⟨rfl, rfl, trivial⟩) rfl
  · intro i d hd
    rw [List.getElem?_map] at hd
    obtain ⟨j, hj, rfl⟩ := Option.map_eq_some_iff.mp hd
    obtain ⟨hj1, hj2⟩ := List.getElem?_eq_some_iff.mp hj
    have hi : i < xs.length - 1 := by simpa using hj1
    have ej : j = i := by rw [← hj2]; simp
    subst ej
    have hl := clP_len xs j
    refine ⟨by simp, _, rfl, ?_⟩
    apply xs_setI (i := 1) (k := 0) (m := j + 1) rfl rfl (.keep (.adr 0 rfl Vw.self))
    · apply ed_cb
      · apply ea_cons
        · apply En.ed
          apply en_op
          · apply ed_lst1
            walk_at "ed"
            all_goals omega
          · walk_at "ed"
            all_goals omega
          · apply on_addLI
            simp
            omega
        · exact ea_nil
      · apply cv_minL
        simp
    · simp
    · walk_at "ed"
    · simp only [ixN, List.length_map, hl]
      rw [if_pos (by omega), if_pos (by omega)]
      congr 1
      omega
    · refine ⟨⟨rfl, rfl, trivial⟩, ?_⟩
      simp only [List.set_cons_zero]
      rw [← List.map_set]
      rfl
  · simp only [List.length_map, List.length_range]
    apply xs_ret (.keep (.adr 0 rfl Vw.self)) _ rfl
    apply Ed.is
    · walk_at "ed"
    · rw [clP_closed hc]
  · walk_at "ed"
  · congr 2
    omega
end
end K04

/-! k04: what each def of the program hands back, second part. -/
namespace K04
open PySem PySem.Spec PyProof.Rows L2 Q
local macro_rules | `(tactic| walk_at "e1") => `(tactic| with_reducible first
  | exact ed_int | exact ed_bl | exact ed_str | exact ed_non | exact ed_ty | exact ea_nil | exact et_yes | exact eo_none
  | (apply ed_var; with_unfolding_all rfl)
  | apply ea_cons
  | apply ed_op | apply ed_cb | apply ed_un | apply eo_some | apply et_test | apply et_B | apply ed_notV | apply et_not | apply ed_tup
  | exact ov_addI | exact ov_subI | exact ov_ltI | exact ov_leI | exact ov_gtI | exact ov_geI | exact ov_eqI | exact ov_neI | exact ov_is | exact ov_isn | exact uv_neg
  | exact cv_lenTI | exact cv_lenLI | exact cv_min2 | exact cv_max2 | exact cv_intI | exact cv_tupleL | exact cv_all
  | apply ov_ixTI | apply ov_ixLI | apply cv_minL | apply cv_maxL | apply ov_mulI
  | (apply En.ed; apply en_lcRI) | (apply En.ed; apply en_lcR2I) | (intro kk hkk) | decide)
local macro_rules | `(tactic| walk_at "ed") => `(tactic| repeat' walk_at "e1")
section
variable {K : PySem.W.Frag} {Γ : Gm} {sp : Sp} {P : Program} {w : World} {mg : Str → Option Value} {base : Heap}
def pr_is_closed (ds : List D) (d : D) : Prop := ∃ xs, Cur xs ∧ ds = [tupI xs] ∧ d = .bl (decide (closedC xs = xs))
theorem ok_is_closed (ds : List D) (d : D) (h : pr_is_closed ds d) : Xs K (t_is_closed K (spF K pr_look) (spF K pr_closed)) (startD nm_is_closed ds) [] (Bf d) := by
  obtain ⟨xs, hc, rfl, rfl⟩ := h
  apply look_step [xs] xs.length (C1.mem hc) (by simp)
  · simp only [List.map_cons, List.map_nil]
    walk_at "ed"
  apply xs_ret Vw.self _ rfl
  apply ed_op
  · apply ed_call
    · walk_at "ed"
    · exact ⟨xs, hc, rfl, rfl⟩
  · walk_at "ed"
  · exact ov_eqTI
/-! kept within -/
def withD : Option (Nat × Nat) → D
  | none => .non
  | some (a, b) => .tup [.int (a : Nat), .int (b : Nat)]
theorem noL_withD : ∀ o, noL (withD o) = true
  | none => rfl
  | some _ => rfl
def loopW (K : PySem.W.Frag) : TS := (tSeq (tFor (iRng1 (tCons (tCB (bLen K) (tCons (tVar 0) tNil)) tNil)) (gName 2) (tFor (iRng1 (tCons (tVar 2) tNil)) (gName 3) (tIfS (tTest (tOp oGt (tOp oSub (tOp (rIx K) (tVar 0) (tVar 2)) (tOp (rIx K) (tVar 0) (tVar 3))) (tOp (rIx K) (tVar 1) (tOp oSub (tVar 2) (tVar 3))))) (tRet (tTup (tCons (tVar 3) (tCons (tVar 2) tNil)))) tNext))) (tRet (tC .non)))
theorem range_item {n : Nat} {f : Nat → D} {i : Nat} {d : D} (h : ((List.range n).map f)[i]? = some d) : i < n ∧ d = f i := by
  rw [List.getElem?_map] at h
  obtain ⟨j, hj, rfl⟩ := Option.map_eq_some_iff.mp h
  obtain ⟨h1, h2⟩ := List.getElem?_eq_some_iff.mp hj
  rw [← h2]
  exact ⟨by simpa using h1, by simp⟩
theorem ok_loopW {xs ys : List Int} (h : C2 xs ys) : Xs K (loopW K) [some (tupI xs), some (tupI ys), none, none] [] (Bf (withD (within xs ys))) := by
  have h2 := h.1.top
  have hl := h.2.2
  apply xs_seq
  apply xs_find (il_range1 (n := xs.length) (eas_pure Vw.self (by walk_at "ed") rfl) (by omega) (by omega)) gt_nm (fun _ => [some (tupI xs), some (tupI ys), none, none]) (fun _ => [])
    (fun (step : Nat) => (List.range step).findSome? fun (start : Nat) => if gi ys ((step : Int) - start) < gi xs step - gi xs start then some (start, step) else none) (by exact ⟨rfl, rfl, trivial⟩) rfl
  · intro i d hd hn
    obtain ⟨hi, rfl⟩ := range_item hd
    have hi : i < xs.length := by simpa using hi
    refine ⟨rfl, _, rfl, ?_⟩
    apply xs_find (il_range1 (n := i) (eas_pure Vw.self (by walk_at "ed") rfl) (by omega) (by omega)) gt_nm (fun _ => [some (tupI xs), some (tupI ys), some (.int (i : Nat)), none]) (fun _ => [])
      (fun (start : Nat) => if gi ys ((i : Int) - start) < gi xs i - gi xs start then some (start, i) else none) (by exact ⟨rfl, rfl, rfl, trivial⟩) rfl
    · intro j d hd hn2
      obtain ⟨hj, rfl⟩ := range_item hd
      have hj : j < i := by simpa using hj
      refine ⟨rfl, _, rfl, ?_⟩
      apply xs_if Vw.self (b := decide (gi ys ((i : Int) - j) < gi xs i - gi xs j))
      · walk_at "ed"
        all_goals omega
      · intro e
        have e := of_decide_eq_true e
        apply xs_ret (d := .tup [.int (j : Nat), .int (i : Nat)]) Vw.self
        · walk_at "ed"
          simp
        · have q1 : ((List.range i).findSome? fun (start : Nat) => if gi ys ((i : Int) - start) < gi xs i - gi xs start then some (start, i) else none) = some (j, i) := findSome_at hj (by rw [if_pos e]) hn2
          have q2 : within xs ys = some (j, i) := findSome_at hi q1 hn
          show _ = withD (within xs ys)
          rw [q2]
          rfl
      · intro e
        have e := of_decide_eq_false e
        apply xs_next
        exact ⟨⟨rfl, rfl, rfl, trivial⟩, rfl, by rw [if_neg e]⟩
    · intro hn2
      refine ⟨⟨rfl, rfl, trivial⟩, rfl, ?_⟩
      rw [findSome_none]
      intro j hj
      exact hn2 j (by simpa using hj)
  · intro hn
    have q : within xs ys = none := findSome_none.mpr fun i hi => hn i (by simpa using hi)
    rw [q]
    exact xs_ret Vw.self ed_non rfl
def pr_within (ds : List D) (d : D) : Prop := ∃ xs ys, C2 xs ys ∧ ds = [tupI xs, tupI ys] ∧ d = withD (within xs ys)
theorem ok_within (ds : List D) (d : D) (h : pr_within ds d) : Xs K (t_keeps_within K (spF K pr_look)) (startD nm_keeps_within ds) [] (Bf d) := by
  obtain ⟨xs, ys, hc, rfl, rfl⟩ := h
  apply look_step [xs, ys] xs.length hc.mem (by simp)
  · simp only [List.map_cons, List.map_nil]
    walk_at "ed"
  exact ok_loopW hc
theorem ok_law_within (ds : List D) (d : D) (h : pr_within ds d) : Xs K (t__law_within K) (startD nm__law_within ds) [] (Bf d) := by
  obtain ⟨xs, ys, hc, rfl, rfl⟩ := h
  exact ok_loopW hc
/-! gaps -/
def gaps (xs ys : List Int) : List Int := (xs.zip ys).map fun p => p.1 - p.2
def pairD (ns : List Int) : D := .tup [.int (maxL ns), .int (ns.idxOf (maxL ns) : Nat)]
def pr_gap (ds : List D) (d : D) : Prop := ∃ xs ys, C2 xs ys ∧ ds = [tupI xs, tupI ys] ∧ d = pairD (gaps xs ys)
theorem pair_step {k : Nat} {ns : List Int} {tv : TE} (hn : ns ≠ []) (h : Ed K tv Γ (lstI ns)) : Ed K (tTup (tCons (tCB (bMax K) (tCons tv tNil)) (tCons (tBM K "list" (rIndex K) tv (tCons (tCB (bMax K) (tCons tv tNil)) tNil)) tNil))) Γ (pairD ns) := by
  have hm : Ed K (tCB (bMax K) (tCons tv tNil)) Γ (.int (maxL ns)) := ed_cb (ea_cons h ea_nil) (cv_maxL hn)
  apply ed_tup
  · apply ea_cons hm
    apply ea_cons
    · apply ed_bmL h
      · apply ea_cons hm ea_nil
      · exact mv_index (maxL_mem hn)
    · exact ea_nil
  · simp
theorem gaps_len {xs ys : List Int} (h : ys.length = xs.length) : (gaps xs ys).length = xs.length := by unfold gaps; simp [h]
theorem ne_of_len {xs : List Int} (h : 0 < xs.length) : xs ≠ [] := fun e => by rw [e] at h; simp at h
theorem ok_gap (ds : List D) (d : D) (h : pr_gap ds d) : Xs K (t_greatest_gap K (spF K pr_look)) (startD nm_greatest_gap ds) [] (Bf d) := by
  obtain ⟨xs, ys, hc, rfl, rfl⟩ := h
  have h2 := hc.1.top
  have h1 := hc.1.pos
  have hl := hc.2.2
  apply look_step [xs, ys] xs.length hc.mem (by simp)
  · simp only [List.map_cons, List.map_nil]
    walk_at "ed"
  apply xs_seq
  apply xs_setN Vw.self (ds := (gaps xs ys).map .int)
  · apply en_zipI (u := fun a b => a - b) _ (by omega) (by decide) (by decide)
    · intro a b _
      walk_at "ed"
    · walk_at "ed"
  · simp
  · apply xs_ret Vw.self _ rfl
    exact pair_step (k := 2) (ne_of_len (by rw [gaps_len hl]; exact h1)) (ed_var rfl)
theorem gaps_rg {xs ys : List Int} (hl : ys.length = xs.length) : ((rg xs.length).map fun (k : Nat) => gi xs k - gi ys k) = gaps xs ys := by
  unfold gaps rg
  rw [Int.toNat_natCast]
  refine List.ext_getElem (by simp [hl]) fun i h1 h2 => ?_
  have hi : i < xs.length := by simpa using h1
  simp only [List.getElem_map, List.getElem_range, List.getElem_zip]
  rw [gi_nat, gi_nat, List.getD_eq_getElem?_getD, List.getD_eq_getElem?_getD, List.getElem?_eq_getElem hi, List.getElem?_eq_getElem (by omega)]
  rfl
theorem ok_law_gap (ds : List D) (d : D) (h : pr_gap ds d) : Xs K (t__law_gap K) (startD nm__law_gap ds) [] (Bf d) := by
  obtain ⟨xs, ys, hc, rfl, rfl⟩ := h
  have h2 := hc.1.top
  have h1 := hc.1.pos
  have hl := hc.2.2
  apply xs_seq
  apply xs_setN Vw.self (ds := (gaps xs ys).map .int)
  · rw [← gaps_rg hl]
    apply en_lcRI (n := xs.length) _ (by decide) (by omega) (by omega)
    · intro k hk
      walk_at "ed"
      all_goals omega
    · walk_at "ed"
  · simp
  · apply xs_ret Vw.self _ rfl
    exact pair_step (k := 2) (ne_of_len (by rw [gaps_len hl]; exact h1)) (ed_var rfl)
end
end K04

/-! k04: waits, turned, steps, sums. -/
namespace K04
open PySem PySem.Spec PyProof.Rows L2 Q
local macro_rules | `(tactic| walk_at "e1") => `(tactic| with_reducible first
  | exact ed_int | exact ed_bl | exact ed_str | exact ed_non | exact ed_ty | exact ea_nil | exact et_yes | exact eo_none
  | (apply ed_var; with_unfolding_all rfl)
  | apply ea_cons
  | apply ed_op | apply ed_cb | apply ed_un | apply eo_some | apply et_test | apply et_B | apply ed_notV | apply et_not | apply ed_tup
  | exact ov_addI | exact ov_subI | exact ov_ltI | exact ov_leI | exact ov_gtI | exact ov_geI | exact ov_eqI | exact ov_neI | exact ov_is | exact ov_isn | exact uv_neg
  | exact cv_lenTI | exact cv_lenLI | exact cv_min2 | exact cv_max2 | exact cv_intI | exact cv_tupleL | exact cv_all
  | apply ov_ixTI | apply ov_ixLI | apply cv_minL | apply cv_maxL | apply ov_mulI
  | (apply En.ed; apply en_lcRI) | (apply En.ed; apply en_lcR2I) | (intro kk hkk) | decide)
local macro_rules | `(tactic| walk_at "ed") => `(tactic| repeat' walk_at "e1")
section
variable {K : PySem.W.Frag} {Γ : Gm} {sp : Sp} {P : Program} {w : World} {mg : Str → Option Value} {base : Heap}
theorem enum_item {xs : List Int} {i : Nat} {d : D} (h : (((xs.map D.int).zipIdx).map fun p => D.tup [.int (p.2 : Nat), p.1])[i]? = some d) : i < xs.length ∧ d = .tup [.int (i : Nat), .int (gi xs i)] := by
  rw [List.getElem?_map, List.getElem?_zipIdx, List.getElem?_map] at h
  by_cases hi : i < xs.length
  · rw [List.getElem?_eq_getElem hi] at h
    refine ⟨hi, ?_⟩
    rw [gi_nat, List.getD_eq_getElem?_getD, List.getElem?_eq_getElem hi]
    simpa using h.symm
  · rw [List.getElem?_eq_none (by omega)] at h
    simp at h
theorem map_range_succ {f : Nat → D} (i : Nat) : (List.range i).map f ++ [f i] = (List.range (i + 1)).map f := by
  rw [List.range_succ, List.map_append]
  rfl
theorem map_int_range {f : Nat → Int} (n : Nat) : ((List.range n).map fun i => D.int (f i)) = ((List.range n).map f).map D.int := by
  rw [List.map_map]
  rfl
/-! waits -/
def waits (xs ys : List Int) : List Int := (List.range xs.length).map fun (i : Nat) => max 0 (gi (goods ys (gi xs i)) 0 - i)
def waitD (xs ys : List Int) : D := if ∀ i, i < xs.length → goods ys (gi xs i) ≠ [] then pairD (waits xs ys) else .non
theorem noL_pair (ns : List Int) : noL (pairD ns) = true := rfl
theorem noL_wait (xs ys : List Int) : noL (waitD xs ys) = true := by
  unfold waitD
  split <;> rfl
def pr_wait (ds : List D) (d : D) : Prop := ∃ xs ys, C2 xs ys ∧ ds = [tupI xs, tupI ys] ∧ d = waitD xs ys
theorem waits_len (xs ys : List Int) : (waits xs ys).length = xs.length := by unfold waits; simp
def someB (b : Prop) [Decidable b] : Option Unit := if b then some () else none
theorem someB_none {b : Prop} [Decidable b] (h : ¬ b) : someB b = none := if_neg h
theorem not_of_someB {b : Prop} [Decidable b] (h : someB b = none) : ¬ b := fun hb => by
  unfold someB at h
  rw [if_pos hb] at h
  cases h
theorem ok_wait (ds : List D) (d : D) (h : pr_wait ds d) : Xs K (t_greatest_wait K (spF K pr_look)) (startD nm_greatest_wait ds) [] (Bf d) := by
  obtain ⟨xs, ys, hc, rfl, rfl⟩ := h
  have h2 := hc.1.top
  have h1 := hc.1.pos
  have hl := hc.2.2
  apply look_step [xs, ys] xs.length hc.mem (by simp)
  · simp only [List.map_cons, List.map_nil]
    walk_at "ed"
  apply xs_seq
  apply xs_setM Vw.self (en_lst ea_nil (by simp)) rfl
  intro p
  apply xs_seq
  apply xs_find (il_enumT (ds := xs.map .int) (eas_pure Vw.self (by walk_at "ed") (by simp))) (T := .tp [.nm 3, .nm 4]) (gt_tp (gts_cons gt_nm (gts_cons gt_nm gts_nil)) rfl)
    (fun _ => [some (tupI xs), some (tupI ys), some (.adr p), none, none, none, none]) (fun i => [(p, .lst ((List.range i).map fun (i : Nat) => .int (max 0 (gi (goods ys (gi xs i)) 0 - i))))])
    (fun i => someB (goods ys (gi xs i) = [])) (by exact ⟨rfl, rfl, rfl, trivial⟩) rfl
  · intro i d hd hn
    obtain ⟨hi, rfl⟩ := enum_item hd
    refine ⟨rfl, _, rfl, ?_⟩
    apply xs_seq
    apply xs_setN Vw.self (ds := (goods ys (gi xs i)).map .int)
    · apply en_lcRIfI (n := ys.length) _ (by decide) (by omega) (by omega)
      · intro k hk
        refine ⟨?_, fun _ => ?_⟩
        · walk_at "ed"
          all_goals omega
        · walk_at "ed"
      · walk_at "ed"
    · simp
    apply xs_seq
    apply xs_if Vw.self (b := decide (((goods ys (gi xs i)).length : Int) = 0))
    · walk_at "ed"
    · intro e
      have e : goods ys (gi xs i) = [] := List.eq_nil_of_length_eq_zero (by have := of_decide_eq_true e; omega)
      apply xs_ret Vw.self ed_non
      show _ = waitD xs ys
      unfold waitD
      rw [if_neg fun h => h i hi e]
    · intro e
      have e : goods ys (gi xs i) ≠ [] := fun z => by rw [z] at e; simp at e
      have e2 : 0 < (goods ys (gi xs i)).length := List.length_pos_iff.mpr e
      apply xs_next
      apply xs_app (i := 2) (k := 0) rfl rfl Vw.self
      · walk_at "ed"
        all_goals omega
      · rfl
      · simp
        omega
      · refine ⟨⟨rfl, rfl, rfl, trivial⟩, ?_, someB_none e⟩
        rw [← map_range_succ]
        rfl
  · intro hn
    have hn : ∀ i, i < xs.length → goods ys (gi xs i) ≠ [] := fun i hi => not_of_someB (hn i (by simpa using hi))
    apply xs_ret (Γr := [some (tupI xs), some (tupI ys), some (lstI (waits xs ys)), none, none, none, none]) (.keep (.keep (.adr 0 ?_ Vw.self)))
    · exact pair_step (k := 2) (ne_of_len (by rw [waits_len]; exact h1)) (ed_var rfl)
    · show _ = waitD xs ys
      unfold waitD
      rw [if_pos hn]
    · simp only [List.length_map, List.length_zipIdx]
      rw [map_int_range]
      rfl
theorem ok_law_wait (ds : List D) (d : D) (h : pr_wait ds d) : Xs K (t__law_wait K) (startD nm__law_wait ds) [] (Bf d) := by
  obtain ⟨xs, ys, hc, rfl, rfl⟩ := h
  have h2 := hc.1.top
  have h1 := hc.1.pos
  have hl := hc.2.2
  apply xs_seq
  apply xs_setM Vw.self (en_lst ea_nil (by simp)) rfl
  intro p
  apply xs_seq
  apply xs_find (il_range1 (n := xs.length) (eas_pure Vw.self (by walk_at "ed") rfl) (by omega) (by omega)) gt_nm
    (fun _ => [some (tupI xs), some (tupI ys), some (.adr p), none, none, none]) (fun i => [(p, .lst ((List.range i).map fun (i : Nat) => .int (max 0 (gi (goods ys (gi xs i)) 0 - i))))])
    (fun i => someB (goods ys (gi xs i) = [])) (by exact ⟨rfl, rfl, rfl, trivial⟩) rfl
  · intro i d hd hn
    obtain ⟨hi, rfl⟩ := range_item hd
    have hi : i < xs.length := by simpa using hi
    obtain ⟨ws1, ws2⟩ := wait_same hc.1 hc.2.1 hl hi
    refine ⟨rfl, _, rfl, ?_⟩
    apply xs_seq
    apply xs_setN Vw.self (ds := (later xs ys i).map .int)
    · apply en_lcR2IfI (m := i) (n := xs.length) _ (by decide) (by omega) (by omega) (by omega) (by omega)
      · intro k hk
        refine ⟨?_, fun _ => ?_⟩
        · walk_at "ed"
          all_goals omega
        · walk_at "ed"
      · walk_at "ed"
    · simp
    apply xs_seq
    apply xs_if Vw.self (b := decide (((later xs ys i).length : Int) = 0))
    · walk_at "ed"
    · intro e
      have e : later xs ys i = [] := List.eq_nil_of_length_eq_zero (by have := of_decide_eq_true e; omega)
      apply xs_ret Vw.self ed_non
      show _ = waitD xs ys
      unfold waitD
      rw [if_neg fun h => h i hi (ws1.mpr e)]
    · intro e
      have e : later xs ys i ≠ [] := fun z => by rw [z] at e; simp at e
      have e2 : 0 < (later xs ys i).length := List.length_pos_iff.mpr e
      have e3 : goods ys (gi xs i) ≠ [] := fun z => e (ws1.mp z)
      apply xs_next
      apply xs_app (i := 2) (k := 0) rfl rfl Vw.self
      · walk_at "ed"
        all_goals omega
      · rfl
      · simp
        omega
      · refine ⟨⟨rfl, rfl, rfl, trivial⟩, ?_, someB_none e3⟩
        rw [← map_range_succ, ws2 e3]
        rfl
  · intro hn
    have hn : ∀ i, i < xs.length → goods ys (gi xs i) ≠ [] := fun i hi => not_of_someB (hn i (by simpa using hi))
    apply xs_ret (Γr := [some (tupI xs), some (tupI ys), some (lstI (waits xs ys)), none, none, none]) (.keep (.keep (.adr 0 ?_ Vw.self)))
    · exact pair_step (k := 2) (ne_of_len (by rw [waits_len]; exact h1)) (ed_var rfl)
    · show _ = waitD xs ys
      unfold waitD
      rw [if_pos hn]
    · simp only [List.length_map, List.length_range, Int.toNat_natCast]
      rw [map_int_range]
      rfl
/-! turned -/
def turnD (ys : List Int) (n : Int) : D := if goods ys n = [] then .non else .int (gi (goods ys n) 0)
theorem noL_turn (ys : List Int) (n : Int) : noL (turnD ys n) = true := by unfold turnD; split <;> rfl
def turnL (ys : List Int) (m : Int) : List D := (rg (m + 1)).map fun (n : Nat) => turnD ys n
theorem noLs_turn (ys : List Int) (m : Int) : noLs (turnL ys m) = true := noLs_map fun _ _ => noL_turn _ _
def pr_turned (ds : List D) (d : D) : Prop := ∃ (xs : List Int) (m : Int), Cur xs ∧ 0 ≤ m ∧ m ≤ 10000 ∧ ds = [tupI xs, .int m] ∧ d = .tup (turnL xs m)
theorem ok_turned (ds : List D) (d : D) (h : pr_turned ds d) : Xs K (t_turned K (spF K pr_look)) (startD nm_turned ds) [] (Bf d) := by
  obtain ⟨xs, m, hc, hm0, hm1, rfl, rfl⟩ := h
  have h2 := hc.top
  have h1 := hc.pos
  apply look_step [xs] xs.length (C1.mem hc) (by simp)
  · simp only [List.map_cons, List.map_nil]
    walk_at "ed"
  apply xs_seq
  apply xs_setM Vw.self (en_lst ea_nil (by simp)) rfl
  intro p
  apply xs_seq
  apply xs_forD (il_range1 (n := m + 1) (eas_pure Vw.self (by walk_at "ed") rfl) (by omega) (by omega)) gt_nm
    (fun _ => [some (tupI xs), some (.int m), some (.adr p), none, none, none, none]) (fun i => [(p, .lst ((List.range i).map fun (i : Nat) => turnD xs i))]) (by exact ⟨rfl, rfl, rfl, trivial⟩) rfl
  · intro i d hd
    obtain ⟨hi, rfl⟩ := range_item hd
    refine ⟨rfl, _, rfl, ?_⟩
    apply xs_seq
    apply xs_setN Vw.self (ds := (goods xs i).map .int)
    · refine (en_lcIfI (xs := xs.zipIdx) (f := fun q => .tup [.int (q.2 : Nat), .int q.1]) (c := fun q => decide ((i : Int) ≤ q.1)) (u := fun q => ((q.2 : Nat) : Int)) (T := .tp [.nm 5, .nm 6]) ?_ ?_ (gt_tp (gts_cons gt_nm (gts_cons gt_nm gts_nil)) rfl) (by decide) ?_).is ?_
      · refine (ie_enumT (ds := xs.map .int) (by walk_at "ed")).is ?_
        rw [List.zipIdx_map, List.map_map]
        rfl
      · rw [List.length_zipIdx]
        omega
      · intro q hq
        refine ⟨_, rfl, ?_, fun _ => ?_⟩
        · walk_at "ed"
        · walk_at "ed"
      · rw [zipIdx_filter xs fun v => decide ((i : Int) ≤ v)]
        unfold goods rg
        rw [Int.toNat_natCast]
    · simp
    apply xs_app (i := 2) (k := 0) rfl rfl Vw.self (d := turnD xs i)
    · apply ed_if (b := decide ((0 : Int) < (goods xs i).length))
      · walk_at "ed"
      · intro e
        have e := of_decide_eq_true e
        unfold turnD
        rw [if_neg (ne_of_len (by omega))]
        walk_at "ed"
        all_goals omega
      · intro e
        have e := of_decide_eq_false e
        unfold turnD
        rw [if_pos (List.eq_nil_of_length_eq_zero (by omega))]
        exact ed_non
    · exact noL_turn _ _
    · simp
      omega
    · refine ⟨⟨rfl, rfl, rfl, trivial⟩, ?_⟩
      rw [← map_range_succ]
      rfl
  · simp only [List.length_map, List.length_range]
    apply xs_ret (.keep (.keep (.adr 0 rfl Vw.self))) _ rfl
    walk_at "ed"
    exact cv_tupleL
end
end K04

/-! k04: steps, sums, servers. -/
namespace K04
open PySem PySem.Spec PyProof.Rows L2 Q
local macro_rules | `(tactic| walk_at "e1") => `(tactic| with_reducible first
  | exact ed_int | exact ed_bl | exact ed_str | exact ed_non | exact ed_ty | exact ea_nil | exact et_yes | exact eo_none
  | (apply ed_var; with_unfolding_all rfl)
  | apply ea_cons
  | apply ed_op | apply ed_cb | apply ed_un | apply eo_some | apply et_test | apply et_B | apply ed_notV | apply et_not | apply ed_tup
  | exact ov_addI | exact ov_subI | exact ov_ltI | exact ov_leI | exact ov_gtI | exact ov_geI | exact ov_eqI | exact ov_neI | exact ov_is | exact ov_isn | exact uv_neg
  | exact cv_lenTI | exact cv_lenLI | exact cv_min2 | exact cv_max2 | exact cv_intI | exact cv_tupleL | exact cv_all
  | apply ov_ixTI | apply ov_ixLI | apply cv_minL | apply cv_maxL | apply ov_mulI
  | (apply En.ed; apply en_lcRI) | (apply En.ed; apply en_lcR2I) | (intro kk hkk) | decide)
local macro_rules | `(tactic| walk_at "ed") => `(tactic| repeat' walk_at "e1")
section
variable {K : PySem.W.Frag} {Γ : Gm} {sp : Sp} {P : Program} {w : World} {mg : Str → Option Value} {base : Heap}
/-! steep -/
def pr_less (ds : List D) (d : D) : Prop := ∃ xs, Cur xs ∧ ds = [tupI xs] ∧ d = .bl (decide ((sortI (diffs xs)).reverse = diffs xs))
def pr_more (ds : List D) (d : D) : Prop := ∃ xs, Cur xs ∧ ds = [tupI xs] ∧ d = .bl (decide (sortI (diffs xs) = diffs xs))
theorem en_diffs {vs : List Nat} {i j k : Nat} {xs : List Int} (hx : Γ[i]? = some (some (tupI xs))) (hl : xs.length ≤ 100000) (hj : j ∈ vs) (hk : k ∈ vs) (hjk : ∀ a b : Int, (((wipeD Γ vs).set j (some (.int a))).set k (some (.int b)))[j]? = some (some (.int a)) ∧ (((wipeD Γ vs).set j (some (.int a))).set k (some (.int b)))[k]? = some (some (.int b))) :
    En K (tLc (RZ.iZipA K (tCons (tVar i) (tCons (tSl (oSl K) (tVar i) (tPart (tC (.int 1))) tNoPart) tNil))) (gTup K 2 (gCons (gName j) (gCons (gName k) gNil))) tYes (tOp oSub (tVar k) (tVar j)) vs) Γ ((diffs xs).map .int) := by
  apply en_zipI (u := fun a b => b - a) _ hl hj hk
  · intro a b _
    exact ed_op (ed_var (hjk a b).2) (ed_var (hjk a b).1) ov_subI
  · apply ea_cons (ed_var hx)
    exact ea_cons (ed_sl (ed_var hx) (eo_some ed_int) eo_none sv_tail) ea_nil
theorem ok_less (ds : List D) (d : D) (h : pr_less ds d) : Xs K (t_is_steep_less K (spF K pr_look)) (startD nm_is_steep_less ds) [] (Bf d) := by
  obtain ⟨xs, hc, rfl, rfl⟩ := h
  have h2 := hc.top
  have h1 := hc.pos
  have hd := diffs_len xs
  apply look_step [xs] xs.length (C1.mem hc) (by simp)
  · simp only [List.map_cons, List.map_nil]
    walk_at "ed"
  apply xs_seq
  apply xs_setN Vw.self (ds := (diffs xs).map .int) (en_diffs rfl (by omega) (by decide) (by decide) fun a b => ⟨rfl, rfl⟩) (by simp)
  apply xs_ret Vw.self _ rfl
  rw [← steep_less]
  apply ed_cb (ea_cons (En.ed (en_zipLB (as := diffs xs) (bs := (diffs xs).tail) (u := fun a b => decide (b ≤ a)) _ (by omega) (by decide) (by decide) _)) ea_nil) cv_all
  · apply ea_cons (ed_var rfl)
    exact ea_cons (En.ed (en_sl (ed_var rfl) (eo_some ed_int) eo_none sn_tail)) ea_nil
  · intro a b _
    walk_at "ed"
theorem ok_more (ds : List D) (d : D) (h : pr_more ds d) : Xs K (t_is_steep_more K (spF K pr_look)) (startD nm_is_steep_more ds) [] (Bf d) := by
  obtain ⟨xs, hc, rfl, rfl⟩ := h
  have h2 := hc.top
  have h1 := hc.pos
  have hd := diffs_len xs
  apply look_step [xs] xs.length (C1.mem hc) (by simp)
  · simp only [List.map_cons, List.map_nil]
    walk_at "ed"
  apply xs_seq
  apply xs_setN Vw.self (ds := (diffs xs).map .int) (en_diffs rfl (by omega) (by decide) (by decide) fun a b => ⟨rfl, rfl⟩) (by simp)
  apply xs_ret Vw.self _ rfl
  rw [← steep_more]
  apply ed_cb (ea_cons (En.ed (en_zipLB (as := diffs xs) (bs := (diffs xs).tail) (u := fun a b => decide (a ≤ b)) _ (by omega) (by decide) (by decide) _)) ea_nil) cv_all
  · apply ea_cons (ed_var rfl)
    exact ea_cons (En.ed (en_sl (ed_var rfl) (eo_some ed_int) eo_none sn_tail)) ea_nil
  · intro a b _
    walk_at "ed"
/-! sums -/
theorem sums_snoc {ns : List Int} {x : Int} : sums (ns ++ [x]) = sums ns ++ [ns.sum + x] := by
  unfold sums
  rw [List.length_append, List.length_singleton, List.range_succ (n := ns.length + 1), List.map_append]
  congr 1
  · refine List.map_congr_left fun k hk => ?_
    have := List.mem_range.mp hk
    rw [List.take_append_of_le_length (by omega)]
  · simp [List.take_of_length_le]
theorem sums_last (ns : List Int) : ∃ r, sums ns = r ++ [ns.sum] := by
  unfold sums
  rw [List.range_succ, List.map_append]
  refine ⟨(List.range ns.length).map fun k => (ns.take k).sum, ?_⟩
  simp
theorem atI_sums (ns : List Int) : atI ((sums ns).map D.int) (-1) = some (.int ns.sum) := by
  obtain ⟨r, e⟩ := sums_last ns
  rw [e, List.map_append]
  exact atI_last _ _
theorem take_snoc {ns : List Int} {i : Nat} (hi : i < ns.length) : ns.take (i + 1) = ns.take i ++ [gi ns i] := by
  rw [List.take_succ_eq_append_getElem hi, gi_nat, List.getD_eq_getElem?_getD, List.getElem?_eq_getElem hi]
  rfl
/-- found.append(found[-1] + step), each of ns -/
theorem sums_turn {i j : Nat} {p : Addr} {ns : List Int} {k : Nat} {Γr : Gm} {B : En2} (hk : k < ns.length) (hl : ns.length ≤ 1000) (h1 : Γ[i]? = some (some (.adr p))) (w : Vw [(p, .lst ((sums (ns.take k)).map .int))] Γ Γr) (h2 : Γr[i]? = some (some (.lst ((sums (ns.take k)).map .int)))) (h3 : Γr[j]? = some (some (.int (gi ns k))))
    (q : B.nx Γ [(p, .lst ((sums (ns.take (k + 1))).map .int))]) : Xs K (tDrop (tBM K "list" rAppend (tVar i) (tCons (tOp (oAdd K) (tOp (rIx K) (tVar i) (tUn uNeg (tC (.int 1)))) (tVar j)) tNil))) Γ [(p, .lst ((sums (ns.take k)).map .int))] B := by
  apply xs_app (k := 0) h1 rfl w (d := .int ((ns.take k).sum + gi ns k))
  · apply ed_op
    · apply ed_op (ed_var h2)
      · exact ed_un ed_int uv_neg
      · exact ov_ixL (atI_sums _)
    · exact ed_var h3
    · exact ov_addI
  · rfl
  · simp [sums_len]
    omega
  · rw [take_snoc hk, sums_snoc, List.map_append] at q
    exact q
theorem list_item {ns : List Int} {i : Nat} {d : D} (h : (ns.map D.int)[i]? = some d) : i < ns.length ∧ d = .int (gi ns i) := by
  rw [List.getElem?_map] at h
  obtain ⟨x, hx, rfl⟩ := Option.map_eq_some_iff.mp h
  obtain ⟨h1, h2⟩ := List.getElem?_eq_some_iff.mp hx
  rw [gi_nat, List.getD_eq_getElem?_getD, hx]
  exact ⟨h1, rfl⟩
def pr_sums (ds : List D) (d : D) : Prop := ∃ ns : List Int, ns.length ≤ 1000 ∧ ds = [lstI ns] ∧ d = tupI (sums ns)
theorem ok_sums (ds : List D) (d : D) (h : pr_sums ds d) : Xs K (t__law_sums K) (startD nm__law_sums ds) [] (Bf d) := by
  obtain ⟨ns, hl, rfl, rfl⟩ := h
  apply xs_seq
  apply xs_setM (ds := [.int 0]) Vw.self (en_lst (ea_cons ed_int ea_nil) (by simp)) rfl
  intro p
  apply xs_seq
  apply xs_forD (il_L (es_var (d := lstI ns) rfl)) gt_nm (fun _ => [some (lstI ns), some (.adr p), none]) (fun i => [(p, .lst ((sums (ns.take i)).map .int))]) (by exact ⟨rfl, rfl, trivial⟩) rfl
  · intro i d hd
    obtain ⟨hi, rfl⟩ := list_item hd
    refine ⟨rfl, _, rfl, ?_⟩
    exact sums_turn hi hl rfl (.keep (.adr 0 rfl Vw.self)) rfl rfl ⟨⟨rfl, rfl, trivial⟩, rfl⟩
  · rw [List.length_map, List.take_length]
    apply xs_ret (.keep (.adr 0 rfl Vw.self)) _ rfl
    walk_at "ed"
theorem flat2 (as bs : List Int) : (([as, bs] : List (List Int)).filter fun _ => true).flatMap (fun row => ((row.zip row.tail).filter fun _ => true).map fun p => D.int (p.2 - p.1)) = (diffs as ++ diffs bs).map D.int := by
  rw [filter_all_true, List.map_append]
  simp only [List.flatMap_cons, List.flatMap_nil, List.append_nil, filter_all_true, diffs, List.map_map]
  rfl
def pr_merged (ds : List D) (d : D) : Prop := ∃ as bs : List Int, as.length ≤ 200 ∧ bs.length = as.length ∧ ds = [tupI (sums as), tupI (sums bs)] ∧ d = tupI (sums ((sortI (as ++ bs)).take as.length))
theorem ok_merged (ds : List D) (d : D) (h : pr_merged ds d) : Xs K (t_merged_steps K) (startD nm_merged_steps ds) [] (Bf d) := by
  obtain ⟨as, bs, hl, hl2, rfl, rfl⟩ := h
  have la := sums_len as
  have lb := sums_len bs
  apply xs_seq
  apply xs_setN Vw.self (ds := (sortI (as ++ bs)).map .int)
  · apply en_cb
    · apply ea_cons _ ea_nil
      exact .lst ((as ++ bs).map .int)
      apply ed_es
      have e := flat2 (sums as) (sums bs)
      rw [diffs_sums, diffs_sums] at e
      rw [← e]
      apply es_lc2 (M := []) (f := tupI) (f1 := fun _ p => .tup [.int p.1, .int p.2]) (T := .nm 5) (T1 := .tp [.nm 6, .nm 7]) _ gt_nm (by decide) (gt_tp (gts_cons gt_nm (gts_cons gt_nm gts_nil)) rfl) (by decide)
      · simp [la, lb]
        omega
      · intro row hrow
        have hr : row.length ≤ 300 := by
          rcases List.mem_cons.mp hrow with rfl | hrow
          · omega
          · rw [List.mem_singleton.mp hrow]
            omega
        refine ⟨by simp, _, rfl, fun m => ⟨ets_pure Vw.self et_yes, fun _ => ⟨?_, fun p _ => ⟨rfl, _, rfl, ets_pure Vw.self et_yes, fun _ => es_pure Vw.self ?_ rfl⟩⟩⟩⟩
        · refine (il_zipT (ds := row.map .int) (es := row.tail.map .int) (eas_pure Vw.self (ea_cons (ed_var rfl) (ea_cons (ed_sl (ed_var rfl) (eo_some ed_int) eo_none sv_tail) ea_nil)) (by simp only [noLs, noL, Bool.and_true, Bool.and_eq_true]; exact ⟨noLs_map fun _ _ => rfl, noLs_map fun _ _ => rfl⟩))).is ?_
          rw [List.zip_map, List.map_map]
          rfl
        · walk_at "ed"
      · exact il_T (es_pure Vw.self (ed_tup (by simp only [List.map_cons, List.map_nil]; walk_at "ed") (by simp)) (by simp))
    · exact cn_sorted
  · simp
  apply xs_seq
  apply xs_setM (ds := [.int 0]) Vw.self (en_lst (ea_cons ed_int ea_nil) (by simp)) rfl
  intro p
  apply xs_seq
  have hs : (sortI (as ++ bs)).length = as.length + as.length := by rw [(sortI_perm _).length_eq, List.length_append, hl2]
  apply xs_forD (its := ((sortI (as ++ bs)).take as.length).map .int) (il_L (es_new Vw.self (En.is (en_sl (ed_var rfl) eo_none (eo_some (by walk_at "ed")) (sn_take (ns := sortI (as ++ bs)) (k := (sums as).length - 1) (by omega))) (by rw [la, show (((as.length + 1 : Nat) : Int) - 1).toNat = as.length by omega])) (noLs_map fun _ _ => rfl))) gt_nm
    (fun _ => [some (tupI (sums as)), some (tupI (sums bs)), some (lstI (sortI (as ++ bs))), some (.adr p), none, none, none, none]) (fun i => [(p, .lst ((sums (((sortI (as ++ bs)).take as.length).take i)).map .int))]) (by exact ⟨rfl, rfl, rfl, rfl, trivial⟩) rfl
  · intro i d hd
    obtain ⟨hi, rfl⟩ := list_item hd
    refine ⟨rfl, _, rfl, ?_⟩
    exact sums_turn hi (by rw [List.length_take]; omega) rfl (.keep (.keep (.keep (.adr 0 rfl Vw.self)))) rfl rfl ⟨⟨rfl, rfl, rfl, rfl, trivial⟩, rfl⟩
  · rw [List.length_map, List.take_length]
    apply xs_ret (.keep (.keep (.keep (.adr 0 rfl Vw.self)))) _ rfl
    walk_at "ed"
def pr_steps (ds es : List D) : Prop := ∃ xs, Cur xs ∧ ds = [tupI xs] ∧ es = (diffs xs).map .int
theorem ok_steps (ds es : List D) (h : pr_steps ds es) : Xs K (t__law_steps K) (startD nm__law_steps ds) [] { nx := fun _ _ => False, rt := fun d' M' => ∃ p, d' = .adr p ∧ (p, .lst es) ∈ M' } := by
  obtain ⟨xs, hc, rfl, rfl⟩ := h
  have h2 := hc.top
  have h1 := hc.pos
  apply xs_retL Vw.self (ds := (diffs xs).map .int)
  · rw [← diffs_law]
    apply en_lcRI (n := xs.length - 1) _ (by decide) (by omega) (by omega)
    · intro k hk
      walk_at "ed"
      all_goals omega
    · walk_at "ed"
  · simp
  · intro p
    exact ⟨p, rfl, List.mem_cons_self ..⟩
end
end K04

/-! k04: servers; the law's own reckonings. -/
namespace K04
open PySem PySem.Spec PyProof.Rows L2 Q
local macro_rules | `(tactic| walk_at "e1") => `(tactic| with_reducible first
  | exact ed_int | exact ed_bl | exact ed_str | exact ed_non | exact ed_ty | exact ea_nil | exact et_yes | exact eo_none
  | (apply ed_var; with_unfolding_all rfl)
  | apply ea_cons
  | apply ed_op | apply ed_cb | apply ed_un | apply eo_some | apply et_test | apply et_B | apply ed_notV | apply et_not | apply ed_tup
  | exact ov_addI | exact ov_subI | exact ov_ltI | exact ov_leI | exact ov_gtI | exact ov_geI | exact ov_eqI | exact ov_neI | exact ov_is | exact ov_isn | exact uv_neg
  | exact cv_lenTI | exact cv_lenLI | exact cv_min2 | exact cv_max2 | exact cv_intI | exact cv_tupleL | exact cv_all
  | apply ov_ixTI | apply ov_ixLI | apply cv_minL | apply cv_maxL | apply ov_mulI
  | (apply En.ed; apply en_lcRI) | (apply En.ed; apply en_lcR2I) | (intro kk hkk) | decide)
local macro_rules | `(tactic| walk_at "ed") => `(tactic| repeat' walk_at "e1")
section
variable {K : PySem.W.Frag} {Γ : Gm} {sp : Sp} {P : Program} {w : World} {mg : Str → Option Value} {base : Heap}
theorem ok_least_done (ds : List D) (d : D) (h : pr_behind ds d) : Xs K (t_least_done K (spF K pr_behind)) (startD nm_least_done ds) [] (Bf d) := by
  obtain ⟨xs, ys, hc, rfl, rfl⟩ := h
  apply xs_ret Vw.self _ rfl
  apply ed_call
  · walk_at "ed"
  · exact ⟨xs, ys, hc, rfl, rfl⟩
theorem ok_out (ds : List D) (d : D) (h : pr_off ds d) : Xs K (t_out_bound K (spF K pr_off)) (startD nm_out_bound ds) [] (Bf d) := by
  obtain ⟨xs, ys, hc, rfl, rfl⟩ := h
  apply xs_ret Vw.self _ rfl
  apply ed_call
  · walk_at "ed"
  · exact ⟨xs, ys, hc, rfl, rfl⟩
def pr_serves (ds : List D) (d : D) : Prop := ∃ xs ys, C2 xs ys ∧ ds = [tupI xs, tupI (behind xs ys), tupI ys] ∧ d = .non
theorem ok_serves (ds : List D) (d : D) (h : pr_serves ds d) : Xs K (t_serves K (spF K pr_look) (spF K pr_behind)) (startD nm_serves ds) [] (Bf d) := by
  obtain ⟨xs, ys, hc, rfl, rfl⟩ := h
  have h2 := hc.1.top
  have h1 := hc.1.pos
  have hl := hc.2.2
  have hb := behind_len xs ys
  have hcb := behind_cur hc.1 hc.2.1 hl
  apply look_step [xs, behind xs ys, ys] xs.length (by
    intro zs hz
    simp only [List.mem_cons, List.not_mem_nil, or_false] at hz
    rcases hz with rfl | rfl | rfl
    · exact ⟨hc.1, rfl⟩
    · exact ⟨hcb, hb⟩
    · exact ⟨hc.2.1, hl⟩) (by simp)
  · simp only [List.map_cons, List.map_nil]
    walk_at "ed"
  apply xs_seq
  apply xs_set Vw.self (d := tupI (behind xs ys)) (ed_call (ds := [tupI xs, tupI ys]) (by walk_at "ed") ⟨xs, ys, hc, rfl, rfl⟩) (by simp)
  apply xs_seq
  apply xs_forD (il_range1 (n := xs.length) (eas_pure Vw.self (by walk_at "ed") rfl) (by omega) (by omega)) gt_nm (fun _ => [some (tupI xs), some (tupI (behind xs ys)), some (tupI ys), some (tupI (behind xs ys)), none]) (fun _ => []) (by exact ⟨rfl, rfl, rfl, rfl, trivial⟩) rfl
  · intro i d hd
    obtain ⟨hi, rfl⟩ := range_item hd
    have hi : i < xs.length := by simpa using hi
    refine ⟨rfl, _, rfl, ?_⟩
    apply xs_if Vw.self (b := false)
    · apply Et.is
      · apply et_or
        · walk_at "ed"
          all_goals omega
        · intro _
          walk_at "ed"
          all_goals omega
      · have := behind_le_first (xs := xs) hc.2.1 (n := i) (by omega) (by omega)
        simp
        omega
    · intro e
      cases e
    · intro _
      apply xs_next
      exact ⟨⟨rfl, rfl, rfl, rfl, trivial⟩, rfl⟩
  · exact xs_ret Vw.self ed_non rfl
def waitHead (xs ys : List Int) : D := if ∀ i, i < xs.length → goods ys (gi xs i) ≠ [] then .int (maxL (waits xs ys)) else .non
def boundsD (xs ys : List Int) : D := .tup [.int (maxL (gaps xs ys)), waitHead xs ys]
def pr_bounds (ds : List D) (d : D) : Prop := ∃ xs ys, C2 xs ys ∧ ds = [tupI xs, tupI ys] ∧ d = boundsD xs ys
theorem head_ed {te : TE} {xs ys : List Int} (h : Ed K te Γ (waitD xs ys)) : Ed K (tIf (tTest (tOp oIs te (tC .non))) (tC .non) (tOp (rIx K) te (tC (.int 0)))) Γ (waitHead xs ys) := by
  unfold waitD at h
  unfold waitHead
  by_cases q : ∀ i, i < xs.length → goods ys (gi xs i) ≠ []
  · rw [if_pos q] at h ⊢
    apply ed_if (et_test (ed_op h ed_non ov_is))
    · intro e
      cases e
    · intro _
      exact ed_op h ed_int (ov_ixT rfl)
  · rw [if_neg q] at h ⊢
    apply ed_if (et_test (ed_op h ed_non ov_is))
    · intro _
      exact ed_non
    · intro e
      cases e
theorem ok_bounds (ds : List D) (d : D) (h : pr_bounds ds d) : Xs K (t_bounds K (spF K pr_look) (spF K pr_wait) (spF K pr_gap)) (startD nm_bounds ds) [] (Bf d) := by
  obtain ⟨xs, ys, hc, rfl, rfl⟩ := h
  apply look_step [xs, ys] xs.length hc.mem (by simp)
  · simp only [List.map_cons, List.map_nil]
    walk_at "ed"
  apply xs_seq
  apply xs_set Vw.self (d := waitD xs ys) (ed_call (ds := [tupI xs, tupI ys]) (by walk_at "ed") ⟨xs, ys, hc, rfl, rfl⟩) (noL_wait _ _)
  apply xs_ret Vw.self _ rfl
  apply ed_tup _ (by simp)
  apply ea_cons
  · apply ed_op (ed_call (ds := [tupI xs, tupI ys]) (by walk_at "ed") ⟨xs, ys, hc, rfl, rfl⟩) ed_int
    exact ov_ixT rfl
  · apply ea_cons (head_ed (ed_var rfl)) ea_nil
/-! left over -/
def far (xs ys : List Int) : Nat → Int
  | 0 => 0
  | i + 1 => max (far xs ys i) (gi xs i - gi ys i)
def leftL (xs ys : List Int) (n : Nat) : List Int := (List.range n).map fun i => far xs ys (i + 1)
theorem leftL_succ (xs ys : List Int) (n : Nat) : leftL xs ys n ++ [far xs ys (n + 1)] = leftL xs ys (n + 1) := by
  unfold leftL
  rw [List.range_succ, List.map_append]
  rfl
def pr_left (ds : List D) (d : D) : Prop := ∃ xs ys, C2 xs ys ∧ ds = [tupI xs, tupI ys] ∧ d = tupI (leftL xs ys xs.length)
theorem zip_item {xs ys : List Int} {i : Nat} {d : D} (hl : ys.length = xs.length) (h : (((xs.map D.int).zip (ys.map D.int)).map fun p => D.tup [p.1, p.2])[i]? = some d) : i < xs.length ∧ d = .tup [.int (gi xs i), .int (gi ys i)] := by
  rw [List.getElem?_map] at h
  obtain ⟨x, hx, rfl⟩ := Option.map_eq_some_iff.mp h
  obtain ⟨h1, h2⟩ := List.getElem?_eq_some_iff.mp hx
  have hi : i < xs.length := by simp at h1; omega
  refine ⟨hi, ?_⟩
  rw [gi_nat, gi_nat, List.getD_eq_getElem?_getD, List.getD_eq_getElem?_getD, List.getElem?_eq_getElem hi, List.getElem?_eq_getElem (by omega), ← h2, List.getElem_zip]
  simp
theorem ok_left (ds : List D) (d : D) (h : pr_left ds d) : Xs K (t_left_over K (spF K pr_look)) (startD nm_left_over ds) [] (Bf d) := by
  obtain ⟨xs, ys, hc, rfl, rfl⟩ := h
  have h2 := hc.1.top
  have hl := hc.2.2
  apply look_step [xs, ys] xs.length hc.mem (by simp)
  · simp only [List.map_cons, List.map_nil]
    walk_at "ed"
  apply xs_seq
  apply xs_setM Vw.self (en_lst ea_nil (by simp)) rfl
  intro p
  apply xs_seq
  apply xs_set Vw.self ed_int rfl
  apply xs_seq
  apply xs_forD (il_zipT (ds := xs.map .int) (es := ys.map .int) (eas_pure Vw.self (by walk_at "ed") (by simp))) (T := .tp [.nm 4, .nm 5]) (gt_tp (gts_cons gt_nm (gts_cons gt_nm gts_nil)) rfl)
    (fun i => [some (tupI xs), some (tupI ys), some (.adr p), some (.int (far xs ys i)), none, none]) (fun i => [(p, .lst ((leftL xs ys i).map .int))]) (by exact ⟨rfl, rfl, rfl, rfl, trivial⟩) rfl
  · intro i d hd
    obtain ⟨hi, rfl⟩ := zip_item hl hd
    refine ⟨rfl, _, rfl, ?_⟩
    apply xs_seq
    apply xs_set Vw.self (d := .int (far xs ys (i + 1)))
    · walk_at "ed"
      exact cv_max2
    · rfl
    apply xs_app (i := 2) (k := 0) rfl rfl Vw.self (d := .int (far xs ys (i + 1)))
    · walk_at "ed"
    · rfl
    · simp [leftL]
      omega
    · refine ⟨⟨rfl, rfl, rfl, rfl, trivial⟩, ?_⟩
      rw [← leftL_succ, List.map_append]
      rfl
  · simp only [List.length_map, List.length_zip, hl, Nat.min_self]
    apply xs_ret (.keep (.keep (.adr 0 rfl Vw.self))) _ rfl
    walk_at "ed"
/-! servers in a row -/
def C3 (xs ys zs : List Int) : Prop := C2 xs ys ∧ Cur zs ∧ zs.length = xs.length
theorem C3.mem {xs ys zs : List Int} (h : C3 xs ys zs) : ∀ us ∈ [xs, ys, zs], Cur us ∧ us.length = xs.length := by
  intro us hz
  simp only [List.mem_cons, List.not_mem_nil, or_false] at hz
  rcases hz with rfl | rfl | rfl
  · exact ⟨h.1.1, rfl⟩
  · exact ⟨h.1.2.1, h.1.2.2⟩
  · exact ⟨h.2.1, h.2.2⟩
theorem C2.behind {xs ys : List Int} (h : C2 xs ys) : Cur (behind xs ys) := behind_cur h.1 h.2.1 h.2.2
def pr_row (ds : List D) (d : D) : Prop := ∃ xs ys zs, C3 xs ys zs ∧ ds = [.tup [tupI xs, tupI ys, tupI zs]] ∧ d = tupI (behind (behind xs ys) zs)
theorem ok_row (ds : List D) (d : D) (h : pr_row ds d) : Xs K (t_in_a_row K (spF K pr_look) (spF K pr_behind)) (startD nm_in_a_row ds) [] (Bf d) := by
  obtain ⟨xs, ys, zs, hc, rfl, rfl⟩ := h
  apply xs_seq
  apply xs_if Vw.self (b := false)
  · apply et_test
    apply ed_op
    · apply ed_cb (by walk_at "ed") cv_lenT
    · exact ed_int
    · exact ov_eqI
  · intro e
    cases e
  · intro _
    apply xs_next
    apply xs_seq
    apply xs_drop Vw.self (ed_callX (d := .non) (ed_var rfl) ⟨[xs, ys, zs], xs.length, hc.mem, by simp, rfl, rfl⟩)
    apply xs_seq
    apply xs_set Vw.self (d := tupI xs) (ed_op (ed_var rfl) ed_int (ov_ixT rfl)) (by simp)
    apply xs_seq
    have hs : Ed K (tSl (oSl K) (tVar 0) (tPart (tC (.int 1))) tNoPart) [some (.tup [tupI xs, tupI ys, tupI zs]), some (tupI xs), none] (.tup [tupI ys, tupI zs]) := (ed_sl (ed_var rfl) (eo_some ed_int) eo_none sv_T).is rfl
    apply xs_forD (il_T (es_pure Vw.self hs (by simp))) gt_nm (fun i => [some (.tup [tupI xs, tupI ys, tupI zs]), some (tupI (match i with | 0 => xs | 1 => behind xs ys | _ => behind (behind xs ys) zs)), none]) (fun _ => []) (by exact ⟨rfl, rfl, trivial⟩) rfl
    · intro i d hd
      match i, hd with
      | 0, hd =>
        cases hd
        refine ⟨by simp, _, rfl, ?_⟩
        apply xs_set Vw.self (d := tupI (behind xs ys)) (ed_call (ds := [tupI xs, tupI ys]) (by walk_at "ed") ⟨xs, ys, hc.1, rfl, rfl⟩) (by simp)
        exact ⟨⟨rfl, rfl, trivial⟩, rfl⟩
      | 1, hd =>
        cases hd
        refine ⟨by simp, _, rfl, ?_⟩
        apply xs_set Vw.self (d := tupI (behind (behind xs ys) zs)) (ed_call (ds := [tupI (behind xs ys), tupI zs]) (by walk_at "ed") ⟨behind xs ys, zs, ⟨hc.1.behind, hc.2.1, by rw [behind_len]; exact hc.2.2⟩, rfl, rfl⟩) (by simp)
        exact ⟨⟨rfl, rfl, trivial⟩, rfl⟩
      | i + 2, hd => cases hd
    · exact xs_ret Vw.self (ed_var rfl) rfl
/-! shaped -/
def pr_shaped (ds : List D) (d : D) : Prop := ∃ xs ys, C2 xs ys ∧ ds = [tupI xs, tupI (closedC ys)] ∧ d = tupI (behind xs (closedC ys))
theorem C2.closed {xs ys : List Int} (h : C2 xs ys) : C2 xs (closedC ys) := ⟨h.1, closed_cur h.2.1, by rw [closed_len _ h.2.1.pos]; exact h.2.2⟩
theorem ok_shaped (ds : List D) (d : D) (h : pr_shaped ds d) : Xs K (t_shaped K (spF K pr_look) (spF K pr_closed)) (startD nm_shaped ds) [] (Bf d) := by
  obtain ⟨xs, ys, hc, rfl, rfl⟩ := h
  have hc' := hc.closed
  have hq : closedC (closedC ys) = closedC ys := closed_closed hc.2.1
  rw [← shaped_closed hc.1 hc.2.1 hc.2.2]
  generalize closedC ys = c at *
  have h2 := hc'.1.top
  have h1 := hc'.1.pos
  have hl := hc'.2.2
  apply look_step [xs, c] xs.length hc'.mem (by simp)
  · simp only [List.map_cons, List.map_nil]
    walk_at "ed"
  apply xs_seq
  apply xs_if Vw.self (b := false)
  · apply Et.is
    · apply et_test
      apply ed_op (ed_call (ds := [tupI c]) (by walk_at "ed") ⟨c, hc'.2.1, rfl, rfl⟩) (ed_var rfl) ov_neTI
    · rw [hq]
      simp
  · intro e
    cases e
  intro _
  apply xs_next
  apply xs_seq
  apply xs_setM (ds := [.int 0]) Vw.self (en_lst (ea_cons ed_int ea_nil) (by simp)) rfl
  intro p
  apply xs_seq
  apply xs_forD (il_range2 (m := 1) (n := xs.length) (eas_pure Vw.self (by walk_at "ed") rfl) (by omega) (by omega) (by omega) (by omega)) gt_nm
    (fun _ => [some (tupI xs), some (tupI c), some (.adr p), none, none, none]) (fun i => [(p, .lst ((sh xs c i).map .int))]) (by exact ⟨rfl, rfl, rfl, trivial⟩) rfl
  · intro i d hd
    obtain ⟨hi, rfl⟩ := range_item hd
    have hi : 1 + (i : Int) < xs.length := by omega
    have hs := sh_len xs c i
    refine ⟨rfl, _, rfl, ?_⟩
    apply xs_seq
    apply xs_set (.keep (.keep (.adr 0 rfl Vw.self))) (d := .int (minL ((rg (1 + (i : Int))).map fun (k : Nat) => gi (sh xs c i) k + gi c (1 + (i : Int) - k))))
    · walk_at "ed"
      all_goals first | omega | exact range_ne (by omega)
    · rfl
    apply xs_app (i := 2) (k := 0) rfl rfl (.keep (.keep (.adr 0 rfl Vw.self))) (d := .int (min (gi xs (1 + (i : Int))) (minL ((rg (1 + (i : Int))).map fun (k : Nat) => gi (sh xs c i) k + gi c (1 + (i : Int) - k)))))
    · walk_at "ed"
      all_goals omega
    · rfl
    · rw [List.length_map, hs]
      omega
    · refine ⟨⟨rfl, rfl, rfl, trivial⟩, ?_⟩
      rw [sh, List.map_append]
      rfl
  · simp only [List.length_map, List.length_range]
    apply xs_ret (.keep (.keep (.adr 0 rfl Vw.self))) _ rfl
    apply Ed.is
    · walk_at "ed"
    · rw [show ((xs.length : Int) - 1).toNat = xs.length - 1 by omega]
      rfl
/-! the law's own -/
theorem ok_law_behind (ds : List D) (d : D) (h : pr_behind ds d) : Xs K (t__law_behind K) (startD nm__law_behind ds) [] (Bf d) := by
  obtain ⟨xs, ys, hc, rfl, rfl⟩ := h
  have h2 := hc.1.top
  have hl := hc.2.2
  apply xs_ret Vw.self _ rfl
  apply Ed.is
  · walk_at "ed"
    all_goals first | omega | exact range_ne (by omega)
  · rfl
theorem ok_law_off (ds : List D) (d : D) (h : pr_off ds d) : Xs K (t__law_off K) (startD nm__law_off ds) [] (Bf d) := by
  obtain ⟨xs, ys, hc, rfl, rfl⟩ := h
  have h2 := hc.1.top
  have hl := hc.2.2
  apply xs_seq
  apply xs_set Vw.self (d := .int (((xs.length : Int) + 1) / 2))
  · walk_at "ed"
    exact ov_divI ⟨by decide, by decide⟩
  · simp
  apply xs_ret Vw.self _ rfl
  apply Ed.is
  · walk_at "ed"
    all_goals first | omega | exact range_ne (by omega)
  · rfl
theorem ok_law_closed (ds : List D) (d : D) (h : pr_closed ds d) : Xs K (t__law_closed K) (startD nm__law_closed ds) [] (Bf d) := by
  obtain ⟨xs, hc, rfl, rfl⟩ := h
  have h2 := hc.top
  have h1 := hc.pos
  apply xs_seq
  apply xs_setM (ds := [.int 0]) Vw.self (en_lst (ea_cons ed_int ea_nil) (by simp)) rfl
  intro p
  apply xs_seq
  apply xs_forD (il_range2 (m := 1) (n := xs.length) (eas_pure Vw.self (by walk_at "ed") rfl) (by omega) (by omega) (by omega) (by omega)) gt_nm
    (fun _ => [some (tupI xs), some (.adr p), none, none]) (fun i => [(p, .lst ((cl xs i).map .int))]) (by exact ⟨rfl, rfl, trivial⟩) rfl
  · intro i d hd
    obtain ⟨hi, rfl⟩ := range_item hd
    have hi : 1 + (i : Int) < xs.length := by omega
    have hs := cl_len xs i
    refine ⟨rfl, _, rfl, ?_⟩
    apply xs_app (i := 1) (k := 0) rfl rfl (.keep (.adr 0 rfl Vw.self)) (d := .int (minL ([gi xs (1 + (i : Int))] ++ (rg ((1 + (i : Int)) - 1)).map fun (k : Nat) => gi (cl xs i) (1 + (k : Int)) + gi (cl xs i) (1 + (i : Int) - (1 + (k : Int))))))
    · apply ed_cb
      · apply ea_cons
        · apply En.ed
          apply en_op
          · apply ed_lst1
            walk_at "ed"
            all_goals omega
          · walk_at "ed"
            all_goals omega
          · apply on_addLI
            simp
            omega
        · exact ea_nil
      · apply cv_minL
        simp
    · rfl
    · rw [List.length_map, hs]
      omega
    · refine ⟨⟨rfl, rfl, trivial⟩, ?_⟩
      rw [cl, List.map_append]
      rfl
  · simp only [List.length_map, List.length_range]
    apply xs_ret (.keep (.adr 0 rfl Vw.self)) _ rfl
    apply Ed.is
    · walk_at "ed"
    · rw [show ((xs.length : Int) - 1).toNat = xs.length - 1 by omega]
      rfl
end
end K04

/-! k04: the curves that are drawn. -/
namespace K04
open PySem PySem.Spec PyProof.Rows L2 Q
local macro_rules | `(tactic| walk_at "e1") => `(tactic| with_reducible first
  | exact ed_int | exact ed_bl | exact ed_str | exact ed_non | exact ed_ty | exact ea_nil | exact et_yes | exact eo_none
  | (apply ed_var; with_unfolding_all rfl)
  | apply ea_cons
  | apply ed_op | apply ed_cb | apply ed_un | apply eo_some | apply et_test | apply et_B | apply ed_notV | apply et_not | apply ed_tup
  | exact ov_addI | exact ov_subI | exact ov_ltI | exact ov_leI | exact ov_gtI | exact ov_geI | exact ov_eqI | exact ov_neI | exact ov_is | exact ov_isn | exact uv_neg
  | exact cv_lenTI | exact cv_lenLI | exact cv_min2 | exact cv_max2 | exact cv_intI | exact cv_tupleL | exact cv_all
  | apply ov_ixTI | apply ov_ixLI | apply cv_minL | apply cv_maxL | apply ov_mulI
  | (apply En.ed; apply en_lcRI) | (apply En.ed; apply en_lcR2I) | (intro kk hkk) | decide)
local macro_rules | `(tactic| walk_at "ed") => `(tactic| repeat' walk_at "e1")
theorem sums_up {ns : List Int} (h : ∀ n ∈ ns, 0 ≤ n) : ∀ i : Int, 0 ≤ i → i + 1 < (sums ns).length → gi (sums ns) i ≤ gi (sums ns) (i + 1) := by
  intro i h0 h1
  rw [sums_len] at h1
  obtain ⟨n, rfl⟩ := Int.eq_ofNat_of_zero_le h0
  rw [sums_at (by omega), show (n : Int) + 1 = ((n + 1 : Nat) : Int) by omega, sums_at (by omega), take_succ_sum (by omega)]
  have := h (ns[n]'(by omega)) (List.getElem_mem _)
  omega
theorem sums_cur {ns : List Int} (h : ∀ n ∈ ns, 0 ≤ n) (hl : ns.length ≤ 199) : Cur (sums ns) := by
  refine ⟨by rw [sums_len]; omega, by rw [sums_len]; omega, ?_, mono_of_step (sums_up h)⟩
  have := sums_at (xs := ns) (n := 0) (Nat.zero_le _)
  simpa using this
theorem sums_le {ns : List Int} {b : Int} (hb : 0 ≤ b) (h : ∀ n ∈ ns, n ≤ b) : ns.sum ≤ b * ns.length := by
  induction ns with
  | nil => simp
  | cons a r ih =>
    have h1 := ih fun n hn => h n (List.mem_cons_of_mem _ hn)
    have h2 := h a (List.mem_cons_self ..)
    rw [List.sum_cons, List.length_cons, Int.natCast_add, Int.mul_add]
    simp
    omega
/-! a drawn curve -/
def stepRow : List Int := [0, 0, 1, 2, 7]
def crvD (s : Dr) : Nat → Dr
  | 0 => s
  | i + 1 => (crvD s i).next 5
def crvS (s : Dr) (i : Nat) : Int := stepRow.getD ((crvD s i).get 5).toNat 0
def crvN (s : Dr) (i : Nat) : List Int := (List.range i).map (crvS s)
def crvL (s : Dr) (i : Nat) : List Int := sums (crvN s i)
theorem crvD_ok {s : Dr} (h : s.Ok) : ∀ i, (crvD s i).Ok
  | 0 => h
  | i + 1 => Dr.next_ok (crvD_ok h i) (by decide)
theorem stepRow_in (j : Nat) : 0 ≤ stepRow.getD j 0 ∧ stepRow.getD j 0 ≤ 7 := by
  match j with
  | 0 => decide
  | 1 => decide
  | 2 => decide
  | 3 => decide
  | 4 => decide
  | j + 5 => exact ⟨Int.le_refl _, by show (0 : Int) ≤ 7; decide⟩
theorem crvN_len (s : Dr) (i : Nat) : (crvN s i).length = i := by unfold crvN; simp
theorem crvN_in {s : Dr} {i : Nat} : ∀ n ∈ crvN s i, 0 ≤ n ∧ n ≤ 7 := by
  intro n hn
  obtain ⟨k, _, rfl⟩ := List.mem_map.mp hn
  exact stepRow_in _
theorem crv_len (s : Dr) (i : Nat) : (crvL s i).length = i + 1 := by unfold crvL; rw [sums_len, crvN_len]
theorem crvN_succ (s : Dr) (i : Nat) : crvN s (i + 1) = crvN s i ++ [crvS s i] := by
  unfold crvN
  rw [List.range_succ, List.map_append]
  rfl
theorem crvL_succ (s : Dr) (i : Nat) : crvL s (i + 1) = crvL s i ++ [(crvN s i).sum + crvS s i] := by
  unfold crvL
  rw [crvN_succ, sums_snoc]
theorem crv_cur (s : Dr) {i : Nat} (h : i ≤ 199) : Cur (crvL s i) := sums_cur (fun n hn => (crvN_in n hn).1) (by rw [crvN_len]; exact h)
theorem crv_le (s : Dr) {i : Nat} {k : Int} (h0 : 0 ≤ k) (h1 : k ≤ i) : gi (crvL s i) k ≤ 7 * k := by
  obtain ⟨n, rfl⟩ := Int.eq_ofNat_of_zero_le h0
  unfold crvL
  rw [sums_at (by rw [crvN_len]; omega)]
  have := sums_le (ns := (crvN s i).take n) (b := 7) (by decide) fun m hm => (crvN_in m (List.mem_of_mem_take hm)).2
  rw [List.length_take, crvN_len] at this
  rw [Nat.min_eq_left (by omega)] at this
  exact this
section
variable {K : PySem.W.Frag} {Γ : Gm} {sp : Sp} {P : Program} {w : World} {mg : Str → Option Value} {base : Heap}
def pr_curve (a : Addr) (ds : List D) (mo : MO) (d : D) (mo' : MO) : Prop := ∃ (s : Dr) (n : Nat), s.Ok ∧ 1 ≤ n ∧ n ≤ 200 ∧ ds = [.adr a, .int n] ∧ mo = .lst s.ds ∧ d = tupI (crvL s (n - 1)) ∧ mo' = .lst (crvD s (n - 1)).ds
theorem getD_map (row : List Int) {j : Nat} (h : j < row.length) : (row.map D.int).getD j .non = .int (row.getD j 0) := by
  rw [List.getD_eq_getElem?_getD, List.getD_eq_getElem?_getD, List.getElem?_map, List.getElem?_eq_getElem h]
  rfl
/-- a pick of a row of ints -/
theorem es_pickI {te : TE} {M : Mem} {k i : Nat} {a : Addr} {s : Dr} {row : List Int} (hi : Γ[i]? = some (some (.adr a))) (hk : M[k]? = some (a, .lst s.ds)) (hs : s.Ok) (h0 : 0 < row.length) (h1 : row.length < 100000) (h : Es K te Γ M (lstI row) M) :
    Es K (tCall (spM K pr_pick) [] E0 (tCons (tVar i) (tCons te tNil))) Γ M (.int (row.getD (s.get row.length).toNat 0)) (M.set k (a, .lst (s.next row.length).ds)) := by
  apply es_callM (eas_cons (es_var hi) (eas_cons h eas_nil)) hk
  have lo := Dr.get_lo (s := s) (L := row.length) (by omega)
  have hi := Dr.get_hi (s := s) (L := row.length) (by omega)
  refine ⟨s, row.map .int, hs, by simpa using h0, by simpa using h1, noLs_map fun _ _ => rfl, .inl rfl, rfl, ?_, by rw [List.length_map]⟩
  rw [List.length_map, getD_map row (by omega)]
theorem ok_curve (a : Addr) (ds : List D) (mo : MO) (d : D) (mo' : MO) (Mf : Mem) (h : pr_curve a ds mo d mo') :
    Xs K (t__law_curve K (spM K pr_pick)) (startD nm__law_curve ds) ((a, mo) :: Mf) { nx := fun _ M' => d = .non ∧ ∃ pre, M' = pre ++ (a, mo') :: Mf, rt := fun d' M' => d' = d ∧ ∃ pre, M' = pre ++ (a, mo') :: Mf } := by
  obtain ⟨s, n, hs, h1, h2, rfl, rfl, rfl, rfl⟩ := h
  apply xs_seq
  apply xs_setM (ds := [.int 0]) Vw.self (en_lst (ea_cons ed_int ea_nil) (by simp)) rfl
  intro p
  apply xs_seq
  apply xs_forD (il_range1 (n := (n : Int) - 1) (eas_pure Vw.self (by walk_at "ed") rfl) (by omega) (by omega)) gt_nm (fun _ => [some (.adr a), some (.int n), some (.adr p), none]) (fun i => (p, .lst ((crvL s i).map .int)) :: (a, .lst (crvD s i).ds) :: Mf) (by exact ⟨rfl, rfl, rfl, trivial⟩) rfl
  · intro i d hd
    obtain ⟨hi, rfl⟩ := range_item hd
    refine ⟨rfl, _, rfl, ?_⟩
    apply xs_appS (i := 2) (k := 0) rfl ⟨_, rfl⟩ (M' := (p, .lst ((crvL s i).map .int)) :: (a, .lst (crvD s (i + 1)).ds) :: Mf) (d := .int ((crvN s i).sum + crvS s i)) _ rfl
    · rw [List.length_map, crv_len]
      omega
    · refine ⟨⟨rfl, rfl, rfl, trivial⟩, ?_⟩
      rw [crvL_succ, List.map_append]
      rfl
    · apply es_op (M1 := (p, .lst ((crvL s i).map .int)) :: (a, .lst (crvD s i).ds) :: Mf) _ _ ov_addI rfl
      · apply es_pure (.keep (.keep (.adr 0 rfl Vw.self))) (ed_op (ed_var rfl) (ed_un ed_int uv_neg) (ov_ixL (atI_sums _))) rfl
      · exact es_pickI (k := 1) (row := stepRow) rfl rfl (crvD_ok hs i) (by decide) (by decide) (es_new Vw.self (en_lst (by show Ea K _ _ [.int 0, .int 0, .int 1, .int 2, .int 7]; walk_at "ed") (by decide)) rfl)
  · simp only [List.length_map, List.length_range]
    rw [show ((n : Int) - 1).toNat = n - 1 by omega]
    apply xs_ret (.keep (.keep (.adr 0 rfl Vw.self)))
    · walk_at "ed"
    · exact ⟨rfl, [_], rfl⟩
/-! any drawn curve -/
def lateL2 (l r n : Int) : List Int := (rg n).map fun (k : Nat) => r * max ((k : Int) - l) 0
theorem late_same (l r n : Int) : lateL2 l r n = lateL l r n := by
  unfold lateL lateL2
  refine List.map_congr_left fun k _ => ?_
  rw [Int.max_comm]
def someL (s : Dr) (n : Nat) : List Int := if s.get 3 = 0 then crvL (((s.next 3).next 20).next 4) (n - 1) else if s.get 3 = 1 then bucketL ((s.next 3).get 20) (((s.next 3).next 20).get 4) n else lateL2 ((s.next 3).get 20) (((s.next 3).next 20).get 4) n
def someS (s : Dr) (n : Nat) : Dr := if s.get 3 = 0 then crvD (((s.next 3).next 20).next 4) (n - 1) else ((s.next 3).next 20).next 4
theorem bucket_len {b r : Int} {n : Nat} (h : 1 ≤ n) : (bucketL b r n).length = n := by
  unfold bucketL rg
  simp
  omega
theorem bucket_at {b r : Int} {n : Nat} {i : Int} (h0 : 1 ≤ i) (h1 : i < n) : gi (bucketL b r n) i = b + r * i := by
  obtain ⟨k, rfl⟩ : ∃ k : Nat, i = ((k + 1 : Nat) : Int) := ⟨(i - 1).toNat, by omega⟩
  have : gi (bucketL b r n) ((k + 1 : Nat) : Int) = gi ((rg ((n : Int) - 1)).map fun (k : Nat) => b + r * (1 + (k : Int))) (k : Int) := by
    rw [gi_nat, gi_nat]
    rfl
  rw [this]
  unfold rg
  rw [gi_map (by omega) (by omega), Int.toNat_natCast, show (1 + (k : Int)) = ((k + 1 : Nat) : Int) by omega]
theorem bucket_cur {b r : Int} {n : Nat} (hb : 0 ≤ b) (hr : 0 ≤ r) (h : 1 ≤ n) (h2 : n ≤ 200) : Cur (bucketL b r n) := by
  have hl := bucket_len (b := b) (r := r) h
  refine ⟨by omega, by omega, rfl, mono_of_step fun i h0 h1 => ?_⟩
  rw [hl] at h1
  rw [bucket_at (i := i + 1) (by omega) (by omega)]
  by_cases e : i = 0
  · subst e
    show (0 : Int) ≤ _
    omega
  · rw [bucket_at (by omega) (by omega), Int.mul_add]
    omega
theorem late_len {l r : Int} {n : Nat} : (lateL2 l r n).length = n := by
  unfold lateL2 rg
  simp
theorem late_at {l r : Int} {n : Nat} {i : Int} (h0 : 0 ≤ i) (h1 : i < n) : gi (lateL2 l r n) i = r * max (i - l) 0 := by
  unfold lateL2 rg
  rw [gi_map h0 (by omega), Int.toNat_of_nonneg h0]
theorem late_cur {l r : Int} {n : Nat} (hb : 0 ≤ l) (hr : 0 ≤ r) (h : 1 ≤ n) (h2 : n ≤ 200) : Cur (lateL2 l r n) := by
  have hl := late_len (l := l) (r := r) (n := n)
  refine ⟨by omega, by omega, ?_, mono_of_step fun i h0 h1 => ?_⟩
  · rw [late_at (by omega) (by omega), show max (0 - l) 0 = 0 by omega, Int.mul_zero]
  · rw [late_at (by omega) (by omega), late_at (by omega) (by omega)]
    exact Int.mul_le_mul_of_nonneg_left (by omega) hr
theorem some_cur {s : Dr} {n : Nat} (h : 1 ≤ n) (h2 : n ≤ 200) : Cur (someL s n) := by
  unfold someL
  have a1 := Dr.get_lo (s := s.next 3) (L := 20) (by decide)
  have a2 := Dr.get_lo (s := (s.next 3).next 20) (L := 4) (by decide)
  split
  · exact crv_cur _ (by omega)
  · split
    · exact bucket_cur a1 a2 h h2
    · exact late_cur a1 a2 h h2
theorem some_len {s : Dr} {n : Nat} (h : 1 ≤ n) : (someL s n).length = n := by
  unfold someL
  split
  · rw [crv_len]; omega
  · split
    · exact bucket_len h
    · exact late_len
theorem some_ok {s : Dr} {n : Nat} (h : s.Ok) : (someS s n).Ok := by
  have := Dr.next_ok (Dr.next_ok (Dr.next_ok h (L := 3) (by decide)) (L := 20) (by decide)) (L := 4) (by decide)
  unfold someS
  split
  · exact crvD_ok this _
  · exact this
theorem some_le {s : Dr} {n : Nat} (h : 1 ≤ n) (h2 : n ≤ 200) : gi (someL s n) ((n : Int) - 1) ≤ 2000 := by
  have a1 := Dr.get_lo (s := s.next 3) (L := 20) (by decide)
  have a2 := Dr.get_lo (s := (s.next 3).next 20) (L := 4) (by decide)
  have b1 := Dr.get_hi (s := s.next 3) (L := 20) (by decide)
  have b2 := Dr.get_hi (s := (s.next 3).next 20) (L := 4) (by decide)
  unfold someL
  split
  · have := crv_le (((s.next 3).next 20).next 4) (i := n - 1) (k := (n : Int) - 1) (by omega) (by omega)
    omega
  · generalize ((s.next 3).next 20).get 4 = r at *
    generalize (s.next 3).get 20 = b at *
    split
    · by_cases e : n = 1
      · subst e
        show (0 : Int) ≤ 2000
        decide
      · rw [bucket_at (by omega) (by omega)]
        have : r * ((n : Int) - 1) ≤ 4 * ((n : Int) - 1) := Int.mul_le_mul_of_nonneg_right (by omega) (by omega)
        omega
    · rw [late_at (by omega) (by omega)]
      have : r * max ((n : Int) - 1 - b) 0 ≤ 4 * max ((n : Int) - 1 - b) 0 := Int.mul_le_mul_of_nonneg_right (by omega) (by omega)
      omega
def pr_some (a : Addr) (ds : List D) (mo : MO) (d : D) (mo' : MO) : Prop := ∃ (s : Dr) (n : Nat), s.Ok ∧ 1 ≤ n ∧ n ≤ 200 ∧ ds = [.adr a, .int n] ∧ mo = .lst s.ds ∧ d = tupI (someL s n) ∧ mo' = .lst (someS s n).ds
theorem es_draw {M : Mem} {k i : Nat} {a : Addr} {s : Dr} {L : Int} (hi : Γ[i]? = some (some (.adr a))) (hk : M[k]? = some (a, .lst s.ds)) (hs : s.Ok) (h0 : 0 < L) (h1 : L < 1073741824) :
    Es K (tCall (spM K pr_draw) [] E0 (tCons (tVar i) (tCons (tC (.int L)) tNil))) Γ M (.int (s.get L)) (M.set k (a, .lst (s.next L).ds)) :=
  es_callM (eas_cons (es_var hi) (eas_cons (es_pure Vw.self ed_int rfl) eas_nil)) hk ⟨s, L, hs, h0, h1, rfl, rfl, rfl, rfl⟩
theorem ok_some (a : Addr) (ds : List D) (mo : MO) (d : D) (mo' : MO) (Mf : Mem) (h : pr_some a ds mo d mo') :
    Xs K (t__law_some K (spM K pr_draw) (spM K pr_curve)) (startD nm__law_some ds) ((a, mo) :: Mf) { nx := fun _ M' => d = .non ∧ M' = (a, mo') :: Mf, rt := fun d' M' => d' = d ∧ M' = (a, mo') :: Mf } := by
  obtain ⟨s, n, hs, h1, h2, rfl, rfl, rfl, rfl⟩ := h
  have s1 := Dr.next_ok hs (L := 3) (by decide)
  have s2 := Dr.next_ok s1 (L := 20) (by decide)
  have s3 := Dr.next_ok s2 (L := 4) (by decide)
  have a1 := Dr.get_lo (s := s.next 3) (L := 20) (by decide)
  have a2 := Dr.get_lo (s := (s.next 3).next 20) (L := 4) (by decide)
  have b1 := Dr.get_hi (s := s.next 3) (L := 20) (by decide)
  have b2 := Dr.get_hi (s := (s.next 3).next 20) (L := 4) (by decide)
  apply xs_seq
  apply xs_asgT (Ts := [.nm 2, .nm 3, .nm 4]) (es_tup (eas_cons (es_draw (k := 0) rfl rfl hs (by decide) (by decide)) (eas_cons (es_draw (k := 0) rfl rfl s1 (by decide) (by decide)) (eas_cons (es_draw (k := 0) rfl rfl s2 (by decide) (by decide)) eas_nil))) (by simp)) (gts_cons gt_nm (gts_cons gt_nm (gts_cons gt_nm gts_nil))) rfl rfl
  apply xs_seq
  apply xs_if Vw.self (b := decide (s.get 3 = 0)) (et_test (ed_op (ed_var rfl) ed_int ov_eqI))
  · intro e
    have e := of_decide_eq_true e
    unfold someL someS
    rw [if_pos e, if_pos e]
    apply xs_retS (es_callM (k := 0) (ds := [.adr a, .int n]) (eas_cons (es_var rfl) (eas_cons (es_var rfl) eas_nil)) rfl ⟨((s.next 3).next 20).next 4, n, s3, h1, h2, rfl, rfl, rfl, rfl⟩)
    exact ⟨rfl, rfl⟩
  intro e
  have e := of_decide_eq_false e
  apply xs_next
  apply xs_seq
  apply xs_if Vw.self (b := decide (s.get 3 = 1)) (et_test (ed_op (ed_var rfl) ed_int ov_eqI))
  · intro e2
    have e2 := of_decide_eq_true e2
    unfold someL someS
    rw [if_neg e, if_neg e, if_pos e2]
    apply xs_ret Vw.self (d := tupI (bucketL ((s.next 3).get 20) (((s.next 3).next 20).get 4) n)) _ (by exact ⟨rfl, rfl⟩)
    apply Ed.is
    · apply ed_cb
      · apply ea_cons
        · apply En.ed
          apply en_op
          · exact ed_lst1 ed_int
          · walk_at "ed"
            all_goals first | omega | exact small_mul (by omega) (by omega)
          · apply on_addLI
            simp
            omega
        · exact ea_nil
      · exact cv_tupleL
    · rfl
  · intro e2
    have e2 := of_decide_eq_false e2
    apply xs_next
    unfold someL someS
    rw [if_neg e, if_neg e, if_neg e2]
    apply xs_ret Vw.self (d := tupI (lateL2 ((s.next 3).get 20) (((s.next 3).next 20).get 4) n)) _ (by exact ⟨rfl, rfl⟩)
    apply Ed.is
    · walk_at "ed"
      all_goals first | omega | exact small_mul (by omega) (by omega)
    · rfl
end
end K04

/-! k04: what the law asks of three curves. -/
namespace K04
open PySem PySem.Spec PyProof.Rows L2 Q
local macro_rules | `(tactic| walk_at "e1") => `(tactic| with_reducible first
  | exact ed_int | exact ed_bl | exact ed_str | exact ed_non | exact ed_ty | exact ea_nil | exact et_yes | exact eo_none
  | (apply ed_var; with_unfolding_all rfl)
  | apply ea_cons
  | apply ed_op | apply ed_cb | apply ed_un | apply eo_some | apply et_test | apply et_B | apply ed_notV | apply et_not | apply ed_tup
  | exact ov_addI | exact ov_subI | exact ov_ltI | exact ov_leI | exact ov_gtI | exact ov_geI | exact ov_eqI | exact ov_neI | exact ov_is | exact ov_isn | exact uv_neg
  | exact cv_lenTI | exact cv_lenLI | exact cv_min2 | exact cv_max2 | exact cv_intI | exact cv_tupleL | exact cv_all
  | apply ov_ixTI | apply ov_ixLI | apply cv_minL | apply cv_maxL | apply ov_mulI
  | (apply En.ed; apply en_lcRI) | (apply En.ed; apply en_lcR2I) | (intro kk hkk) | decide)
local macro_rules | `(tactic| walk_at "ed") => `(tactic| repeat' walk_at "e1")
theorem plain_withD : ∀ o, plainD (withD o) = true
  | none => rfl
  | some _ => rfl
theorem plain_pair (ns : List Int) : plainD (pairD ns) = true := rfl
theorem plain_wait (xs ys : List Int) : plainD (waitD xs ys) = true := by
  unfold waitD
  split <;> rfl
theorem plain_head (xs ys : List Int) : plainD (waitHead xs ys) = true := by
  unfold waitHead
  split <;> rfl
theorem plain_bounds (xs ys : List Int) : plainD (boundsD xs ys) = true := by
  have := plain_head xs ys
  simp [boundsD, plainD, plainDs, this]
theorem dep_withD : ∀ o, depD (withD o) ≤ 1
  | none => Nat.zero_le _
  | some _ => Nat.le_refl _
theorem dep_pair (ns : List Int) : depD (pairD ns) = 1 := rfl
theorem dep_wait (xs ys : List Int) : depD (waitD xs ys) ≤ 1 := by
  unfold waitD
  split
  · exact Nat.le_refl _
  · exact Nat.zero_le _
theorem dep_head (xs ys : List Int) : depD (waitHead xs ys) = 0 := by
  unfold waitHead
  split <;> rfl
theorem dep_bounds (xs ys : List Int) : depD (boundsD xs ys) = 1 := by
  have := dep_head xs ys
  simp [boundsD, depD, depDs, this]
theorem least_rg {xs ys : List Int} (hl : ys.length = xs.length) : ((rg xs.length).map fun (k : Nat) => min (gi xs k) (gi ys k)) = least xs ys := by
  unfold least rg
  rw [Int.toNat_natCast]
  refine List.ext_getElem (by simp [hl]) fun i h1 h2 => ?_
  have hi : i < xs.length := by simpa using h1
  simp only [List.getElem_map, List.getElem_range, List.getElem_zip]
  rw [gi_nat, gi_nat, List.getD_eq_getElem?_getD, List.getD_eq_getElem?_getD, List.getElem?_eq_getElem hi, List.getElem?_eq_getElem (by omega)]
  rfl
theorem least_len {xs ys : List Int} (hl : ys.length = xs.length) : (least xs ys).length = xs.length := by unfold least; simp [hl]
theorem off_len (xs ys : List Int) : (off xs ys).length ≤ xs.length + 1 := by unfold off rg; simp; omega
theorem isNon_with (o : Option (Nat × Nat)) : isNon (withD o) = o.isNone := by
  cases o with
  | none => rfl
  | some p => rfl
section
variable {K : PySem.W.Frag} {Γ : Gm} {sp : Sp} {P : Program} {w : World} {mg : Str → Option Value} {base : Heap}
def pr_told (ds : List D) (d : D) : Prop := ∃ xs ys zs, C3 xs ys zs ∧ ds = [tupI xs, tupI ys, tupI zs] ∧ d = .bl true
theorem ok_told (ds : List D) (d : D) (h : pr_told ds d) : Xs K (t__law_told K (spF K (pr_same 3)) (spF K pr_least) (spF K pr_behind) (spF K pr_behind) (spF K pr_off) (spF K pr_off) (spF K pr_closed) (spF K pr_closed) (spF K pr_is_closed) (spF K pr_within) (spF K pr_within)
    (spF K pr_gap) (spF K pr_gap) (spF K pr_wait) (spF K pr_wait) (spF K pr_behind) (spF K pr_serves) (spF K pr_bounds) (spF K pr_off) (spF K pr_left) (spF K pr_row) (spF K pr_shaped)) (startD nm__law_told ds) [] (Bf d) := by
  obtain ⟨xs, ys, zs, hc3, rfl, rfl⟩ := h
  have hc := hc3.1
  have hz := hc3.2.1
  have hzl := hc3.2.2
  have h1 := hc.1.pos
  have h2 := hc.1.top
  have hl := hc.2.2
  have hcz : C2 zs xs := ⟨hz, hc.1, by omega⟩
  have hbl := behind_len xs ys
  have hcl := closed_len xs hc.1.pos
  have hol := off_len xs ys
  -- the calls, wherever one and two stand
  have two : ∀ {G : Gm} {i j : Nat} {us vs : List Int}, G[i]? = some (some (tupI us)) → G[j]? = some (some (tupI vs)) → Ea K (tCons (tVar i) (tCons (tVar j) tNil)) G [tupI us, tupI vs] := fun h1 h2 => ea_cons (ed_var h1) (ea_cons (ed_var h2) ea_nil)
  have one : ∀ {G : Gm} {i : Nat} {us : List Int}, G[i]? = some (some (tupI us)) → Ea K (tCons (tVar i) tNil) G [tupI us] := fun h1 => ea_cons (ed_var h1) ea_nil
  apply xs_seq
  apply xs_no Vw.self
  · apply et_no
    · apply same_no (d := tupI (least xs ys)) _ (plain_tupI (by rw [least_len hl]; omega)) (by rw [dep_tupI]; decide)
      apply ea_cons (ed_call (two rfl rfl) ⟨xs, ys, hc, rfl, rfl⟩)
      refine ea_cons ?_ ea_nil
      rw [← least_rg hl]
      walk_at "ed"
      all_goals omega
    · apply same_no (d := tupI (behind xs ys)) _ (plain_tupI (by omega)) (by rw [dep_tupI]; decide)
      exact ea_cons (ed_call (two rfl rfl) ⟨xs, ys, hc, rfl, rfl⟩) (ea_cons (ed_call (two rfl rfl) ⟨xs, ys, hc, rfl, rfl⟩) ea_nil)
  apply xs_seq
  apply xs_no Vw.self
  · apply et_no
    · apply same_no (d := tupI (off xs ys)) _ (plain_tupI (by omega)) (by rw [dep_tupI]; decide)
      exact ea_cons (ed_call (two rfl rfl) ⟨xs, ys, hc, rfl, rfl⟩) (ea_cons (ed_call (two rfl rfl) ⟨xs, ys, hc, rfl, rfl⟩) ea_nil)
    · apply et_no
      · apply same_no (d := tupI (closedC xs)) _ (plain_tupI (by omega)) (by rw [dep_tupI]; decide)
        exact ea_cons (ed_call (one rfl) ⟨xs, hc.1, rfl, rfl⟩) (ea_cons (ed_call (one rfl) ⟨xs, hc.1, rfl, rfl⟩) ea_nil)
      · refine (et_test (ed_op (ed_call (one rfl) ⟨xs, hc.1, rfl, rfl⟩) (ed_op (ed_call (one rfl) ⟨xs, hc.1, rfl, rfl⟩) (ed_var rfl) ov_eqTI) ov_neB)).is ?_
        simp
  apply xs_seq
  apply xs_no Vw.self
  · apply et_no
    · apply same_no (d := withD (within xs ys)) _ (plain_withD _) (Nat.lt_of_le_of_lt (dep_withD _) (by decide))
      exact ea_cons (ed_call (two rfl rfl) ⟨xs, ys, hc, rfl, rfl⟩) (ea_cons (ed_call (two rfl rfl) ⟨xs, ys, hc, rfl, rfl⟩) ea_nil)
    · refine (et_test (ed_op (ed_op (ed_call (ea_cons (ed_var rfl) (ea_cons (ed_call (one rfl) ⟨ys, hc.2.1, rfl, rfl⟩) ea_nil)) ⟨xs, closedC ys, hc.closed, rfl, rfl⟩) ed_non ov_is) (ed_op (ed_call (two rfl rfl) ⟨xs, ys, hc, rfl, rfl⟩) ed_non ov_is) ov_neB)).is ?_
      rw [isNon_with, isNon_with]
      have := within_closed (cs := xs) hc.2.1 hl
      cases e1 : within xs (closedC ys) with
      | none => rw [this.mp e1]; rfl
      | some p =>
        cases e2 : within xs ys with
        | none => rw [this.mpr e2] at e1; cases e1
        | some q => rfl
  apply xs_seq
  apply xs_no Vw.self
  · apply et_no
    · apply same_no (d := pairD (gaps xs ys)) _ (plain_pair _) (by rw [dep_pair]; decide)
      exact ea_cons (ed_call (two rfl rfl) ⟨xs, ys, hc, rfl, rfl⟩) (ea_cons (ed_call (two rfl rfl) ⟨xs, ys, hc, rfl, rfl⟩) ea_nil)
    · apply same_no (d := waitD xs ys) _ (plain_wait _ _) (Nat.lt_of_le_of_lt (dep_wait _ _) (by decide))
      exact ea_cons (ed_call (two rfl rfl) ⟨xs, ys, hc, rfl, rfl⟩) (ea_cons (ed_call (two rfl rfl) ⟨xs, ys, hc, rfl, rfl⟩) ea_nil)
  apply xs_seq
  apply xs_no Vw.self
  · apply et_no
    · apply same_no (d := tupI (behind xs ys)) _ (plain_tupI (by omega)) (by rw [dep_tupI]; decide)
      exact ea_cons (ed_call (two rfl rfl) ⟨xs, ys, hc, rfl, rfl⟩) (ea_cons (ed_call (two rfl rfl) ⟨xs, ys, hc, rfl, rfl⟩) ea_nil)
    · exact et_test (ed_op (ed_call (ea_cons (ed_var rfl) (ea_cons (ed_call (two rfl rfl) ⟨xs, ys, hc, rfl, rfl⟩) (ea_cons (ed_var rfl) ea_nil))) ⟨xs, ys, hc, rfl, rfl⟩) ed_non ov_isn)
  apply xs_seq
  apply xs_par (x := .int (maxL (gaps xs ys))) (y := waitD xs ys) (eas_pure Vw.self (ea_cons (ed_op (ed_call (two rfl rfl) ⟨xs, ys, hc, rfl, rfl⟩) ed_int (ov_ixT rfl)) (ea_cons (ed_call (two rfl rfl) ⟨xs, ys, hc, rfl, rfl⟩) ea_nil)) (by simp [noLs, noL_wait]))
  apply xs_seq
  apply xs_no Vw.self
  · apply et_no
    · apply same_no (d := boundsD xs ys) _ (plain_bounds _ _) (by rw [dep_bounds]; decide)
      apply ea_cons (ed_call (two rfl rfl) ⟨xs, ys, hc, rfl, rfl⟩)
      exact ea_cons (ed_tup (ea_cons (ed_var rfl) (ea_cons (head_ed (ed_var rfl)) ea_nil)) (by simp)) ea_nil
    · apply same_no (d := tupI (off xs ys)) _ (plain_tupI (by omega)) (by rw [dep_tupI]; decide)
      exact ea_cons (ed_call (two rfl rfl) ⟨xs, ys, hc, rfl, rfl⟩) (ea_cons (ed_call (two rfl rfl) ⟨xs, ys, hc, rfl, rfl⟩) ea_nil)
  apply xs_seq
  apply xs_parM Vw.self (en_lst ea_nil (by simp)) rfl ed_int rfl
  intro p
  apply xs_seq
  apply xs_forD (il_range1 (n := xs.length) (eas_pure Vw.self (by walk_at "ed") rfl) (by omega) (by omega)) gt_nm
    (fun i => [some (tupI xs), some (tupI ys), some (tupI zs), none, none, some (.adr p), some (.int (far ys xs i)), none]) (fun i => [(p, .lst ((leftL ys xs i).map .int))]) (by exact ⟨rfl, rfl, rfl, rfl, rfl, trivial⟩) rfl
  · intro i d hd
    obtain ⟨hi, rfl⟩ := range_item hd
    have hi : i < xs.length := by simpa using hi
    refine ⟨rfl, _, rfl, ?_⟩
    apply xs_seq
    apply xs_set Vw.self (d := .int (far ys xs (i + 1)))
    · have : Ed K (tCB (bMax K) (tCons (tVar 6) (tCons (tOp oSub (tOp (rIx K) (tVar 1) (tVar 7)) (tOp (rIx K) (tVar 0) (tVar 7))) tNil))) [some (tupI xs), some (tupI ys), some (tupI zs), none, none, some (.adr p), some (.int (far ys xs i)), some (.int i)] (.int (max (far ys xs i) (gi ys i - gi xs i))) := by
        walk_at "ed"
        all_goals omega
      exact this
    · rfl
    apply xs_app (i := 5) (k := 0) rfl rfl Vw.self (d := .int (far ys xs (i + 1)))
    · walk_at "ed"
    · rfl
    · simp [leftL]
      omega
    · refine ⟨⟨rfl, rfl, rfl, rfl, rfl, trivial⟩, ?_⟩
      rw [← leftL_succ, List.map_append]
      rfl
  · simp only [List.length_map, List.length_range, Int.toNat_natCast]
    have hlf : (leftL ys xs xs.length).length = xs.length := by simp [leftL]
    have V : Vw [(p, .lst ((leftL ys xs xs.length).map .int))] [some (tupI xs), some (tupI ys), some (tupI zs), none, none, some (.adr p), some (.int (far ys xs xs.length)), none]
      [some (tupI xs), some (tupI ys), some (tupI zs), none, none, some (lstI (leftL ys xs xs.length)), some (.int (far ys xs xs.length)), none] := .keep (.keep (.keep (.keep (.keep (.adr 0 rfl Vw.self)))))
    apply xs_seq
    apply xs_no V
    · apply et_no
      · apply same_no (d := tupI (leftL ys xs xs.length)) _ (plain_tupI (by omega)) (by rw [dep_tupI]; decide)
        apply ea_cons (ed_call (two rfl rfl) ⟨ys, xs, ⟨hc.2.1, hc.1, by omega⟩, rfl, by rw [hl]⟩)
        exact ea_cons (ed_cb (ea_cons (ed_var rfl) ea_nil) cv_tupleL) ea_nil
      · apply same_no (d := tupI (behind (behind xs ys) zs)) _ (plain_tupI (by rw [behind_len]; omega)) (by rw [dep_tupI]; decide)
        apply ea_cons (ed_call (ea_cons (ed_tup (ea_cons (ed_var rfl) (ea_cons (ed_var rfl) (ea_cons (ed_var rfl) ea_nil))) (by simp)) ea_nil) ⟨xs, ys, zs, hc3, rfl, rfl⟩)
        exact ea_cons (ed_call (ea_cons (ed_call (two rfl rfl) ⟨xs, ys, hc, rfl, rfl⟩) (ea_cons (ed_var rfl) ea_nil)) ⟨behind xs ys, zs, ⟨hc.behind, hz, by omega⟩, rfl, rfl⟩) ea_nil
    · apply xs_ret Vw.self _ rfl
      apply same_yes (d := tupI (behind zs (closedC xs))) _ (plain_tupI (by rw [behind_len]; omega)) (by rw [dep_tupI]; decide)
      have hcl2 : ∀ {G : Gm} {i j : Nat}, G[i]? = some (some (tupI zs)) → G[j]? = some (some (tupI xs)) → Ea K (tCons (tVar i) (tCons (tCall (spF K pr_closed) [] E0 (tCons (tVar j) tNil)) tNil)) G [tupI zs, tupI (closedC xs)] := fun a b => ea_cons (ed_var a) (ea_cons (ed_call (one b) ⟨xs, hc.1, rfl, rfl⟩) ea_nil)
      exact ea_cons (ed_call (hcl2 rfl rfl) ⟨zs, xs, hcz, rfl, rfl⟩) (ea_cons (ed_call (hcl2 rfl rfl) ⟨zs, closedC xs, hcz.closed, rfl, rfl⟩) ea_nil)
end
end K04

/-! k04: the law. -/
namespace K04
open PySem PySem.Spec PyProof.Rows L2 Q
local macro_rules | `(tactic| walk_at "e1") => `(tactic| with_reducible first
  | exact ed_int | exact ed_bl | exact ed_str | exact ed_non | exact ed_ty | exact ea_nil | exact et_yes | exact eo_none
  | (apply ed_var; with_unfolding_all rfl)
  | apply ea_cons
  | apply ed_op | apply ed_cb | apply ed_un | apply eo_some | apply et_test | apply et_B | apply ed_notV | apply et_not | apply ed_tup
  | exact ov_addI | exact ov_subI | exact ov_ltI | exact ov_leI | exact ov_gtI | exact ov_geI | exact ov_eqI | exact ov_neI | exact ov_is | exact ov_isn | exact uv_neg
  | exact cv_lenTI | exact cv_lenLI | exact cv_min2 | exact cv_max2 | exact cv_intI | exact cv_tupleL | exact cv_all
  | apply ov_ixTI | apply ov_ixLI | apply cv_minL | apply cv_maxL | apply ov_mulI
  | (apply En.ed; apply en_lcRI) | (apply En.ed; apply en_lcR2I) | (intro kk hkk) | decide)
local macro_rules | `(tactic| walk_at "ed") => `(tactic| repeat' walk_at "e1")
theorem diffs_nonneg {xs : List Int} (h : Cur xs) : ∀ n ∈ diffs xs, 0 ≤ n := by
  intro n hn
  rw [← diffs_law] at hn
  obtain ⟨k, hk, rfl⟩ := List.mem_map.mp hn
  have hk := List.mem_range.mp hk
  have := h.mono k (k + 1) (by omega) (by omega) (by omega)
  omega
theorem sort_nonneg {ns : List Int} (h : ∀ n ∈ ns, 0 ≤ n) : ∀ n ∈ sortI ns, 0 ≤ n := fun n hn => h n ((sortI_perm ns).subset hn)
theorem sort_len (ns : List Int) : (sortI ns).length = ns.length := (sortI_perm ns).length_eq
theorem plain_turn (ys : List Int) (n : Int) : plainD (turnD ys n) = true := by
  unfold turnD
  split <;> rfl
theorem dep_turn (ys : List Int) (n : Int) : depD (turnD ys n) = 0 := by
  unfold turnD
  split <;> rfl
theorem plainDs_map {α : Type} {f : α → D} (h : ∀ a, plainD (f a) = true) : ∀ xs : List α, plainDs (xs.map f) = true
  | [] => rfl
  | x :: xs => by simp [plainDs, h, plainDs_map h xs]
theorem depDs_map {α : Type} {f : α → D} {n : Nat} (h : ∀ a, depD (f a) ≤ n) : ∀ xs : List α, depDs (xs.map f) ≤ n
  | [] => Nat.zero_le _
  | x :: xs => by
    have h1 := h x
    have h2 := depDs_map h xs
    rw [List.map_cons, depDs]
    exact Nat.max_le.mpr ⟨h1, h2⟩
section
variable {K : PySem.W.Frag} {Γ : Gm} {sp : Sp} {P : Program} {w : World} {mg : Str → Option Value} {base : Heap}
def u_law (K : PySem.W.Frag) (sp__law_pick : Sp) (sp__law_some : Sp) (sp__law_told : Sp) (sp__law_draw : Sp) (sp__law_same : Sp) (sp_bucket : Sp) (sp_late_rate : Sp) (sp_turned : Sp) (sp__law_steps : Sp) (sp__law_sums : Sp) (sp_merged_steps : Sp) (sp__law_behind : Sp) (sp_is_steep_more : Sp) (sp_is_steep_less : Sp) : TS :=
  (tSeq (tFor (iSeq K (tLst (tCons (tCall sp__law_pick [] E0 (tCons (tVar 1) (tCons (tLst (tCons (tC (.int 1)) (tCons (tC (.int 2)) (tCons (tC (.int 21)) (tCons (tC (.int 60)) tNil))))) tNil))) (tCons (tCall sp__law_pick [] E0 (tCons (tVar 1) (tCons (tLst (tCons (tC (.int 61)) (tCons (tC (.int 120)) (tCons (tC (.int 199)) (tCons (tC (.int 200)) tNil))))) tNil))) tNil)))) (gName 2) (tSeq (tAsg (tLc (iRng1 (tCons (tC (.int 3)) tNil)) (gName 14) tYes (tCall sp__law_some [] E0 (tCons (tVar 1) (tCons (tVar 2) tNil))) [14]) (gSeq K 3 (gCons (gName 3) (gCons (gName 4) (gCons (gName 5) gNil))))) (tSeq (tIfS (tNot (tB (tCall sp__law_told [] E0 (tCons (tVar 3) (tCons (tVar 4) (tCons (tVar 5) tNil)))))) (tRet (tC (.bl false))) tNext) (tSeq (tAsg (tTup (tCons (tCall sp__law_draw [] E0 (tCons (tVar 1) (tCons (tC (.int 30)) tNil))) (tCons (tCall sp__law_draw [] E0 (tCons (tVar 1) (tCons (tC (.int 5)) tNil))) tNil))) (gSeq K 2 (gCons (gName 6) (gCons (gName 7) gNil)))) (tSeq (tIfS (tNot (tB (tCall sp__law_same [] E0 (tCons (tCall sp_bucket [] E0 (tCons (tVar 6) (tCons (tVar 7) (tCons (tVar 2) tNil)))) (tCons (tCB (bTuple K) (tCons (tOp (oAdd K) (tLst (tCons (tC (.int 0)) tNil)) (tLc (iRng2 (tCons (tC (.int 1)) (tCons (tVar 2) tNil))) (gName 14) tYes (tOp (oAdd K) (tVar 6) (tOp oMul (tVar 7) (tVar 14))) [14])) tNil)) tNil))))) (tRet (tC (.bl false))) tNext) (tSeq (tIfS (tNot (tB (tCall sp__law_same [] E0 (tCons (tCall sp_late_rate [] E0 (tCons (tVar 6) (tCons (tVar 7) (tCons (tVar 2) tNil)))) (tCons (tCB (bTuple K) (tCons (tLc (iRng1 (tCons (tVar 2) tNil)) (gName 14) tYes (tOp oMul (tVar 7) (tCB (bMax K) (tCons (tOp oSub (tVar 14) (tVar 6)) (tCons (tC (.int 0)) tNil)))) [14]) tNil)) tNil))))) (tRet (tC (.bl false))) tNext) (tSeq (tAsg (tCall sp__law_pick [] E0 (tCons (tVar 1) (tCons (tLst (tCons (tC (.int 0)) (tCons (tC (.int 5)) (tCons (tOp (rIx K) (tVar 3) (tUn uNeg (tC (.int 1)))) (tCons (tOp (oAdd K) (tOp (rIx K) (tVar 3) (tUn uNeg (tC (.int 1)))) (tC (.int 3))) tNil))))) tNil))) (gName 8)) (tSeq (tAsg (tLc (iRng1 (tCons (tOp (oAdd K) (tVar 8) (tC (.int 1))) tNil)) (gName 15) tYes (tOp (rIx K) (tOp (oAdd K) (tLc (iRng1 (tCons (tVar 2) tNil)) (gName 14) (tTest (tOp oGe (tOp (rIx K) (tVar 3) (tVar 14)) (tVar 15))) (tVar 14) [14]) (tLst (tCons (tC .non) tNil))) (tC (.int 0))) [15]) (gName 9)) (tSeq (tIfS (tNot (tB (tCall sp__law_same [] E0 (tCons (tCall sp_turned [] E0 (tCons (tVar 3) (tCons (tVar 8) tNil))) (tCons (tCB (bTuple K) (tCons (tVar 9) tNil)) tNil))))) (tRet (tC (.bl false))) tNext) (tSeq (tPar 10 11 (tCons (tCB (rSortedI K) (tCons (tCall sp__law_steps [] E0 (tCons (tVar 3) tNil)) tNil)) (tCons (tCB (rSortedI K) (tCons (tCall sp__law_steps [] E0 (tCons (tVar 4) tNil)) tNil)) tNil))) (tSeq (tPar 12 13 (tCons (tCall sp__law_sums [] E0 (tCons (tVar 10) tNil)) (tCons (tCall sp__law_sums [] E0 (tCons (tVar 11) tNil)) tNil))) (tSeq (tIfS (tOr (tNot (tB (tCall sp__law_same [] E0 (tCons (tCall sp_merged_steps [] E0 (tCons (tVar 12) (tCons (tVar 13) tNil))) (tCons (tCall sp__law_sums [] E0 (tCons (tSl (oSl K) (tCB (rSortedI K) (tCons (tOp (oAdd K) (tVar 10) (tVar 11)) tNil)) tNoPart (tPart (tOp oSub (tVar 2) (tC (.int 1))))) tNil)) tNil))))) (tNot (tB (tCall sp__law_same [] E0 (tCons (tCall sp__law_behind [] E0 (tCons (tVar 12) (tCons (tVar 13) tNil))) (tCons (tCall sp_merged_steps [] E0 (tCons (tVar 12) (tCons (tVar 13) tNil))) tNil)))))) (tRet (tC (.bl false))) tNext) (tIfS (tOr (tTest (tOp (oNe K) (tCall sp_is_steep_more [] E0 (tCons (tVar 3) tNil)) (tOp (oEq K) (tVar 10) (tCall sp__law_steps [] E0 (tCons (tVar 3) tNil))))) (tTest (tOp (oNe K) (tCall sp_is_steep_less [] E0 (tCons (tVar 3) tNil)) (tOp (oEq K) (tRevL K (tVar 10)) (tCall sp__law_steps [] E0 (tCons (tVar 3) tNil)))))) (tRet (tC (.bl false))) tNext))))))))))))) (tRet (tC (.bl true))))
theorem getD_in {row : List Int} {lo hi : Int} (h : ∀ n ∈ row, lo ≤ n ∧ n ≤ hi) {j : Nat} (hj : j < row.length) : lo ≤ row.getD j 0 ∧ row.getD j 0 ≤ hi := by
  rw [List.getD_eq_getElem?_getD, List.getElem?_eq_getElem hj]
  exact h _ (List.getElem_mem hj)
/-- what a turn of the law's loop leaves -/
abbrev R04 (p : Addr) (Γ : Gm) (M : Mem) : Prop := ∃ s : Dr, s.Ok ∧ Γ = none :: some (.adr p) :: List.replicate 14 none ∧ M = [(p, .lst s.ds)]
def step3 (n : Nat) (s : Dr) : Nat → Dr
  | 0 => s
  | i + 1 => someS (step3 n s i) n
theorem step3_ok {n : Nat} {s : Dr} (h : s.Ok) : ∀ i, (step3 n s i).Ok
  | 0 => h
  | i + 1 => some_ok (step3_ok h i)
theorem last_ix {xs : List Int} {n : Nat} (h1 : 1 ≤ n) (hl : xs.length = n) : atI (xs.map D.int) (-1) = some (.int (gi xs ((n : Int) - 1))) := by
  have hne : xs ≠ [] := ne_of_len (by omega)
  have e : xs = xs.dropLast ++ [xs.getLast hne] := (List.dropLast_concat_getLast hne).symm
  have e2 : gi xs ((n : Int) - 1) = xs.getLast hne := by
    rw [show ((n : Int) - 1) = ((n - 1 : Nat) : Int) by omega, gi_nat, List.getLast_eq_getElem, List.getD_eq_getElem?_getD, List.getElem?_eq_getElem (by omega)]
    simp [hl]
  rw [e2]
  conv => lhs; rw [e]
  rw [List.map_append]
  exact atI_last _ _
theorem ok_law (ns : List Int) (p : Addr) : Xs K (u_law K (spM K pr_pick) (spM K pr_some) (spF K pr_told) (spM K pr_draw) (spF K (pr_same 3)) (spF K pr_bucket) (spF K pr_late) (spF K pr_turned) (spL K pr_steps) (spF K pr_sums) (spF K pr_merged) (spF K pr_behind) (spF K pr_more) (spF K pr_less)) (none :: some (.adr p) :: List.replicate 14 none) [(p, .lst (Dr.init ns).ds)] Bt1 := by
  have h0 := Dr.init_ok ns
  generalize Dr.init ns = s at *
  have lo0 := Dr.get_lo (s := s) (L := 4) (by decide)
  have hi0 := Dr.get_hi (s := s) (L := 4) (by decide)
  have lo1 := Dr.get_lo (s := s.next 4) (L := 4) (by decide)
  have hi1 := Dr.get_hi (s := s.next 4) (L := 4) (by decide)
  have h1 := Dr.next_ok h0 (L := 4) (by decide)
  have h2 := Dr.next_ok h1 (L := 4) (by decide)
  have z0 := getD_in (row := [1, 2, 21, 60]) (lo := 1) (hi := 200) (by decide) (j := (s.get 4).toNat) (by show _ < 4; omega)
  have z1 := getD_in (row := [61, 120, 199, 200]) (lo := 1) (hi := 200) (by decide) (j := ((s.next 4).get 4).toNat) (by show _ < 4; omega)
  apply xs_seq
  apply xs_for (its := [.int (([1, 2, 21, 60] : List Int).getD (s.get 4).toNat 0), .int (([61, 120, 199, 200] : List Int).getD ((s.next 4).get 4).toNat 0)])
    (il_L (es_lst (eas_cons (es_pickI (k := 0) (row := [1, 2, 21, 60]) rfl rfl h0 (by decide) (by decide) (es_new Vw.self (en_lst (by show Ea K _ _ [.int 1, .int 2, .int 21, .int 60]; walk_at "ed") (by decide)) rfl)) (eas_cons (es_pickI (k := 0) (row := [61, 120, 199, 200]) rfl rfl h1 (by decide) (by decide) (es_new Vw.self (en_lst (by show Ea K _ _ [.int 61, .int 120, .int 199, .int 200]; walk_at "ed") (by decide)) rfl)) eas_nil)) (by simp)))
    gt_nm (fun _ => R04 p) (by exact ⟨_, Le.refl _, (s.next 4).next 4, h2, rfl, rfl⟩)
  · intro i d Γ' M' hd ⟨s, hs, eΓ, eM⟩
    subst eΓ
    subst eM
    obtain ⟨m, hm1, hm2, rfl⟩ : ∃ m : Int, 1 ≤ m ∧ m ≤ 200 ∧ d = .int m := by
      match i, hd with
      | 0, hd =>
        cases hd
        exact ⟨_, z0.1, z0.2, rfl⟩
      | 1, hd =>
        cases hd
        exact ⟨_, z1.1, z1.2, rfl⟩
      | i + 2, hd => cases hd
    clear hd z0 z1 h0 h1 h2 lo0 hi0 lo1 hi1
    obtain ⟨n, rfl⟩ := Int.eq_ofNat_of_zero_le (show 0 ≤ m by omega)
    have hn1 : 1 ≤ n := by omega
    have hn2 : n ≤ 200 := by omega
    clear hm1 hm2
    refine ⟨rfl, _, rfl, ?_⟩
    apply xs_seq
    apply xs_asgL (M' := [(p, .lst (step3 n s 3).ds)]) (ds := (List.range 3).map fun i => tupI (someL (step3 n s i) n)) (Ts := [.nm 3, .nm 4, .nm 5])
      (es_lc (M1 := [(p, .lst s.ds)]) (il_range1 (n := 3) (eas_pure Vw.self (by walk_at "ed") rfl) (by decide) (by decide)) (n := 3) rfl (by decide) gt_nm (by decide) (fun i => [(p, .lst (step3 n s i).ds)]) (fun i => tupI (someL (step3 n s i) n)) rfl _) (gts_cons gt_nm (gts_cons gt_nm (gts_cons gt_nm gts_nil))) rfl rfl
    rotate_left
    · intro i d hd
      obtain ⟨hi, rfl⟩ := range_item hd
      refine ⟨rfl, _, rfl, fun f => ?_⟩
      exact es_callM (k := 1) (ds := [.adr p, .int n]) (eas_cons (es_var rfl) (eas_cons (es_var rfl) eas_nil)) rfl ⟨step3 n s i, n, step3_ok hs i, hn1, hn2, rfl, rfl, rfl, rfl⟩
    have hs1 := step3_ok (n := n) hs 3
    have c1 : Cur (someL s n) := some_cur hn1 hn2
    have c2 : Cur (someL (step3 n s 1) n) := some_cur hn1 hn2
    have c3 : Cur (someL (step3 n s 2) n) := some_cur hn1 hn2
    have l1 : (someL s n).length = n := some_len hn1
    have l2 : (someL (step3 n s 1) n).length = n := some_len hn1
    have l3 : (someL (step3 n s 2) n).length = n := some_len hn1
    have t1 := some_le (s := s) hn1 hn2
    have t0 : 0 ≤ gi (someL s n) ((n : Int) - 1) := by
      have := c1.mono 0 ((n : Int) - 1) (by omega) (by omega) (by omega)
      rw [c1.zero] at this
      exact this
    have e3 : ((List.range 3).map fun i => tupI (someL (step3 n s i) n)) = [tupI (someL s n), tupI (someL (step3 n s 1) n), tupI (someL (step3 n s 2) n)] := rfl
    show Xs K _ [none, some (.adr p), some (.int n), some (tupI (someL s n)), some (tupI (someL (step3 n s 1) n)), some (tupI (someL (step3 n s 2) n)), none, none, none, none, none, none, none, none, none, none] _ _
    generalize someL s n = one at *
    generalize someL (step3 n s 1) n = two at *
    generalize someL (step3 n s 2) n = three at *
    generalize step3 n s 3 = s at *
    clear e3 hs
    have c12 : C2 one two := ⟨c1, c2, by omega⟩
    apply xs_seq
    apply xs_no Vw.self
    · refine (et_not (et_B (ed_call (ea_cons (ed_var rfl) (ea_cons (ed_var rfl) (ea_cons (ed_var rfl) ea_nil))) ⟨one, two, three, ⟨c12, c3, by omega⟩, rfl, rfl⟩))).is rfl
    have a1 := Dr.get_lo (s := s) (L := 30) (by decide)
    have a2 := Dr.get_lo (s := s.next 30) (L := 5) (by decide)
    have b1 := Dr.get_hi (s := s) (L := 30) (by decide)
    have b2 := Dr.get_hi (s := s.next 30) (L := 5) (by decide)
    have hs2 := Dr.next_ok hs1 (L := 30) (by decide)
    have hs3 := Dr.next_ok hs2 (L := 5) (by decide)
    apply xs_seq
    apply xs_asgT (Ts := [.nm 6, .nm 7]) (es_tup (eas_cons (es_draw (k := 0) rfl rfl hs1 (by decide) (by decide)) (eas_cons (es_draw (k := 0) rfl rfl hs2 (by decide) (by decide)) eas_nil)) (by simp)) (gts_cons gt_nm (gts_cons gt_nm gts_nil)) rfl rfl
    show Xs K _ [none, some (.adr p), some (.int n), some (tupI one), some (tupI two), some (tupI three), some (.int (s.get 30)), some (.int ((s.next 30).get 5)), none, none, none, none, none, none, none, none] [(p, .lst ((s.next 30).next 5).ds)] _
    generalize s.get 30 = burst at *
    generalize (s.next 30).get 5 = rate at *
    generalize (s.next 30).next 5 = s at *
    clear hs1 hs2
    apply xs_seq
    apply xs_no Vw.self
    · apply same_no (d := tupI (bucketL burst rate n)) _ (plain_tupI (by rw [bucket_len hn1]; omega)) (by rw [dep_tupI]; decide)
      apply ea_cons (ed_call (ea_cons (ed_var rfl) (ea_cons (ed_var rfl) (ea_cons (ed_var rfl) ea_nil))) ⟨burst, rate, n, by omega, by omega, by omega, by omega, by omega, by omega, rfl, rfl⟩)
      refine ea_cons ?_ ea_nil
      apply Ed.is
      · apply ed_cb
        · apply ea_cons
          · apply En.ed
            apply en_op
            · exact ed_lst1 ed_int
            · walk_at "ed"
              all_goals first | omega | exact small_mul (by omega) (by omega)
            · apply on_addLI
              simp
              omega
          · exact ea_nil
        · exact cv_tupleL
      · rfl
    apply xs_seq
    apply xs_no Vw.self
    · apply same_no (d := tupI (lateL burst rate n)) _ (plain_tupI (by rw [← late_same, late_len]; omega)) (by rw [dep_tupI]; decide)
      apply ea_cons (ed_call (ea_cons (ed_var rfl) (ea_cons (ed_var rfl) (ea_cons (ed_var rfl) ea_nil))) ⟨burst, rate, n, by omega, by omega, by omega, by omega, by omega, by omega, rfl, rfl⟩)
      refine ea_cons ?_ ea_nil
      rw [← late_same]
      apply Ed.is
      · walk_at "ed"
        all_goals first | omega | exact small_mul (by omega) (by omega)
      · rfl
    -- most
    have lo := Dr.get_lo (s := s) (L := 4) (by decide)
    have hi := Dr.get_hi (s := s) (L := 4) (by decide)
    have zm := getD_in (row := [0, 5, gi one ((n : Int) - 1), gi one ((n : Int) - 1) + 3]) (lo := 0) (hi := 3000) (by intro m hm; simp at hm; omega) (j := (s.get 4).toNat) (by show _ < 4; omega)
    have hs4 := Dr.next_ok hs3 (L := 4) (by decide)
    have hlast : ∀ {G : Gm}, G[3]? = some (some (tupI one)) → Ed K (tOp (rIx K) (tVar 3) (tUn uNeg (tC (.int 1)))) G (.int (gi one ((n : Int) - 1))) := fun h => ed_op (ed_var h) (ed_un ed_int uv_neg) (ov_ixT (last_ix hn1 l1))
    apply xs_seq
    apply xs_setS (es_pickI (k := 0) (row := [0, 5, gi one ((n : Int) - 1), gi one ((n : Int) - 1) + 3]) rfl rfl hs3 (by simp) (by simp) (es_new Vw.self (en_lst (ea_cons ed_int (ea_cons ed_int (ea_cons (hlast rfl) (ea_cons (ed_op (hlast rfl) ed_int ov_addI) ea_nil)))) (by simp)) rfl))
    show Xs K _ [none, some (.adr p), some (.int n), some (tupI one), some (tupI two), some (tupI three), some (.int burst), some (.int rate), some (.int (([0, 5, gi one ((n : Int) - 1), gi one ((n : Int) - 1) + 3] : List Int).getD (s.get 4).toNat 0)), none, none, none, none, none, none, none] [(p, .lst (s.next 4).ds)] _
    generalize ([0, 5, gi one ((n : Int) - 1), gi one ((n : Int) - 1) + 3] : List Int).getD (s.get 4).toNat 0 = most at *
    generalize s.next 4 = s at *
    apply xs_seq
    apply xs_setN Vw.self (ds := turnL one most)
    · apply en_lcR (n := most + 1) (u := fun k => turnD one k) _ (by omega) (by omega) (by decide)
      · intro k hk
        refine ⟨?_, noL_turn _ _⟩
        have hg : (goods one k).length ≤ 200 := by
          unfold goods
          rw [List.length_map]
          refine Nat.le_trans (List.length_filter_le _ _) ?_
          simp
          omega
        apply ed_op (x := .lst ((goods one k).map .int ++ [.non])) _ ed_int
        · apply ov_ixL
          unfold turnD
          cases e : goods one k with
          | nil => rfl
          | cons g r =>
            rw [if_neg (by simp)]
            exact atI_nat (j := 0) rfl
        · apply En.ed
          apply en_op (x := lstI (goods one k)) (y := .lst [.non])
          · have e : ((List.range (n : Int).toNat).filter fun (j : Nat) => decide ((k : Int) ≤ gi one j)).map (fun (j : Nat) => (j : Int)) = goods one k := by
              unfold goods rg
              rw [l1]
            have e2 : lstI (goods one k) = .lst ((((List.range (n : Int).toNat).filter fun (j : Nat) => decide ((k : Int) ≤ gi one j)).map (fun (j : Nat) => (j : Int))).map .int) := by rw [e]
            rw [e2]
            apply En.ed
            apply en_lcRIfI (n := n) _ (by decide) (by omega) (by omega)
            · intro j hj
              refine ⟨?_, fun _ => ?_⟩
              · walk_at "ed"
                all_goals omega
              · walk_at "ed"
            · walk_at "ed"
          · exact En.ed (en_lst (ea_cons ed_non ea_nil) (by simp))
          · exact on_addL (by simp; omega)
      · walk_at "ed"
    · exact noLs_turn _ _
    apply xs_seq
    apply xs_no Vw.self
    · have ht : (turnL one most).length ≤ 100000 := by
        unfold turnL rg
        simp
        omega
      apply same_no (d := .tup (turnL one most)) _ (by simp only [plainD, Bool.and_eq_true]; exact ⟨plainDs_map (fun _ => plain_turn _ _) _, decide_eq_true ht⟩) (by simp only [depD]; exact Nat.lt_of_le_of_lt (Nat.succ_le_succ (depDs_map (n := 0) (fun _ => Nat.le_of_eq (dep_turn _ _)) _)) (by decide))
      apply ea_cons (ed_call (ea_cons (ed_var rfl) (ea_cons (ed_var rfl) ea_nil)) ⟨one, most, c1, zm.1, by omega, rfl, rfl⟩)
      exact ea_cons (ed_cb (ea_cons (ed_var rfl) ea_nil) cv_tupleL) ea_nil
    -- the steps
    have d1 := diffs_len one
    have d2 := diffs_len two
    have hst : ∀ {G : Gm} {i : Nat} {us : List Int}, Cur us → G[i]? = some (some (tupI us)) → En K (tCall (spL K pr_steps) [] E0 (tCons (tVar i) tNil)) G ((diffs us).map .int) := fun hc h => en_call (ea_cons (ed_var h) ea_nil) ⟨_, hc, rfl, rfl⟩
    apply xs_seq
    apply xs_par (x := lstI (sortI (diffs one))) (y := lstI (sortI (diffs two))) (eas_cons (es_new Vw.self (en_cb (ea_cons (hst c1 rfl).ed ea_nil) cn_sorted) (noLs_map fun _ _ => rfl)) (eas_cons (es_new Vw.self (en_cb (ea_cons (hst c2 rfl).ed ea_nil) cn_sorted) (noLs_map fun _ _ => rfl)) eas_nil))
    have k1 := sort_len (diffs one)
    have k2 := sort_len (diffs two)
    have p1 := sort_nonneg (diffs_nonneg c1)
    have p2 := sort_nonneg (diffs_nonneg c2)
    have q1 := sortI_le (diffs one)
    have q2 := sortI_le (diffs two)
    apply xs_seq
    apply xs_par (x := tupI (sums (sortI (diffs one)))) (y := tupI (sums (sortI (diffs two)))) (eas_pure Vw.self (ea_cons (ed_call (ea_cons (ed_var rfl) ea_nil) ⟨sortI (diffs one), by omega, rfl, rfl⟩) (ea_cons (ed_call (ea_cons (ed_var rfl) ea_nil) ⟨sortI (diffs two), by omega, rfl, rfl⟩) ea_nil)) (by simp))
    have u1 := sums_cur p1 (by omega)
    have u2 := sums_cur p2 (by omega)
    have hm := behind_merged q1 q2 (by omega)
    have hml : (sums ((sortI (sortI (diffs one) ++ sortI (diffs two))).take (sortI (diffs one)).length)).length ≤ 1000 := by
      rw [sums_len, List.length_take]
      omega
    have hmg : ∀ {G : Gm}, G[12]? = some (some (tupI (sums (sortI (diffs one))))) → G[13]? = some (some (tupI (sums (sortI (diffs two))))) → Ed K (tCall (spF K pr_merged) [] E0 (tCons (tVar 12) (tCons (tVar 13) tNil))) G (tupI (sums ((sortI (sortI (diffs one) ++ sortI (diffs two))).take (sortI (diffs one)).length))) := fun h1 h2 =>
      ed_call (ea_cons (ed_var h1) (ea_cons (ed_var h2) ea_nil)) ⟨_, _, by omega, by omega, rfl, rfl⟩
    apply xs_seq
    apply xs_no Vw.self
    · apply et_no
      · apply same_no (d := tupI (sums ((sortI (sortI (diffs one) ++ sortI (diffs two))).take (sortI (diffs one)).length))) _ (plain_tupI (by omega)) (by rw [dep_tupI]; decide)
        apply ea_cons (hmg rfl rfl)
        refine ea_cons (ed_call (ds := [lstI ((sortI (sortI (diffs one) ++ sortI (diffs two))).take ((n : Int) - 1).toNat)]) (ea_cons (En.ed (en_sl (En.ed (en_cb (ea_cons (En.ed (en_op (ed_var rfl) (ed_var rfl) (on_addLI (by omega)))) ea_nil) cn_sorted)) eo_none (eo_some (ed_op (ed_var rfl) ed_int ov_subI)) (sn_take (by omega)))) ea_nil) ⟨_, by rw [List.length_take]; omega, rfl, ?_⟩) ea_nil
        rw [show ((n : Int) - 1).toNat = (sortI (diffs one)).length by omega]
      · apply same_no (d := tupI (sums ((sortI (sortI (diffs one) ++ sortI (diffs two))).take (sortI (diffs one)).length))) _ (plain_tupI (by omega)) (by rw [dep_tupI]; decide)
        exact ea_cons (ed_call (ea_cons (ed_var rfl) (ea_cons (ed_var rfl) ea_nil)) ⟨_, _, ⟨u1, u2, by rw [sums_len, sums_len]; omega⟩, rfl, by rw [hm]⟩) (ea_cons (hmg rfl rfl) ea_nil)
    apply xs_no Vw.self
    · apply et_no
      · refine (et_test (ed_op (ed_call (ea_cons (ed_var rfl) ea_nil) ⟨one, c1, rfl, rfl⟩) (ed_op (ed_var rfl) (hst c1 rfl).ed ov_eqLI) ov_neB)).is ?_
        simp
      · refine (et_test (ed_op (ed_call (ea_cons (ed_var rfl) ea_nil) ⟨one, c1, rfl, rfl⟩) (ed_op (En.ed (ds := (sortI (diffs one)).reverse.map .int) ((en_rev (ed_var rfl)).is (by rw [List.map_reverse]))) (hst c1 rfl).ed ov_eqLI) ov_neB)).is ?_
        simp
    · refine ⟨_, ?_, s, hs4, rfl, rfl⟩
      exact ⟨rfl, trivial⟩
  · intro Γ' M' h
    exact xs_ret Vw.self ed_bl rfl
end
end K04

/-! Printed by asm.py: all promises joined; the row. -/
namespace K04
open PySem PySem.Spec PyProof.Rows L2 Q
theorem all_mk {l : PySem.W.OpenLaw} {w : World} {K : PySem.W.Frag} {h : Heap} {mg : Str → Option Value} {fa : Addr} (X : K.In h) (Gn : h.Ns mainGlobals mg) (hfa : mg "law" = some (.ref fa)) (n_is_integer : Dn K "is_integer" "is_integer" s_is_integer) (n_is_curve : Dn K "is_curve" "is_curve" s_is_curve) (n_look_at_curves : Dn K "look_at_curves" "look_at_curves" s_look_at_curves) (n_bucket : Dn K "bucket" "bucket" s_bucket) (n_late_rate : Dn K "late_rate" "late_rate" s_late_rate) (n_least_of : Dn K "least_of" "least_of" s_least_of) (n_put_behind : Dn K "put_behind" "put_behind" s_put_behind) (n_put_off : Dn K "put_off" "put_off" s_put_off) (n_closed : Dn K "closed" "closed" s_closed) (n_is_closed : Dn K "is_closed" "is_closed" s_is_closed) (n_keeps_within : Dn K "keeps_within" "keeps_within" s_keeps_within) (n_greatest_gap : Dn K "greatest_gap" "greatest_gap" s_greatest_gap) (n_greatest_wait : Dn K "greatest_wait" "greatest_wait" s_greatest_wait) (n_turned : Dn K "turned" "turned" s_turned) (n_is_steep_less : Dn K "is_steep_less" "is_steep_less" s_is_steep_less) (n_is_steep_more : Dn K "is_steep_more" "is_steep_more" s_is_steep_more) (n_merged_steps : Dn K "merged_steps" "merged_steps" s_merged_steps) (n_least_done : Dn K "least_done" "least_done" s_least_done) (n_serves : Dn K "serves" "serves" s_serves) (n_bounds : Dn K "bounds" "bounds" s_bounds) (n_out_bound : Dn K "out_bound" "out_bound" s_out_bound) (n_left_over : Dn K "left_over" "left_over" s_left_over) (n_in_a_row : Dn K "in_a_row" "in_a_row" s_in_a_row) (n_shaped : Dn K "shaped" "shaped" s_shaped) (n__law_draws : Dn K "_law_draws" "_law_draws" s__law_draws) (n__law_draw : Dn K "_law_draw" "_law_draw" s__law_draw) (n__law_same : Dn K "_law_same" "_law_same" s__law_same) (n__law_pick : Dn K "_law_pick" "_law_pick" s__law_pick) (n__law_curve : Dn K "_law_curve" "_law_curve" s__law_curve) (n__law_some : Dn K "_law_some" "_law_some" s__law_some) (n__law_behind : Dn K "_law_behind" "_law_behind" s__law_behind) (n__law_off : Dn K "_law_off" "_law_off" s__law_off) (n__law_closed : Dn K "_law_closed" "_law_closed" s__law_closed) (n__law_within : Dn K "_law_within" "_law_within" s__law_within) (n__law_gap : Dn K "_law_gap" "_law_gap" s__law_gap) (n__law_wait : Dn K "_law_wait" "_law_wait" s__law_wait) (n__law_steps : Dn K "_law_steps" "_law_steps" s__law_steps) (n__law_sums : Dn K "_law_sums" "_law_sums" s__law_sums) (n__law_told : Dn K "_law_told" "_law_told" s__law_told) (n_law : Dn K "law" "law" s_law) (z_isinstance : PySem.W.nsIn K mainGlobals "isinstance" = some none) (z_int : PySem.W.nsIn K mainGlobals "int" = some none) (z_bool : PySem.W.nsIn K mainGlobals "bool" = some none) (z_tuple : PySem.W.nsIn K mainGlobals "tuple" = some none) (z_len : PySem.W.nsIn K mainGlobals "len" = some none) (z_all : PySem.W.nsIn K mainGlobals "all" = some none) (z_zip : PySem.W.nsIn K mainGlobals "zip" = some none) (z_range : PySem.W.nsIn K mainGlobals "range" = some none) (z_max : PySem.W.nsIn K mainGlobals "max" = some none) (z_min : PySem.W.nsIn K mainGlobals "min" = some none) (z_list : PySem.W.nsIn K mainGlobals "list" = some none) (z_enumerate : PySem.W.nsIn K mainGlobals "enumerate" = some none) (z_sorted : PySem.W.nsIn K mainGlobals "sorted" = some none) (z_str : PySem.W.nsIn K mainGlobals "str" = some none) {tk_MOST_STEPS : PySem.Tok} (k_MOST_STEPS : PySem.W.nsIn K mainGlobals "MOST_STEPS" = some (some (.int 200 tk_MOST_STEPS))) :
    ∃ fd : FuncData, (∀ (s : Shared) (v : Value), BindsTo s fd ⟨[v], []⟩ [("script", v)]) ∧ ∀ base : Heap, K.In base → base.Ns mainGlobals mg → FnOk l.prog w K mg base (L2.CX l.prog w) 8 fa fd ["script"] (spLaw K) := by
  obtain ⟨f, oc, od, sl, kV, dc, pm, cd, ct, an, a, lk, c, kp⟩ := n_law.ex
  have e := hfa.symm.trans (PySem.W.mg_of X Gn a)
  cases e
  refine ⟨PySem.W.fnOf "law" "law" (defArgs s_law) (defBody s_law) (defScope s_law) .none kV dc pm an cd ct, fun s v => .of_eq rfl, fun base _ _ => ?_⟩
  have G : Bt mg := ⟨PySem.W.mg_none_of X Gn z_isinstance, PySem.W.mg_none_of X Gn z_int, PySem.W.mg_none_of X Gn z_bool, PySem.W.mg_none_of X Gn z_tuple, PySem.W.mg_none_of X Gn z_len, PySem.W.mg_none_of X Gn z_all, PySem.W.mg_none_of X Gn z_zip, PySem.W.mg_none_of X Gn z_range, PySem.W.mg_none_of X Gn z_max, PySem.W.mg_none_of X Gn z_min, PySem.W.mg_none_of X Gn z_list, PySem.W.mg_none_of X Gn z_enumerate, PySem.W.mg_none_of X Gn z_sorted, PySem.W.mg_none_of X Gn z_str, ⟨_, PySem.W.mg_of X Gn k_MOST_STEPS⟩⟩
  have D_is_integer : Df K mg "is_integer" "is_integer" s_is_integer ["value"] := n_is_integer.df X Gn fun _ _ _ _ _ _ us hl => match us, hl with | [_], _ => rfl
  have c_is_integer : Cal l.prog w K mg base 1 "is_integer" (spF K pr_is_integer) := by
    obtain ⟨f, fd, F, bd, g⟩ := D_is_integer.ex
    exact cal_of F (fn_F F sc_is_integer (b_is_integer (lv := 0) G) (fun ds d h => by obtain ⟨_, rfl, _⟩ := h; rfl) ok_is_integer) bd g
  have D_is_curve : Df K mg "is_curve" "is_curve" s_is_curve ["value"] := n_is_curve.df X Gn fun _ _ _ _ _ _ us hl => match us, hl with | [_], _ => rfl
  have c_is_curve : Cal l.prog w K mg base 2 "is_curve" (spF K pr_is_curve) := by
    obtain ⟨f, fd, F, bd, g⟩ := D_is_curve.ex
    exact cal_of F (fn_F F sc_is_curve (b_is_curve (lv := 1) G (c_is_integer.up (by decide))) (fun ds d h => by obtain ⟨_, _, rfl, _⟩ := h; rfl) ok_is_curve) bd g
  have c_look_at_curves : Cal l.prog w K mg base 3 "look_at_curves" (spF K pr_look) := by
    obtain ⟨f, oc, od, sl, kV, dc, pm, cd, ct, an, a, lk, c, kp⟩ := n_look_at_curves.ex
    exact ⟨f, fn_S lk c sc_look_at_curves (fun rest => match rest with | [] => rfl | _ :: _ => rfl) (b_look_at_curves (lv := 2) G (c_is_curve.up (by decide))) (fun ds d h => by obtain ⟨xss, n, _, hl, rfl, _⟩ := h; rw [List.length_map]; omega) fun ds d h => ok_look [.tup ds] d ⟨ds, h, rfl⟩, PySem.W.mg_of X Gn a, kp⟩
  have D_bucket : Df K mg "bucket" "bucket" s_bucket ["burst", "rate", "size"] := n_bucket.df X Gn fun _ _ _ _ _ _ us hl => match us, hl with | [_, _, _], _ => rfl
  have c_bucket : Cal l.prog w K mg base 1 "bucket" (spF K pr_bucket) := by
    obtain ⟨f, fd, F, bd, g⟩ := D_bucket.ex
    exact cal_of F (fn_F F sc_bucket (b_bucket (lv := 0) G) (fun ds d h => by obtain ⟨_, _, _, _, _, _, _, _, _, rfl, _⟩ := h; rfl) ok_bucket) bd g
  have D_late_rate : Df K mg "late_rate" "late_rate" s_late_rate ["late", "rate", "size"] := n_late_rate.df X Gn fun _ _ _ _ _ _ us hl => match us, hl with | [_, _, _], _ => rfl
  have c_late_rate : Cal l.prog w K mg base 1 "late_rate" (spF K pr_late) := by
    obtain ⟨f, fd, F, bd, g⟩ := D_late_rate.ex
    exact cal_of F (fn_F F sc_late_rate (b_late_rate (lv := 0) G) (fun ds d h => by obtain ⟨_, _, _, _, _, _, _, _, _, rfl, _⟩ := h; rfl) ok_late) bd g
  have D_least_of : Df K mg "least_of" "least_of" s_least_of ["first", "other"] := n_least_of.df X Gn fun _ _ _ _ _ _ us hl => match us, hl with | [_, _], _ => rfl
  have c_least_of : Cal l.prog w K mg base 4 "least_of" (spF K pr_least) := by
    obtain ⟨f, fd, F, bd, g⟩ := D_least_of.ex
    exact cal_of F (fn_F F sc_least_of (b_least_of (lv := 3) G (c_look_at_curves.up (by decide))) (fun ds d h => by obtain ⟨_, _, _, rfl, _⟩ := h; rfl) ok_least) bd g
  have D_put_behind : Df K mg "put_behind" "put_behind" s_put_behind ["first", "other"] := n_put_behind.df X Gn fun _ _ _ _ _ _ us hl => match us, hl with | [_, _], _ => rfl
  have c_put_behind : Cal l.prog w K mg base 4 "put_behind" (spF K pr_behind) := by
    obtain ⟨f, fd, F, bd, g⟩ := D_put_behind.ex
    exact cal_of F (fn_F F sc_put_behind (b_put_behind (lv := 3) G (c_look_at_curves.up (by decide))) (fun ds d h => by obtain ⟨_, _, _, rfl, _⟩ := h; rfl) ok_behind) bd g
  have D_put_off : Df K mg "put_off" "put_off" s_put_off ["first", "other"] := n_put_off.df X Gn fun _ _ _ _ _ _ us hl => match us, hl with | [_, _], _ => rfl
  have c_put_off : Cal l.prog w K mg base 4 "put_off" (spF K pr_off) := by
    obtain ⟨f, fd, F, bd, g⟩ := D_put_off.ex
    exact cal_of F (fn_F F sc_put_off (b_put_off (lv := 3) G (c_look_at_curves.up (by decide))) (fun ds d h => by obtain ⟨_, _, _, rfl, _⟩ := h; rfl) ok_off) bd g
  have D_closed : Df K mg "closed" "closed" s_closed ["curve"] := n_closed.df X Gn fun _ _ _ _ _ _ us hl => match us, hl with | [_], _ => rfl
  have c_closed : Cal l.prog w K mg base 4 "closed" (spF K pr_closed) := by
    obtain ⟨f, fd, F, bd, g⟩ := D_closed.ex
    exact cal_of F (fn_F F sc_closed (b_closed (lv := 3) G (c_look_at_curves.up (by decide))) (fun ds d h => by obtain ⟨_, _, rfl, _⟩ := h; rfl) ok_closed) bd g
  have D_is_closed : Df K mg "is_closed" "is_closed" s_is_closed ["curve"] := n_is_closed.df X Gn fun _ _ _ _ _ _ us hl => match us, hl with | [_], _ => rfl
  have c_is_closed : Cal l.prog w K mg base 5 "is_closed" (spF K pr_is_closed) := by
    obtain ⟨f, fd, F, bd, g⟩ := D_is_closed.ex
    exact cal_of F (fn_F F sc_is_closed (b_is_closed (lv := 4) G (c_look_at_curves.up (by decide)) (c_closed.up (by decide))) (fun ds d h => by obtain ⟨_, _, rfl, _⟩ := h; rfl) ok_is_closed) bd g
  have D_keeps_within : Df K mg "keeps_within" "keeps_within" s_keeps_within ["came", "curve"] := n_keeps_within.df X Gn fun _ _ _ _ _ _ us hl => match us, hl with | [_, _], _ => rfl
  have c_keeps_within : Cal l.prog w K mg base 4 "keeps_within" (spF K pr_within) := by
    obtain ⟨f, fd, F, bd, g⟩ := D_keeps_within.ex
    exact cal_of F (fn_F F sc_keeps_within (b_keeps_within (lv := 3) G (c_look_at_curves.up (by decide))) (fun ds d h => by obtain ⟨_, _, _, rfl, _⟩ := h; rfl) ok_within) bd g
  have D_greatest_gap : Df K mg "greatest_gap" "greatest_gap" s_greatest_gap ["first", "other"] := n_greatest_gap.df X Gn fun _ _ _ _ _ _ us hl => match us, hl with | [_, _], _ => rfl
  have c_greatest_gap : Cal l.prog w K mg base 4 "greatest_gap" (spF K pr_gap) := by
    obtain ⟨f, fd, F, bd, g⟩ := D_greatest_gap.ex
    exact cal_of F (fn_F F sc_greatest_gap (b_greatest_gap (lv := 3) G (c_look_at_curves.up (by decide))) (fun ds d h => by obtain ⟨_, _, _, rfl, _⟩ := h; rfl) ok_gap) bd g
  have D_greatest_wait : Df K mg "greatest_wait" "greatest_wait" s_greatest_wait ["first", "other"] := n_greatest_wait.df X Gn fun _ _ _ _ _ _ us hl => match us, hl with | [_, _], _ => rfl
  have c_greatest_wait : Cal l.prog w K mg base 4 "greatest_wait" (spF K pr_wait) := by
    obtain ⟨f, fd, F, bd, g⟩ := D_greatest_wait.ex
    exact cal_of F (fn_F F sc_greatest_wait (b_greatest_wait (lv := 3) G (c_look_at_curves.up (by decide))) (fun ds d h => by obtain ⟨_, _, _, rfl, _⟩ := h; rfl) ok_wait) bd g
  have D_turned : Df K mg "turned" "turned" s_turned ["curve", "most"] := n_turned.df X Gn fun _ _ _ _ _ _ us hl => match us, hl with | [_, _], _ => rfl
  have c_turned : Cal l.prog w K mg base 4 "turned" (spF K pr_turned) := by
    obtain ⟨f, fd, F, bd, g⟩ := D_turned.ex
    exact cal_of F (fn_F F sc_turned (b_turned (lv := 3) G (c_look_at_curves.up (by decide))) (fun ds d h => by obtain ⟨_, _, _, _, _, rfl, _⟩ := h; rfl) ok_turned) bd g
  have D_is_steep_less : Df K mg "is_steep_less" "is_steep_less" s_is_steep_less ["curve"] := n_is_steep_less.df X Gn fun _ _ _ _ _ _ us hl => match us, hl with | [_], _ => rfl
  have c_is_steep_less : Cal l.prog w K mg base 4 "is_steep_less" (spF K pr_less) := by
    obtain ⟨f, fd, F, bd, g⟩ := D_is_steep_less.ex
    exact cal_of F (fn_F F sc_is_steep_less (b_is_steep_less (lv := 3) G (c_look_at_curves.up (by decide))) (fun ds d h => by obtain ⟨_, _, rfl, _⟩ := h; rfl) ok_less) bd g
  have D_is_steep_more : Df K mg "is_steep_more" "is_steep_more" s_is_steep_more ["curve"] := n_is_steep_more.df X Gn fun _ _ _ _ _ _ us hl => match us, hl with | [_], _ => rfl
  have c_is_steep_more : Cal l.prog w K mg base 4 "is_steep_more" (spF K pr_more) := by
    obtain ⟨f, fd, F, bd, g⟩ := D_is_steep_more.ex
    exact cal_of F (fn_F F sc_is_steep_more (b_is_steep_more (lv := 3) G (c_look_at_curves.up (by decide))) (fun ds d h => by obtain ⟨_, _, rfl, _⟩ := h; rfl) ok_more) bd g
  have D_merged_steps : Df K mg "merged_steps" "merged_steps" s_merged_steps ["first", "other"] := n_merged_steps.df X Gn fun _ _ _ _ _ _ us hl => match us, hl with | [_, _], _ => rfl
  have c_merged_steps : Cal l.prog w K mg base 1 "merged_steps" (spF K pr_merged) := by
    obtain ⟨f, fd, F, bd, g⟩ := D_merged_steps.ex
    exact cal_of F (fn_F F sc_merged_steps (b_merged_steps (lv := 0) G) (fun ds d h => by obtain ⟨_, _, _, _, rfl, _⟩ := h; rfl) ok_merged) bd g
  have D_least_done : Df K mg "least_done" "least_done" s_least_done ["came", "service"] := n_least_done.df X Gn fun _ _ _ _ _ _ us hl => match us, hl with | [_, _], _ => rfl
  have c_least_done : Cal l.prog w K mg base 5 "least_done" (spF K pr_behind) := by
    obtain ⟨f, fd, F, bd, g⟩ := D_least_done.ex
    exact cal_of F (fn_F F sc_least_done (b_least_done (lv := 4) G (c_put_behind.up (by decide))) (fun ds d h => by obtain ⟨_, _, _, rfl, _⟩ := h; rfl) ok_least_done) bd g
  have D_serves : Df K mg "serves" "serves" s_serves ["came", "done", "service"] := n_serves.df X Gn fun _ _ _ _ _ _ us hl => match us, hl with | [_, _, _], _ => rfl
  have c_serves : Cal l.prog w K mg base 6 "serves" (spF K pr_serves) := by
    obtain ⟨f, fd, F, bd, g⟩ := D_serves.ex
    exact cal_of F (fn_F F sc_serves (b_serves (lv := 5) G (c_look_at_curves.up (by decide)) (c_least_done.up (by decide))) (fun ds d h => by obtain ⟨_, _, _, rfl, _⟩ := h; rfl) ok_serves) bd g
  have D_bounds : Df K mg "bounds" "bounds" s_bounds ["arrival", "service"] := n_bounds.df X Gn fun _ _ _ _ _ _ us hl => match us, hl with | [_, _], _ => rfl
  have c_bounds : Cal l.prog w K mg base 5 "bounds" (spF K pr_bounds) := by
    obtain ⟨f, fd, F, bd, g⟩ := D_bounds.ex
    exact cal_of F (fn_F F sc_bounds (b_bounds (lv := 4) G (c_look_at_curves.up (by decide)) (c_greatest_wait.up (by decide)) (c_greatest_gap.up (by decide))) (fun ds d h => by obtain ⟨_, _, _, rfl, _⟩ := h; rfl) ok_bounds) bd g
  have D_out_bound : Df K mg "out_bound" "out_bound" s_out_bound ["arrival", "service"] := n_out_bound.df X Gn fun _ _ _ _ _ _ us hl => match us, hl with | [_, _], _ => rfl
  have c_out_bound : Cal l.prog w K mg base 5 "out_bound" (spF K pr_off) := by
    obtain ⟨f, fd, F, bd, g⟩ := D_out_bound.ex
    exact cal_of F (fn_F F sc_out_bound (b_out_bound (lv := 4) G (c_put_off.up (by decide))) (fun ds d h => by obtain ⟨_, _, _, rfl, _⟩ := h; rfl) ok_out) bd g
  have D_left_over : Df K mg "left_over" "left_over" s_left_over ["service", "arrival"] := n_left_over.df X Gn fun _ _ _ _ _ _ us hl => match us, hl with | [_, _], _ => rfl
  have c_left_over : Cal l.prog w K mg base 4 "left_over" (spF K pr_left) := by
    obtain ⟨f, fd, F, bd, g⟩ := D_left_over.ex
    exact cal_of F (fn_F F sc_left_over (b_left_over (lv := 3) G (c_look_at_curves.up (by decide))) (fun ds d h => by obtain ⟨_, _, _, rfl, _⟩ := h; rfl) ok_left) bd g
  have D_in_a_row : Df K mg "in_a_row" "in_a_row" s_in_a_row ["services"] := n_in_a_row.df X Gn fun _ _ _ _ _ _ us hl => match us, hl with | [_], _ => rfl
  have c_in_a_row : Cal l.prog w K mg base 5 "in_a_row" (spF K pr_row) := by
    obtain ⟨f, fd, F, bd, g⟩ := D_in_a_row.ex
    exact cal_of F (fn_F F sc_in_a_row (b_in_a_row (lv := 4) G (c_look_at_curves.up (by decide)) (c_put_behind.up (by decide))) (fun ds d h => by obtain ⟨_, _, _, _, rfl, _⟩ := h; rfl) ok_row) bd g
  have D_shaped : Df K mg "shaped" "shaped" s_shaped ["came", "curve"] := n_shaped.df X Gn fun _ _ _ _ _ _ us hl => match us, hl with | [_, _], _ => rfl
  have c_shaped : Cal l.prog w K mg base 5 "shaped" (spF K pr_shaped) := by
    obtain ⟨f, fd, F, bd, g⟩ := D_shaped.ex
    exact cal_of F (fn_F F sc_shaped (b_shaped (lv := 4) G (c_look_at_curves.up (by decide)) (c_closed.up (by decide))) (fun ds d h => by obtain ⟨_, _, _, rfl, _⟩ := h; rfl) ok_shaped) bd g
  have D__law_draws : Df K mg "_law_draws" "_law_draws" s__law_draws ["script"] := n__law_draws.df X Gn fun _ _ _ _ _ _ us hl => match us, hl with | [_], _ => rfl
  have c__law_draws : Cal l.prog w K mg base 1 "_law_draws" (spDraws K) := by
    obtain ⟨f, fd, F, bd, g⟩ := D__law_draws.ex
    exact cal_of F (fn_draws F sc__law_draws (b__law_draws (lv := 0) G)) bd g
  have D__law_draw : Df K mg "_law_draw" "_law_draw" s__law_draw ["draws", "limit"] := n__law_draw.df X Gn fun _ _ _ _ _ _ us hl => match us, hl with | [_, _], _ => rfl
  have c__law_draw : Cal l.prog w K mg base 1 "_law_draw" (spM K pr_draw) := by
    obtain ⟨f, fd, F, bd, g⟩ := D__law_draw.ex
    exact cal_of F (fn_M F sc__law_draw (b__law_draw (lv := 0) G) (fun a ds mo d mo' h => by obtain ⟨s, L, _, _, _, rfl, _, rfl, _⟩ := h; exact ⟨by rfl, by rfl⟩) (fun a ds mo d mo' Mf h => ok_draw a ds mo d mo' Mf _ rfl h)) bd g
  have D__law_same : Df K mg "_law_same" "_law_same" s__law_same ["actual", "expected"] := n__law_same.df X Gn fun _ _ _ _ _ _ us hl => match us, hl with | [_, _], _ => rfl
  have c__law_same : Cal l.prog w K mg base 3 "_law_same" (spF K (pr_same 3)) := by
    obtain ⟨f, fd, F, bd, g⟩ := D__law_same.ex
    exact fn_same F sc__law_same rfl bd g (fun lv sp c => b__law_same G c) 3
  have D__law_pick : Df K mg "_law_pick" "_law_pick" s__law_pick ["draws", "row"] := n__law_pick.df X Gn fun _ _ _ _ _ _ us hl => match us, hl with | [_, _], _ => rfl
  have c__law_pick : Cal l.prog w K mg base 2 "_law_pick" (spM K pr_pick) := by
    obtain ⟨f, fd, F, bd, g⟩ := D__law_pick.ex
    exact cal_of F (fn_M F sc__law_pick (b__law_pick (lv := 1) G (c__law_draw.up (by decide))) (fun a ds mo d mo' h => by obtain ⟨s, row, hs, h0, h1, hn, hd, _, rfl, _⟩ := h; exact ⟨by rcases hd with rfl | rfl <;> rfl, by exact pick_noL hn h0⟩) (fun a ds mo d mo' Mf h => ok_pick a ds mo d mo' Mf _ rfl h)) bd g
  have D__law_curve : Df K mg "_law_curve" "_law_curve" s__law_curve ["draws", "size"] := n__law_curve.df X Gn fun _ _ _ _ _ _ us hl => match us, hl with | [_, _], _ => rfl
  have c__law_curve : Cal l.prog w K mg base 3 "_law_curve" (spM K pr_curve) := by
    obtain ⟨f, fd, F, bd, g⟩ := D__law_curve.ex
    exact cal_of F (fn_M2 F sc__law_curve (b__law_curve (lv := 2) G (c__law_pick.up (by decide))) (fun a ds mo d mo' h => by obtain ⟨_, _, _, _, _, rfl, _, rfl, _⟩ := h; exact ⟨by rfl, by simp⟩) ok_curve) bd g
  have D__law_some : Df K mg "_law_some" "_law_some" s__law_some ["draws", "size"] := n__law_some.df X Gn fun _ _ _ _ _ _ us hl => match us, hl with | [_, _], _ => rfl
  have c__law_some : Cal l.prog w K mg base 4 "_law_some" (spM K pr_some) := by
    obtain ⟨f, fd, F, bd, g⟩ := D__law_some.ex
    exact cal_of F (fn_M F sc__law_some (b__law_some (lv := 3) G (c__law_draw.up (by decide)) (c__law_curve.up (by decide))) (fun a ds mo d mo' h => by obtain ⟨_, _, _, _, _, rfl, _, rfl, _⟩ := h; exact ⟨by rfl, by simp⟩) ok_some) bd g
  have D__law_behind : Df K mg "_law_behind" "_law_behind" s__law_behind ["first", "other"] := n__law_behind.df X Gn fun _ _ _ _ _ _ us hl => match us, hl with | [_, _], _ => rfl
  have c__law_behind : Cal l.prog w K mg base 1 "_law_behind" (spF K pr_behind) := by
    obtain ⟨f, fd, F, bd, g⟩ := D__law_behind.ex
    exact cal_of F (fn_F F sc__law_behind (b__law_behind (lv := 0) G) (fun ds d h => by obtain ⟨_, _, _, rfl, _⟩ := h; rfl) ok_law_behind) bd g
  have D__law_off : Df K mg "_law_off" "_law_off" s__law_off ["first", "other"] := n__law_off.df X Gn fun _ _ _ _ _ _ us hl => match us, hl with | [_, _], _ => rfl
  have c__law_off : Cal l.prog w K mg base 1 "_law_off" (spF K pr_off) := by
    obtain ⟨f, fd, F, bd, g⟩ := D__law_off.ex
    exact cal_of F (fn_F F sc__law_off (b__law_off (lv := 0) G) (fun ds d h => by obtain ⟨_, _, _, rfl, _⟩ := h; rfl) ok_law_off) bd g
  have D__law_closed : Df K mg "_law_closed" "_law_closed" s__law_closed ["curve"] := n__law_closed.df X Gn fun _ _ _ _ _ _ us hl => match us, hl with | [_], _ => rfl
  have c__law_closed : Cal l.prog w K mg base 1 "_law_closed" (spF K pr_closed) := by
    obtain ⟨f, fd, F, bd, g⟩ := D__law_closed.ex
    exact cal_of F (fn_F F sc__law_closed (b__law_closed (lv := 0) G) (fun ds d h => by obtain ⟨_, _, rfl, _⟩ := h; rfl) ok_law_closed) bd g
  have D__law_within : Df K mg "_law_within" "_law_within" s__law_within ["came", "curve"] := n__law_within.df X Gn fun _ _ _ _ _ _ us hl => match us, hl with | [_, _], _ => rfl
  have c__law_within : Cal l.prog w K mg base 1 "_law_within" (spF K pr_within) := by
    obtain ⟨f, fd, F, bd, g⟩ := D__law_within.ex
    exact cal_of F (fn_F F sc__law_within (b__law_within (lv := 0) G) (fun ds d h => by obtain ⟨_, _, _, rfl, _⟩ := h; rfl) ok_law_within) bd g
  have D__law_gap : Df K mg "_law_gap" "_law_gap" s__law_gap ["first", "other"] := n__law_gap.df X Gn fun _ _ _ _ _ _ us hl => match us, hl with | [_, _], _ => rfl
  have c__law_gap : Cal l.prog w K mg base 1 "_law_gap" (spF K pr_gap) := by
    obtain ⟨f, fd, F, bd, g⟩ := D__law_gap.ex
    exact cal_of F (fn_F F sc__law_gap (b__law_gap (lv := 0) G) (fun ds d h => by obtain ⟨_, _, _, rfl, _⟩ := h; rfl) ok_law_gap) bd g
  have D__law_wait : Df K mg "_law_wait" "_law_wait" s__law_wait ["first", "other"] := n__law_wait.df X Gn fun _ _ _ _ _ _ us hl => match us, hl with | [_, _], _ => rfl
  have c__law_wait : Cal l.prog w K mg base 1 "_law_wait" (spF K pr_wait) := by
    obtain ⟨f, fd, F, bd, g⟩ := D__law_wait.ex
    exact cal_of F (fn_F F sc__law_wait (b__law_wait (lv := 0) G) (fun ds d h => by obtain ⟨_, _, _, rfl, _⟩ := h; rfl) ok_law_wait) bd g
  have D__law_steps : Df K mg "_law_steps" "_law_steps" s__law_steps ["curve"] := n__law_steps.df X Gn fun _ _ _ _ _ _ us hl => match us, hl with | [_], _ => rfl
  have c__law_steps : Cal l.prog w K mg base 1 "_law_steps" (spL K pr_steps) := by
    obtain ⟨f, fd, F, bd, g⟩ := D__law_steps.ex
    exact cal_of F (fn_L F sc__law_steps (b__law_steps (lv := 0) G) (fun ds d h => by obtain ⟨_, _, rfl, _⟩ := h; rfl) ok_steps) bd g
  have D__law_sums : Df K mg "_law_sums" "_law_sums" s__law_sums ["steps"] := n__law_sums.df X Gn fun _ _ _ _ _ _ us hl => match us, hl with | [_], _ => rfl
  have c__law_sums : Cal l.prog w K mg base 1 "_law_sums" (spF K pr_sums) := by
    obtain ⟨f, fd, F, bd, g⟩ := D__law_sums.ex
    exact cal_of F (fn_F F sc__law_sums (b__law_sums (lv := 0) G) (fun ds d h => by obtain ⟨_, _, rfl, _⟩ := h; rfl) ok_sums) bd g
  have D__law_told : Df K mg "_law_told" "_law_told" s__law_told ["one", "two", "three"] := n__law_told.df X Gn fun _ _ _ _ _ _ us hl => match us, hl with | [_, _, _], _ => rfl
  have c__law_told : Cal l.prog w K mg base 7 "_law_told" (spF K pr_told) := by
    obtain ⟨f, fd, F, bd, g⟩ := D__law_told.ex
    exact cal_of F (fn_F F sc__law_told (b__law_told (lv := 6) G (c__law_same.up (by decide)) (c_least_of.up (by decide)) (c__law_behind.up (by decide)) (c_put_behind.up (by decide)) (c__law_off.up (by decide)) (c_put_off.up (by decide)) (c__law_closed.up (by decide)) (c_closed.up (by decide)) (c_is_closed.up (by decide)) (c__law_within.up (by decide)) (c_keeps_within.up (by decide)) (c__law_gap.up (by decide)) (c_greatest_gap.up (by decide)) (c__law_wait.up (by decide)) (c_greatest_wait.up (by decide)) (c_least_done.up (by decide)) (c_serves.up (by decide)) (c_bounds.up (by decide)) (c_out_bound.up (by decide)) (c_left_over.up (by decide)) (c_in_a_row.up (by decide)) (c_shaped.up (by decide))) (fun ds d h => by obtain ⟨_, _, _, _, rfl, _⟩ := h; rfl) ok_told) bd g
  exact fn_law (fun_mk lk c kp) sc_law (b_law (lv := 7) G (c__law_draws.up (by decide)) (c__law_pick.up (by decide)) (c__law_some.up (by decide)) (c__law_told.up (by decide)) (c__law_draw.up (by decide)) (c__law_same.up (by decide)) (c_bucket.up (by decide)) (c_late_rate.up (by decide)) (c_turned.up (by decide)) (c__law_steps.up (by decide)) (c__law_sums.up (by decide)) (c_merged_steps.up (by decide)) (c__law_behind.up (by decide)) (c_is_steep_more.up (by decide)) (c_is_steep_less.up (by decide))) (by decide) fun ns p hl => ok_law ns p
end K04

open PySem PySem.W PyProof.Rows
set_option maxHeartbeats 0 in
theorem PySem.Challenge.cw_whenwright_k04_whole_curves_of_two_hundr_holds : PySem.Challenge.rw_whenwright_k04_whole_curves_of_two_hundr.Holds := by
  w_on; o_law; k_head; (case hw => w_witness2)
  k_fill
  refine L2.walk_of (l := PySem.Challenge.rw_whenwright_k04_whole_curves_of_two_hundr) (n := 63) (k := 8) (x := "script") (CX := fun w => L2.CX PySem.Challenge.rw_whenwright_k04_whole_curves_of_two_hundr.prog w) (sp := fun w => Q.spLaw _) rfl (by decide) rfl ⟨rfl, by decide, by decide⟩ (fun w h Y => PySem.W.kIn_of Y) ?F (fun _ _ a ns hl _ hS => ⟨a, ns, rfl, hS, hl, fun _ => rfl⟩) ?X
  case F =>
    intro w mg fa h KX G hmg
    refine' K04.all_mk KX G hmg (Q.Dn.mk' ?a_is_integer ?l_is_integer ?c_is_integer ?k_is_integer) (Q.Dn.mk' ?a_is_curve ?l_is_curve ?c_is_curve ?k_is_curve) (Q.Dn.mk' ?a_look_at_curves ?l_look_at_curves ?c_look_at_curves ?k_look_at_curves) (Q.Dn.mk' ?a_bucket ?l_bucket ?c_bucket ?k_bucket) (Q.Dn.mk' ?a_late_rate ?l_late_rate ?c_late_rate ?k_late_rate) (Q.Dn.mk' ?a_least_of ?l_least_of ?c_least_of ?k_least_of) (Q.Dn.mk' ?a_put_behind ?l_put_behind ?c_put_behind ?k_put_behind) (Q.Dn.mk' ?a_put_off ?l_put_off ?c_put_off ?k_put_off) (Q.Dn.mk' ?a_closed ?l_closed ?c_closed ?k_closed) (Q.Dn.mk' ?a_is_closed ?l_is_closed ?c_is_closed ?k_is_closed) (Q.Dn.mk' ?a_keeps_within ?l_keeps_within ?c_keeps_within ?k_keeps_within) (Q.Dn.mk' ?a_greatest_gap ?l_greatest_gap ?c_greatest_gap ?k_greatest_gap) (Q.Dn.mk' ?a_greatest_wait ?l_greatest_wait ?c_greatest_wait ?k_greatest_wait) (Q.Dn.mk' ?a_turned ?l_turned ?c_turned ?k_turned) (Q.Dn.mk' ?a_is_steep_less ?l_is_steep_less ?c_is_steep_less ?k_is_steep_less) (Q.Dn.mk' ?a_is_steep_more ?l_is_steep_more ?c_is_steep_more ?k_is_steep_more) (Q.Dn.mk' ?a_merged_steps ?l_merged_steps ?c_merged_steps ?k_merged_steps) (Q.Dn.mk' ?a_least_done ?l_least_done ?c_least_done ?k_least_done) (Q.Dn.mk' ?a_serves ?l_serves ?c_serves ?k_serves) (Q.Dn.mk' ?a_bounds ?l_bounds ?c_bounds ?k_bounds) (Q.Dn.mk' ?a_out_bound ?l_out_bound ?c_out_bound ?k_out_bound) (Q.Dn.mk' ?a_left_over ?l_left_over ?c_left_over ?k_left_over) (Q.Dn.mk' ?a_in_a_row ?l_in_a_row ?c_in_a_row ?k_in_a_row) (Q.Dn.mk' ?a_shaped ?l_shaped ?c_shaped ?k_shaped) (Q.Dn.mk' ?a__law_draws ?l__law_draws ?c__law_draws ?k__law_draws) (Q.Dn.mk' ?a__law_draw ?l__law_draw ?c__law_draw ?k__law_draw) (Q.Dn.mk' ?a__law_same ?l__law_same ?c__law_same ?k__law_same) (Q.Dn.mk' ?a__law_pick ?l__law_pick ?c__law_pick ?k__law_pick) (Q.Dn.mk' ?a__law_curve ?l__law_curve ?c__law_curve ?k__law_curve) (Q.Dn.mk' ?a__law_some ?l__law_some ?c__law_some ?k__law_some) (Q.Dn.mk' ?a__law_behind ?l__law_behind ?c__law_behind ?k__law_behind) (Q.Dn.mk' ?a__law_off ?l__law_off ?c__law_off ?k__law_off) (Q.Dn.mk' ?a__law_closed ?l__law_closed ?c__law_closed ?k__law_closed) (Q.Dn.mk' ?a__law_within ?l__law_within ?c__law_within ?k__law_within) (Q.Dn.mk' ?a__law_gap ?l__law_gap ?c__law_gap ?k__law_gap) (Q.Dn.mk' ?a__law_wait ?l__law_wait ?c__law_wait ?k__law_wait) (Q.Dn.mk' ?a__law_steps ?l__law_steps ?c__law_steps ?k__law_steps) (Q.Dn.mk' ?a__law_sums ?l__law_sums ?c__law_sums ?k__law_sums) (Q.Dn.mk' ?a__law_told ?l__law_told ?c__law_told ?k__law_told) (Q.Dn.mk' ?a_law ?l_law ?c_law ?k_law) ?z_isinstance ?z_int ?z_bool ?z_tuple ?z_len ?z_all ?z_zip ?z_range ?z_max ?z_min ?z_list ?z_enumerate ?z_sorted ?z_str ?k_MOST_STEPS
    (case a_is_integer => k_is); (case l_is_integer => k_is); (case c_is_integer => k_is); (case k_is_integer => k_is); (case a_is_curve => k_is); (case l_is_curve => k_is); (case c_is_curve => k_is); (case k_is_curve => k_is); (case a_look_at_curves => k_is); (case l_look_at_curves => k_is); (case c_look_at_curves => k_is); (case k_look_at_curves => k_is); (case a_bucket => k_is); (case l_bucket => k_is); (case c_bucket => k_is); (case k_bucket => k_is); (case a_late_rate => k_is); (case l_late_rate => k_is); (case c_late_rate => k_is); (case k_late_rate => k_is); (case a_least_of => k_is); (case l_least_of => k_is); (case c_least_of => k_is); (case k_least_of => k_is); (case a_put_behind => k_is); (case l_put_behind => k_is); (case c_put_behind => k_is); (case k_put_behind => k_is); (case a_put_off => k_is); (case l_put_off => k_is); (case c_put_off => k_is); (case k_put_off => k_is); (case a_closed => k_is); (case l_closed => k_is); (case c_closed => k_is); (case k_closed => k_is); (case a_is_closed => k_is); (case l_is_closed => k_is); (case c_is_closed => k_is); (case k_is_closed => k_is); (case a_keeps_within => k_is); (case l_keeps_within => k_is); (case c_keeps_within => k_is); (case k_keeps_within => k_is); (case a_greatest_gap => k_is); (case l_greatest_gap => k_is); (case c_greatest_gap => k_is); (case k_greatest_gap => k_is); (case a_greatest_wait => k_is); (case l_greatest_wait => k_is); (case c_greatest_wait => k_is); (case k_greatest_wait => k_is); (case a_turned => k_is); (case l_turned => k_is); (case c_turned => k_is); (case k_turned => k_is); (case a_is_steep_less => k_is); (case l_is_steep_less => k_is); (case c_is_steep_less => k_is); (case k_is_steep_less => k_is); (case a_is_steep_more => k_is); (case l_is_steep_more => k_is); (case c_is_steep_more => k_is); (case k_is_steep_more => k_is); (case a_merged_steps => k_is); (case l_merged_steps => k_is); (case c_merged_steps => k_is); (case k_merged_steps => k_is); (case a_least_done => k_is); (case l_least_done => k_is); (case c_least_done => k_is); (case k_least_done => k_is); (case a_serves => k_is); (case l_serves => k_is); (case c_serves => k_is); (case k_serves => k_is); (case a_bounds => k_is); (case l_bounds => k_is); (case c_bounds => k_is); (case k_bounds => k_is); (case a_out_bound => k_is); (case l_out_bound => k_is); (case c_out_bound => k_is); (case k_out_bound => k_is); (case a_left_over => k_is); (case l_left_over => k_is); (case c_left_over => k_is); (case k_left_over => k_is); (case a_in_a_row => k_is); (case l_in_a_row => k_is); (case c_in_a_row => k_is); (case k_in_a_row => k_is); (case a_shaped => k_is); (case l_shaped => k_is); (case c_shaped => k_is); (case k_shaped => k_is); (case a__law_draws => k_is); (case l__law_draws => k_is); (case c__law_draws => k_is); (case k__law_draws => k_is); (case a__law_draw => k_is); (case l__law_draw => k_is); (case c__law_draw => k_is); (case k__law_draw => k_is); (case a__law_same => k_is); (case l__law_same => k_is); (case c__law_same => k_is); (case k__law_same => k_is); (case a__law_pick => k_is); (case l__law_pick => k_is); (case c__law_pick => k_is); (case k__law_pick => k_is); (case a__law_curve => k_is); (case l__law_curve => k_is); (case c__law_curve => k_is); (case k__law_curve => k_is); (case a__law_some => k_is); (case l__law_some => k_is); (case c__law_some => k_is); (case k__law_some => k_is); (case a__law_behind => k_is); (case l__law_behind => k_is); (case c__law_behind => k_is); (case k__law_behind => k_is); (case a__law_off => k_is); (case l__law_off => k_is); (case c__law_off => k_is); (case k__law_off => k_is); (case a__law_closed => k_is); (case l__law_closed => k_is); (case c__law_closed => k_is); (case k__law_closed => k_is); (case a__law_within => k_is); (case l__law_within => k_is); (case c__law_within => k_is); (case k__law_within => k_is); (case a__law_gap => k_is); (case l__law_gap => k_is); (case c__law_gap => k_is); (case k__law_gap => k_is); (case a__law_wait => k_is); (case l__law_wait => k_is); (case c__law_wait => k_is); (case k__law_wait => k_is); (case a__law_steps => k_is); (case l__law_steps => k_is); (case c__law_steps => k_is); (case k__law_steps => k_is); (case a__law_sums => k_is); (case l__law_sums => k_is); (case c__law_sums => k_is); (case k__law_sums => k_is); (case a__law_told => k_is); (case l__law_told => k_is); (case c__law_told => k_is); (case k__law_told => k_is); (case a_law => k_is); (case l_law => k_is); (case c_law => k_is); (case k_law => k_is)
    (case z_isinstance => k_is); (case z_int => k_is); (case z_bool => k_is); (case z_tuple => k_is); (case z_len => k_is); (case z_all => k_is); (case z_zip => k_is); (case z_range => k_is); (case z_max => k_is); (case z_min => k_is); (case z_list => k_is); (case z_enumerate => k_is); (case z_sorted => k_is); (case z_str => k_is); (case k_MOST_STEPS => k_is)
  case X =>
    rintro w H s e s' ⟨_, _, _, _, _, _, _, _, _, _, _, _, he⟩
    exact he

