import PyProof.Rows.All
import Wide.All
import OpenK.AllK
import Wide.FinOn
import HandS.ForMost
import HandS.ForExc
import HandS.CallSlots
import HandS.Wide
import HandS.EndBits
import HandS.IsInst
import HandS.Style
import HandS.WideBits
import PySem.Challenge.RW_formkeeper_k35_sums_of_octets
set_option Elab.async false
set_option linter.all false
set_option maxRecDepth 100000
/-! DL: a layer over the hand layer: every value is a piece of data (D), every object that is changed is a cell of a store; expressions and statements are functions over them. -/
namespace DL
open PySem L2

/-! ### data -/
inductive D where
  | non | bl (b : Bool) | int (i : Int) | str (x : Str)
  | lst (xs : List D) | sea (xs : List D) | tup (xs : List D) | dct (kvs : List (Key × D)) | obj (n : Nat)
instance : Inhabited D := ⟨.non⟩
/-- what is changed in place -/
inductive Cell where
  | lst (xs : List D) | dct (kvs : List (Key × D)) | ins (c : Str) (fs : List (Str × D))
instance : Inhabited Cell := ⟨.lst []⟩
inductive SD where
  | shr (d : D) | own (c : Cell) | raw (v : V)
abbrev Sto := List Cell
abbrev Rho := List (Option SD)

/-- a value v stands for the data d: by what is frozen (B) and by the store's addresses -/
inductive DA (K : PySem.W.Frag) (ι : List Addr) (B : Hp) : V → D → Prop
  | non : DA K ι B .non .non
  | bl (b : Bool) : DA K ι B (.bl b) (.bl b)
  | int (i : Int) : DA K ι B (.int i) (.int i)
  | str (x : Str) : DA K ι B (.str x) (.str x)
  | lst {a : Addr} {vs : List V} {ds : List D} : B a = some (.lst vs) → Paired (DA K ι B) vs ds → DA K ι B (.ref a) (.lst ds)
  | sea {a : Addr} {vs : List V} {ds : List D} : SqL K B a vs → Paired (DA K ι B) vs ds → DA K ι B (.ref a) (.sea ds)
  | tup {a : Addr} {vs : List V} {ds : List D} : SqT K B a vs → Paired (DA K ι B) vs ds → DA K ι B (.ref a) (.tup ds)
  | dct {a : Addr} {o : Obj} {kvs : List (Key × V)} {es : List (Key × D)} : B a = some (.frz o (.dK kvs)) → kvs.map (·.1) = es.map (·.1) → Paired (DA K ι B) (kvs.map (·.2)) (es.map (·.2)) → DA K ι B (.ref a) (.dct es)
  | obj {a : Addr} {n : Nat} : ι[n]? = some a → DA K ι B (.ref a) (.obj n)

/-- the store's addresses go on -/
def Pre (ι ι' : List Addr) : Prop := ∀ (n : Nat) (a : Addr), ι[n]? = some a → ι'[n]? = some a
theorem Pre.refl (ι : List Addr) : Pre ι ι := fun _ _ h => h
theorem Pre.trans {a b c : List Addr} (h : Pre a b) (k : Pre b c) : Pre a c := fun n x q => k n x (h n x q)
theorem Pre.mem {a b : List Addr} (h : Pre a b) {x : Addr} (m : x ∈ a) : x ∈ b := by
  obtain ⟨n, q⟩ := List.mem_iff_getElem?.mp m
  exact List.mem_of_getElem? (h n x q)
theorem Rd.same {B B' : Hp} {a : Addr} {u : HO} (h : Same B B') (r : Rd B a u) : Rd B' a u := by
  rcases r with r | ⟨o, r⟩
  · exact .inl (h _ _ r)
  · exact .inr ⟨o, h _ _ r⟩
theorem sqT_same {K : PySem.W.Frag} {B B' : Hp} {a : Addr} {xs : List V} (h : Same B B') (r : SqT K B a xs) : SqT K B' a xs := by
  rcases r with r | r
  · exact .inl (Rd.same h r)
  · exact .inr r
abbrev KD (K : PySem.W.Frag) (ι : List Addr) (B : Hp) : Key × V → Key × D → Prop := fun p q => p.1 = q.1 ∧ DA K ι B p.2 q.2
abbrev FD (K : PySem.W.Frag) (ι : List Addr) (B : Hp) : Str × V → Str × D → Prop := fun p q => p.1 = q.1 ∧ DA K ι B p.2 q.2
section
variable {K : PySem.W.Frag} {ι ι' : List Addr} {B B' : Hp}
mutual
theorem DA.mono (hB : Same B B') (hi : Pre ι ι') : ∀ (d : D) (v : V), DA K ι B v d → DA K ι' B' v d
  | .non, _, h => by cases h; exact .non
  | .bl b, _, h => by cases h; exact .bl b
  | .int i, _, h => by cases h; exact .int i
  | .str x, _, h => by cases h; exact .str x
  | .lst ds, _, h => by
    cases h with
    | lst h1 h2 => exact .lst (hB _ _ h1) (DA.monos hB hi ds _ h2)
  | .sea ds, _, h => by
    cases h with
    | sea h1 h2 => exact .sea (hB.seq h1) (DA.monos hB hi ds _ h2)
  | .tup ds, _, h => by
    cases h with
    | tup h1 h2 => exact .tup (sqT_same hB h1) (DA.monos hB hi ds _ h2)
  | .dct es, _, h => by
    cases h with
    | dct h1 h2 h3 => exact .dct (hB _ _ h1) h2 (DA.monok hB hi es _ h3)
  | .obj n, _, h => by
    cases h with
    | obj h1 => exact .obj (hi _ _ h1)
theorem DA.monos (hB : Same B B') (hi : Pre ι ι') : ∀ (ds : List D) (vs : List V), Paired (DA K ι B) vs ds → Paired (DA K ι' B') vs ds
  | [], _, h => by cases h; exact .nil
  | d :: ds, _, h => by
    cases h with
    | cons h1 h2 => exact .cons (DA.mono hB hi d _ h1) (DA.monos hB hi ds _ h2)
theorem DA.monok (hB : Same B B') (hi : Pre ι ι') : ∀ (es : List (Key × D)) (vs : List V), Paired (DA K ι B) vs (es.map (·.2)) → Paired (DA K ι' B') vs (es.map (·.2))
  | [], _, h => by cases h; exact .nil
  | (k, d) :: es, _, h => by
    cases h with
    | cons h1 h2 => exact .cons (DA.mono hB hi d _ h1) (DA.monok hB hi es _ h2)
end
theorem KD.mono (hB : Same B B') (hi : Pre ι ι') : ∀ (es : List (Key × D)) (kvs : List (Key × V)), Paired (KD K ι B) kvs es → Paired (KD K ι' B') kvs es
  | [], _, h => by cases h; exact .nil
  | (k, d) :: es, _, h => by
    cases h with
    | cons h1 h2 => exact .cons ⟨h1.1, DA.mono hB hi d _ h1.2⟩ (KD.mono hB hi es _ h2)
theorem KD.split : ∀ {es : List (Key × D)} {kvs : List (Key × V)}, Paired (KD K ι B) kvs es → kvs.map (·.1) = es.map (·.1) ∧ Paired (DA K ι B) (kvs.map (·.2)) (es.map (·.2))
  | _, _, .nil => ⟨rfl, .nil⟩
  | _, _, .cons h t => ⟨by rw [List.map_cons, List.map_cons, h.1, (KD.split t).1], .cons h.2 (KD.split t).2⟩
theorem KD.join : ∀ {es : List (Key × D)} {kvs : List (Key × V)}, kvs.map (·.1) = es.map (·.1) → Paired (DA K ι B) (kvs.map (·.2)) (es.map (·.2)) → Paired (KD K ι B) kvs es
  | [], [], _, _ => .nil
  | [], _ :: _, h, _ => by simp at h
  | _ :: _, [], h, _ => by simp at h
  | (k, d) :: es, (k', v) :: kvs, h, p => by
    simp only [List.map_cons, List.cons.injEq] at h
    cases p with
    | cons p1 p2 => exact .cons ⟨h.1, p1⟩ (KD.join h.2 p2)
theorem DA.monof (hB : Same B B') (hi : Pre ι ι') : ∀ (es : List (Str × D)) (kvs : List (Str × V)), Paired (FD K ι B) kvs es → Paired (FD K ι' B') kvs es
  | [], _, h => by cases h; exact .nil
  | (k, d) :: es, _, h => by
    cases h with
    | cons h1 h2 => exact .cons ⟨h1.1, DA.mono hB hi d _ h1.2⟩ (DA.monof hB hi es _ h2)
end

/-! ### the state -/
/-- how things stood at the def's entry -/
structure Ent where
  ι : List Addr
  B : Hp
  H : Hp
abbrev Mg := Str → Option Value
/-- a cell of the store stands at a -/
def CA (K : PySem.W.Frag) (mg : Mg) (ι : List Addr) (B H : Hp) (a : Addr) : Cell → Prop
  | .lst ds => ∃ vs, H a = some (.lst vs) ∧ Paired (DA K ι B) vs ds
  | .dct es => ∃ kvs, H a = some (.dK kvs) ∧ Paired (KD K ι B) kvs es
  | .ins c fs => ∃ C dx fvs, mg c = some (.ref C) ∧ H a = some (.ins C dx fvs) ∧ Paired (FD K ι B) fvs fs
def SA (K : PySem.W.Frag) (mg : Mg) (e : Ent) (ι : List Addr) (B H : Hp) (v : V) : SD → Prop
  | .shr d => DA K ι B v d
  | .own c => ∃ a, v = .ref a ∧ CA K mg ι B H a c ∧ B a = none ∧ e.H a = none ∧ a ∉ ι
  | .raw w => v = w
structure Rel (K : PySem.W.Frag) (mg : Mg) (e : Ent) (ι : List Addr) (B H : Hp) (ρ : Rho) (O : Sto) (σ : St) : Prop where
  sub : Same B H
  eB : Same e.B B
  ei : Pre e.ι ι
  fB : ∀ a o, B a = some o → e.B a = some o ∨ e.H a = none
  fH : ∀ a o, e.H a = some o → a ∉ e.ι → H a = some o
  fi : ∀ a, a ∈ ι → a ∈ e.ι ∨ e.H a = none
  len : σ.length = ρ.length
  sl : ∀ (i : Nat) (x : SD), ρ[i]? = some (some x) → ∃ v, σ[i]? = some (some v) ∧ SA K mg e ι B H v x
  sep : ∀ (i j : Nat) (a : Addr) (c c' : Cell), ρ[i]? = some (some (.own c)) → ρ[j]? = some (some (.own c')) → σ[i]? = some (some (.ref a)) → σ[j]? = some (some (.ref a)) → i = j
  lo : O.length = ι.length
  ob : ∀ (n : Nat) (c : Cell) (a : Addr), O[n]? = some c → ι[n]? = some a → CA K mg ι B H a c ∧ B a = none
  nd : ι.Nodup
section
variable {K : PySem.W.Frag} {mg : Mg} {e : Ent} {ι ι' : List Addr} {B B' H H' : Hp} {ρ : Rho} {O : Sto} {σ : St} {a p : Addr} {c : Cell}
theorem CA.there (h : CA K mg ι B H a c) : ∃ o, H a = some o := by
  cases c with
  | lst ds => obtain ⟨_, h, _⟩ := h; exact ⟨_, h⟩
  | dct es => obtain ⟨_, h, _⟩ := h; exact ⟨_, h⟩
  | ins c fs => obtain ⟨_, _, _, _, h, _⟩ := h; exact ⟨_, h⟩
theorem CA.mono (hB : Same B B') (hi : Pre ι ι') (hH : H' a = H a) (h : CA K mg ι B H a c) : CA K mg ι' B' H' a c := by
  cases c with
  | lst ds => obtain ⟨vs, h, r⟩ := h; exact ⟨vs, hH.trans h, DA.monos hB hi _ _ r⟩
  | dct es => obtain ⟨vs, h, r⟩ := h; exact ⟨vs, hH.trans h, KD.mono hB hi _ _ r⟩
  | ins c fs => obtain ⟨C, dx, fvs, m, h, r⟩ := h; exact ⟨C, dx, fvs, m, hH.trans h, DA.monof hB hi _ _ r⟩
/-- the store's cell at an address -/
theorem Rel.cell (r : Rel K mg e ι B H ρ O σ) (h : a ∈ ι) : ∃ (n : Nat) (c : Cell), ι[n]? = some a ∧ O[n]? = some c ∧ CA K mg ι B H a c ∧ B a = none := by
  obtain ⟨n, q⟩ := List.mem_iff_getElem?.mp h
  have hn : n < O.length := by
    rw [r.lo]
    exact (List.getElem?_eq_some_iff.mp q).1
  have hc : O[n]? = some O[n] := List.getElem?_eq_getElem hn
  obtain ⟨h1, h2⟩ := r.ob n _ a hc q
  exact ⟨n, _, q, hc, h1, h2⟩
/-- what is free now was free at the entry -/
theorem Rel.free (r : Rel K mg e ι B H ρ O σ) (h : H a = none) : e.H a = none := by
  cases q : e.H a with
  | none => rfl
  | some o =>
    by_cases m : a ∈ e.ι
    · obtain ⟨_, _, _, _, x, _⟩ := r.cell (r.ei.mem m)
      obtain ⟨o', x⟩ := x.there
      rw [h] at x
      cases x
    · rw [r.fH a o q m] at h
      cases h
/-- the frozen part and the heap have grown by new objects -/
theorem Rel.grow (r : Rel K mg e ι B H ρ O σ) (hH : Same H H') (hB : Same B B') (hs : Same B' H') (fb : ∀ a o, B' a = some o → B a = some o ∨ H a = none) : Rel K mg e ι B' H' ρ O σ := by
  have keep : ∀ {a : Addr} {c : Cell}, CA K mg ι B H a c → B a = none → CA K mg ι B' H' a c ∧ B' a = none := fun {a c} h n => by
    obtain ⟨o, q⟩ := h.there
    refine ⟨h.mono hB (Pre.refl _) ((hH _ _ q).trans q.symm), ?_⟩
    cases z : B' a with
    | none => rfl
    | some o' =>
      rcases fb a o' z with y | y
      · rw [n] at y; cases y
      · rw [q] at y; cases y
  refine ⟨hs, r.eB.trans hB, r.ei, fun a o h => ?_, fun a o h m => hH _ _ (r.fH a o h m), r.fi, r.len, fun i x h => ?_, r.sep, r.lo, fun n c a h1 h2 => keep (r.ob n c a h1 h2).1 (r.ob n c a h1 h2).2, r.nd⟩
  · rcases fb a o h with y | y
    · exact r.fB a o y
    · exact .inr (r.free y)
  · obtain ⟨v, h1, h2⟩ := r.sl i x h
    refine ⟨v, h1, ?_⟩
    cases x with
    | shr d => exact DA.mono hB (Pre.refl _) d v h2
    | raw w => exact h2
    | own c =>
      obtain ⟨a, e1, e2, e3, e4, e5⟩ := h2
      obtain ⟨k1, k2⟩ := keep e2 e3
      exact ⟨a, e1, k1, k2, e4, e5⟩
/-- a new object, frozen at once -/
theorem Rel.alloc (r : Rel K mg e ι B H ρ O σ) (hp : H p = none) (o : HO) : Rel K mg e ι (upd B p o) (upd H p o) ρ O σ ∧ Same B (upd B p o) := by
  have nb : B p = none := r.sub.free hp
  have sb : Same B (upd B p o) := fun b x h => by rw [upd_ne (ne_of_none h nb)]; exact h
  have sh : Same H (upd H p o) := fun b x h => by rw [upd_ne (ne_of_none h hp)]; exact h
  refine ⟨r.grow sh sb (fun b x h => ?_) fun b x h => ?_, sb⟩
  · by_cases e1 : b = p
    · subst e1; rw [upd_same] at h ⊢; exact h
    · rw [upd_ne e1] at h ⊢; exact r.sub _ _ h
  · by_cases e1 : b = p
    · subst e1; exact .inr hp
    · rw [upd_ne e1] at h; exact .inl h
/-- a new object, not frozen -/
theorem Rel.fresh (r : Rel K mg e ι B H ρ O σ) (hp : H p = none) (o : HO) : Rel K mg e ι B (upd H p o) ρ O σ ∧ B p = none ∧ e.H p = none ∧ p ∉ ι := by
  have nb : B p = none := r.sub.free hp
  have sh : Same H (upd H p o) := fun b x h => by rw [upd_ne (ne_of_none h hp)]; exact h
  refine ⟨r.grow sh (Same.refl _) (r.sub.trans sh) fun b x h => .inl h, nb, r.free hp, fun m => ?_⟩
  obtain ⟨_, _, _, _, x, _⟩ := r.cell m
  obtain ⟨o', x⟩ := x.there
  rw [hp] at x
  cases x
/-- without the slots -/
theorem Rel.bare (r : Rel K mg e ι B H ρ O σ) : Rel K mg e ι B H [] O [] :=
  ⟨r.sub, r.eB, r.ei, r.fB, r.fH, r.fi, rfl, fun i x h => by simp at h, fun i j a c c' h => by simp at h, r.lo, r.ob, r.nd⟩
/-- a callee's entry -/
theorem Rel.enter (r : Rel K mg e ι B H ρ O σ) : Rel K mg ⟨ι, B, H⟩ ι B H [] O [] :=
  ⟨r.sub, Same.refl _, Pre.refl _, fun a o h => .inl h, fun a o h m => h, fun a h => .inl h, rfl, fun i x h => by simp at h, fun i j a c c' h => by simp at h, r.lo, r.ob, r.nd⟩
/-- behind a callee -/
theorem Rel.after {O' : Sto} (r : Rel K mg e ι B H ρ O σ) (q : Rel K mg ⟨ι, B, H⟩ ι' B' H' [] O' []) : Rel K mg e ι' B' H' ρ O' σ := by
  refine ⟨q.sub, r.eB.trans q.eB, r.ei.trans q.ei, fun a o h => ?_, fun a o h m => ?_, fun a h => ?_, r.len, fun i x h => ?_, r.sep, q.lo, q.ob, q.nd⟩
  · rcases q.fB a o h with y | y
    · exact r.fB a o y
    · exact .inr (r.free y)
  · by_cases m2 : a ∈ ι
    · rcases r.fi a m2 with y | y
      · exact absurd y m
      · rw [h] at y; cases y
    · exact q.fH a o (r.fH a o h m) m2
  · rcases q.fi a h with y | y
    · exact r.fi a y
    · exact .inr (r.free y)
  · obtain ⟨v, h1, h2⟩ := r.sl i x h
    refine ⟨v, h1, ?_⟩
    cases x with
    | shr d => exact DA.mono q.eB q.ei d v h2
    | raw w => exact h2
    | own c =>
      obtain ⟨a, e1, e2, e3, e4, e5⟩ := h2
      obtain ⟨o, eo⟩ := e2.there
      have hh : H' a = H a := (q.fH a o eo e5).trans eo.symm
      refine ⟨a, e1, e2.mono q.eB q.ei hh, ?_, e4, fun m => ?_⟩
      · cases z : B' a with
        | none => rfl
        | some o' =>
          rcases q.fB a o' z with y | y
          · have y' : B a = some o' := y
            rw [e3] at y'; cases y'
          · have y' : H a = none := y
            rw [eo] at y'; cases y'
      · rcases q.fi a m with y | y
        · exact e5 y
        · have y' : H a = none := y
          rw [eo] at y'; cases y'
/-- a slot is set to data -/
theorem Rel.set (r : Rel K mg e ι B H ρ O σ) {i : Nat} {v : V} {d : D} (h : DA K ι B v d) (hi : i < ρ.length) : Rel K mg e ι B H (ρ.set i (some (.shr d))) O (σ.set i (some v)) := by
  have hi2 : i < σ.length := by rw [r.len]; exact hi
  refine ⟨r.sub, r.eB, r.ei, r.fB, r.fH, r.fi, by rw [List.length_set, List.length_set]; exact r.len, fun j x q => ?_, fun j k a c c' h1 h2 h3 h4 => ?_, r.lo, r.ob, r.nd⟩
  · by_cases e1 : i = j
    · subst e1
      rw [List.getElem?_set_self hi] at q
      cases q
      exact ⟨v, List.getElem?_set_self hi2, h⟩
    · rw [List.getElem?_set_ne e1] at q ⊢
      exact r.sl j x q
  · by_cases e1 : i = j
    · subst e1
      rw [List.getElem?_set_self hi] at h1
      cases h1
    · by_cases e2 : i = k
      · subst e2
        rw [List.getElem?_set_self hi] at h2
        cases h2
      · rw [List.getElem?_set_ne e1] at h1 h3
        rw [List.getElem?_set_ne e2] at h2 h4
        exact r.sep j k a c c' h1 h2 h3 h4
/-- .. to a value as it is -/
theorem Rel.setRaw (r : Rel K mg e ι B H ρ O σ) {i : Nat} {v : V} (hi : i < ρ.length) : Rel K mg e ι B H (ρ.set i (some (.raw v))) O (σ.set i (some v)) := by
  have hi2 : i < σ.length := by rw [r.len]; exact hi
  refine ⟨r.sub, r.eB, r.ei, r.fB, r.fH, r.fi, by rw [List.length_set, List.length_set]; exact r.len, fun j x q => ?_, fun j k a c c' h1 h2 h3 h4 => ?_, r.lo, r.ob, r.nd⟩
  · by_cases e1 : i = j
    · subst e1
      rw [List.getElem?_set_self hi] at q
      cases q
      exact ⟨v, List.getElem?_set_self hi2, rfl⟩
    · rw [List.getElem?_set_ne e1] at q ⊢
      exact r.sl j x q
  · by_cases e1 : i = j
    · subst e1
      rw [List.getElem?_set_self hi] at h1
      cases h1
    · by_cases e2 : i = k
      · subst e2
        rw [List.getElem?_set_self hi] at h2
        cases h2
      · rw [List.getElem?_set_ne e1] at h1 h3
        rw [List.getElem?_set_ne e2] at h2 h4
        exact r.sep j k a c c' h1 h2 h3 h4
/-- .. to nothing -/
theorem Rel.unset (r : Rel K mg e ι B H ρ O σ) {i : Nat} {o : Option V} : Rel K mg e ι B H (ρ.set i none) O (σ.set i o) := by
  refine ⟨r.sub, r.eB, r.ei, r.fB, r.fH, r.fi, by rw [List.length_set, List.length_set]; exact r.len, fun j x q => ?_, fun j k a c c' h1 h2 h3 h4 => ?_, r.lo, r.ob, r.nd⟩
  · by_cases e1 : i = j
    · subst e1
      rw [List.getElem?_set] at q
      split at q
      · split at q <;> cases q
      · rename_i z; exact absurd rfl z
    · rw [List.getElem?_set_ne e1] at q ⊢
      exact r.sl j x q
  · by_cases e1 : i = j
    · subst e1
      rw [List.getElem?_set] at h1
      split at h1
      · split at h1 <;> cases h1
      · rename_i z; exact absurd rfl z
    · by_cases e2 : i = k
      · subst e2
        rw [List.getElem?_set] at h2
        split at h2
        · split at h2 <;> cases h2
        · rename_i z; exact absurd rfl z
      · rw [List.getElem?_set_ne e1] at h1 h3
        rw [List.getElem?_set_ne e2] at h2 h4
        exact r.sep j k a c c' h1 h2 h3 h4
/-- a new cell comes to a slot -/
theorem Rel.setOwn (r : Rel K mg e ι B H ρ O σ) {i : Nat} (hi : i < ρ.length) (ca : CA K mg ι B H a c) (hb : B a = none) (he : e.H a = none) (hn : a ∉ ι)
    (ne : ∀ (j : Nat) (c' : Cell), ρ[j]? = some (some (.own c')) → σ[j]? ≠ some (some (.ref a))) : Rel K mg e ι B H (ρ.set i (some (.own c))) O (σ.set i (some (.ref a))) := by
  have hi2 : i < σ.length := by rw [r.len]; exact hi
  refine ⟨r.sub, r.eB, r.ei, r.fB, r.fH, r.fi, by rw [List.length_set, List.length_set]; exact r.len, fun j x q => ?_, fun j k b c1 c2 h1 h2 h3 h4 => ?_, r.lo, r.ob, r.nd⟩
  · by_cases e1 : i = j
    · subst e1
      rw [List.getElem?_set_self hi] at q
      cases q
      exact ⟨_, List.getElem?_set_self hi2, a, rfl, ca, hb, he, hn⟩
    · rw [List.getElem?_set_ne e1] at q ⊢
      exact r.sl j x q
  · by_cases e1 : i = j
    · by_cases e2 : i = k
      · exact e1.symm.trans e2
      · subst e1
        rw [List.getElem?_set_self hi2] at h3
        cases h3
        rw [List.getElem?_set_ne e2] at h2 h4
        exact absurd h4 (ne k c2 h2)
    · by_cases e2 : i = k
      · subst e2
        rw [List.getElem?_set_self hi2] at h4
        cases h4
        rw [List.getElem?_set_ne e1] at h1 h3
        exact absurd h3 (ne j c1 h1)
      · rw [List.getElem?_set_ne e1] at h1 h3
        rw [List.getElem?_set_ne e2] at h2 h4
        exact r.sep j k b c1 c2 h1 h2 h3 h4

/-- the heap has changed at an address that is not frozen and not the caller's -/
theorem Rel.poke (r : Rel K mg e ι B H ρ O σ) (hb : B a = none) (he : e.H a = none ∨ a ∈ e.ι) {o : HO}
    (hs : ∀ (i : Nat) (c : Cell), ρ[i]? = some (some (.own c)) → σ[i]? ≠ some (some (.ref a))) (hn : a ∉ ι) : Rel K mg e ι B (upd H a o) ρ O σ := by
  refine ⟨fun b x h => ?_, r.eB, r.ei, r.fB, fun b x h m => ?_, r.fi, r.len, fun i x h => ?_, r.sep, r.lo, fun n c b h1 h2 => ?_, r.nd⟩
  · rw [upd_ne (ne_of_none h hb)]; exact r.sub _ _ h
  · have : b ≠ a := by
      rintro rfl
      rcases he with y | y
      · rw [h] at y; cases y
      · exact m y
    rw [upd_ne this]; exact r.fH b x h m
  · obtain ⟨v, h1, h2⟩ := r.sl i x h
    refine ⟨v, h1, ?_⟩
    cases x with
    | shr d => exact h2
    | raw w => exact h2
    | own c =>
      obtain ⟨b, e1, e2, e3, e4, e5⟩ := h2
      subst e1
      have : b ≠ a := by
        rintro rfl
        exact hs i c h h1
      exact ⟨b, rfl, e2.mono (Same.refl _) (Pre.refl _) (upd_ne this), e3, e4, e5⟩
  · have : b ≠ a := by
      rintro rfl
      exact hn (List.mem_of_getElem? h2)
    obtain ⟨k1, k2⟩ := r.ob n c b h1 h2
    exact ⟨k1.mono (Same.refl _) (Pre.refl _) (upd_ne this), k2⟩
/-- an owned cell is changed -/
theorem Rel.putOwn (r : Rel K mg e ι B H ρ O σ) {i : Nat} {c' : Cell} {o : HO} (h : ρ[i]? = some (some (.own c))) (hv : σ[i]? = some (some (.ref a))) (ca : CA K mg ι B (upd H a o) a c') :
    Rel K mg e ι B (upd H a o) (ρ.set i (some (.own c'))) O σ := by
  obtain ⟨v, h1, b, e1, e2, e3, e4, e5⟩ := r.sl i _ h
  rw [hv] at h1
  cases h1
  cases e1
  have hi : i < ρ.length := (List.getElem?_eq_some_iff.mp h).1
  have q : Rel K mg e ι B (upd H a o) (ρ.set i none) O (σ.set i none) := by
    refine (r.unset (i := i) (o := none)).poke e3 (.inl e4) (fun j c2 h2 h3 => ?_) e5
    by_cases e6 : i = j
    · subst e6
      rw [List.getElem?_set_self hi] at h2
      cases h2
    · rw [List.getElem?_set_ne e6] at h2 h3
      exact e6 (r.sep i j a c c2 h h2 hv h3)
  have hi2 : i < (ρ.set i none).length := by rw [List.length_set]; exact hi
  have z := q.setOwn (i := i) (c := c') (a := a) hi2 ca e3 e4 e5 fun j c2 h2 h3 => by
    by_cases e6 : i = j
    · subst e6
      rw [List.getElem?_set_self hi] at h2
      cases h2
    · rw [List.getElem?_set_ne e6] at h2 h3
      exact e6 (r.sep i j a c c2 h h2 hv h3)
  have e7 : σ = σ.set i (some (.ref a)) := by
    apply List.ext_getElem?
    intro j
    by_cases e6 : i = j
    · subst e6
      rw [List.getElem?_set_self (by rw [r.len]; exact hi)]
      exact hv
    · rw [List.getElem?_set_ne e6]
  rw [List.set_set, List.set_set, ← e7] at z
  exact z
/-- an owned list is frozen -/
theorem Rel.freezeL (r : Rel K mg e ι B H ρ O σ) {i : Nat} {ds : List D} (h : ρ[i]? = some (some (.own (.lst ds)))) : ∃ B', Rel K mg e ι B' H (ρ.set i (some (.shr (.lst ds)))) O σ ∧ Same B B' := by
  obtain ⟨v, h1, a, e1, e2, e3, e4, e5⟩ := r.sl i _ h
  subst e1
  obtain ⟨vs, hv, pv⟩ := e2
  have sb : Same B (upd B a (.lst vs)) := fun b x h => by rw [upd_ne (ne_of_none h e3)]; exact h
  have hi : i < ρ.length := (List.getElem?_eq_some_iff.mp h).1
  have e7 : σ = σ.set i (some (.ref a)) := by
    apply List.ext_getElem?
    intro j
    by_cases e6 : i = j
    · subst e6
      rw [List.getElem?_set_self (by rw [r.len]; exact hi)]
      exact h1
    · rw [List.getElem?_set_ne e6]
  refine ⟨_, ?_, sb⟩
  have q := r.unset (i := i) (o := none)
  have q2 : Rel K mg e ι (upd B a (.lst vs)) H (ρ.set i none) O (σ.set i none) := by
    refine ⟨fun b x h => ?_, q.eB.trans sb, q.ei, fun b x h => ?_, q.fH, q.fi, q.len, fun j x h2 => ?_, q.sep, q.lo, fun n c b h2 h3 => ?_, q.nd⟩
    · by_cases e6 : b = a
      · subst e6; rw [upd_same] at h; cases h; exact hv
      · rw [upd_ne e6] at h; exact r.sub _ _ h
    · by_cases e6 : b = a
      · subst e6; exact .inr e4
      · rw [upd_ne e6] at h; exact r.fB b x h
    · obtain ⟨w, k1, k2⟩ := q.sl j x h2
      refine ⟨w, k1, ?_⟩
      cases x with
      | shr d => exact DA.mono sb (Pre.refl _) d w k2
      | raw u => exact k2
      | own c =>
        obtain ⟨b, m1, m2, m3, m4, m5⟩ := k2
        subst m1
        have hne : b ≠ a := by
          rintro rfl
          by_cases e6 : i = j
          · subst e6
            rw [List.getElem?_set_self hi] at h2
            cases h2
          · rw [List.getElem?_set_ne e6] at h2 k1
            exact e6 (r.sep i j b _ _ h h2 h1 k1)
        exact ⟨b, rfl, m2.mono sb (Pre.refl _) rfl, by rw [upd_ne hne]; exact m3, m4, m5⟩
    · have hne : b ≠ a := by
        rintro rfl
        exact e5 (List.mem_of_getElem? h3)
      obtain ⟨k1, k2⟩ := r.ob n c b h2 h3
      exact ⟨k1.mono sb (Pre.refl _) rfl, by rw [upd_ne hne]; exact k2⟩
  have z := q2.set (i := i) (v := .ref a) (d := .lst ds) (.lst upd_same (DA.monos sb (Pre.refl _) _ _ pv)) (by rw [List.length_set]; exact hi)
  rw [List.set_set, List.set_set, ← e7] at z
  exact z
end

/-! ### results -/
inductive RE (α : Type) where
  | ok (a : α) (O : Sto) | err (c : Str) (p : D) (O : Sto) | bad
inductive RS where
  | nx (ρ : Rho) (O : Sto) | bk (ρ : Rho) (O : Sto) | ct (ρ : Rho) (O : Sto) | ret (x : SD) (O : Sto) | err (c : Str) (p : D) (ρ : Rho) (O : Sto) | bad
abbrev ME (α : Type) := Rho → Sto → RE α
abbrev MS := Rho → Sto → RS
abbrev MF := List D → Sto → RE SD

/-- an exception of the class c with the place p; its dict at dx -/
def Exc (K : PySem.W.Frag) (mg : Mg) (ι : List Addr) (B : Hp) (C dx : Addr) (c : Str) (p : D) : Prop :=
  mg c = some (.ref C) ∧ ∃ fs v, B dx = some (.xd fs) ∧ fs.lookup ("place" : Str) = some v ∧ DA K ι B v p ∧ fs.lookup ("name" : Str) = some (.str c)
theorem Exc.mono {K : PySem.W.Frag} {mg : Mg} {ι ι' : List Addr} {B B' : Hp} {C dx : Addr} {c : Str} {p : D} (hB : Same B B') (hi : Pre ι ι') (h : Exc K mg ι B C dx c p) : Exc K mg ι' B' C dx c p := by
  obtain ⟨h1, fs, v, h2, h3, h4, h5⟩ := h
  exact ⟨h1, fs, v, hB _ _ h2, h3, DA.mono hB hi _ _ h4, h5⟩

section
variable {β α γ δ : Type}
/-- how a Lean value of a reading stands for data -/
abbrev RV (β α : Type) := List Addr → Hp → Rho → St → β → α → Prop
/-- the wish behind an expression: the outcome r leads to Q (or, raised, to Wx) -/
def EvP (X : Cx) (Wx : WX) (R : RV β α) (e : Ent) (ι : List Addr) (B : Hp) (ρ : Rho) (σ : St) (Q : β → Hp → Prop) : RE α → Prop
  | .ok d O' => ∀ ι' B' H' v, Rel X.K X.mg e ι' B' H' ρ O' σ → Pre ι ι' → Same B B' → R ι' B' ρ σ v d → Q v H'
  | .err c p O' => ∀ ι' B' H' C dx, Rel X.K X.mg e ι' B' H' ρ O' σ → Pre ι ι' → Same B B' → Exc X.K X.mg ι' B' C dx c p → Wx (.ref C) (some dx) σ H'
  | .bad => False
def Ev (X : Cx) (Wx : WX) (R : RV β α) (t : St → Hp → (β → Hp → Prop) → Prop) (m : ME α) : Prop :=
  ∀ e ι B H ρ O σ Q, Rel X.K X.mg e ι B H ρ O σ → EvP X Wx R e ι B ρ σ Q (m ρ O) → t σ H Q
/-- a further step, behind a value -/
def EvC (X : Cx) (Wx : WX) (R : RV β α) (R' : RV γ δ) (u : β → St → Hp → (γ → Hp → Prop) → Prop) (f : α → ME δ) : Prop :=
  ∀ x a e ι B H ρ O σ Q, Rel X.K X.mg e ι B H ρ O σ → R ι B ρ σ x a → EvP X Wx R' e ι B ρ σ Q (f a ρ O) → u x σ H Q
def bindE (m : ME α) (f : α → ME δ) : ME δ := fun ρ O =>
  match m ρ O with
  | .ok a O' => f a ρ O'
  | .err c p O' => .err c p O'
  | .bad => .bad
def pureE (a : α) : ME α := fun _ O => .ok a O
def badE : ME α := fun _ _ => .bad
def optE : Option α → ME α
  | some a => pureE a
  | none => badE
variable {X : Cx} {Wx : WX} {R : RV β α} {R' : RV γ δ}
theorem EvP.later {e : Ent} {ι ι' : List Addr} {B B' : Hp} {ρ : Rho} {σ : St} {Q : β → Hp → Prop} {r : RE α} (hi : Pre ι ι') (hB : Same B B') (h : EvP X Wx R e ι B ρ σ Q r) : EvP X Wx R e ι' B' ρ σ Q r := by
  cases r with
  | ok d O' => exact fun ι2 B2 H2 v r2 i2 b2 q => h ι2 B2 H2 v r2 (hi.trans i2) (hB.trans b2) q
  | err c p O' => exact fun ι2 B2 H2 C dx r2 i2 b2 q => h ι2 B2 H2 C dx r2 (hi.trans i2) (hB.trans b2) q
  | bad => exact h
theorem Ev.bind {t : St → Hp → (β → Hp → Prop) → Prop} {m : ME α} {u : β → St → Hp → (γ → Hp → Prop) → Prop} {f : α → ME δ} (h : Ev X Wx R t m) (k : EvC X Wx R R' u f) :
    Ev X Wx R' (fun σ H Q => t σ H fun x H1 => u x σ H1 Q) (bindE m f) := by
  intro e ι B H ρ O σ Q r q
  refine h e ι B H ρ O σ _ r ?_
  unfold bindE at q
  cases z : m ρ O with
  | bad => rw [z] at q; exact q
  | err c p O' => rw [z] at q; exact q
  | ok a O' =>
    rw [z] at q
    intro ι' B' H' v r' i' b' ra
    exact k v a e ι' B' H' ρ O' σ Q r' ra (EvP.later (r := f a ρ O') i' b' q)
theorem EvP.ok {e : Ent} {ι : List Addr} {B H : Hp} {ρ : Rho} {O : Sto} {σ : St} {Q : β → Hp → Prop} {v : β} {a : α} (r : Rel X.K X.mg e ι B H ρ O σ) (h : EvP X Wx R e ι B ρ σ Q (.ok a O)) (q : R ι B ρ σ v a) : Q v H :=
  h ι B H v r (Pre.refl _) (Same.refl _) q
/-- the readings of values, tests, arguments, parts of slices -/
abbrev rD (X : Cx) : RV V D := fun ι B _ _ v d => DA X.K ι B v d
/-- a cell as data -/
def Cell.dat : Cell → D
  | .lst xs => .lst xs
  | .dct es => .dct es
  | .ins _ _ => .non
/-- frozen, or owned by a slot -/
def rS (X : Cx) : RV V D := fun ι B ρ σ v d => DA X.K ι B v d ∨ ∃ (i : Nat) (c : Cell), ρ[i]? = some (some (.own c)) ∧ σ[i]? = some (some v) ∧ d = c.dat ∧ (∀ n fs, c ≠ .ins n fs)
abbrev rQ (α : Type) : RV α α := fun _ _ _ _ a b => a = b
abbrev rDs (X : Cx) : RV (List V) (List D) := fun ι B _ _ vs ds => Paired (DA X.K ι B) vs ds
end

/-- a value as it may be read now: its own object in the heap, its parts frozen -/
def DH (K : PySem.W.Frag) (ι : List Addr) (B H : Hp) (v : V) : D → Prop
  | .lst ds => ∃ a vs, v = .ref a ∧ H a = some (.lst vs) ∧ Paired (DA K ι B) vs ds
  | .sea ds => ∃ a vs, v = .ref a ∧ SqL K H a vs ∧ Paired (DA K ι B) vs ds
  | .tup ds => ∃ a vs, v = .ref a ∧ SqT K H a vs ∧ Paired (DA K ι B) vs ds
  | .dct es => ∃ a kvs, v = .ref a ∧ Rd H a (.dK kvs) ∧ Paired (KD K ι B) kvs es
  | d => DA K ι B v d
theorem DA.dh {K : PySem.W.Frag} {ι : List Addr} {B H : Hp} {v : V} {d : D} (hs : Same B H) (h : DA K ι B v d) : DH K ι B H v d := by
  cases d with
  | non => exact h
  | bl b => exact h
  | int i => exact h
  | str x => exact h
  | obj n => exact h
  | lst ds =>
    cases h with
    | lst h1 h2 => exact ⟨_, _, rfl, hs _ _ h1, h2⟩
  | sea ds =>
    cases h with
    | sea h1 h2 => exact ⟨_, _, rfl, hs.seq h1, h2⟩
  | tup ds =>
    cases h with
    | tup h1 h2 => exact ⟨_, _, rfl, sqT_same hs h1, h2⟩
  | dct es =>
    cases h with
    | dct h1 h2 h3 => exact ⟨_, _, rfl, .inr ⟨_, hs _ _ h1⟩, KD.join h2 h3⟩
theorem rS.dh {X : Cx} {e : Ent} {ι : List Addr} {B H : Hp} {ρ : Rho} {O : Sto} {σ : St} {v : V} {d : D} (r : Rel X.K X.mg e ι B H ρ O σ) (h : rS X ι B ρ σ v d) : DH X.K ι B H v d := by
  rcases h with h | ⟨i, c, h1, h2, rfl, h3⟩
  · exact h.dh r.sub
  · obtain ⟨w, k1, a, k2, k3, k4, k5, k6⟩ := r.sl i _ h1
    rw [h2] at k1
    cases k1
    subst k2
    cases c with
    | lst ds => obtain ⟨vs, k3, k7⟩ := k3; exact ⟨a, vs, rfl, k3, k7⟩
    | dct es => obtain ⟨kvs, k3, k7⟩ := k3; exact ⟨a, kvs, rfl, .inl k3, k7⟩
    | ins n fs => exact absurd rfl (h3 n fs)
theorem rS.mono {X : Cx} {ι ι' : List Addr} {B B' : Hp} {ρ : Rho} {σ : St} {v : V} {d : D} (hi : Pre ι ι') (hB : Same B B') (h : rS X ι B ρ σ v d) : rS X ι' B' ρ σ v d := by
  rcases h with h | h
  · exact .inl (DA.mono hB hi _ _ h)
  · exact .inr h

/-- an expression e does what m says -/
def EX (X : Cx) (Wx : WX) (e : Expr) (m : ME D) : Prop := ∃ t, PE X e t ∧ Ev X Wx (rD X) t m
/-- .. its value is read at once -/
def EZ (X : Cx) (Wx : WX) (e : Expr) (m : ME D) : Prop := ∃ t, PE X e t ∧ Ev X Wx (rS X) t m
theorem EX.z {X : Cx} {Wx : WX} {e : Expr} {m : ME D} (h : EX X Wx e m) : EZ X Wx e m := by
  obtain ⟨t, pt, et⟩ := h
  refine ⟨t, pt, fun e ι B H ρ O σ Q r q => et e ι B H ρ O σ Q r ?_⟩
  cases z : m ρ O with
  | ok d O' => rw [z] at q; exact fun ι' B' H' v r' i' b' h => q ι' B' H' v r' i' b' (.inl h)
  | err c p O' => rw [z] at q; exact q
  | bad => rw [z] at q; exact q
def ET (X : Cx) (Wx : WX) (e : Expr) (m : ME Bool) : Prop := ∃ t, PT X e t ∧ Ev X Wx (rQ Bool) t m
def EA (X : Cx) (Wx : WX) (es : List Expr) (m : ME (List D)) : Prop := ∃ t, PA X es t ∧ Ev X Wx (rDs X) t m

/-! ### statements -/
/-- the wish behind a statement -/
def EvSP (X : Cx) (Wx : WX) (e : Ent) (ι : List Addr) (B : Hp) (D' : Ends) : RS → Prop
  | .nx ρ' O' => ∀ ι' B' H' σ', Rel X.K X.mg e ι' B' H' ρ' O' σ' → Pre ι ι' → Same B B' → D'.nx σ' H'
  | .bk ρ' O' => ∀ ι' B' H' σ', Rel X.K X.mg e ι' B' H' ρ' O' σ' → Pre ι ι' → Same B B' → D'.bk σ' H'
  | .ct ρ' O' => ∀ ι' B' H' σ', Rel X.K X.mg e ι' B' H' ρ' O' σ' → Pre ι ι' → Same B B' → D'.ct σ' H'
  | .ret x O' => ∀ ι' B' H' v, Rel X.K X.mg e ι' B' H' [] O' [] → Pre ι ι' → Same B B' → SA X.K X.mg e ι' B' H' v x → D'.rt v H'
  | .err c p ρ' O' => ∀ ι' B' H' σ' C dx, Rel X.K X.mg e ι' B' H' ρ' O' σ' → Pre ι ι' → Same B B' → Exc X.K X.mg ι' B' C dx c p → Wx (.ref C) (some dx) σ' H'
  | .bad => False
def EvS (X : Cx) (Wx : WX) (t : TS) (m : MS) : Prop := ∀ e ι B H ρ O σ D', Rel X.K X.mg e ι B H ρ O σ → EvSP X Wx e ι B D' (m ρ O) → t D' σ H
def ES (X : Cx) (Wx : WX) (st : Stmt) (m : MS) : Prop := ∃ t, PS X st t ∧ EvS X Wx t m
def EB (X : Cx) (Wx : WX) (sts : List Stmt) (m : MS) : Prop := ∃ t, PSs X sts t ∧ EvS X Wx t m
section
variable {X : Cx} {Wx : WX} {e : Ent} {ι ι' : List Addr} {B B' : Hp} {D' D2 : Ends} {r : RS}
theorem EvSP.later (hi : Pre ι ι') (hB : Same B B') (h : EvSP X Wx e ι B D' r) : EvSP X Wx e ι' B' D' r := by
  cases r with
  | nx ρ' O' => exact fun ι2 B2 H2 σ' r2 i2 b2 => h ι2 B2 H2 σ' r2 (hi.trans i2) (hB.trans b2)
  | bk ρ' O' => exact fun ι2 B2 H2 σ' r2 i2 b2 => h ι2 B2 H2 σ' r2 (hi.trans i2) (hB.trans b2)
  | ct ρ' O' => exact fun ι2 B2 H2 σ' r2 i2 b2 => h ι2 B2 H2 σ' r2 (hi.trans i2) (hB.trans b2)
  | ret x O' => exact fun ι2 B2 H2 v r2 i2 b2 => h ι2 B2 H2 v r2 (hi.trans i2) (hB.trans b2)
  | err c p ρ' O' => exact fun ι2 B2 H2 σ' C dx r2 i2 b2 => h ι2 B2 H2 σ' C dx r2 (hi.trans i2) (hB.trans b2)
  | bad => exact h
/-- one statement behind another -/
def seqS (a b : MS) : MS := fun ρ O =>
  match a ρ O with
  | .nx ρ' O' => b ρ' O'
  | r => r
def skipS : MS := fun ρ O => .nx ρ O
theorem eb_nil : EB X Wx [] skipS := ⟨_, pss_nil, fun e ι B H ρ O σ D' r q => q ι B H σ r (Pre.refl _) (Same.refl _)⟩
theorem eb_cons {st : Stmt} {rest : List Stmt} {a b : MS} (ha : ES X Wx st a) (hb : EB X Wx rest b) : EB X Wx (st :: rest) (seqS a b) := by
  obtain ⟨t, pt, et⟩ := ha
  obtain ⟨u, pu, eu⟩ := hb
  refine ⟨_, pss_cons pt pu, fun e ι B H ρ O σ D' r q => ?_⟩
  refine et e ι B H ρ O σ _ r ?_
  unfold seqS at q
  cases z : a ρ O with
  | nx ρ' O' =>
    rw [z] at q
    exact fun ι' B' H' σ' r' i' b' => eu e ι' B' H' ρ' O' σ' D' r' (EvSP.later (r := b ρ' O') i' b' q)
  | bk ρ' O' => rw [z] at q; exact q
  | ct ρ' O' => rw [z] at q; exact q
  | ret x O' => rw [z] at q; exact q
  | err c p ρ' O' => rw [z] at q; exact q
  | bad => rw [z] at q; exact q
theorem eb_one {st : Stmt} {a : MS} (ha : ES X Wx st a) : EB X Wx [st] a := by
  obtain ⟨t, pt, et⟩ := ha
  exact ⟨_, pss_one pt, et⟩
/-- an expression's value goes on into a statement -/
def bindS {α : Type} (m : ME α) (f : α → MS) : MS := fun ρ O =>
  match m ρ O with
  | .ok a O' => f a ρ O'
  | .err c p O' => .err c p ρ O'
  | .bad => .bad
theorem EvS.bind {β α : Type} {R : RV β α} {t : St → Hp → (β → Hp → Prop) → Prop} {m : ME α} {f : α → MS} {u : β → TS} (h : Ev X Wx R t m)
    (k : ∀ x a e ι B H ρ O σ D', Rel X.K X.mg e ι B H ρ O σ → R ι B ρ σ x a → EvSP X Wx e ι B D' (f a ρ O) → u x D' σ H) : EvS X Wx (fun D' σ H => t σ H fun x H1 => u x D' σ H1) (bindS m f) := by
  intro e ι B H ρ O σ D' r q
  refine h e ι B H ρ O σ _ r ?_
  unfold bindS at q
  cases z : m ρ O with
  | bad => rw [z] at q; exact q
  | err c p O' =>
    rw [z] at q
    exact fun ι' B' H' C dx r' i' b' x => q ι' B' H' σ C dx r' i' b' x
  | ok a O' =>
    rw [z] at q
    intro ι' B' H' v r' i' b' ra
    exact k v a e ι' B' H' ρ O' σ D' r' ra (EvSP.later (r := f a ρ O') i' b' q)
end
end DL

set_option Elab.async false
set_option linter.all false
set_option maxRecDepth 100000
namespace DL
open PySem L2
section
variable {X : Cx} {Wx : WX}

/-! ### constants, names -/
abbrev cM (d : D) : ME D := pureE d
theorem ev_const {v : V} {d : D} (h : ∀ ι B, DA X.K ι B v d) : Ev X Wx (rD X) (tC v) (cM d) := fun e ι B H ρ O σ Q r q => EvP.ok r q (h ι B)
theorem ex_int {i : Int} {j pos} : EX X Wx (.Constant (.int i) j pos) (cM (.int i)) := ⟨_, pe_int, ev_const fun _ _ => .int i⟩
theorem ex_bl {b : Bool} {j pos} : EX X Wx (.Constant (.bool b) j pos) (cM (.bl b)) := ⟨_, pe_bl, ev_const fun _ _ => .bl b⟩
theorem ex_non {j pos} : EX X Wx (.Constant .none j pos) (cM .non) := ⟨_, pe_non, ev_const fun _ _ => .non⟩
theorem ex_str {x : Str} {j pos} : EX X Wx (.Constant (.str x) j pos) (cM (.str x)) := ⟨_, pe_str, ev_const fun _ _ => .str x⟩
def rdM (i : Nat) : ME D := fun ρ O => match ρ[i]? with
  | some (some (.shr d)) => .ok d O
  | _ => .bad
theorem ev_var (i : Nat) : Ev X Wx (rD X) (tVar i) (rdM i) := by
  intro e ι B H ρ O σ Q r q
  unfold rdM at q
  split at q
  · rename_i d z
    obtain ⟨v, h1, h2⟩ := r.sl i _ z
    exact ⟨v, h1, EvP.ok r q h2⟩
  · exact q.elim
theorem ex_var (i : Nat) {x : Str} {pos : Pos} (hN : X.N[i]? = some x := by rfl) (hv : Vis X.env.scope x := by first | exact Or.inl rfl | exact Or.inr (Or.inl rfl) | exact Or.inr (Or.inr rfl)) (hd : (x == ("__debug__" : Str)) = false := by decide)
    (hcd : (x == ("__classdict__" : Str)) = false := by decide) : EX X Wx (.Name x pos) (rdM i) := ⟨_, pe_var hN hv hd hcd, ev_var i⟩
/-- .. read at once: owned or not -/
def rdZ (i : Nat) : ME D := fun ρ O => match ρ[i]? with
  | some (some (.shr d)) => .ok d O
  | some (some (.own (.lst xs))) => .ok (.lst xs) O
  | some (some (.own (.dct es))) => .ok (.dct es) O
  | _ => .bad
theorem ev_varZ (i : Nat) : Ev X Wx (rS X) (tVar i) (rdZ i) := by
  intro e ι B H ρ O σ Q r q
  unfold rdZ at q
  split at q
  · rename_i d z
    obtain ⟨v, h1, h2⟩ := r.sl i _ z
    exact ⟨v, h1, EvP.ok r q (.inl h2)⟩
  · rename_i xs z
    obtain ⟨v, h1, h2⟩ := r.sl i _ z
    exact ⟨v, h1, EvP.ok r q (.inr ⟨i, _, z, h1, rfl, fun _ _ h => nomatch h⟩)⟩
  · rename_i xs z
    obtain ⟨v, h1, h2⟩ := r.sl i _ z
    exact ⟨v, h1, EvP.ok r q (.inr ⟨i, _, z, h1, rfl, fun _ _ h => nomatch h⟩)⟩
  · exact q.elim
theorem ez_var (i : Nat) {x : Str} {pos : Pos} (hN : X.N[i]? = some x := by rfl) (hv : Vis X.env.scope x := by first | exact Or.inl rfl | exact Or.inr (Or.inl rfl) | exact Or.inr (Or.inr rfl)) (hd : (x == ("__debug__" : Str)) = false := by decide)
    (hcd : (x == ("__classdict__" : Str)) = false := by decide) : EZ X Wx (.Name x pos) (rdZ i) := ⟨_, pe_var hN hv hd hcd, ev_varZ i⟩
theorem ex_gint {x : Str} {i : Int} {t : Tok} {pos : Pos} (hm : X.mg x = some (.int i t)) (hg : Gl X x := by rfl) (hd : (x == ("__debug__" : Str)) = false := by decide) : EX X Wx (.Name x pos) (cM (.int i)) :=
  ⟨_, pe_glob (v := .int i) hg hm ⟨t, rfl⟩ hd, ev_const fun _ _ => .int i⟩
theorem ex_gstr {x : Str} {i : Str} {t : Tok} {pos : Pos} (hm : X.mg x = some (.str i t)) (hg : Gl X x := by rfl) (hd : (x == ("__debug__" : Str)) = false := by decide) : EX X Wx (.Name x pos) (cM (.str i)) :=
  ⟨_, pe_glob (v := .str i) hg hm ⟨t, rfl⟩ hd, ev_const fun _ _ => .str i⟩

/-! ### two operands -/
theorem Ev.bind2 {γ δ : Type} {R' : RV γ δ} {ta tb : TE} {ma mb : ME D} {u : V → V → St → Hp → (γ → Hp → Prop) → Prop} {f : D → D → ME δ} (ha : Ev X Wx (rS X) ta ma) (hb : Ev X Wx (rS X) tb mb)
    (k : ∀ x y a b e ι B H ρ O σ Q, Rel X.K X.mg e ι B H ρ O σ → rS X ι B ρ σ x a → rS X ι B ρ σ y b → EvP X Wx R' e ι B ρ σ Q (f a b ρ O) → u x y σ H Q) :
    Ev X Wx R' (fun σ H Q => ta σ H fun x H1 => tb σ H1 fun y H2 => u x y σ H2 Q) (bindE ma fun a => bindE mb fun b => f a b) := by
  refine Ev.bind (u := fun x σ H1 Q => tb σ H1 fun y H2 => u x y σ H2 Q) (f := fun a => bindE mb fun b => f a b) ha fun x a e ι B H ρ O σ Q r hx q => ?_
  refine hb e ι B H ρ O σ _ r ?_
  simp only [bindE] at q
  cases z : mb ρ O with
  | bad => rw [z] at q; exact q
  | err c p O' => rw [z] at q; exact q
  | ok b O' =>
    rw [z] at q
    intro ι' B' H' y r' i' b' hy
    exact k x y a b e ι' B' H' ρ O' σ Q r' (rS.mono i' b' hx) hy (EvP.later (r := f a b ρ O') i' b' q)
/-- an operation on two values -/
def Op2 (X : Cx) (r : R2) (f : D → D → Option D) : Prop := ∀ x y a b z e ι B H ρ O σ (Q : VK), Rel X.K X.mg e ι B H ρ O σ → DH X.K ι B H x a → DH X.K ι B H y b → f a b = some z →
  (∀ B' H' v, Rel X.K X.mg e ι B' H' ρ O σ → Same B B' → DA X.K ι B' v z → Q v H') → r x y H Q
def binM (f : D → D → Option D) (ma mb : ME D) : ME D := bindE ma fun a => bindE mb fun b => optE (f a b)
theorem ev_op {r : R2} {f : D → D → Option D} {ta tb : TE} {ma mb : ME D} (ho : Op2 X r f) (ha : Ev X Wx (rS X) ta ma) (hb : Ev X Wx (rS X) tb mb) : Ev X Wx (rD X) (tOp r ta tb) (binM f ma mb) := by
  refine Ev.bind2 (u := fun x y σ H Q => r x y H Q) ha hb fun x y a b e ι B H ρ O σ Q rl hx hy q => ?_
  cases z : f a b with
  | none => rw [z] at q; exact q.elim
  | some d =>
    rw [z] at q
    exact ho x y a b d e ι B H ρ O σ Q rl (hx.dh rl) (hy.dh rl) z fun B' H' v r' b' hv => q ι B' H' v r' (Pre.refl _) b' hv
theorem ex_op {op : Operator} {r : R2} {f : D → D → Option D} {a b : Expr} {pos : Pos} {ma mb : ME D} (hr : OpR X (binaryOp op) r) (ho : Op2 X r f) (ha : EZ X Wx a ma) (hb : EZ X Wx b mb) : EX X Wx (.BinOp a op b pos) (binM f ma mb) := by
  obtain ⟨ta, pa, ea⟩ := ha
  obtain ⟨tb, pb, eb⟩ := hb
  exact ⟨_, pe_op hr pa pb, ev_op ho ea eb⟩
theorem ex_cmp {op : CmpOp} {r : R2} {f : D → D → Option D} {a b : Expr} {pos : Pos} {ma mb : ME D} (hr : OpR X (compareOp op) r) (ho : Op2 X r f) (ha : EZ X Wx a ma) (hb : EZ X Wx b mb) (hm : behindInMarks op b = false) : EX X Wx (.Compare a [op] [b] pos) (binM f ma mb) := by
  obtain ⟨ta, pa, ea⟩ := ha
  obtain ⟨tb, pb, eb⟩ := hb
  exact ⟨_, pe_cmpR hr pa pb hm, ev_op ho ea eb⟩
/-- a value that is a truth value, as a test -/
def boolM (m : ME D) : ME Bool := bindE m fun d => match d with
  | .bl b => pureE b
  | _ => badE
theorem ev_bool {t : TE} {m : ME D} (h : Ev X Wx (rD X) t m) : Ev X Wx (rQ Bool) (fun σ H Q => t σ H fun x H' => ∃ k, x = .bl k ∧ Q k H') (boolM m) := by
  refine Ev.bind (u := fun x σ H Q => ∃ k, x = .bl k ∧ Q k H) h fun x a e ι B H ρ O σ Q r hx q => ?_
  cases a with
  | bl b =>
    cases hx
    exact ⟨b, rfl, EvP.ok r q rfl⟩
  | _ => exact q.elim
theorem et_cmp {op : CmpOp} {r : R2} {f : D → D → Option D} {a b : Expr} {pos : Pos} {ma mb : ME D} (hr : OpR X (compareOp op) r) (ho : Op2 X r f) (ha : EZ X Wx a ma) (hb : EZ X Wx b mb) (hm : behindInMarks op b = false) : ET X Wx (.Compare a [op] [b] pos) (boolM (binM f ma mb)) := by
  obtain ⟨ta, pa, ea⟩ := ha
  obtain ⟨tb, pb, eb⟩ := hb
  exact ⟨_, pt_cmpR hr pa pb hm, ev_bool (ev_op ho ea eb)⟩
/-- a value's truth -/
def truD : D → Option Bool
  | .non => some false
  | .bl b => some b
  | .int i => some (i != 0)
  | .str y => if y.length ≤ sizeLine then some ((y.length : Int) != 0) else none
  | .lst xs | .sea xs | .tup xs => some (!xs.isEmpty)
  | _ => none
def truM (m : ME D) : ME Bool := bindE m fun d => optE (truD d)
theorem paired_empty {α β : Type} {F : α → β → Prop} {xs : List α} {ys : List β} (h : Paired F xs ys) : xs.isEmpty = ys.isEmpty := by cases h <;> rfl
theorem et_tru {a : Expr} {m : ME D} (h : EZ X Wx a m) (he : ∀ whole, isTrue a X.env whole = (do let v ← whole; standAt a.pos; holding [v] (truthy v)) := by intro _; rfl) : ET X Wx a (truM m) := by
  obtain ⟨t, pt, et⟩ := h
  refine ⟨_, pt_truth pt he, Ev.bind (u := fun x σ H Q => ∃ k, TruV X.K x H k ∧ Q k H) et fun x a e ι B H ρ O σ Q r hs q => ?_⟩
  have hx := hs.dh r
  cases z : truD a with
  | none => rw [z] at q; exact q.elim
  | some k =>
    rw [z] at q
    refine ⟨k, ?_, EvP.ok r q rfl⟩
    cases a with
    | non => cases hx; simp only [truD, Option.some.injEq] at z; exact z.symm
    | bl b => cases hx; simp only [truD, Option.some.injEq] at z; exact z.symm
    | int i => cases hx; simp only [truD, Option.some.injEq] at z; exact z.symm
    | str y =>
      cases hx
      simp only [truD] at z
      split at z
      · rename_i hl
        simp only [Option.some.injEq] at z
        exact ⟨hl, z.symm⟩
      · cases z
    | lst xs =>
      simp only [truD, Option.some.injEq] at z
      obtain ⟨a, vs, rfl, h1, h2⟩ := hx
      exact .inl ⟨_, SqL.of h1, by rw [paired_empty h2]; exact z.symm⟩
    | sea xs =>
      simp only [truD, Option.some.injEq] at z
      obtain ⟨a, vs, rfl, h1, h2⟩ := hx
      exact .inl ⟨_, h1, by rw [paired_empty h2]; exact z.symm⟩
    | tup xs =>
      simp only [truD, Option.some.injEq] at z
      obtain ⟨a, vs, rfl, h1, h2⟩ := hx
      exact .inr (.inl ⟨_, h1, by rw [paired_empty h2]; exact z.symm⟩)
    | dct es => cases z
    | obj n => cases z

/-! ### arithmetic -/
theorem atomI {e : Ent} {ι : List Addr} {B H : Hp} {ρ : Rho} {O : Sto} {σ : St} {Q : VK} {v : V} {z : D} (r : Rel X.K X.mg e ι B H ρ O σ) (h : ∀ B' H' v, Rel X.K X.mg e ι B' H' ρ O σ → Same B B' → DA X.K ι B' v z → Q v H') (hv : DA X.K ι B v z) : Q v H :=
  h B H v r (Same.refl _) hv
theorem newL {e : Ent} {ι : List Addr} {B H : Hp} {ρ : Rho} {O : Sto} {σ : St} {Q : VK} {vs : List V} {ds : List D} (r : Rel X.K X.mg e ι B H ρ O σ) (h : ∀ B' H' v, Rel X.K X.mg e ι B' H' ρ O σ → Same B B' → DA X.K ι B' v (.lst ds) → Q v H') (hv : Paired (DA X.K ι B) vs ds) :
    ∀ p, H p = none → Q (.ref p) (upd H p (.lst vs)) := fun p hp => by
  obtain ⟨r', s'⟩ := r.alloc hp (.lst vs)
  exact h _ _ _ r' s' (.lst upd_same (DA.monos s' (Pre.refl _) _ _ hv))
theorem newT {e : Ent} {ι : List Addr} {B H : Hp} {ρ : Rho} {O : Sto} {σ : St} {Q : VK} {vs : List V} {ds : List D} (r : Rel X.K X.mg e ι B H ρ O σ) (h : ∀ B' H' v, Rel X.K X.mg e ι B' H' ρ O σ → Same B B' → DA X.K ι B' v (.tup ds) → Q v H') (hv : Paired (DA X.K ι B) vs ds) :
    ∀ p, H p = none → Q (.ref p) (upd H p (.tup vs)) := fun p hp => by
  obtain ⟨r', s'⟩ := r.alloc hp (.tup vs)
  exact h _ _ _ r' s' (.tup (SqT.of upd_same) (DA.monos s' (Pre.refl _) _ _ hv))
theorem paired_len {α β : Type} {F : α → β → Prop} {xs : List α} {ys : List β} (h : Paired F xs ys) : xs.length = ys.length := Paired.length h
theorem paired_app {α β : Type} {F : α → β → Prop} : ∀ {xs xs' : List α} {ys ys' : List β}, Paired F xs ys → Paired F xs' ys' → Paired F (xs ++ xs') (ys ++ ys')
  | _, _, _, _, .nil, h => h
  | _, _, _, _, .cons a t, h => .cons a (paired_app t h)
theorem paired_get {α β : Type} {F : α → β → Prop} : ∀ {xs : List α} {ys : List β} {i : Nat} {b : β}, Paired F xs ys → ys[i]? = some b → ∃ a, xs[i]? = some a ∧ F a b
  | _, _, _, _, .nil, h => by simp at h
  | _, _, 0, b, .cons a t, h => by
    simp at h
    subst h
    exact ⟨_, rfl, a⟩
  | _, _, i + 1, b, .cons a t, h => by
    obtain ⟨x, h1, h2⟩ := paired_get (i := i) t (by simpa using h)
    exact ⟨x, by simpa using h1, h2⟩
theorem paired_get' {α β : Type} {F : α → β → Prop} : ∀ {xs : List α} {ys : List β} {i : Nat} {a : α}, Paired F xs ys → xs[i]? = some a → ∃ b, ys[i]? = some b ∧ F a b
  | _, _, _, _, .nil, h => by simp at h
  | _, _, 0, a, .cons x t, h => by
    simp at h
    subst h
    exact ⟨_, rfl, x⟩
  | _, _, i + 1, a, .cons x t, h => by
    obtain ⟨y, h1, h2⟩ := paired_get' (i := i) t (by simpa using h)
    exact ⟨y, by simpa using h1, h2⟩
theorem paired_take {α β : Type} {F : α → β → Prop} : ∀ {xs : List α} {ys : List β} (n : Nat), Paired F xs ys → Paired F (xs.take n) (ys.take n)
  | _, _, 0, _ => by simp only [List.take_zero]; exact .nil
  | _, _, _ + 1, .nil => .nil
  | _, _, n + 1, .cons a t => .cons a (paired_take n t)
theorem paired_drop {α β : Type} {F : α → β → Prop} : ∀ {xs : List α} {ys : List β} (n : Nat), Paired F xs ys → Paired F (xs.drop n) (ys.drop n)
  | _, _, 0, h => h
  | _, _, _ + 1, .nil => .nil
  | _, _, n + 1, .cons _ t => paired_drop n t
theorem paired_set {α β : Type} {F : α → β → Prop} {a : α} {b : β} (h : F a b) : ∀ {xs : List α} {ys : List β} (n : Nat), Paired F xs ys → Paired F (xs.set n a) (ys.set n b)
  | _, _, _, .nil => .nil
  | _, _, 0, .cons _ t => .cons h t
  | _, _, n + 1, .cons c t => .cons c (paired_set h n t)
theorem paired_rep {α β : Type} {F : α → β → Prop} {xs : List α} {ys : List β} (h : Paired F xs ys) : ∀ k : Nat, Paired F (List.replicate k xs).flatten (List.replicate k ys).flatten
  | 0 => .nil
  | k + 1 => by
    rw [List.replicate_succ, List.flatten_cons, List.replicate_succ, List.flatten_cons]
    exact paired_app h (paired_rep h k)

def addD : D → D → Option D
  | .int i, .int j => some (.int (i + j))
  | .str x, .str y => if x.length + y.length ≤ sizeLine then some (.str (x ++ y)) else none
  | .lst a, .lst b => if a.length + b.length ≤ sizeLine then some (.lst (a ++ b)) else none
  | _, _ => none
abbrev rAddAll : R2 := fun x y H Q => (rI0 (fun i j => .int (i + j))) x y H Q ∨ (∃ i j, x = .str i ∧ y = .str j ∧ i.length + j.length ≤ sizeLine ∧ Q (.str (i ++ j)) H) ∨ rCat x y H Q
theorem op_addAll : OpR X (binaryOp .Add) rAddAll := op_add.or (op_add_str.or op_cat)
theorem op2_add : Op2 X rAddAll addD := by
  intro x y a b z e ι B H ρ O σ Q r hx hy hz q
  unfold addD at hz
  split at hz
  · rename_i i j
    cases hx
    cases hy
    cases hz
    exact .inl ⟨i, j, rfl, rfl, atomI r q (.int _)⟩
  · rename_i s t
    cases hx
    cases hy
    split at hz
    · rename_i hl
      cases hz
      exact .inr (.inl ⟨s, t, rfl, rfl, hl, atomI r q (.str _)⟩)
    · cases hz
  · rename_i as bs
    split at hz
    · rename_i hl
      cases hz
      obtain ⟨a1, vs1, rfl, h1, h2⟩ := hx
      obtain ⟨a2, vs2, rfl, h3, h4⟩ := hy
      exact .inr (.inr ⟨_, _, _, _, rfl, rfl, h1, h3, by rw [paired_len h2, paired_len h4]; exact hl, newL r q (paired_app h2 h4)⟩)
    · cases hz
  · cases hz
theorem ex_add {a b : Expr} {pos : Pos} {ma mb : ME D} (ha : EZ X Wx a ma) (hb : EZ X Wx b mb) : EX X Wx (.BinOp a .Add b pos) (binM addD ma mb) := ex_op op_addAll op2_add ha hb
def subD : D → D → Option D
  | .int i, .int j => some (.int (i - j))
  | _, _ => none
theorem op2_sub : Op2 X (rI0 fun i j => .int (i - j)) subD := by
  intro x y a b z e ι B H ρ O σ Q r hx hy hz q
  unfold subD at hz
  split at hz
  · rename_i i j
    cases hx
    cases hy
    cases hz
    exact ⟨i, j, rfl, rfl, atomI r q (.int _)⟩
  · cases hz
theorem ex_sub {a b : Expr} {pos : Pos} {ma mb : ME D} (ha : EZ X Wx a ma) (hb : EZ X Wx b mb) : EX X Wx (.BinOp a .Sub b pos) (binM subD ma mb) := ex_op op_sub op2_sub ha hb
/-- two ints under a condition -/
def intD (C : Int → Int → Bool) (g : Int → Int → Int) : D → D → Option D
  | .int i, .int j => if C i j then some (.int (g i j)) else none
  | _, _ => none
theorem op2_int {C : Int → Int → Bool} {C' : Int → Int → Prop} {g : Int → Int → Int} (h : ∀ i j, C i j = true → C' i j) : Op2 X (rI C' fun i j => .int (g i j)) (intD C g) := by
  intro x y a b z e ι B H ρ O σ Q r hx hy hz q
  unfold intD at hz
  split at hz
  · rename_i i j
    cases hx
    cases hy
    split at hz
    · rename_i hc
      cases hz
      exact ⟨i, j, rfl, rfl, h _ _ hc, atomI r q (.int _)⟩
    · cases hz
  · cases hz
def cMul (i j : Int) : Bool := decide (i.natAbs < 2 ^ 64) || decide (j.natAbs < 2 ^ 64)
def cDiv (_ j : Int) : Bool := decide (0 < j ∧ j < 1073741824)
def cDivW (_ j : Int) : Bool := decide (0 < j ∧ j.natAbs.log2 < 9000)
def cMod (_ j : Int) : Bool := decide (0 < j)
def cPow (i j : Int) : Bool := decide (0 ≤ j ∧ j ≤ 1000000 ∧ i.natAbs < 2 ^ 64)
def cShr (_ j : Int) : Bool := decide (0 ≤ j)
abbrev mulI := intD cMul fun i j => i * j
abbrev fdivD := intD cDivW fun i j => i / j
abbrev modD := intD cMod fun i j => i % j
abbrev powD := intD cPow fun i j => i ^ j.toNat
abbrev shlD := intD cPow fun i j => i * 2 ^ j.toNat
abbrev shrD := intD cShr fun i j => i / 2 ^ j.toNat
abbrev andD := intD (fun _ _ => true) Builtin.bitAnd
abbrev orD := intD (fun _ _ => true) Builtin.bitOr
abbrev xorD := intD (fun _ _ => true) Builtin.bitXor
def mulD : D → D → Option D
  | .lst xs, .int k => if -(2 ^ 63) ≤ k ∧ k < 2 ^ 63 ∧ xs.length * k.toNat ≤ sizeLine then some (.lst (List.replicate k.toNat xs).flatten) else none
  | a, b => mulI a b
abbrev rMulAll : R2 := fun x y H Q => (rI CMul fun i j => .int (i * j)) x y H Q ∨ rRep x y H Q
theorem op_mulAll : OpR X (binaryOp .Mult) rMulAll := op_mul.or op_rep
theorem cDivW_ok {i j : Int} (h : cDivW i j = true) : CDivW i j := by
  unfold cDivW at h
  have q := of_decide_eq_true h
  exact q
theorem cPow_ok {i j : Int} (h : cPow i j = true) : CPow i j := by
  unfold cPow at h
  have q := of_decide_eq_true h
  exact q
theorem cMul_ok {i j : Int} (h : cMul i j = true) : CMul i j := by
  unfold cMul at h
  simp only [Bool.or_eq_true, decide_eq_true_eq] at h
  unfold CMul
  rcases h with h | h
  · left; omega
  · right; omega
theorem op2_mul : Op2 X rMulAll mulD := by
  intro x y a b z e ι B H ρ O σ Q r hx hy hz q
  unfold mulD at hz
  split at hz
  · rename_i xs k
    cases hy
    split at hz
    · rename_i hl
      cases hz
      obtain ⟨a1, vs1, rfl, h1, h2⟩ := hx
      exact .inr ⟨_, _, _, rfl, rfl, h1, hl.1, hl.2.1, by rw [paired_len h2]; exact hl.2.2, newL r q (paired_rep h2 _)⟩
    · cases hz
  · exact .inl (op2_int (fun _ _ => cMul_ok) _ _ _ _ _ _ _ _ _ _ _ _ _ r hx hy hz q)
theorem ex_mul {a b : Expr} {pos : Pos} {ma mb : ME D} (ha : EZ X Wx a ma) (hb : EZ X Wx b mb) : EX X Wx (.BinOp a .Mult b pos) (binM mulD ma mb) := ex_op op_mulAll op2_mul ha hb
theorem ex_fdiv {a b : Expr} {pos : Pos} {ma mb : ME D} (ha : EZ X Wx a ma) (hb : EZ X Wx b mb) : EX X Wx (.BinOp a .FloorDiv b pos) (binM fdivD ma mb) := ex_op op_fdivW (op2_int fun _ _ => cDivW_ok) ha hb
theorem ex_mod {a b : Expr} {pos : Pos} {ma mb : ME D} (ha : EZ X Wx a ma) (hb : EZ X Wx b mb) : EX X Wx (.BinOp a .Mod b pos) (binM modD ma mb) := ex_op op_mod (op2_int fun _ _ h => of_decide_eq_true h) ha hb
theorem ex_pow {a b : Expr} {pos : Pos} {ma mb : ME D} (ha : EZ X Wx a ma) (hb : EZ X Wx b mb) : EX X Wx (.BinOp a .Pow b pos) (binM powD ma mb) := ex_op op_pow (op2_int fun _ _ => cPow_ok) ha hb
theorem ex_shl {a b : Expr} {pos : Pos} {ma mb : ME D} (ha : EZ X Wx a ma) (hb : EZ X Wx b mb) : EX X Wx (.BinOp a .LShift b pos) (binM shlD ma mb) := ex_op op_shl (op2_int fun _ _ => cPow_ok) ha hb
theorem ex_shr {a b : Expr} {pos : Pos} {ma mb : ME D} (ha : EZ X Wx a ma) (hb : EZ X Wx b mb) : EX X Wx (.BinOp a .RShift b pos) (binM shrD ma mb) := ex_op op_shr (op2_int fun _ _ h => of_decide_eq_true h) ha hb
theorem op2_int0 {g : Int → Int → Int} : Op2 X (rI0 fun i j => .int (g i j)) (intD (fun _ _ => true) g) := by
  intro x y a b z e ι B H ρ O σ Q r hx hy hz q
  obtain ⟨i, j, e1, e2, _, h⟩ := op2_int (C' := fun _ _ => True) (fun _ _ _ => True.intro) x y a b z e ι B H ρ O σ Q r hx hy hz q
  exact ⟨i, j, e1, e2, h⟩
theorem ex_and {a b : Expr} {pos : Pos} {ma mb : ME D} (ha : EZ X Wx a ma) (hb : EZ X Wx b mb) : EX X Wx (.BinOp a .BitAnd b pos) (binM andD ma mb) := ex_op op_and op2_int0 ha hb
theorem ex_or {a b : Expr} {pos : Pos} {ma mb : ME D} (ha : EZ X Wx a ma) (hb : EZ X Wx b mb) : EX X Wx (.BinOp a .BitOr b pos) (binM orD ma mb) := ex_op op_or op2_int0 ha hb
theorem ex_xor {a b : Expr} {pos : Pos} {ma mb : ME D} (ha : EZ X Wx a ma) (hb : EZ X Wx b mb) : EX X Wx (.BinOp a .BitXor b pos) (binM xorD ma mb) := ex_op op_xor op2_int0 ha hb

/-! ### comparisons -/
def relD (g : Int → Int → Bool) : D → D → Option D
  | .int i, .int j => some (.bl (g i j))
  | _, _ => none
theorem op2_rel {g : Int → Int → Bool} : Op2 X (rI0 fun i j => .bl (g i j)) (relD g) := by
  intro x y a b z e ι B H ρ O σ Q r hx hy hz q
  unfold relD at hz
  split at hz
  · rename_i i j
    cases hx
    cases hy
    cases hz
    exact ⟨i, j, rfl, rfl, atomI r q (.bl _)⟩
  · cases hz
abbrev ltD := relD fun i j => decide (i < j)
abbrev leD := relD fun i j => decide (i ≤ j)
abbrev gtD := relD fun i j => decide (j < i)
abbrev geD := relD fun i j => decide (j ≤ i)
section
variable {a b : Expr} {pos : Pos} {ma mb : ME D}
theorem ex_lt (ha : EZ X Wx a ma) (hb : EZ X Wx b mb) : EX X Wx (.Compare a [.Lt] [b] pos) (binM ltD ma mb) := ex_cmp op_lt op2_rel ha hb (nomark _)
theorem ex_le (ha : EZ X Wx a ma) (hb : EZ X Wx b mb) : EX X Wx (.Compare a [.LtE] [b] pos) (binM leD ma mb) := ex_cmp op_le op2_rel ha hb (nomark _)
theorem ex_gt (ha : EZ X Wx a ma) (hb : EZ X Wx b mb) : EX X Wx (.Compare a [.Gt] [b] pos) (binM gtD ma mb) := ex_cmp op_gt op2_rel ha hb (nomark _)
theorem ex_ge (ha : EZ X Wx a ma) (hb : EZ X Wx b mb) : EX X Wx (.Compare a [.GtE] [b] pos) (binM geD ma mb) := ex_cmp op_ge op2_rel ha hb (nomark _)
theorem et_lt (ha : EZ X Wx a ma) (hb : EZ X Wx b mb) : ET X Wx (.Compare a [.Lt] [b] pos) (boolM (binM ltD ma mb)) := et_cmp op_lt op2_rel ha hb (nomark _)
theorem et_le (ha : EZ X Wx a ma) (hb : EZ X Wx b mb) : ET X Wx (.Compare a [.LtE] [b] pos) (boolM (binM leD ma mb)) := et_cmp op_le op2_rel ha hb (nomark _)
theorem et_gt (ha : EZ X Wx a ma) (hb : EZ X Wx b mb) : ET X Wx (.Compare a [.Gt] [b] pos) (boolM (binM gtD ma mb)) := et_cmp op_gt op2_rel ha hb (nomark _)
theorem et_ge (ha : EZ X Wx a ma) (hb : EZ X Wx b mb) : ET X Wx (.Compare a [.GtE] [b] pos) (boolM (binM geD ma mb)) := et_cmp op_ge op2_rel ha hb (nomark _)
end
/-! data as the library reads it -/
mutual
def D.py : D → Option PyData
  | .non => some .none
  | .bl b => some (.bool b)
  | .int i => some (.int i)
  | .str x => some (.str x)
  | .lst xs => (D.pys xs).map .list
  | .sea xs => (D.pys xs).map .list
  | .tup xs => (D.pys xs).map .tuple
  | .dct _ => none
  | .obj _ => none
def D.pys : List D → Option (List PyData)
  | [] => some []
  | d :: ds => match d.py, D.pys ds with
    | some a, some r => some (a :: r)
    | _, _ => none
end
mutual
theorem DA.dp {K : PySem.W.Frag} {ι : List Addr} {B H : Hp} (hs : Same B H) : ∀ (d : D) (v : V) (p : PyData), DA K ι B v d → d.py = some p → Dp K H v p
  | .non, _, _, h, e => by cases h; simp only [D.py, Option.some.injEq] at e; subst e; exact .non
  | .bl b, _, _, h, e => by cases h; simp only [D.py, Option.some.injEq] at e; subst e; exact .bl b
  | .int i, _, _, h, e => by cases h; simp only [D.py, Option.some.injEq] at e; subst e; exact .int i
  | .str x, _, _, h, e => by cases h; simp only [D.py, Option.some.injEq] at e; subst e; exact .str x
  | .lst xs, _, _, h, e => by
    simp only [D.py, Option.map_eq_some_iff] at e
    obtain ⟨ps, e1, e2⟩ := e
    subst e2
    cases h with
    | lst h1 h2 => exact .lst (SqL.of (hs _ _ h1)) (DA.dps hs xs _ ps h2 e1)
  | .sea xs, _, _, h, e => by
    simp only [D.py, Option.map_eq_some_iff] at e
    obtain ⟨ps, e1, e2⟩ := e
    subst e2
    cases h with
    | sea h1 h2 => exact .lst (hs.seq h1) (DA.dps hs xs _ ps h2 e1)
  | .tup xs, _, _, h, e => by
    simp only [D.py, Option.map_eq_some_iff] at e
    obtain ⟨ps, e1, e2⟩ := e
    subst e2
    cases h with
    | tup h1 h2 => exact .tup (sqT_same hs h1) (DA.dps hs xs _ ps h2 e1)
  | .dct _, _, _, _, e => by simp only [D.py] at e; cases e
  | .obj _, _, _, _, e => by simp only [D.py] at e; cases e
theorem DA.dps {K : PySem.W.Frag} {ι : List Addr} {B H : Hp} (hs : Same B H) : ∀ (ds : List D) (vs : List V) (ps : List PyData), Paired (DA K ι B) vs ds → D.pys ds = some ps → DpAll K H vs ps
  | [], _, _, h, e => by cases h; simp only [D.pys, Option.some.injEq] at e; subst e; exact .nil
  | d :: ds, _, _, h, e => by
    cases h with
    | cons h1 h2 =>
      simp only [D.pys] at e
      split at e
      · rename_i a r e1 e2
        cases e
        exact .cons (DA.dp hs d _ a h1 e1) (DA.dps hs ds _ r h2 e2)
      · cases e
end
theorem DH.dp {K : PySem.W.Frag} {ι : List Addr} {B H : Hp} (hs : Same B H) {d : D} {v : V} {p : PyData} (h : DH K ι B H v d) (e : d.py = some p) : Dp K H v p := by
  cases d with
  | non => exact DA.dp hs _ _ _ h e
  | bl b => exact DA.dp hs _ _ _ h e
  | int i => exact DA.dp hs _ _ _ h e
  | str x => exact DA.dp hs _ _ _ h e
  | dct x => simp only [D.py] at e; cases e
  | obj x => simp only [D.py] at e; cases e
  | lst xs =>
    simp only [D.py, Option.map_eq_some_iff] at e
    obtain ⟨ps, e1, e2⟩ := e
    subst e2
    obtain ⟨a, vs, rfl, h1, h2⟩ := h
    exact .lst (SqL.of h1) (DA.dps hs xs _ ps h2 e1)
  | sea xs =>
    simp only [D.py, Option.map_eq_some_iff] at e
    obtain ⟨ps, e1, e2⟩ := e
    subst e2
    obtain ⟨a, vs, rfl, h1, h2⟩ := h
    exact .lst h1 (DA.dps hs xs _ ps h2 e1)
  | tup xs =>
    simp only [D.py, Option.map_eq_some_iff] at e
    obtain ⟨ps, e1, e2⟩ := e
    subst e2
    obtain ⟨a, vs, rfl, h1, h2⟩ := h
    exact .tup h1 (DA.dps hs xs _ ps h2 e1)
/-- == of data -/
def eqB : D → D → Option Bool
  | .non, .non => some true
  | .bl a, .bl b => some (decide (a = b))
  | .int i, .int j => some (decide (i = j))
  | .str x, .str y => some (decide (x = y))
  | a, b => match a.py, b.py with
    | some p, some q => if SeqAt.shaped p = true ∧ SeqAt.shaped q = true then some (PyData.eqv p q) else none
    | _, _ => none
def eqD (a b : D) : Option D := (eqB a b).map .bl
def neD (a b : D) : Option D := (eqB a b).map fun k => .bl (!k)
abbrev rEqAll (K : PySem.W.Frag) : R2 := fun x y H Q => rEq x y H Q ∨ rEqD K x y H Q
abbrev rNeAll (K : PySem.W.Frag) : R2 := fun x y H Q => rNe x y H Q ∨ rNeD K x y H Q
theorem op2_eq : Op2 X (rEqAll X.K) eqD := by
  intro x y a b z e ι B H ρ O σ Q r hx hy hz q
  unfold eqD at hz
  simp only [Option.map_eq_some_iff] at hz
  obtain ⟨k, hk, rfl⟩ := hz
  unfold eqB at hk
  split at hk
  · cases hx; cases hy; cases hk; exact .inl ⟨rfl, atomI r q (.bl _)⟩
  · rename_i a b
    cases hx; cases hy; cases hk
    refine .inl ⟨rfl, ?_⟩
    have := atomI r q (.bl _)
    rw [show decide (V.bl a = V.bl b) = decide (a = b) from by simp]
    exact this
  · rename_i a b
    cases hx; cases hy; cases hk
    refine .inl ⟨rfl, ?_⟩
    have := atomI r q (.bl _)
    rw [show decide (V.int a = V.int b) = decide (a = b) from by simp]
    exact this
  · rename_i a b
    cases hx; cases hy; cases hk
    refine .inl ⟨rfl, ?_⟩
    have := atomI r q (.bl _)
    rw [show decide (V.str a = V.str b) = decide (a = b) from by simp]
    exact this
  · split at hk
    · rename_i p1 q1 e1 e2
      split at hk
      · rename_i hc
        cases hk
        exact .inr ⟨p1, q1, DH.dp r.sub hx e1, DH.dp r.sub hy e2, hc.1, hc.2, atomI r q (.bl _)⟩
      · cases hk
    · cases hk
theorem op2_ne : Op2 X (rNeAll X.K) neD := by
  intro x y a b z e ι B H ρ O σ Q r hx hy hz q
  unfold neD at hz
  simp only [Option.map_eq_some_iff] at hz
  obtain ⟨k, hk, rfl⟩ := hz
  unfold eqB at hk
  split at hk
  · cases hx; cases hy; cases hk; exact .inl ⟨rfl, atomI r q (.bl _)⟩
  · rename_i a b
    cases hx; cases hy; cases hk
    refine .inl ⟨rfl, ?_⟩
    have := atomI r q (.bl _)
    rw [show decide (V.bl a = V.bl b) = decide (a = b) from by simp]
    exact this
  · rename_i a b
    cases hx; cases hy; cases hk
    refine .inl ⟨rfl, ?_⟩
    have := atomI r q (.bl _)
    rw [show decide (V.int a = V.int b) = decide (a = b) from by simp]
    exact this
  · rename_i a b
    cases hx; cases hy; cases hk
    refine .inl ⟨rfl, ?_⟩
    have := atomI r q (.bl _)
    rw [show decide (V.str a = V.str b) = decide (a = b) from by simp]
    exact this
  · split at hk
    · rename_i p1 q1 e1 e2
      split at hk
      · rename_i hc
        cases hk
        exact .inr ⟨p1, q1, DH.dp r.sub hx e1, DH.dp r.sub hy e2, hc.1, hc.2, atomI r q (.bl _)⟩
      · cases hk
    · cases hk
section
variable {a b : Expr} {pos : Pos} {ma mb : ME D}
theorem ex_eq (hu : X.A.units + 64 < cLine) (ha : EZ X Wx a ma) (hb : EZ X Wx b mb) : EX X Wx (.Compare a [.Eq] [b] pos) (binM eqD ma mb) := ex_cmp (OpR.or op_eq (op_eqD hu)) op2_eq ha hb (nomark _)
theorem ex_ne (hu : X.A.units + 64 < cLine) (ha : EZ X Wx a ma) (hb : EZ X Wx b mb) : EX X Wx (.Compare a [.NotEq] [b] pos) (binM neD ma mb) := ex_cmp (OpR.or op_ne (op_neD hu)) op2_ne ha hb (nomark _)
theorem et_eq (hu : X.A.units + 64 < cLine) (ha : EZ X Wx a ma) (hb : EZ X Wx b mb) : ET X Wx (.Compare a [.Eq] [b] pos) (boolM (binM eqD ma mb)) := et_cmp (OpR.or op_eq (op_eqD hu)) op2_eq ha hb (nomark _)
theorem et_ne (hu : X.A.units + 64 < cLine) (ha : EZ X Wx a ma) (hb : EZ X Wx b mb) : ET X Wx (.Compare a [.NotEq] [b] pos) (boolM (binM neD ma mb)) := et_cmp (OpR.or op_ne (op_neD hu)) op2_ne ha hb (nomark _)
end
end
end DL

set_option Elab.async false
set_option linter.all false
set_option maxRecDepth 100000
namespace DL
open PySem L2
section
variable {X : Cx} {Wx : WX} {a b c : Expr} {pos : Pos} {ma mb mc : ME D}

/-! ### tests -/
def notT (m : ME Bool) : ME Bool := bindE m fun b => pureE (!b)
theorem et_not {m : ME Bool} (h : ET X Wx a m) : ET X Wx (.UnaryOp .Not a pos) (notT m) := by
  obtain ⟨t, pt, et⟩ := h
  refine ⟨_, pt_not pt, Ev.bind (R' := rQ Bool) (u := fun c _ H1 Q => Q (!c) H1) et fun x a e ι B H ρ O σ Q r hx q => ?_⟩
  cases hx
  exact EvP.ok r q rfl
def EW (X : Cx) (Wx : WX) (e : Expr) (m : ME Bool) : Prop := ∃ t, PW X e t ∧ Ev X Wx (rQ Bool) t m
theorem EW.t {e : Expr} {m : ME Bool} (h : EW X Wx e m) : ET X Wx e m := by
  obtain ⟨t, pt, et⟩ := h
  exact ⟨t, pt.pt, et⟩
def andT (m n : ME Bool) : ME Bool := bindE m fun b => if b = true then n else pureE false
def orT (m n : ME Bool) : ME Bool := bindE m fun b => if b = true then pureE true else n
theorem ew_and1 {m : ME Bool} (h : ET X Wx a m) : EW X Wx (.BoolOp .And [a] pos) m := by
  obtain ⟨t, pt, et⟩ := h
  exact ⟨t, pw_and1 pt, et⟩
theorem ew_or1 {m : ME Bool} (h : ET X Wx a m) : EW X Wx (.BoolOp .Or [a] pos) m := by
  obtain ⟨t, pt, et⟩ := h
  exact ⟨t, pw_or1 pt, et⟩
theorem ew_and {rest : List Expr} {m n : ME Bool} (h : ET X Wx a m) (k : EW X Wx (.BoolOp .And (b :: rest) pos) n) : EW X Wx (.BoolOp .And (a :: b :: rest) pos) (andT m n) := by
  obtain ⟨t, pt, et⟩ := h
  obtain ⟨u, pu, eu⟩ := k
  refine ⟨_, pw_and pt pu, Ev.bind (R' := rQ Bool) (u := fun c σ H1 Q => if c = true then u σ H1 Q else Q false H1) et fun x a e ι B H ρ O σ Q r hx q => ?_⟩
  cases hx
  cases x with
  | true => rw [if_pos rfl] at q ⊢; exact eu e ι B H ρ O σ Q r q
  | false => rw [if_neg Bool.false_ne_true] at q ⊢; exact EvP.ok r q rfl
theorem ew_or {rest : List Expr} {m n : ME Bool} (h : ET X Wx a m) (k : EW X Wx (.BoolOp .Or (b :: rest) pos) n) : EW X Wx (.BoolOp .Or (a :: b :: rest) pos) (orT m n) := by
  obtain ⟨t, pt, et⟩ := h
  obtain ⟨u, pu, eu⟩ := k
  refine ⟨_, pw_or pt pu, Ev.bind (R' := rQ Bool) (u := fun c σ H1 Q => if c = true then Q true H1 else u σ H1 Q) et fun x a e ι B H ρ O σ Q r hx q => ?_⟩
  cases hx
  cases x with
  | true => rw [if_pos rfl] at q ⊢; exact EvP.ok r q rfl
  | false => rw [if_neg Bool.false_ne_true] at q ⊢; exact eu e ι B H ρ O σ Q r q
/-- a truth value as a test, whatever gives it -/
theorem et_val (h : EX X Wx a ma) (he : ∀ whole, isTrue a X.env whole = (do let v ← whole; standAt a.pos; holding [v] (truthy v)) := by intro _; rfl) : ET X Wx a (boolM ma) := by
  obtain ⟨t, pt, et⟩ := h
  exact ⟨_, pt_val pt he, ev_bool et⟩
/-! .. as values -/
def boolOnly (m : D → ME D) (b : Bool) : D → ME D
  | .bl k => if k = b then m (.bl k) else pureE (.bl k)
  | _ => badE
def andV (m n : ME D) : ME D := bindE m (boolOnly (fun _ => n) true)
def orV (m n : ME D) : ME D := bindE m (boolOnly (fun _ => n) false)
def notV (m : ME D) : ME D := bindE m fun d => match d with
  | .bl k => pureE (.bl (!k))
  | _ => badE
theorem ex_one {op} (h : EX X Wx a ma) : EX X Wx (.BoolOp op [a] pos) ma := by
  obtain ⟨t, pt, et⟩ := h
  exact ⟨t, pe_one pt, et⟩
theorem ex_and' {rest : List Expr} (h : EX X Wx a ma) (k : EX X Wx (.BoolOp .And (b :: rest) pos) mb) : EX X Wx (.BoolOp .And (a :: b :: rest) pos) (andV ma mb) := by
  obtain ⟨t, pt, et⟩ := h
  obtain ⟨u, pu, eu⟩ := k
  refine ⟨_, pe_and pt pu, Ev.bind (R' := rD X) (u := fun (x : V) σ H1 Q => ∃ c, x = V.bl c ∧ if c = true then u σ H1 Q else Q (.bl false) H1) et fun x a e ι B H ρ O σ Q r hx q => ?_⟩
  cases a with
  | bl k =>
    cases hx
    refine ⟨k, rfl, ?_⟩
    cases k with
    | true => rw [if_pos rfl]; exact eu e ι B H ρ O σ Q r q
    | false => rw [if_neg Bool.false_ne_true]; exact EvP.ok r q (.bl _)
  | _ => exact q.elim
theorem ex_or' {rest : List Expr} (h : EX X Wx a ma) (k : EX X Wx (.BoolOp .Or (b :: rest) pos) mb) : EX X Wx (.BoolOp .Or (a :: b :: rest) pos) (orV ma mb) := by
  obtain ⟨t, pt, et⟩ := h
  obtain ⟨u, pu, eu⟩ := k
  refine ⟨_, pe_or pt pu, Ev.bind (R' := rD X) (u := fun (x : V) σ H1 Q => ∃ c, x = V.bl c ∧ if c = true then Q (.bl true) H1 else u σ H1 Q) et fun x a e ι B H ρ O σ Q r hx q => ?_⟩
  cases a with
  | bl k =>
    cases hx
    refine ⟨k, rfl, ?_⟩
    cases k with
    | true => rw [if_pos rfl]; exact EvP.ok r q (.bl _)
    | false => rw [if_neg Bool.false_ne_true]; exact eu e ι B H ρ O σ Q r q
  | _ => exact q.elim
theorem ex_not' (h : EX X Wx a ma) : EX X Wx (.UnaryOp .Not a pos) (notV ma) := by
  obtain ⟨t, pt, et⟩ := h
  refine ⟨_, pe_not pt, Ev.bind (R' := rD X) (u := fun (x : V) σ H1 Q => ∃ c, x = V.bl c ∧ Q (.bl (!c)) H1) et fun x a e ι B H ρ O σ Q r hx q => ?_⟩
  cases a with
  | bl k =>
    cases hx
    exact ⟨k, rfl, EvP.ok r q (.bl _)⟩
  | _ => exact q.elim
def ifM {α : Type} (t : ME Bool) (m n : ME α) : ME α := bindE t fun b => if b = true then m else n
theorem ex_if {t : ME Bool} (hc : ET X Wx c t) (ha : EX X Wx a ma) (hb : EX X Wx b mb) : EX X Wx (.IfExp c a b pos) (ifM t ma mb) := by
  obtain ⟨tc, pc, ec⟩ := hc
  obtain ⟨ta, pa, ea⟩ := ha
  obtain ⟨tb, pb, eb⟩ := hb
  refine ⟨_, pe_ifExp pc pa pb, Ev.bind (R' := rD X) (u := fun d σ H1 Q => if d = true then ta σ H1 Q else tb σ H1 Q) ec fun x a e ι B H ρ O σ Q r hx q => ?_⟩
  cases hx
  cases x with
  | true => rw [if_pos rfl] at q ⊢; exact ea e ι B H ρ O σ Q r q
  | false => rw [if_neg Bool.false_ne_true] at q ⊢; exact eb e ι B H ρ O σ Q r q

/-! ### x is None, x is True .. -/
def isNon : D → Bool
  | .non => true
  | _ => false
def isND (a : D) (_ : D) : Option D := some (.bl (isNon a))
def notND (a : D) (_ : D) : Option D := some (.bl (!isNon a))
theorem DH.non {K : PySem.W.Frag} {ι : List Addr} {B H : Hp} {v : V} {d : D} (h : DH K ι B H v d) : decide (v = .non) = isNon d := by
  cases d with
  | non => cases h; rfl
  | bl b => cases h; rfl
  | int i => cases h; rfl
  | str x => cases h; rfl
  | lst xs => obtain ⟨a, vs, rfl, _⟩ := h; rfl
  | sea xs => obtain ⟨a, vs, rfl, _⟩ := h; rfl
  | tup xs => obtain ⟨a, vs, rfl, _⟩ := h; rfl
  | dct xs => obtain ⟨a, vs, rfl, _⟩ := h; rfl
  | obj n => cases h; rfl
theorem ex_isN {j pos'} (h : EZ X Wx a ma) : EX X Wx (.Compare a [.Is] [.Constant .none j pos'] pos) (bindE ma fun d => pureE (.bl (isNon d))) := by
  obtain ⟨t, pt, et⟩ := h
  refine ⟨_, pe_cmp (pc_isN pt), Ev.bind (R' := rD X) (u := fun (x : V) σ H1 Q => Q (V.bl (decide (x = V.non))) H1) et fun x a e ι B H ρ O σ Q r hx q => ?_⟩
  dsimp only
  rw [(hx.dh r).non]
  exact EvP.ok r q (.bl _)
theorem ex_notN {j pos'} (h : EZ X Wx a ma) : EX X Wx (.Compare a [.IsNot] [.Constant .none j pos'] pos) (bindE ma fun d => pureE (.bl (!isNon d))) := by
  obtain ⟨t, pt, et⟩ := h
  refine ⟨_, pe_cmp (pc_notN pt), Ev.bind (R' := rD X) (u := fun (x : V) σ H1 Q => Q (V.bl (!decide (x = V.non))) H1) et fun x a e ι B H ρ O σ Q r hx q => ?_⟩
  dsimp only
  rw [(hx.dh r).non]
  exact EvP.ok r q (.bl _)
theorem et_isN {j pos'} (h : EZ X Wx a ma) : ET X Wx (.Compare a [.Is] [.Constant .none j pos'] pos) (bindE ma fun d => pureE (isNon d)) := by
  obtain ⟨t, pt, et⟩ := h
  refine ⟨_, pt_cmp (pc_isN pt), Ev.bind (R' := rQ Bool) (u := fun (x : V) σ H1 Q => ∃ c, V.bl (decide (x = V.non)) = V.bl c ∧ Q c H1) et fun x a e ι B H ρ O σ Q r hx q => ?_⟩
  dsimp only
  rw [(hx.dh r).non]
  exact ⟨_, rfl, EvP.ok r q rfl⟩
theorem et_notN {j pos'} (h : EZ X Wx a ma) : ET X Wx (.Compare a [.IsNot] [.Constant .none j pos'] pos) (bindE ma fun d => pureE (!isNon d)) := by
  obtain ⟨t, pt, et⟩ := h
  refine ⟨_, pt_cmp (pc_notN pt), Ev.bind (R' := rQ Bool) (u := fun (x : V) σ H1 Q => ∃ c, V.bl (!decide (x = V.non)) = V.bl c ∧ Q c H1) et fun x a e ι B H ρ O σ Q r hx q => ?_⟩
  dsimp only
  rw [(hx.dh r).non]
  exact ⟨_, rfl, EvP.ok r q rfl⟩
def isBD (neg : Bool) : D → D → Option D
  | .bl a, .bl b => some (.bl (if neg then !decide (a = b) else decide (a = b)))
  | _, _ => none
theorem op2_isB : Op2 X rIsB (isBD false) := by
  intro x y a b z e ι B H ρ O σ Q r hx hy hz q
  unfold isBD at hz
  split at hz
  · rename_i i j
    cases hx; cases hy; cases hz
    exact ⟨i, j, rfl, rfl, atomI r q (.bl _)⟩
  · cases hz
theorem op2_notB : Op2 X rNotB (isBD true) := by
  intro x y a b z e ι B H ρ O σ Q r hx hy hz q
  unfold isBD at hz
  split at hz
  · rename_i i j
    cases hx; cases hy; cases hz
    exact ⟨i, j, rfl, rfl, atomI r q (.bl _)⟩
  · cases hz
theorem ex_isB (ha : EZ X Wx a ma) (hb : EZ X Wx b mb) : EX X Wx (.Compare a [.Is] [b] pos) (binM (isBD false) ma mb) := ex_cmp op_isBl op2_isB ha hb (nomark _)
theorem ex_notB (ha : EZ X Wx a ma) (hb : EZ X Wx b mb) : EX X Wx (.Compare a [.IsNot] [b] pos) (binM (isBD true) ma mb) := ex_cmp op_notBl op2_notB ha hb (nomark _)
theorem et_isB (ha : EZ X Wx a ma) (hb : EZ X Wx b mb) : ET X Wx (.Compare a [.Is] [b] pos) (boolM (binM (isBD false) ma mb)) := et_cmp op_isBl op2_isB ha hb (nomark _)
theorem et_notB (ha : EZ X Wx a ma) (hb : EZ X Wx b mb) : ET X Wx (.Compare a [.IsNot] [b] pos) (boolM (binM (isBD true) ma mb)) := et_cmp op_notBl op2_notB ha hb (nomark _)

/-! ### a < b < c -/
def chainM (f g : D → D → Option D) (ma mb mc : ME D) : ME D := bindE ma fun x => bindE mb fun y => bindE (optE (f x y)) (boolOnly (fun _ => bindE mc fun z => optE (g y z)) true)
theorem ev_chain {r r' : R2} {f g : D → D → Option D} {ta tb tc : TE} (ho : Op2 X r f) (ho' : Op2 X r' g) (ha : Ev X Wx (rS X) ta ma) (hb : Ev X Wx (rS X) tb mb) (hc : Ev X Wx (rS X) tc mc) : Ev X Wx (rD X) (tChain r r' ta tb tc) (chainM f g ma mb mc) := by
  refine Ev.bind2 (R' := rD X) (u := fun x y σ H Q => r x y H fun z H3 => ∃ k, z = .bl k ∧ (if k = true then tc σ H3 fun w' H4 => r' y w' H4 Q else Q (.bl false) H3)) ha hb fun x y a b e ι B H ρ O σ Q rl hx hy q => ?_
  cases z : f a b with
  | none => rw [z] at q; exact q.elim
  | some d =>
    rw [z] at q
    refine ho x y a b d e ι B H ρ O σ _ rl (hx.dh rl) (hy.dh rl) z fun B' H' v r' b' hv => ?_
    cases d with
    | bl k =>
      cases hv
      refine ⟨k, rfl, ?_⟩
      cases k with
      | false => rw [if_neg Bool.false_ne_true]; exact q ι B' H' _ r' (Pre.refl _) b' (.bl _)
      | true =>
        rw [if_pos rfl]
        refine hc e ι B' H' ρ O σ _ r' ?_
        have q1 : EvP X Wx (rD X) e ι B ρ σ Q ((bindE mc fun z => optE (g b z)) ρ O) := q
        simp only [bindE] at q1
        cases zc : mc ρ O with
        | bad => rw [zc] at q1; exact q1
        | err c p O' =>
          rw [zc] at q1
          exact fun ι2 B2 H2 C dx r2 i2 b2 h => q1 ι2 B2 H2 C dx r2 i2 (b'.trans b2) h
        | ok d O' =>
          rw [zc] at q1
          dsimp only at q1
          intro ι2 B2 H2 w r2 i2 b2 hw
          cases zg : g b d with
          | none => rw [zg] at q1; exact q1.elim
          | some d2 =>
            rw [zg] at q1
            exact ho' y w b d d2 e ι2 B2 H2 ρ O' σ Q r2 ((rS.mono i2 (b'.trans b2) hy).dh r2) (hw.dh r2) zg fun B3 H3 v3 r3 b3 h3 => q1 ι2 B3 H3 v3 r3 i2 ((b'.trans b2).trans b3) h3
    | _ => exact q.elim
theorem ex_chain {op op' : CmpOp} {r r' : R2} {f g : D → D → Option D} (hr : OpR X (compareOp op) r) (hr' : OpR X (compareOp op') r') (ho : Op2 X r f) (ho' : Op2 X r' g) (ha : EZ X Wx a ma) (hb : EZ X Wx b mb) (hc : EZ X Wx c mc)
    (hm : lastMarks [op, op'] [b, c] = false := by with_unfolding_all rfl) : EX X Wx (.Compare a [op, op'] [b, c] pos) (chainM f g ma mb mc) := by
  obtain ⟨ta, pa, ea⟩ := ha
  obtain ⟨tb, pb, eb⟩ := hb
  obtain ⟨tc, pc, ec⟩ := hc
  exact ⟨_, pe_chain hr hr' pa pb pc hm, ev_chain ho ho' ea eb ec⟩
theorem et_chain {op op' : CmpOp} {r r' : R2} {f g : D → D → Option D} (hr : OpR X (compareOp op) r) (hr' : OpR X (compareOp op') r') (ho : Op2 X r f) (ho' : Op2 X r' g) (ha : EZ X Wx a ma) (hb : EZ X Wx b mb) (hc : EZ X Wx c mc)
    (hm : lastMarks [op, op'] [b, c] = false := by with_unfolding_all rfl) : ET X Wx (.Compare a [op, op'] [b, c] pos) (boolM (chainM f g ma mb mc)) := by
  obtain ⟨ta, pa, ea⟩ := ha
  obtain ⟨tb, pb, eb⟩ := hb
  obtain ⟨tc, pc, ec⟩ := hc
  exact ⟨_, pt_chain hr hr' pa pb pc hm, ev_bool (ev_chain ho ho' ea eb ec)⟩
theorem ex_lelt (ha : EZ X Wx a ma) (hb : EZ X Wx b mb) (hc : EZ X Wx c mc) (hm : lastMarks [.LtE, .Lt] [b, c] = false := by with_unfolding_all rfl) : EX X Wx (.Compare a [.LtE, .Lt] [b, c] pos) (chainM leD ltD ma mb mc) := ex_chain op_le op_lt op2_rel op2_rel ha hb hc hm
theorem et_lelt (ha : EZ X Wx a ma) (hb : EZ X Wx b mb) (hc : EZ X Wx c mc) (hm : lastMarks [.LtE, .Lt] [b, c] = false := by with_unfolding_all rfl) : ET X Wx (.Compare a [.LtE, .Lt] [b, c] pos) (boolM (chainM leD ltD ma mb mc)) := et_chain op_le op_lt op2_rel op2_rel ha hb hc hm
theorem ex_lele (ha : EZ X Wx a ma) (hb : EZ X Wx b mb) (hc : EZ X Wx c mc) (hm : lastMarks [.LtE, .LtE] [b, c] = false := by with_unfolding_all rfl) : EX X Wx (.Compare a [.LtE, .LtE] [b, c] pos) (chainM leD leD ma mb mc) := ex_chain op_le op_le op2_rel op2_rel ha hb hc hm
theorem et_lele (ha : EZ X Wx a ma) (hb : EZ X Wx b mb) (hc : EZ X Wx c mc) (hm : lastMarks [.LtE, .LtE] [b, c] = false := by with_unfolding_all rfl) : ET X Wx (.Compare a [.LtE, .LtE] [b, c] pos) (boolM (chainM leD leD ma mb mc)) := et_chain op_le op_le op2_rel op2_rel ha hb hc hm

/-! ### -x -/
def un1 (f : D → Option D) (m : ME D) : ME D := bindE m fun d => optE (f d)
def negD : D → Option D
  | .int i => some (.int (-i))
  | _ => none
theorem ex_neg (h : EZ X Wx a ma) : EX X Wx (.UnaryOp .USub a pos) (un1 negD ma) := by
  obtain ⟨t, pt, et⟩ := h
  refine ⟨_, pe_un un_neg pt, Ev.bind (R' := rD X) (u := fun x σ H1 Q => rU (fun i => .int (-i)) x H1 Q) et fun x a e ι B H ρ O σ Q r hx q => ?_⟩
  have hx := hx.dh r
  cases a with
  | int i => cases hx; exact ⟨i, rfl, EvP.ok r q (.int _)⟩
  | _ => exact q.elim

/-! ### arguments, displays -/
def nilA : ME (List D) := pureE []
def consA (m : ME D) (n : ME (List D)) : ME (List D) := bindE m fun d => bindE n fun ds => pureE (d :: ds)
theorem ea_nil : EA X Wx [] nilA := ⟨_, pa_nil, fun e ι B H ρ O σ Q r q => EvP.ok (v := []) r q .nil⟩
theorem ea_cons {e : Expr} {es : List Expr} {m : ME D} {n : ME (List D)} (h : EX X Wx e m) (k : EA X Wx es n) (hs : starEach (e :: es) X.env = (false, eval e X.env) :: starEach es X.env := by rfl) : EA X Wx (e :: es) (consA m n) := by
  obtain ⟨t, pt, et⟩ := h
  obtain ⟨u, pu, eu⟩ := k
  refine ⟨_, pa_cons pt pu hs, Ev.bind (R' := rDs X) (u := fun x σ H1 Q => u σ H1 fun xs H2 => Q (x :: xs) H2) et fun x a e ι B H ρ O σ Q r hx q => ?_⟩
  refine eu e ι B H ρ O σ _ r ?_
  simp only [bindE] at q
  cases z : n ρ O with
  | bad => rw [z] at q; exact q
  | err c p O' => rw [z] at q; exact q
  | ok ds O' =>
    rw [z] at q
    intro ι' B' H' vs r' i' b' hs
    exact q ι' B' H' (x :: vs) r' i' b' (.cons (DA.mono b' i' _ _ hx) hs)
/-- arguments read at once -/
def rSs (X : Cx) : RV (List V) (List D) := fun ι B ρ σ vs ds => Paired (rS X ι B ρ σ) vs ds
def EAZ (X : Cx) (Wx : WX) (es : List Expr) (m : ME (List D)) : Prop := ∃ t, PA X es t ∧ Ev X Wx (rSs X) t m
theorem rSs.mono {ι ι' : List Addr} {B B' : Hp} {ρ : Rho} {σ : St} : ∀ {vs : List V} {ds : List D}, Pre ι ι' → Same B B' → Paired (rS X ι B ρ σ) vs ds → Paired (rS X ι' B' ρ σ) vs ds
  | _, _, _, _, .nil => .nil
  | _, _, hi, hB, .cons h t => .cons (rS.mono hi hB h) (rSs.mono hi hB t)
theorem eaz_nil : EAZ X Wx [] nilA := ⟨_, pa_nil, fun e ι B H ρ O σ Q r q => EvP.ok (v := []) r q .nil⟩
theorem eaz_cons {e : Expr} {es : List Expr} {m : ME D} {n : ME (List D)} (h : EZ X Wx e m) (k : EAZ X Wx es n) (hs : starEach (e :: es) X.env = (false, eval e X.env) :: starEach es X.env := by rfl) : EAZ X Wx (e :: es) (consA m n) := by
  obtain ⟨t, pt, et⟩ := h
  obtain ⟨u, pu, eu⟩ := k
  refine ⟨_, pa_cons pt pu hs, Ev.bind (R' := rSs X) (u := fun x σ H1 Q => u σ H1 fun xs H2 => Q (x :: xs) H2) et fun x a e ι B H ρ O σ Q r hx q => ?_⟩
  refine eu e ι B H ρ O σ _ r ?_
  simp only [bindE] at q
  cases z : n ρ O with
  | bad => rw [z] at q; exact q
  | err c p O' => rw [z] at q; exact q
  | ok ds O' =>
    rw [z] at q
    intro ι' B' H' vs r' i' b' hs
    exact q ι' B' H' (x :: vs) r' i' b' (.cons (rS.mono i' b' hx) hs)
def lstM (m : ME (List D)) : ME D := bindE m fun ds => if ds.length ≤ sizeLine then pureE (.lst ds) else badE
def tupM (m : ME (List D)) : ME D := bindE m fun ds => if ds.length ≤ sizeLine then pureE (.tup ds) else badE
theorem ex_lst {es : List Expr} {m : ME (List D)} (h : EA X Wx es m) : EX X Wx (.List es pos) (lstM m) := by
  obtain ⟨t, pt, et⟩ := h
  refine ⟨_, pe_lst pt, Ev.bind (R' := rD X) (u := fun (xs : List V) σ H1 Q => xs.length ≤ sizeLine ∧ ∀ p, H1 p = none → Q (.ref p) (upd H1 p (.lst xs))) et fun xs ds e ι B H ρ O σ Q r hx q => ?_⟩
  split at q
  · rename_i hl
    exact ⟨by rw [paired_len hx]; exact hl, newL r (fun B' H' v r' b' hv => q ι B' H' v r' (Pre.refl _) b' hv) hx⟩
  · exact q.elim
theorem ex_tup {es : List Expr} {k} {m : ME (List D)} (h : EA X Wx es m) : EX X Wx (.Tuple es k pos) (tupM m) := by
  obtain ⟨t, pt, et⟩ := h
  refine ⟨_, pe_tup pt, Ev.bind (R' := rD X) (u := fun (xs : List V) σ H1 Q => xs.length ≤ sizeLine ∧ ∀ p, H1 p = none → Q (.ref p) (upd H1 p (.tup xs))) et fun xs ds e ι B H ρ O σ Q r hx q => ?_⟩
  split at q
  · rename_i hl
    exact ⟨by rw [paired_len hx]; exact hl, newT r (fun B' H' v r' b' hv => q ι B' H' v r' (Pre.refl _) b' hv) hx⟩
  · exact q.elim

/-! ### x[i] -/
def ixD : D → D → Option D
  | .lst xs, .int i | .sea xs, .int i | .tup xs, .int i => atI xs i
  | .str z, .int i => if z.length ≤ sizeLine then (atI z.cps.toList i).map fun c => .str ⟨#[c]⟩ else none
  | _, _ => none
theorem paired_at {F : V → D → Prop} {vs : List V} {ds : List D} {i : Int} {d : D} (h : Paired F vs ds) (e : atI ds i = some d) : ∃ v, atI vs i = some v ∧ F v d := by
  unfold atI at e ⊢
  rw [paired_len h]
  cases z : ixN ds.length i with
  | none => rw [z] at e; cases e
  | some j =>
    rw [z] at e
    exact paired_get h e
theorem op2_ix : Op2 X (rIx X.K) ixD := by
  intro x y a b z e ι B H ρ O σ Q r hx hy hz q
  unfold ixD at hz
  split at hz
  · cases hy
    obtain ⟨p, vs, rfl, h1, h2⟩ := hx
    obtain ⟨v, h3, h4⟩ := paired_at h2 hz
    exact .inl ⟨p, vs, _, v, rfl, rfl, SqL.of h1, h3, atomI r q h4⟩
  · cases hy
    obtain ⟨p, vs, rfl, h1, h2⟩ := hx
    obtain ⟨v, h3, h4⟩ := paired_at h2 hz
    exact .inl ⟨p, vs, _, v, rfl, rfl, h1, h3, atomI r q h4⟩
  · cases hy
    obtain ⟨p, vs, rfl, h1, h2⟩ := hx
    obtain ⟨v, h3, h4⟩ := paired_at h2 hz
    exact .inr (.inl ⟨p, vs, _, v, rfl, rfl, h1, h3, atomI r q h4⟩)
  · rename_i s i
    cases hy
    cases hx
    split at hz
    · rename_i hl
      simp only [Option.map_eq_some_iff] at hz
      obtain ⟨c, h1, rfl⟩ := hz
      exact .inr (.inr ⟨s, i, c, rfl, rfl, hl, h1, atomI r q (.str _)⟩)
    · cases hz
  · cases hz
theorem ex_ix (ha : EZ X Wx a ma) (hb : EZ X Wx b mb) (hs : PlainIx b := by intro _ _; rfl) : EX X Wx (.Subscript a b pos) (binM ixD ma mb) := by
  obtain ⟨ta, pa, ea⟩ := ha
  obtain ⟨tb, pb, eb⟩ := hb
  exact ⟨_, pe_ix ix_seq pa pb hs, ev_op op2_ix ea eb⟩

/-! ### x[a:b] -/
abbrev rO : RV (Option Int) (Option Int) := rQ (Option Int)
def EO (X : Cx) (Wx : WX) (e : Option Expr) (m : ME (Option Int)) : Prop := ∃ t, PO X e t ∧ Ev X Wx rO t m
def noPart : ME (Option Int) := pureE none
def partM (m : ME D) : ME (Option Int) := bindE m fun d => match d with
  | .int i => pureE (some i)
  | _ => badE
theorem eo_none : EO X Wx none noPart := ⟨_, po_none, fun e ι B H ρ O σ Q r q => EvP.ok r q rfl⟩
theorem eo_some (h : EZ X Wx a ma) : EO X Wx (some a) (partM ma) := by
  obtain ⟨t, pt, et⟩ := h
  refine ⟨_, po_some pt, Ev.bind (R' := rO) (u := fun (x : V) σ H1 Q => ∃ i, x = V.int i ∧ Q (some i) H1) et fun x a e ι B H ρ O σ Q r hx q => ?_⟩
  have hx := hx.dh r
  cases a with
  | int i => cases hx; exact ⟨i, rfl, EvP.ok r q rfl⟩
  | _ => exact q.elim
def cutD (ds : List D) (lo hi : Option Int) : List D := (ds.drop (HT.sIx ds.length 0 lo)).take (HT.sIx ds.length ds.length hi - HT.sIx ds.length 0 lo)
def slD (lo hi : Option Int) : D → Option D
  | .lst xs => some (.lst (cutD xs lo hi))
  | .sea xs => some (.lst (cutD xs lo hi))
  | .str z => if z.length ≤ sizeLine then some (.str (cutS z lo hi)) else none
  | _ => none
theorem paired_cut {F : V → D → Prop} {vs : List V} {ds : List D} (h : Paired F vs ds) (lo hi : Option Int) : Paired F (cutV vs lo hi) (cutD ds lo hi) := by
  unfold cutV cutD
  rw [paired_len h]
  exact paired_take _ (paired_drop _ h)
def slM (m : ME D) (lo hi : ME (Option Int)) : ME D := bindE m fun d => bindE lo fun l => bindE hi fun u => optE (slD l u d)
abbrev rSlAll (K : PySem.W.Frag) : V → Option Int → Option Int → Hp → VK → Prop := fun x lo hi H Q => rSlL K x lo hi H Q ∨ (∃ z, x = .str z ∧ z.length ≤ sizeLine ∧ Q (.str (cutS z lo hi)) H)
theorem ex_sl {lo hi : Option Expr} {p2 : Pos} {ml mh : ME (Option Int)} (hS : SlR X (rSlAll X.K)) (ha : EZ X Wx a ma) (hl : EO X Wx lo ml) (hh : EO X Wx hi mh) : EX X Wx (.Subscript a (.Slice lo hi none p2) pos) (slM ma ml mh) := by
  obtain ⟨ta, pa, ea⟩ := ha
  obtain ⟨tl, pl, el⟩ := hl
  obtain ⟨th, ph, eh⟩ := hh
  refine ⟨_, pe_slice hS pa pl ph, Ev.bind (R' := rD X) (u := fun x σ H1 Q => tl σ H1 fun l H2 => th σ H2 fun u H3 => rSlAll X.K x l u H3 Q) ea fun x a e ι B H ρ O σ Q r hx q => ?_⟩
  refine el e ι B H ρ O σ _ r ?_
  simp only [bindE] at q
  cases z : ml ρ O with
  | bad => rw [z] at q; exact q
  | err c p O' => rw [z] at q; exact q
  | ok l O1 =>
    rw [z] at q
    intro ι1 B1 H1 l' r1 i1 b1 hl'
    cases hl'
    refine eh e ι1 B1 H1 ρ O1 σ _ r1 ?_
    dsimp only at q
    cases z2 : mh ρ O1 with
    | bad => rw [z2] at q; exact q
    | err c p O' =>
      rw [z2] at q
      exact fun ι2 B2 H2 C dx r2 i2 b2 h => q ι2 B2 H2 C dx r2 (i1.trans i2) (b1.trans b2) h
    | ok u O2 =>
      rw [z2] at q
      dsimp only at q
      intro ι2 B2 H2 u' r2 i2 b2 hu'
      cases hu'
      have hx2 := (rS.mono (i1.trans i2) (b1.trans b2) hx).dh r2
      cases z3 : slD l u a with
      | none => rw [z3] at q; exact q.elim
      | some d =>
        rw [z3] at q
        unfold slD at z3
        split at z3
        · cases z3
          obtain ⟨p, vs, rfl, h1, h2⟩ := hx2
          exact .inl ⟨p, vs, rfl, SqL.of h1, newL r2 (fun B' H' v r' b' hv => q ι2 B' H' v r' (i1.trans i2) ((b1.trans b2).trans b') hv) (paired_cut h2 _ _)⟩
        · cases z3
          obtain ⟨p, vs, rfl, h1, h2⟩ := hx2
          exact .inl ⟨p, vs, rfl, h1, newL r2 (fun B' H' v r' b' hv => q ι2 B' H' v r' (i1.trans i2) ((b1.trans b2).trans b') hv) (paired_cut h2 _ _)⟩
        · rename_i s
          cases hx2
          split at z3
          · rename_i hs
            cases z3
            exact .inr ⟨s, rfl, hs, q ι2 B2 H2 _ r2 (i1.trans i2) (b1.trans b2) (.str _)⟩
          · cases z3
        · cases z3
end
end DL

set_option Elab.async false
set_option linter.all false
set_option maxRecDepth 100000
namespace DL
open PySem L2

theorem set_out {α : Type} {l : List α} {i : Nat} {a : α} (h : ¬ i < l.length) : l.set i a = l := by
  rw [List.set_eq_of_length_le (by omega)]
section
variable {K : PySem.W.Frag} {mg : Mg} {e : Ent} {ι ι' : List Addr} {B B' H H' : Hp} {ρ : Rho} {O O' : Sto} {σ : St} {a p : Addr} {c : Cell}
theorem Rel.set' (r : Rel K mg e ι B H ρ O σ) {i : Nat} {v : V} {d : D} (h : DA K ι B v d) : Rel K mg e ι B H (ρ.set i (some (.shr d))) O (σ.set i (some v)) := by
  by_cases hi : i < ρ.length
  · exact r.set h hi
  · rw [set_out hi, set_out (by rw [r.len]; exact hi)]
    exact r
theorem Rel.setOwn' (r : Rel K mg e ι B H ρ O σ) {i : Nat} (ca : CA K mg ι B H a c) (hb : B a = none) (he : e.H a = none) (hn : a ∉ ι)
    (ne : ∀ (j : Nat) (c' : Cell), ρ[j]? = some (some (.own c')) → σ[j]? ≠ some (some (.ref a))) : Rel K mg e ι B H (ρ.set i (some (.own c))) O (σ.set i (some (.ref a))) := by
  by_cases hi : i < ρ.length
  · exact r.setOwn hi ca hb he hn ne
  · rw [set_out hi, set_out (by rw [r.len]; exact hi)]
    exact r
/-- a list that belongs to nobody is frozen -/
theorem Rel.freezeAt (r : Rel K mg e ι B H ρ O σ) {vs : List V} (hH : H a = some (.lst vs)) (hb : B a = none) (he : e.H a = none) (hn : a ∉ ι)
    (ne : ∀ (j : Nat) (c' : Cell), ρ[j]? = some (some (.own c')) → σ[j]? ≠ some (some (.ref a))) : Rel K mg e ι (upd B a (.lst vs)) H ρ O σ ∧ Same B (upd B a (.lst vs)) := by
  have sb : Same B (upd B a (.lst vs)) := fun b x h => by rw [upd_ne (ne_of_none h hb)]; exact h
  refine ⟨⟨fun b x h => ?_, r.eB.trans sb, r.ei, fun b x h => ?_, r.fH, r.fi, r.len, fun j x h2 => ?_, r.sep, r.lo, fun n c b h2 h3 => ?_, r.nd⟩, sb⟩
  · by_cases e6 : b = a
    · subst e6; rw [upd_same] at h; cases h; exact hH
    · rw [upd_ne e6] at h; exact r.sub _ _ h
  · by_cases e6 : b = a
    · subst e6; exact .inr he
    · rw [upd_ne e6] at h; exact r.fB b x h
  · obtain ⟨w, k1, k2⟩ := r.sl j x h2
    refine ⟨w, k1, ?_⟩
    cases x with
    | shr d => exact DA.mono sb (Pre.refl _) d w k2
    | raw u => exact k2
    | own c =>
      obtain ⟨b, m1, m2, m3, m4, m5⟩ := k2
      subst m1
      have hne : b ≠ a := by
        rintro rfl
        exact ne j c h2 k1
      exact ⟨b, rfl, m2.mono sb (Pre.refl _) rfl, by rw [upd_ne hne]; exact m3, m4, m5⟩
  · have hne : b ≠ a := by
      rintro rfl
      exact hn (List.mem_of_getElem? h3)
    obtain ⟨k1, k2⟩ := r.ob n c b h2 h3
    exact ⟨k1.mono sb (Pre.refl _) rfl, by rw [upd_ne hne]; exact k2⟩
/-- a free address is no owned one -/
theorem Rel.notOwn (r : Rel K mg e ι B H ρ O σ) (h : H a = none) : ∀ (j : Nat) (c' : Cell), ρ[j]? = some (some (.own c')) → σ[j]? ≠ some (some (.ref a)) := fun j c h1 h2 => by
  obtain ⟨v, h3, b, h4, h5, _⟩ := r.sl j _ h1
  rw [h2] at h3
  cases h3
  cases h4
  obtain ⟨o, h6⟩ := h5.there
  rw [h] at h6
  cases h6
end

section
variable {X : Cx} {Wx : WX} {a b c : Expr} {pos : Pos} {ma mb mc : ME D}
/-! ### new lists -/
/-- a new list of the data ds is made -/
def EvL (X : Cx) (Wx : WX) (t : TE) (m : ME (List D)) : Prop :=
  ∀ e ι B H ρ O σ (Q : VK), Rel X.K X.mg e ι B H ρ O σ →
    (match m ρ O with
    | .ok ds O' => ∀ ι' B' H' vs, Rel X.K X.mg e ι' B' H' ρ O' σ → Pre ι ι' → Same B B' → Paired (DA X.K ι' B') vs ds → ∀ p, H' p = none → Q (.ref p) (upd H' p (.lst vs))
    | .err c p O' => ∀ ι' B' H' C dx, Rel X.K X.mg e ι' B' H' ρ O' σ → Pre ι ι' → Same B B' → Exc X.K X.mg ι' B' C dx c p → Wx (.ref C) (some dx) σ H'
    | .bad => False) → t σ H Q
def EL (X : Cx) (Wx : WX) (e : Expr) (m : ME (List D)) : Prop := ∃ t, PE X e t ∧ EvL X Wx t m
/-- a new cell is made -/
def EvN (X : Cx) (Wx : WX) (t : TE) (m : ME Cell) : Prop :=
  ∀ e ι B H ρ O σ (Q : VK), Rel X.K X.mg e ι B H ρ O σ →
    (match m ρ O with
    | .ok c O' => ∀ ι' B' H' a, Rel X.K X.mg e ι' B' H' ρ O' σ → Pre ι ι' → Same B B' → CA X.K X.mg ι' B' H' a c → B' a = none → e.H a = none → a ∉ ι' → (∀ (j : Nat) (c' : Cell), ρ[j]? = some (some (.own c')) → σ[j]? ≠ some (some (.ref a))) → Q (.ref a) H'
    | .err c p O' => ∀ ι' B' H' C dx, Rel X.K X.mg e ι' B' H' ρ O' σ → Pre ι ι' → Same B B' → Exc X.K X.mg ι' B' C dx c p → Wx (.ref C) (some dx) σ H'
    | .bad => False) → t σ H Q
def EN (X : Cx) (Wx : WX) (e : Expr) (m : ME Cell) : Prop := ∃ t, PE X e t ∧ EvN X Wx t m
def mapE {α β : Type} (f : α → β) (m : ME α) : ME β := bindE m fun a => pureE (f a)
theorem EL.x {m : ME (List D)} (h : EL X Wx a m) : EX X Wx a (mapE .lst m) := by
  obtain ⟨t, pt, et⟩ := h
  refine ⟨t, pt, fun e ι B H ρ O σ Q r q => et e ι B H ρ O σ Q r ?_⟩
  simp only [mapE, bindE] at q
  cases z : m ρ O with
  | ok ds O' =>
    rw [z] at q
    exact fun ι' B' H' vs r' i' b' hv => newL r' (fun B2 H2 v r2 b2 h => q ι' B2 H2 v r2 i' (b'.trans b2) h) hv
  | err c p O' => rw [z] at q; exact q
  | bad => rw [z] at q; exact q
theorem EL.n {m : ME (List D)} (h : EL X Wx a m) : EN X Wx a (mapE .lst m) := by
  obtain ⟨t, pt, et⟩ := h
  refine ⟨t, pt, fun e ι B H ρ O σ Q r q => et e ι B H ρ O σ Q r ?_⟩
  simp only [mapE, bindE] at q
  cases z : m ρ O with
  | ok ds O' =>
    rw [z] at q
    intro ι' B' H' vs r' i' b' hv p hp
    obtain ⟨r2, h1, h2, h3⟩ := r'.fresh hp (.lst vs)
    exact q ι' B' _ p r2 i' b' ⟨vs, upd_same, hv⟩ h1 h2 h3 (r'.notOwn hp)
  | err c p O' => rw [z] at q; exact q
  | bad => rw [z] at q; exact q
theorem el_disp {es : List Expr} {m : ME (List D)} (h : EA X Wx es m) : EL X Wx (.List es pos) (bindE m fun ds => if ds.length ≤ sizeLine then pureE ds else badE) := by
  obtain ⟨t, pt, et⟩ := h
  refine ⟨_, pe_lst pt, fun e ι B H ρ O σ Q r q => et e ι B H ρ O σ _ r ?_⟩
  simp only [bindE] at q
  cases z : m ρ O with
  | ok ds O' =>
    rw [z] at q
    dsimp only at q
    intro ι' B' H' vs r' i' b' hv
    by_cases hl : ds.length ≤ sizeLine
    · rw [if_pos hl] at q
      exact ⟨by rw [paired_len hv]; exact hl, q ι' B' H' vs r' i' b' hv⟩
    · rw [if_neg hl] at q
      exact q.elim
  | err c p O' => rw [z] at q; exact q
  | bad => rw [z] at q; exact q
/-- an operation on two values that makes a new list -/
def Op2L (X : Cx) (r : R2) (f : D → D → Option (List D)) : Prop := ∀ x y a b ds ι B H (Q : VK), DH X.K ι B H x a → DH X.K ι B H y b → f a b = some ds →
  (∀ vs, Paired (DA X.K ι B) vs ds → ∀ p, H p = none → Q (.ref p) (upd H p (.lst vs))) → r x y H Q
theorem el_op {op : Operator} {r : R2} {f : D → D → Option (List D)} (hr : OpR X (binaryOp op) r) (ho : Op2L X r f) (ha : EZ X Wx a ma) (hb : EZ X Wx b mb) : EL X Wx (.BinOp a op b pos) (bindE ma fun x => bindE mb fun y => optE (f x y)) := by
  obtain ⟨ta, pa, ea⟩ := ha
  obtain ⟨tb, pb, eb⟩ := hb
  refine ⟨_, pe_op hr pa pb, fun e ι B H ρ O σ Q rl q => ea e ι B H ρ O σ _ rl ?_⟩
  simp only [bindE] at q
  cases z : ma ρ O with
  | err c p O' => rw [z] at q; exact q
  | bad => rw [z] at q; exact q
  | ok x O1 =>
    rw [z] at q
    dsimp only at q
    intro ι1 B1 H1 xv r1 i1 b1 hx
    refine eb e ι1 B1 H1 ρ O1 σ _ r1 ?_
    cases z2 : mb ρ O1 with
    | err c p O' =>
      rw [z2] at q
      exact fun ι2 B2 H2 C dx r2 i2 b2 h => q ι2 B2 H2 C dx r2 (i1.trans i2) (b1.trans b2) h
    | bad => rw [z2] at q; exact q
    | ok y O2 =>
      rw [z2] at q
      dsimp only at q
      intro ι2 B2 H2 yv r2 i2 b2 hy
      cases z3 : f x y with
      | none => rw [z3] at q; exact q.elim
      | some ds =>
        rw [z3] at q
        exact ho xv yv x y ds ι2 B2 H2 Q ((rS.mono i2 b2 hx).dh r2) (hy.dh r2) z3 fun vs hv => q ι2 B2 H2 vs r2 (i1.trans i2) (b1.trans b2) hv
def catL : D → D → Option (List D)
  | .lst a, .lst b => if a.length + b.length ≤ sizeLine then some (a ++ b) else none
  | _, _ => none
theorem op2L_cat : Op2L X rCat catL := by
  intro x y a b ds ι B H Q hx hy hz q
  unfold catL at hz
  split at hz
  · split at hz
    · rename_i hl
      cases hz
      obtain ⟨a1, vs1, rfl, h1, h2⟩ := hx
      obtain ⟨a2, vs2, rfl, h3, h4⟩ := hy
      exact ⟨_, _, _, _, rfl, rfl, h1, h3, by rw [paired_len h2, paired_len h4]; exact hl, q _ (paired_app h2 h4)⟩
    · cases hz
  · cases hz
theorem el_cat (ha : EZ X Wx a ma) (hb : EZ X Wx b mb) : EL X Wx (.BinOp a .Add b pos) (bindE ma fun x => bindE mb fun y => optE (catL x y)) := el_op op_cat op2L_cat ha hb
def repL : D → D → Option (List D)
  | .lst xs, .int k => if -(2 ^ 63) ≤ k ∧ k < 2 ^ 63 ∧ xs.length * k.toNat ≤ sizeLine then some (List.replicate k.toNat xs).flatten else none
  | _, _ => none
theorem op2L_rep : Op2L X rRep repL := by
  intro x y a b ds ι B H Q hx hy hz q
  unfold repL at hz
  split at hz
  · split at hz
    · rename_i hl
      cases hz
      cases hy
      obtain ⟨a1, vs1, rfl, h1, h2⟩ := hx
      exact ⟨_, _, _, rfl, rfl, h1, hl.1, hl.2.1, by rw [paired_len h2]; exact hl.2.2, q _ (paired_rep h2 _)⟩
    · cases hz
  · cases hz
theorem el_rep (ha : EZ X Wx a ma) (hb : EZ X Wx b mb) : EL X Wx (.BinOp a .Mult b pos) (bindE ma fun x => bindE mb fun y => optE (repL x y)) := el_op op_rep op2L_rep ha hb

/-! ### built-in functions -/
def OpN (X : Cx) (r : List V → Hp → VK → Prop) (f : List D → Option D) : Prop := ∀ xs ds z e ι B H ρ O σ (Q : VK), Rel X.K X.mg e ι B H ρ O σ → Paired (DH X.K ι B H) xs ds → f ds = some z →
  (∀ B' H' v, Rel X.K X.mg e ι B' H' ρ O σ → Same B B' → DA X.K ι B' v z → Q v H') → r xs H Q
def callM (f : List D → Option D) (m : ME (List D)) : ME D := bindE m fun ds => optE (f ds)
theorem rSs.dh {e : Ent} {ι : List Addr} {B H : Hp} {ρ : Rho} {O : Sto} {σ : St} (r : Rel X.K X.mg e ι B H ρ O σ) : ∀ {vs : List V} {ds : List D}, Paired (rS X ι B ρ σ) vs ds → Paired (DH X.K ι B H) vs ds
  | _, _, .nil => .nil
  | _, _, .cons h t => .cons (h.dh r) (rSs.dh r t)
theorem ev_call {r : List V → Hp → VK → Prop} {f : List D → Option D} {t : TA} {m : ME (List D)} (ho : OpN X r f) (h : Ev X Wx (rSs X) t m) : Ev X Wx (rD X) (tCB r t) (callM f m) := by
  refine Ev.bind (R' := rD X) (u := fun xs σ H Q => r xs H Q) h fun xs ds e ι B H ρ O σ Q rl hx q => ?_
  cases z : f ds with
  | none => rw [z] at q; exact q.elim
  | some d =>
    rw [z] at q
    exact ho xs ds d e ι B H ρ O σ Q rl (rSs.dh rl hx) z fun B' H' v r' b' hv => q ι B' H' v r' (Pre.refl _) b' hv
theorem ex_callB {id : String} {r : List V → Hp → VK → Prop} {f : List D → Option D} {x : Str} {p : Pos} {e : Expr} {es : List Expr} {m : ME (List D)} (hc : CallR X (.builtin id) r) (ho : OpN X r f) (hm : X.mg x = none) (ha : EAZ X Wx (e :: es) m)
    (hg : Gl X x := by rfl) (hv : bootBuiltins x = some (.builtin id) := by decide +kernel) (hn : x ≠ "__name__" := by decide) (hdb : (x == ("__debug__" : Str)) = false := by decide)
    (he : starEach (e :: es) X.env = (false, eval e X.env) :: starEach es X.env := by rfl) (hpl : (backTo pos (starEach es X.env)).any (·.1) = false := by rfl) : EX X Wx (.Call (.Name x p) (e :: es) [] pos) (callM f m) := by
  obtain ⟨t, pt, et⟩ := ha
  exact ⟨_, pe_callB hc hg hm hv pt hn hdb he hpl, ev_call ho et⟩
theorem ex_callT {id : String} {r : List V → Hp → VK → Prop} {f : List D → Option D} {x : Str} {p : Pos} {e : Expr} {es : List Expr} {m : ME (List D)} (hc : CallR X (.type id) r) (ho : OpN X r f) (hm : X.mg x = none) (ha : EAZ X Wx (e :: es) m)
    (hg : Gl X x := by rfl) (hv : bootBuiltins x = some (.type id) := by decide +kernel) (hn : x ≠ "__name__" := by decide) (hdb : (x == ("__debug__" : Str)) = false := by decide)
    (he : starEach (e :: es) X.env = (false, eval e X.env) :: starEach es X.env := by rfl) (hpl : (backTo pos (starEach es X.env)).any (·.1) = false := by rfl) : EX X Wx (.Call (.Name x p) (e :: es) [] pos) (callM f m) := by
  obtain ⟨t, pt, et⟩ := ha
  exact ⟨_, pe_callTy hc hg hm hv pt hn hdb he hpl, ev_call ho et⟩
theorem paired1 {F : V → D → Prop} {xs : List V} {d : D} (h : Paired F xs [d]) : ∃ v, xs = [v] ∧ F v d := by
  cases h with
  | cons h t => cases t; exact ⟨_, rfl, h⟩
theorem paired2 {F : V → D → Prop} {xs : List V} {d e : D} (h : Paired F xs [d, e]) : ∃ v w, xs = [v, w] ∧ F v d ∧ F w e := by
  cases h with
  | cons h t =>
    cases t with
    | cons h2 t => cases t; exact ⟨_, _, rfl, h, h2⟩
def lenD : List D → Option D
  | [.lst xs] | [.sea xs] | [.tup xs] => some (.int xs.length)
  | [.str y] => if y.length ≤ sizeLine then some (.int y.length) else none
  | _ => none
theorem opN_len : OpN X (fun xs H Q => ∃ x n, xs = [x] ∧ LenV X.K x H n ∧ Q (.int n) H) lenD := by
  intro xs ds z e ι B H ρ O σ Q r hx hz q
  unfold lenD at hz
  split at hz
  · cases hz
    obtain ⟨v, rfl, p, vs, rfl, h1, h2⟩ := paired1 hx
    exact ⟨_, _, rfl, .inl ⟨vs, SqL.of h1, (paired_len h2).symm⟩, atomI r q (.int _)⟩
  · cases hz
    obtain ⟨v, rfl, p, vs, rfl, h1, h2⟩ := paired1 hx
    exact ⟨_, _, rfl, .inl ⟨vs, h1, (paired_len h2).symm⟩, atomI r q (.int _)⟩
  · cases hz
    obtain ⟨v, rfl, p, vs, rfl, h1, h2⟩ := paired1 hx
    exact ⟨_, _, rfl, .inr ⟨vs, h1, (paired_len h2).symm⟩, atomI r q (.int _)⟩
  · split at hz
    · rename_i y hl
      cases hz
      obtain ⟨v, rfl, h⟩ := paired1 hx
      cases h
      exact ⟨_, _, rfl, ⟨hl, rfl⟩, atomI r q (.int _)⟩
    · cases hz
  · cases hz
theorem ex_len {p : Pos} {e : Expr} {m : ME (List D)} (hm : X.mg "len" = none) (ha : EAZ X Wx [e] m) (hg : Gl X "len" := by rfl) (he : starEach [e] X.env = (false, eval e X.env) :: starEach [] X.env := by rfl) : EX X Wx (.Call (.Name "len" p) [e] [] pos) (callM lenD m) :=
  ex_callB call_len opN_len hm ha hg PySem.boot_len (by decide) (by decide) he rfl
def intF : List D → Option D
  | [.int i] => some (.int i)
  | [.bl b] => some (.int (if b then 1 else 0))
  | _ => none
theorem opN_int : OpN X (fun xs H Q => (∃ i, xs = [.int i] ∧ Q (.int i) H) ∨ ∃ k, xs = [.bl k] ∧ Q (.int (if k then 1 else 0)) H) intF := by
  intro xs ds z e ι B H ρ O σ Q r hx hz q
  unfold intF at hz
  split at hz
  · cases hz
    obtain ⟨v, rfl, h⟩ := paired1 hx
    cases h
    exact .inl ⟨_, rfl, atomI r q (.int _)⟩
  · cases hz
    obtain ⟨v, rfl, h⟩ := paired1 hx
    cases h
    exact .inr ⟨_, rfl, atomI r q (.int _)⟩
  · cases hz
theorem ex_intc {p : Pos} {e : Expr} {m : ME (List D)} (hm : X.mg "int" = none) (ha : EAZ X Wx [e] m) (hg : Gl X "int" := by rfl) (he : starEach [e] X.env = (false, eval e X.env) :: starEach [] X.env := by rfl) : EX X Wx (.Call (.Name "int" p) [e] [] pos) (callM intF m) :=
  ex_callT call_int1 opN_int hm ha hg (by decide +kernel) (by decide) (by decide) he rfl
def absF : List D → Option D
  | [.int i] => some (.int (if i < 0 then -i else i))
  | _ => none
theorem opN_abs : OpN X (fun xs H Q => ∃ i, xs = [.int i] ∧ Q (.int (if i < 0 then -i else i)) H) absF := by
  intro xs ds z e ι B H ρ O σ Q r hx hz q
  unfold absF at hz
  split at hz
  · cases hz
    obtain ⟨v, rfl, h⟩ := paired1 hx
    cases h
    exact ⟨_, rfl, atomI r q (.int _)⟩
  · cases hz
theorem ex_abs {p : Pos} {e : Expr} {m : ME (List D)} (hm : X.mg "abs" = none) (ha : EAZ X Wx [e] m) (hg : Gl X "abs" := by rfl) (he : starEach [e] X.env = (false, eval e X.env) :: starEach [] X.env := by rfl) : EX X Wx (.Call (.Name "abs" p) [e] [] pos) (callM absF m) :=
  ex_callB call_abs opN_abs hm ha hg (by decide +kernel) (by decide) (by decide) he rfl
def max2F : List D → Option D
  | [.int i, .int j] => some (.int (if j > i then j else i))
  | _ => none
def min2F : List D → Option D
  | [.int i, .int j] => some (.int (if j < i then j else i))
  | _ => none
theorem opN_max2 : OpN X (fun xs H Q => ∃ i j, xs = [.int i, .int j] ∧ Q (.int (if j > i then j else i)) H) max2F := by
  intro xs ds z e ι B H ρ O σ Q r hx hz q
  unfold max2F at hz
  split at hz
  · cases hz
    obtain ⟨v, w, rfl, h, h2⟩ := paired2 hx
    cases h
    cases h2
    exact ⟨_, _, rfl, atomI r q (.int _)⟩
  · cases hz
theorem opN_min2 : OpN X (fun xs H Q => ∃ i j, xs = [.int i, .int j] ∧ Q (.int (if j < i then j else i)) H) min2F := by
  intro xs ds z e ι B H ρ O σ Q r hx hz q
  unfold min2F at hz
  split at hz
  · cases hz
    obtain ⟨v, w, rfl, h, h2⟩ := paired2 hx
    cases h
    cases h2
    exact ⟨_, _, rfl, atomI r q (.int _)⟩
  · cases hz
theorem ex_max2 {p : Pos} {e e2 : Expr} {m : ME (List D)} (hm : X.mg "max" = none) (hc : X.calm = true) (ha : EAZ X Wx [e, e2] m) (hg : Gl X "max" := by rfl) (he : starEach [e, e2] X.env = (false, eval e X.env) :: starEach [e2] X.env := by rfl) (hpl : (backTo pos (starEach [e2] X.env)).any (·.1) = false := by rfl) :
    EX X Wx (.Call (.Name "max" p) [e, e2] [] pos) (callM max2F m) := ex_callB (call_max2 hc) opN_max2 hm ha hg (by decide +kernel) (by decide) (by decide) he hpl
theorem ex_min2 {p : Pos} {e e2 : Expr} {m : ME (List D)} (hm : X.mg "min" = none) (hc : X.calm = true) (ha : EAZ X Wx [e, e2] m) (hg : Gl X "min" := by rfl) (he : starEach [e, e2] X.env = (false, eval e X.env) :: starEach [e2] X.env := by rfl) (hpl : (backTo pos (starEach [e2] X.env)).any (·.1) = false := by rfl) :
    EX X Wx (.Call (.Name "min" p) [e, e2] [] pos) (callM min2F m) := ex_callB (call_min2 hc) opN_min2 hm ha hg (by decide +kernel) (by decide) (by decide) he hpl
def bitLen : D → Option D
  | .int i => some (.int (Builtin.Int.intBits i : Nat))
  | _ => none
theorem ex_bits {apos : Pos} (h : EZ X Wx a ma) (hbase : attributeBase a "bit_length" X.env (eval a X.env) = eval a X.env := by rfl) (hline : (apos.endLine == pos.line) = true := by rfl) : EX X Wx (.Call (.Attribute a "bit_length" apos) [] [] pos) (un1 bitLen ma) := by
  obtain ⟨t, pt, et⟩ := h
  refine ⟨_, pe_bits pt hbase hline, Ev.bind (R' := rD X) (u := fun (x : V) σ H1 Q => ∃ i, x = V.int i ∧ Q (V.int (Builtin.Int.intBits i : Nat)) H1) et fun x a e ι B H ρ O σ Q r hx q => ?_⟩
  have hx := hx.dh r
  cases a with
  | int i => cases hx; exact ⟨i, rfl, EvP.ok r q (.int _)⟩
  | _ => exact q.elim
/-- list(x) -/
def listL : List D → Option (List D)
  | [.lst xs] | [.sea xs] | [.tup xs] => some xs
  | _ => none
theorem el_list {p : Pos} {e : Expr} {m : ME (List D)} (hm : X.mg "list" = none) (ha : EAZ X Wx [e] m) (hg : Gl X "list" := by rfl) (he : starEach [e] X.env = (false, eval e X.env) :: starEach [] X.env := by rfl) :
    EL X Wx (.Call (.Name "list" p) [e] [] pos) (bindE m fun ds => optE (listL ds)) := by
  obtain ⟨t, pt, et⟩ := ha
  refine ⟨_, pe_callTy call_list_of hg hm (by decide +kernel) pt (by decide) (by decide) he rfl, fun e ι B H ρ O σ Q r q => et e ι B H ρ O σ _ r ?_⟩
  simp only [bindE] at q
  cases z : m ρ O with
  | err c p O' => rw [z] at q; exact q
  | bad => rw [z] at q; exact q
  | ok ds O' =>
    rw [z] at q
    dsimp only at q
    intro ι' B' H' vs r' i' b' hv
    have hv := rSs.dh r' hv
    cases z2 : listL ds with
    | none => rw [z2] at q; exact q.elim
    | some xs =>
      rw [z2] at q
      unfold listL at z2
      split at z2
      · cases z2
        obtain ⟨v, rfl, p, ws, rfl, h1, h2⟩ := paired1 hv
        exact ⟨p, ws, rfl, .inl (SqL.of h1), q ι' B' H' ws r' i' b' h2⟩
      · cases z2
        obtain ⟨v, rfl, p, ws, rfl, h1, h2⟩ := paired1 hv
        exact ⟨p, ws, rfl, .inl h1, q ι' B' H' ws r' i' b' h2⟩
      · cases z2
        obtain ⟨v, rfl, p, ws, rfl, h1, h2⟩ := paired1 hv
        exact ⟨p, ws, rfl, .inr h1, q ι' B' H' ws r' i' b' h2⟩
      · cases z2
/-- isinstance(x, T), T a built-in class -/
def tyD : D → Option String
  | .non => some "NoneType"
  | .bl _ => some "bool"
  | .int _ => some "int"
  | .str _ => some "str"
  | .lst _ | .sea _ => some "list"
  | .tup _ => some "tuple"
  | .dct _ => some "dict"
  | .obj _ => none
def isiD (T : String) (d : D) : Option D := (tyD d).bind fun t => (kitB t T).map .bl
theorem tyX_of {ι : List Addr} {B H : Hp} {v : V} {d : D} {t : String} (h : DH X.K ι B H v d) (e : tyD d = some t) : TyX X.K H v (.type t) := by
  cases d with
  | non => cases h; cases e; exact .base .non
  | bl b => cases h; cases e; exact .base (.bl b)
  | int i => cases h; cases e; exact .base (.int i)
  | str x => cases h; cases e; exact .base (.str x)
  | lst xs => obtain ⟨a, vs, rfl, h1, h2⟩ := h; cases e; exact .base (.lst h1)
  | sea xs =>
    obtain ⟨a, vs, rfl, h1, h2⟩ := h
    cases e
    rcases h1 with (h1 | ⟨o, h1⟩) | ⟨o, _, _, h1, h3, _⟩
    · exact .base (.lst h1)
    · exact .base (.frz h1)
    · exact .kList h1 h3
  | tup xs =>
    obtain ⟨a, vs, rfl, h1, h2⟩ := h
    cases e
    rcases h1 with (h1 | ⟨o, h1⟩) | ⟨o, _, _, h1, h3, _⟩
    · exact .base (.tup h1)
    · exact .fTuple h1
    · exact .kTuple h1 h3
  | dct xs =>
    obtain ⟨a, vs, rfl, h1, h2⟩ := h
    cases e
    rcases h1 with h1 | ⟨o, h1⟩
    · exact .base (.dK h1)
    · exact .fDict h1
  | obj n => cases e
theorem ex_isi {T : String} {x : Str} {p p2 : Pos} (hm : X.mg "isinstance" = none) (hmT : X.mg x = none) (hvT : bootBuiltins x = some (.type T)) (ha : EZ X Wx a ma) (hg : Gl X "isinstance" := by rfl) (hgT : Gl X x := by rfl)
    (he : starEach [a, .Name x p2] X.env = (false, eval a X.env) :: starEach [.Name x p2] X.env := by rfl) (he2 : starEach [.Name x p2] X.env = (false, eval (.Name x p2) X.env) :: starEach [] X.env := by rfl)
    (hpl : (backTo pos (starEach [.Name x p2] X.env)).any (·.1) = false := by rfl) (hn : x ≠ "__name__" := by decide) (hd : (x == ("__debug__" : Str)) = false := by decide) : EX X Wx (.Call (.Name "isinstance" p) [a, .Name x p2] [] pos) (un1 (isiD T) ma) := by
  obtain ⟨t, pt, et⟩ := ha
  refine ⟨_, pe_callB call_isi hg hm (by decide +kernel) (pa_cons pt (pa_cons (pe_bltn (v := .ty T) hgT hmT hvT rfl hn hd) pa_nil he2) he) (by decide) (by decide) he hpl,
    Ev.bind (R' := rD X) (u := fun (x : V) σ H1 Q => rIsi X.K [x, .ty T] H1 Q) et fun x a e ι B H ρ O σ Q r hx q => ?_⟩
  have hx := hx.dh r
  unfold isiD at q
  cases z : tyD a with
  | none => rw [z] at q; exact q.elim
  | some t =>
    rw [z] at q
    have q1 : EvP X Wx (rD X) e ι B ρ σ Q (optE ((kitB t T).map D.bl) ρ O) := q
    cases z2 : kitB t T with
    | none => rw [z2] at q1; exact q1.elim
    | some b =>
      rw [z2] at q1
      exact ⟨x, .ty T, .type t, .type T, b, rfl, .ty T, tyX_of hx z, kit_ty z2, EvP.ok r q1 (.bl b)⟩

/-! ### defs -/
/-- what a def promises: f says what comes of its arguments and the store -/
def FP (K : PySem.W.Frag) (mg : Mg) (ι : List Addr) (B H : Hp) (Q : VK) (E : XK) : RE SD → Prop
  | .ok x O' => ∀ ι' B' H' v, Rel K mg ⟨ι, B, H⟩ ι' B' H' [] O' [] → SA K mg ⟨ι, B, H⟩ ι' B' H' v x → Q v H'
  | .err c p O' => ∀ ι' B' H' C dx, Rel K mg ⟨ι, B, H⟩ ι' B' H' [] O' [] → Exc K mg ι' B' C dx c p → E (.ref C) (some dx) H'
  | .bad => False
def spF (K : PySem.W.Frag) (mg : Mg) (n : Nat) (f : MF) : Sp := fun vs H Q E => ∃ ds ι B O, Rel K mg ⟨ι, B, H⟩ ι B H [] O [] ∧ Paired (DA K ι B) vs ds ∧ ds.length = n ∧ FP K mg ι B H Q E (f ds O)
/-- a def's body at its arguments -/
def runF (n : Nat) (m : MS) : MF := fun ds O =>
  match m (ds.map (fun d => some (.shr d)) ++ List.replicate (n - ds.length) none) O with
  | .nx _ O' => .ok (.shr .non) O'
  | .ret x O' => .ok x O'
  | .err c p _ O' => .err c p O'
  | _ => .bad
theorem start_rel {K : PySem.W.Frag} {mg : Mg} {ι : List Addr} {B H : Hp} {O : Sto} {vs : List V} {ds : List D} {N : List Str} (r : Rel K mg ⟨ι, B, H⟩ ι B H [] O []) (h : Paired (DA K ι B) vs ds) :
    Rel K mg ⟨ι, B, H⟩ ι B H (ds.map (fun d => some (.shr d)) ++ List.replicate (N.length - ds.length) none) O (L2.start N vs) := by
  have hl := paired_len h
  have get : ∀ (i : Nat) (x : SD), (ds.map (fun d => some (SD.shr d)) ++ List.replicate (N.length - ds.length) none)[i]? = some (some x) → ∃ d, ds[i]? = some d ∧ x = .shr d := fun i x q => by
    by_cases hi : i < ds.length
    · rw [List.getElem?_append_left (by simpa using hi), List.getElem?_map, List.getElem?_eq_getElem hi] at q
      simp only [Option.map_some, Option.some.injEq] at q
      exact ⟨_, List.getElem?_eq_getElem hi, q.symm⟩
    · rw [List.getElem?_append_right (by simpa using hi), List.getElem?_replicate] at q
      split at q <;> cases q
  refine ⟨r.sub, r.eB, r.ei, r.fB, r.fH, r.fi, ?_, fun i x q => ?_, fun i j a c c' q => ?_, r.lo, r.ob, r.nd⟩
  · unfold L2.start
    rw [List.length_append, List.length_append, List.length_map, List.length_map, List.length_replicate, List.length_replicate, hl]
  · obtain ⟨d, h1, rfl⟩ := get i x q
    obtain ⟨v, h2, h3⟩ := paired_get h h1
    refine ⟨v, ?_, h3⟩
    have hi : i < vs.length := (List.getElem?_eq_some_iff.mp h2).1
    unfold L2.start
    rw [List.getElem?_append_left (by simpa using hi), List.getElem?_map, h2]
    rfl
  · obtain ⟨d, _, h2⟩ := get i _ q
    cases h2
/-- THE RULE for a def: its body does what m says -/
theorem fn_ok {P : Program} {w : World} {K : PySem.W.Frag} {mg : Mg} {base : Heap} {x qual : Str} {st : Stmt} {f : Addr} {fd : FuncData} {N ps : List Str} {k : Nat} {m : MS} (F : Fun K x qual st f fd) (S : FnScope N ps (defScope st))
    (body : ∀ (cdv : Value) (A : Around) (outer : List Env) (s : Shared) (H : Hp) (E : XK), Room k (A.deeper (PyProof.Rows.envOfC qual (defScope st) s.heap.objs.size f cdv)) →
      EB (cxOf (L2.CX P w) P w K mg base N qual (defScope st) f cdv A outer s H E) (fun cls d _ H => E cls d H) (defBody st) m) :
    FnOk P w K mg base (L2.CX P w) (k + 1) f fd ps (spF K mg ps.length (runF N.length m)) := by
  refine F.okX S (fun vs H Q E h => ?_) (fun cdv A outer s H vs Q E hr h => ?_)
  · obtain ⟨ds, ι, B, O, _, h1, h2, _⟩ := h
    rw [paired_len h1, h2]
  · obtain ⟨ds, ι, B, O, r, h1, h2, q⟩ := h
    obtain ⟨t, pt, et⟩ := body cdv A outer s H E hr
    refine ⟨t, pt, et ⟨ι, B, H⟩ ι B H _ O (L2.start N vs) _ (start_rel r h1) ?_⟩
    unfold runF at q
    cases z : m (ds.map (fun d => some (.shr d)) ++ List.replicate (N.length - ds.length) none) O with
    | nx ρ' O' =>
      rw [z] at q
      exact fun ι' B' H' σ' r' i' b' => q ι' B' H' .non r'.bare .non
    | bk ρ' O' => rw [z] at q; exact q.elim
    | ct ρ' O' => rw [z] at q; exact q.elim
    | ret x O' =>
      rw [z] at q
      exact fun ι' B' H' v r' i' b' hv => q ι' B' H' v r' hv
    | err c p ρ' O' =>
      rw [z] at q
      exact fun ι' B' H' σ' C dx r' i' b' h => q ι' B' H' C dx r'.bare h
    | bad => rw [z] at q; exact q.elim
/-- a call: the result, frozen -/
def callF (f : MF) (dd : List D) (m : ME (List D)) : ME D := bindE m fun ds => fun _ O => match f (ds ++ dd) O with
  | .ok (.shr d) O' => .ok d O'
  | .ok (.own (.lst xs)) O' => .ok (.lst xs) O'
  | .err c p O' => .err c p O'
  | _ => .bad
/-- .. owned -/
def callN (f : MF) (dd : List D) (m : ME (List D)) : ME Cell := bindE m fun ds => fun _ O => match f (ds ++ dd) O with
  | .ok (.own c) O' => .ok c O'
  | .err c p O' => .err c p O'
  | _ => .bad
theorem own_after {K : PySem.W.Frag} {mg : Mg} {e : Ent} {ι ι' : List Addr} {B B' H H' : Hp} {ρ : Rho} {O O' : Sto} {σ : St} {a : Addr} (r : Rel K mg e ι B H ρ O σ) (h : H a = none) : e.H a = none ∧ ∀ (j : Nat) (c' : Cell), ρ[j]? = some (some (.own c')) → σ[j]? ≠ some (some (.ref a)) :=
  ⟨r.free h, r.notOwn h⟩
theorem ev_callF {n : Nat} {f : MF} {dvs : List V} {dd : List D} {t : TA} {m : ME (List D)} (hdd : ∀ ι B, Paired (DA X.K ι B) dvs dd) (hn : ∀ ρ O ds O', m ρ O = .ok ds O' → ds.length + dd.length = n) (h : Ev X Wx (rDs X) t m) :
    Ev X Wx (rD X) (tCallSD (spF X.K X.mg n f) dvs (WE Wx) t) (callF f dd m) := by
  intro e ι B H ρ O σ Q r q
  refine h e ι B H ρ O σ _ r ?_
  simp only [callF, bindE] at q
  cases z : m ρ O with
  | err c p O' => rw [z] at q; exact q
  | bad => rw [z] at q; exact q
  | ok ds O' =>
    rw [z] at q
    dsimp only at q
    intro ι' B' H' vs r' i' b' hv
    refine ⟨ds ++ dd, ι', B', O', r'.enter, paired_app hv (hdd _ _), by rw [List.length_append]; exact hn _ _ _ _ z, ?_⟩
    cases z2 : f (ds ++ dd) O' with
    | bad => rw [z2] at q; exact q
    | err c p O2 =>
      rw [z2] at q
      exact fun ι2 B2 H2 C dx r2 h2 => q ι2 B2 H2 C dx (r'.after r2) (i'.trans r2.ei) (b'.trans r2.eB) h2
    | ok x O2 =>
      rw [z2] at q
      intro ι2 B2 H2 v r2 hv2
      cases x with
      | shr d => exact q ι2 B2 H2 v (r'.after r2) (i'.trans r2.ei) (b'.trans r2.eB) hv2
      | raw w => exact q.elim
      | own c =>
        cases c with
        | dct _ => exact q.elim
        | ins _ _ => exact q.elim
        | lst xs =>
          obtain ⟨a, rfl, ⟨ws, k1, k2⟩, k3, k4, k5⟩ := hv2
          have k4 : H' a = none := k4
          obtain ⟨k6, k7⟩ := own_after (ι' := ι') (B' := B') (H' := H') (O' := O') r' k4
          obtain ⟨r3, b3⟩ := (r'.after r2).freezeAt k1 k3 k6 k5 k7
          exact q ι2 _ H2 (.ref a) r3 (i'.trans r2.ei) ((b'.trans r2.eB).trans b3) (.lst upd_same (DA.monos b3 (Pre.refl _) _ _ k2))
theorem ev_callN {n : Nat} {f : MF} {dvs : List V} {dd : List D} {t : TA} {m : ME (List D)} (hdd : ∀ ι B, Paired (DA X.K ι B) dvs dd) (hn : ∀ ρ O ds O', m ρ O = .ok ds O' → ds.length + dd.length = n) (h : Ev X Wx (rDs X) t m) :
    EvN X Wx (tCallSD (spF X.K X.mg n f) dvs (WE Wx) t) (callN f dd m) := by
  intro e ι B H ρ O σ Q r q
  refine h e ι B H ρ O σ _ r ?_
  simp only [callN, bindE] at q
  cases z : m ρ O with
  | err c p O' => rw [z] at q; exact q
  | bad => rw [z] at q; exact q
  | ok ds O' =>
    rw [z] at q
    dsimp only at q
    intro ι' B' H' vs r' i' b' hv
    refine ⟨ds ++ dd, ι', B', O', r'.enter, paired_app hv (hdd _ _), by rw [List.length_append]; exact hn _ _ _ _ z, ?_⟩
    cases z2 : f (ds ++ dd) O' with
    | bad => rw [z2] at q; exact q
    | err c p O2 =>
      rw [z2] at q
      exact fun ι2 B2 H2 C dx r2 h2 => q ι2 B2 H2 C dx (r'.after r2) (i'.trans r2.ei) (b'.trans r2.eB) h2
    | ok x O2 =>
      rw [z2] at q
      intro ι2 B2 H2 v r2 hv2
      cases x with
      | shr d => exact q.elim
      | raw w => exact q.elim
      | own c =>
        obtain ⟨a, rfl, k1, k3, k4, k5⟩ := hv2
        have k4 : H' a = none := k4
        obtain ⟨k6, k7⟩ := own_after (ι' := ι') (B' := B') (H' := H') (O' := O') r' k4
        exact q ι2 B2 H2 a (r'.after r2) (i'.trans r2.ei) (b'.trans r2.eB) k1 k3 k6 k5 k7
/-- how many arguments -/
theorem nilA_len {ρ : Rho} {O O' : Sto} {ds : List D} (h : nilA ρ O = .ok ds O') : ds.length = 0 := by cases h; rfl
def LenA (m : ME (List D)) (n : Nat) : Prop := ∀ ρ O ds O', m ρ O = .ok ds O' → ds.length = n
theorem lenA_nil : LenA nilA 0 := fun _ _ _ _ h => by cases h; rfl
theorem lenA_cons {m : ME D} {n : ME (List D)} {k : Nat} (h : LenA n k) : LenA (consA m n) (k + 1) := fun ρ O ds O' q => by
  simp only [consA, bindE] at q
  split at q
  · rename_i d O1 _
    split at q
    · rename_i ds' O2 e2
      cases q
      rw [List.length_cons, h _ _ _ _ e2]
    · cases q
    · cases q
  · cases q
  · cases q
section
variable {n k : Nat} {f : MF} {g : Addr} {fd : FuncData} {ps : List Str} {dvs : List V} {dus : List Value} {dd : List D} {x : Str} {p : Pos} {e : Expr} {es : List Expr} {m : ME (List D)} {j : Nat}
theorem ex_call (tk : Takes X Wx) (F : FnOk X.prog X.w X.K X.mg X.base (L2.CX X.prog X.w) k g fd ps (spF X.K X.mg n f)) (hr : Room k X.A) (hm : X.mg x = some (.ref g)) (hk : PySem.W.keepIn X.K (.ref g) = true) (hb : Binds X.K fd ps dus) (hd : Vals dvs dus)
    (hdd : ∀ ι B, Paired (DA X.K ι B) dvs dd) (ha : EA X Wx (e :: es) m) (hl : LenA m j) (hn : j + dd.length = n) (hg : Gl X x := by rfl) (hdb : (x == ("__debug__" : Str)) = false := by decide)
    (he : starEach (e :: es) X.env = (false, eval e X.env) :: starEach es X.env := by rfl) (hpl : (backTo pos (starEach es X.env)).any (·.1) = false := by rfl) : EX X Wx (.Call (.Name x p) (e :: es) [] pos) (callF f dd m) := by
  obtain ⟨t, pt, et⟩ := ha
  exact ⟨_, pe_callSD F hr hg hm hk hb hd (fun σ => passAt tk σ) pt hdb he hpl, ev_callF hdd (fun ρ O ds O' q => by rw [hl ρ O ds O' q]; exact hn) et⟩
theorem en_call (tk : Takes X Wx) (F : FnOk X.prog X.w X.K X.mg X.base (L2.CX X.prog X.w) k g fd ps (spF X.K X.mg n f)) (hr : Room k X.A) (hm : X.mg x = some (.ref g)) (hk : PySem.W.keepIn X.K (.ref g) = true) (hb : Binds X.K fd ps dus) (hd : Vals dvs dus)
    (hdd : ∀ ι B, Paired (DA X.K ι B) dvs dd) (ha : EA X Wx (e :: es) m) (hl : LenA m j) (hn : j + dd.length = n) (hg : Gl X x := by rfl) (hdb : (x == ("__debug__" : Str)) = false := by decide)
    (he : starEach (e :: es) X.env = (false, eval e X.env) :: starEach es X.env := by rfl) (hpl : (backTo pos (starEach es X.env)).any (·.1) = false := by rfl) : EN X Wx (.Call (.Name x p) (e :: es) [] pos) (callN f dd m) := by
  obtain ⟨t, pt, et⟩ := ha
  exact ⟨_, pe_callSD F hr hg hm hk hb hd (fun σ => passAt tk σ) pt hdb he hpl, ev_callN hdd (fun ρ O ds O' q => by rw [hl ρ O ds O' q]; exact hn) et⟩
end
end
end DL

set_option Elab.async false
set_option linter.all false
set_option maxRecDepth 100000
namespace DL
open PySem L2
section
variable {X : Cx} {Wx : WX} {a b c : Expr} {pos : Pos} {ma mb mc : ME D} {i : Nat} {x : Str}

/-! ### statements -/
def setS (i : Nat) (m : ME D) : MS := bindS m fun d ρ O => .nx (ρ.set i (some (.shr d))) O
theorem EvS.set {t : TE} (h : Ev X Wx (rD X) t ma) : EvS X Wx (tAsg t (gName i)) (setS i ma) :=
  EvS.bind (u := fun x D' σ H => gName i x σ H D'.nx) h fun x a e ι B H ρ O σ D' r hx q => q ι B H (σ.set i (some x)) (r.set' hx) (Pre.refl _) (Same.refl _)
theorem es_set {pos' : Pos} (i : Nat) (he : EX X Wx a ma) (hN : X.N.Nodup) (hi : X.N[i]? = some x := by rfl) (hx : Loc X.env.scope x := by first | exact Or.inl rfl | exact Or.inr rfl) (hs : swapsWith a (some (.Name x pos')) pos.line X.env = pure false := by rfl)
    (hf : X.fn x = true ∨ X.env.scope.names.lookup x = some .local := by first | exact .inl rfl | exact .inr rfl) : ES X Wx (.Assign [.Name x pos'] a pos) (setS i ma) := by
  obtain ⟨t, pt, et⟩ := he
  exact ⟨_, ps_set hN hi hx pt hs hf, EvS.set et⟩
/-- a new cell comes into a slot -/
def newS (i : Nat) (m : ME Cell) : MS := bindS m fun c ρ O => .nx (ρ.set i (some (.own c))) O
theorem EvS.new {t : TE} {m : ME Cell} (h : EvN X Wx t m) : EvS X Wx (tAsg t (gName i)) (newS i m) := by
  intro e ι B H ρ O σ D' r q
  refine h e ι B H ρ O σ _ r ?_
  unfold newS bindS at q
  cases z : m ρ O with
  | bad => rw [z] at q; exact q
  | err c p O' =>
    rw [z] at q
    exact fun ι' B' H' C dx r' i' b' x => q ι' B' H' σ C dx r' i' b' x
  | ok c O' =>
    rw [z] at q
    exact fun ι' B' H' a r' i' b' h1 h2 h3 h4 h5 => q ι' B' H' _ (r'.setOwn' h1 h2 h3 h4 h5) i' b'
theorem es_new {pos' : Pos} {m : ME Cell} (i : Nat) (he : EN X Wx a m) (hN : X.N.Nodup) (hi : X.N[i]? = some x := by rfl) (hx : Loc X.env.scope x := by first | exact Or.inl rfl | exact Or.inr rfl) (hs : swapsWith a (some (.Name x pos')) pos.line X.env = pure false := by rfl)
    (hf : X.fn x = true ∨ X.env.scope.names.lookup x = some .local := by first | exact .inl rfl | exact .inr rfl) : ES X Wx (.Assign [.Name x pos'] a pos) (newS i m) := by
  obtain ⟨t, pt, et⟩ := he
  exact ⟨_, ps_set hN hi hx pt hs hf, EvS.new et⟩
/-- an owned list is frozen (nothing is run) -/
def frzS (i : Nat) : MS := fun ρ O => match ρ[i]? with
  | some (some (.own (.lst xs))) => .nx (ρ.set i (some (.shr (.lst xs)))) O
  | _ => .bad
theorem EvS.frz {t : TS} {m : MS} (i : Nat) (h : EvS X Wx t m) : EvS X Wx t (seqS (frzS i) m) := by
  intro e ι B H ρ O σ D' r q
  cases z : ρ[i]? with
  | none => simp only [seqS, frzS, z] at q; exact q.elim
  | some o =>
    cases o with
    | none => simp only [seqS, frzS, z] at q; exact q.elim
    | some x =>
      cases x with
      | shr d => simp only [seqS, frzS, z] at q; exact q.elim
      | raw v => simp only [seqS, frzS, z] at q; exact q.elim
      | own c =>
        cases c with
        | dct es => simp only [seqS, frzS, z] at q; exact q.elim
        | ins c fs => simp only [seqS, frzS, z] at q; exact q.elim
        | lst xs =>
          simp only [seqS, frzS, z] at q
          obtain ⟨B', r', b'⟩ := r.freezeL z
          exact h e ι B' H _ O σ D' r' (EvSP.later (r := m _ _) (Pre.refl _) b' q)
theorem eb_frz {sts : List Stmt} {m : MS} (i : Nat) (h : EB X Wx sts m) : EB X Wx sts (seqS (frzS i) m) := by
  obtain ⟨t, pt, et⟩ := h
  exact ⟨t, pt, et.frz i⟩
theorem es_frz {st : Stmt} {m : MS} (i : Nat) (h : ES X Wx st m) : ES X Wx st (seqS (frzS i) m) := by
  obtain ⟨t, pt, et⟩ := h
  exact ⟨t, pt, et.frz i⟩
/-- an expression's value is dropped -/
def exprS (m : ME D) : MS := bindS m fun _ ρ O => .nx ρ O
theorem es_expr (he : EX X Wx a ma) (hs : swapsWith a none pos.line X.env = pure false := by rfl) : ES X Wx (.Expr a pos) (exprS ma) := by
  obtain ⟨t, pt, et⟩ := he
  exact ⟨_, ps_expr pt hs, EvS.bind (u := fun _ D' σ H => D'.nx σ H) et fun x a e ι B H ρ O σ D' r hx q => q ι B H σ r (Pre.refl _) (Same.refl _)⟩
def retS (m : ME D) : MS := bindS m fun d _ O => .ret (.shr d) O
theorem es_ret (he : EX X Wx a ma) : ES X Wx (.Return (some a) pos) (retS ma) := by
  obtain ⟨t, pt, et⟩ := he
  exact ⟨_, ps_ret pt, EvS.bind (u := fun x D' _ H => D'.rt x H) et fun x a e ι B H ρ O σ D' r hx q => q ι B H x r.bare (Pre.refl _) (Same.refl _) hx⟩
/-- .. a new cell -/
def retN (m : ME Cell) : MS := bindS m fun c _ O => .ret (.own c) O
theorem es_retN {m : ME Cell} (he : EN X Wx a m) : ES X Wx (.Return (some a) pos) (retN m) := by
  obtain ⟨t, pt, et⟩ := he
  refine ⟨_, ps_ret pt, fun e ι B H ρ O σ D' r q => et e ι B H ρ O σ _ r ?_⟩
  unfold retN bindS at q
  cases z : m ρ O with
  | bad => rw [z] at q; exact q
  | err c p O' =>
    rw [z] at q
    exact fun ι' B' H' C dx r' i' b' x => q ι' B' H' σ C dx r' i' b' x
  | ok c O' =>
    rw [z] at q
    exact fun ι' B' H' a r' i' b' h1 h2 h3 h4 h5 => q ι' B' H' (.ref a) r'.bare i' b' ⟨a, rfl, h1, h2, h3, h4⟩
/-- .. what a slot owns -/
def retO (i : Nat) : MS := fun ρ O => match ρ[i]? with
  | some (some (.own c)) => .ret (.own c) O
  | _ => .bad
theorem es_retO (i : Nat) {p : Pos} (hN : X.N[i]? = some x := by rfl) (hv : Vis X.env.scope x := by first | exact Or.inl rfl | exact Or.inr (Or.inl rfl) | exact Or.inr (Or.inr rfl)) (hd : (x == ("__debug__" : Str)) = false := by decide)
    (hcd : (x == ("__classdict__" : Str)) = false := by decide) : ES X Wx (.Return (some (.Name x p)) pos) (retO i) := by
  refine ⟨_, ps_ret (pe_var (i := i) hN hv hd hcd), fun e ι B H ρ O σ D' r q => ?_⟩
  unfold retO at q
  split at q
  · rename_i c z
    obtain ⟨v, h1, h2⟩ := r.sl i _ z
    exact ⟨v, h1, q ι B H v r.bare (Pre.refl _) (Same.refl _) h2⟩
  · exact q.elim
def retNon : MS := fun _ O => .ret (.shr .non) O
theorem es_retNon : ES X Wx (.Return none pos) retNon := ⟨_, ps_retN, fun e ι B H ρ O σ D' r q => q ι B H .non r.bare (Pre.refl _) (Same.refl _) .non⟩
theorem es_pass : ES X Wx (.Pass pos) skipS := ⟨_, ps_pass, fun e ι B H ρ O σ D' r q => q ι B H σ r (Pre.refl _) (Same.refl _)⟩
def brkS : MS := fun ρ O => .bk ρ O
theorem es_brk : ES X Wx (.Break pos) brkS := ⟨_, ps_break, fun e ι B H ρ O σ D' r q => q ι B H σ r (Pre.refl _) (Same.refl _)⟩
theorem es_doc {y : Str} {j pos'} : ES X Wx (.Expr (.Constant (.str y) j pos) pos') skipS := ⟨_, ps_doc, fun e ι B H ρ O σ D' r q => q ι B H σ r (Pre.refl _) (Same.refl _)⟩
def badS : MS := fun _ _ => .bad
/-- what is never reached -/
theorem es_never {st : Stmt} : ES X Wx st badS := ⟨_, ps_never, fun e ι B H ρ O σ D' r q => q⟩
def ifS (t : ME Bool) (m n : MS) : MS := bindS t fun b => if b = true then m else n
theorem es_if {t : ME Bool} {st su : List Stmt} {m n : MS} (hc : ET X Wx c t) (ha : EB X Wx st m) (hb : EB X Wx su n) : ES X Wx (.If c st su pos) (ifS t m n) := by
  obtain ⟨tc, pc, ec⟩ := hc
  obtain ⟨ta, pa, ea⟩ := ha
  obtain ⟨tb, pb, eb⟩ := hb
  refine ⟨_, ps_if pc pa pb, EvS.bind (u := fun d D' σ H => if d = true then ta D' σ H else tb D' σ H) ec fun x a e ι B H ρ O σ D' r hx q => ?_⟩
  cases hx
  cases x with
  | true => rw [if_pos rfl] at q ⊢; exact ea e ι B H ρ O σ D' r q
  | false => rw [if_neg Bool.false_ne_true] at q ⊢; exact eb e ι B H ρ O σ D' r q

/-! ### x op= e -/
def augS (i : Nat) (f : D → D → Option D) (m : ME D) : MS := fun ρ O => match ρ[i]? with
  | some (some (.shr d)) => bindS m (fun y ρ O => match f d y with
    | some z => .nx (ρ.set i (some (.shr z))) O
    | none => .bad) ρ O
  | _ => .bad
theorem es_aug {op : Operator} {r : R2} {f : D → D → Option D} {pos' : Pos} (i : Nat) (hr : OpR X (inplaceOp op) r) (ho : Op2 X r f) (he : EZ X Wx a ma) (hN : X.N.Nodup) (hi : X.N[i]? = some x := by rfl) (hx : Loc X.env.scope x := by first | exact Or.inl rfl | exact Or.inr rfl)
    (hf : X.fn x = true ∨ X.env.scope.names.lookup x = some .local := by first | exact .inl rfl | exact .inr rfl) : ES X Wx (.AugAssign (.Name x pos') op a pos) (augS i f ma) := by
  obtain ⟨t, pt, et⟩ := he
  refine ⟨_, ps_aug (ti := r) hN hi hx pt (fun pins s σ H x y v u Q I rx ry h => hr pins s σ H x y v u Q I rx ry h) hf, fun e ι B H ρ O σ D' rl q => ?_⟩
  unfold augS at q
  split at q
  · rename_i d z
    obtain ⟨v, h1, h2⟩ := rl.sl i _ z
    refine ⟨v, h1, et e ι B H ρ O σ _ rl ?_⟩
    unfold bindS at q
    cases z2 : ma ρ O with
    | bad => rw [z2] at q; exact q
    | err c p O' => rw [z2] at q; exact fun ι' B' H' C dx r' i' b' h => q ι' B' H' σ C dx r' i' b' h
    | ok y O' =>
      rw [z2] at q
      dsimp only at q
      intro ι' B' H' yv r' i' b' hy
      cases z3 : f d y with
      | none => rw [z3] at q; exact q.elim
      | some w =>
        rw [z3] at q
        exact ho v yv d y w e ι' B' H' ρ O' σ _ r' ((DA.mono b' i' _ _ h2).dh r'.sub) (hy.dh r') z3 fun B2 H2 zv r2 b2 hz => q ι' B2 H2 _ (r2.set' hz) i' (b'.trans b2)
  · exact q.elim
section
variable {pos' : Pos}
abbrev rIAddAll : R2 := fun x y H Q => (rI0 (fun i j => .int (i + j))) x y H Q ∨ (∃ i j, x = .str i ∧ y = .str j ∧ i.length + j.length ≤ sizeLine ∧ Q (.str (i ++ j)) H)
/-- the text grows, the number grows -/
def addA : D → D → Option D
  | .int i, .int j => some (.int (i + j))
  | .str x, .str y => if x.length + y.length ≤ sizeLine then some (.str (x ++ y)) else none
  | _, _ => none
theorem op2_addA : Op2 X rIAddAll addA := by
  intro x y a b z e ι B H ρ O σ Q r hx hy hz q
  unfold addA at hz
  split at hz
  · rename_i i j
    cases hx; cases hy; cases hz
    exact .inl ⟨i, j, rfl, rfl, atomI r q (.int _)⟩
  · rename_i s t
    cases hx; cases hy
    split at hz
    · rename_i hl
      cases hz
      exact .inr ⟨s, t, rfl, rfl, hl, atomI r q (.str _)⟩
    · cases hz
  · cases hz
theorem es_augAdd (i : Nat) (he : EZ X Wx a ma) (hN : X.N.Nodup) (hi : X.N[i]? = some x := by rfl) (hx : Loc X.env.scope x := by first | exact Or.inl rfl | exact Or.inr rfl)
    (hf : X.fn x = true ∨ X.env.scope.names.lookup x = some .local := by first | exact .inl rfl | exact .inr rfl) : ES X Wx (.AugAssign (.Name x pos') .Add a pos) (augS i addA ma) := es_aug i (OpR.or iop_add iop_add_str) op2_addA he hN hi hx hf
theorem es_augXor (i : Nat) (he : EZ X Wx a ma) (hN : X.N.Nodup) (hi : X.N[i]? = some x := by rfl) (hx : Loc X.env.scope x := by first | exact Or.inl rfl | exact Or.inr rfl)
    (hf : X.fn x = true ∨ X.env.scope.names.lookup x = some .local := by first | exact .inl rfl | exact .inr rfl) : ES X Wx (.AugAssign (.Name x pos') .BitXor a pos) (augS i xorD ma) := es_aug i iop_xor op2_int0 he hN hi hx hf
theorem es_augShr (i : Nat) (he : EZ X Wx a ma) (hN : X.N.Nodup) (hi : X.N[i]? = some x := by rfl) (hx : Loc X.env.scope x := by first | exact Or.inl rfl | exact Or.inr rfl)
    (hf : X.fn x = true ∨ X.env.scope.names.lookup x = some .local := by first | exact .inl rfl | exact .inr rfl) : ES X Wx (.AugAssign (.Name x pos') .RShift a pos) (augS i shrD ma) := es_aug i iop_shr (op2_int fun _ _ h => of_decide_eq_true h) he hN hi hx hf
end

/-! ### an owned list is changed -/
def appS (i : Nat) (m : ME D) : MS := bindS m fun d ρ O => match ρ[i]? with
  | some (some (.own (.lst xs))) => if xs.length < sizeLine then .nx (ρ.set i (some (.own (.lst (xs ++ [d]))))) O else .bad
  | _ => .bad
def isLst : Option (Option SD) → Bool
  | some (some (.own (.lst _))) => true
  | _ => false
def appS' (i : Nat) (m : ME D) : MS := fun ρ O => if isLst ρ[i]? = true then appS i m ρ O else .bad
theorem es_app {p apos cpos : Pos} (i : Nat) (he : EX X Wx a ma) (hN : X.N[i]? = some x := by rfl) (hv : Vis X.env.scope x := by first | exact Or.inl rfl | exact Or.inr (Or.inl rfl) | exact Or.inr (Or.inr rfl)) (hd : (x == ("__debug__" : Str)) = false := by decide)
    (hcd : (x == ("__classdict__" : Str)) = false := by decide)
    (hbase : attributeBase (.Name x p) "append" X.env (eval (.Name x p) X.env) = eval (.Name x p) X.env := by rfl)
    (hfew : ((backTo cpos (starEach [a] X.env)).all (fun x => !x.1) && (backToKw cpos (keywordEach [] X.env)).all (fun x => x.1.isSome)
      && decide ([a].length + ([] : List Keyword).length + (if ([] : List Keyword).isEmpty then 0 else 1) < 30)) = true := by rfl)
    (hline : (apos.endLine == cpos.line) = true := by rfl) (hs : starEach [a] X.env = (false, eval a X.env) :: starEach [] X.env := by rfl) (hplain : (backTo cpos (starEach [] X.env)).any (·.1) = false := by rfl)
    (hsw : swapsWith (.Call (.Attribute (.Name x p) "append" apos) [a] [] cpos) none pos.line X.env = pure false := by rfl) :
    ES X Wx (.Expr (.Call (.Attribute (.Name x p) "append" apos) [a] [] cpos) pos) (appS' i ma) := by
  obtain ⟨t, pt, et⟩ := he
  refine ⟨_, ps_expr (pe_bm PySem.F.plainAttrs_list PySem.F.slot_list_append PySem.F.type_list_append mt_append (pe_var (i := i) hN hv hd hcd) (pa_cons pt pa_nil hs) hbase hfew hline hs hplain) hsw, fun e ι B H ρ O σ D' r q => ?_⟩
  unfold appS' at q
  split at q
  · rename_i z0
    unfold isLst at z0
    split at z0
    · rename_i xs0 z
      obtain ⟨v, h1, a1, rfl, ⟨vs0, h2, h3⟩, h4, h5, h6⟩ := r.sl i _ z
      refine ⟨_, h1, .inl ⟨rfl, _, .inl (.inl h2)⟩, ?_⟩
      refine et e ι B H ρ O σ _ r ?_
      unfold appS bindS at q
      cases z2 : ma ρ O with
      | bad => rw [z2] at q; exact q
      | err c p O' => rw [z2] at q; exact fun ι' B' H' C dx r' i' b' h => q ι' B' H' σ C dx r' i' b' h
      | ok y O' =>
        rw [z2] at q
        dsimp only at q
        rw [z] at q
        dsimp only at q
        intro ι' B' H' yv r' i' b' hy
        split at q
        · rename_i hl
          obtain ⟨v', k1, a2, k2, ⟨vs, k3, k4⟩, k5, k6, k7⟩ := r'.sl i _ z
          rw [h1] at k1
          cases k1
          cases k2
          refine ⟨_, vs, yv, rfl, rfl, k3, by rw [paired_len k4]; exact hl, ?_⟩
          exact q ι' B' _ σ (r'.putOwn z h1 ⟨_, upd_same, paired_app k4 (.cons hy .nil)⟩) i' b'
        · exact q.elim
    · cases z0
  · exact q.elim
end

/-! ### loops -/
/-- an iterator over the data ds -/
def WalkD (X : Cx) (J : It) (ι : List Addr) (B : Hp) (ds : List D) : Prop := ∀ e ι2 B2 H ρ O σ (i : Nat), Rel X.K X.mg e ι2 B2 H ρ O σ → Pre ι ι2 → Same B B2 →
  (∀ d, ds[i]? = some d → J.go i H ∧ ∀ x H', J.yld i H x H' → ∃ B3, Rel X.K X.mg e ι2 B3 H' ρ O σ ∧ Same B2 B3 ∧ Same H H' ∧ DA X.K ι2 B3 x d) ∧ (ds.length ≤ i → J.stop i H)
def EvI (X : Cx) (Wx : WX) (wi : TI) (m : ME (List D)) : Prop := ∀ e ι B H ρ O σ R, Rel X.K X.mg e ι B H ρ O σ →
  (match m ρ O with
    | .ok ds O' => ∀ ι' B' H' J, Rel X.K X.mg e ι' B' H' ρ O' σ → Pre ι ι' → Same B B' → WalkD X J ι' B' ds → R J H'
    | .err c p O' => ∀ ι' B' H' C dx, Rel X.K X.mg e ι' B' H' ρ O' σ → Pre ι ι' → Same B B' → Exc X.K X.mg ι' B' C dx c p → Wx (.ref C) (some dx) σ H'
    | .bad => False) → wi σ H R
def EI (X : Cx) (Wx : WX) (tg it : Expr) (m : ME (List D)) : Prop := ∃ wi, PI X tg it wi ∧ EvI X Wx wi m
/-- targets -/
def EvG (X : Cx) (g : TG) (f : D → MS) : Prop := ∀ x d e ι B H ρ O σ (Q : St → Hp → Prop), Rel X.K X.mg e ι B H ρ O σ → DA X.K ι B x d →
  (match f d ρ O with
    | .nx ρ' O' => ∀ ι' B' H' σ', Rel X.K X.mg e ι' B' H' ρ' O' σ' → Pre ι ι' → Same B B' → Q σ' H'
    | _ => False) → g x σ H Q
def EG (X : Cx) (tg : Expr) (f : D → MS) : Prop := ∃ g, PG X tg g ∧ EvG X g f
section
variable {X : Cx} {Wx : WX} {a b c tg it : Expr} {pos : Pos} {ma mb mc : ME D} {i : Nat} {x : Str}
def nameG (i : Nat) (d : D) : MS := fun ρ O => .nx (ρ.set i (some (.shr d))) O
theorem evg_name (i : Nat) : EvG X (gName i) (nameG i) := fun x d e ι B H ρ O σ Q r hx q => q ι B H _ (r.set' hx) (Pre.refl _) (Same.refl _)
theorem eg_name {pos' : Pos} (i : Nat) (hN : X.N.Nodup) (hi : X.N[i]? = some x := by rfl) (hx : Loc X.env.scope x := by first | exact Or.inl rfl | exact Or.inr rfl) (hf : X.fn x = true ∨ X.env.scope.names.lookup x = some .local := by first | exact .inl rfl | exact .inr rfl) :
    EG X (.Name x pos') (nameG i) := ⟨_, pg_name hN hi hx hf, evg_name i⟩
/-- the loop over data -/
def loopS (g : D → MS) (m : MS) : List D → MS
  | [], ρ, O => .nx ρ O
  | d :: ds, ρ, O => match g d ρ O with
    | .nx ρ1 O1 => match m ρ1 O1 with
      | .nx ρ2 O2 => loopS g m ds ρ2 O2
      | .ct ρ2 O2 => loopS g m ds ρ2 O2
      | .bk ρ2 O2 => .nx ρ2 O2
      | r => r
    | _ => .bad
def forS (it : ME (List D)) (g : D → MS) (m : MS) : MS := bindS it fun ds => loopS g m ds
theorem EvS.for {wi : TI} {g : TG} {tb : TS} {mi : ME (List D)} {f : D → MS} {m : MS} (hi : EvI X Wx wi mi) (hg : EvG X g f) (hb : EvS X Wx tb m) : EvS X Wx (tFor wi g tb) (forS mi f m) := by
  intro e ι B H ρ O σ D' r q
  refine hi e ι B H ρ O σ _ r ?_
  unfold forS bindS at q
  cases z : mi ρ O with
  | bad => rw [z] at q; exact q
  | err c p O' => rw [z] at q; exact fun ι' B' H' C dx r' i' b' h => q ι' B' H' σ C dx r' i' b' h
  | ok ds O' =>
    rw [z] at q
    dsimp only at q
    intro ι' B' H' J r' i' b' wk
    refine ⟨fun i mm σ H => mm = ds.length - i ∧ i ≤ ds.length ∧ ∃ ρ O ι2 B2, Rel X.K X.mg e ι2 B2 H ρ O σ ∧ Pre ι' ι2 ∧ Same B' B2 ∧ EvSP X Wx e ι2 B2 D' (loopS f m (ds.drop i) ρ O), ⟨ds.length, by simp, Nat.zero_le _, ρ, O', ι', B', r', Pre.refl _, Same.refl _, EvSP.later (r := loopS f m ds ρ O') i' b' q⟩, ?_⟩
    rintro i mm σ H ⟨rfl, hil, ρ, O, ι2, B2, r2, i2, b2, q2⟩
    obtain ⟨w1, w2⟩ := wk e ι2 B2 H ρ O σ i r2 i2 b2
    by_cases hlt : i < ds.length
    · have hd : ds[i]? = some ds[i] := List.getElem?_eq_getElem hlt
      have hdr : ds.drop i = ds[i] :: ds.drop (i + 1) := List.drop_eq_getElem_cons hlt
      obtain ⟨go, step⟩ := w1 _ hd
      refine .inr ⟨go, fun σ' H' => ∃ ρ O ι3 B3, Rel X.K X.mg e ι3 B3 H' ρ O σ' ∧ Pre ι' ι3 ∧ Same B' B3 ∧ EvSP X Wx e ι3 B3 D' (loopS f m (ds.drop (i + 1)) ρ O), fun σ' H' h => ⟨ds.length - (i + 1), by omega, rfl, hlt, h⟩, fun x H3 y => ?_⟩
      obtain ⟨B3, r3, b3, s3, hx⟩ := step x H3 y
      rw [hdr] at q2
      unfold loopS at q2
      refine hg x _ e ι2 B3 H3 ρ O σ _ r3 hx ?_
      cases z2 : f ds[i] ρ O with
      | nx ρ1 O1 =>
        rw [z2] at q2
        dsimp only at q2
        intro ι4 B4 H4 σ4 r4 i4 b4
        refine hb e ι4 B4 H4 ρ1 O1 σ4 _ r4 ?_
        cases z3 : m ρ1 O1 with
        | nx ρ2 O2 =>
          rw [z3] at q2
          exact fun ι5 B5 H5 σ5 r5 i5 b5 => ⟨ρ2, O2, ι5, B5, r5, (i2.trans i4).trans i5, ((b2.trans b3).trans b4).trans b5, EvSP.later (r := loopS f m _ ρ2 O2) (i4.trans i5) ((b3.trans b4).trans b5) q2⟩
        | ct ρ2 O2 =>
          rw [z3] at q2
          exact fun ι5 B5 H5 σ5 r5 i5 b5 => ⟨ρ2, O2, ι5, B5, r5, (i2.trans i4).trans i5, ((b2.trans b3).trans b4).trans b5, EvSP.later (r := loopS f m _ ρ2 O2) (i4.trans i5) ((b3.trans b4).trans b5) q2⟩
        | bk ρ2 O2 =>
          rw [z3] at q2
          exact fun ι5 B5 H5 σ5 r5 i5 b5 => q2 ι5 B5 H5 σ5 r5 (i4.trans i5) ((b3.trans b4).trans b5)
        | ret x2 O2 =>
          rw [z3] at q2
          exact fun ι5 B5 H5 v r5 i5 b5 => q2 ι5 B5 H5 v r5 (i4.trans i5) ((b3.trans b4).trans b5)
        | err c p ρ2 O2 =>
          rw [z3] at q2
          exact fun ι5 B5 H5 σ5 C dx r5 i5 b5 => q2 ι5 B5 H5 σ5 C dx r5 (i4.trans i5) ((b3.trans b4).trans b5)
        | bad => rw [z3] at q2; exact q2
      | bk ρ' O' => rw [z2] at q2; exact q2
      | ct ρ' O' => rw [z2] at q2; exact q2
      | ret x O' => rw [z2] at q2; exact q2
      | err c p ρ' O' => rw [z2] at q2; exact q2
      | bad => rw [z2] at q2; exact q2
    · have hi : ds.length ≤ i := by omega
      rw [List.drop_eq_nil_of_le hi] at q2
      exact .inl ⟨w2 hi, q2 ι2 B2 H σ r2 (Pre.refl _) (Same.refl _)⟩
theorem es_for {sts : List Stmt} {mi : ME (List D)} {f : D → MS} {m : MS} (hp : PassesOwn (model X.prog X.w) X.A X.env X.xe) (hc : X.calm = true) (hi : EI X Wx tg it mi) (hg : EG X tg f) (hb : EB X Wx sts m)
    (hs : ∀ x, foldedSetIterable it X.env x = pure x := by intro _; rfl) : ES X Wx (.For tg it sts [] pos) (forS mi f m) := by
  obtain ⟨wi, pi, ei⟩ := hi
  obtain ⟨g, pg, eg⟩ := hg
  obtain ⟨t, pt, et⟩ := hb
  exact ⟨_, ps_for hp hc pi pg pt hs, EvS.for ei eg et⟩
/-! what is walked -/
def itemsD : D → Option (List D)
  | .lst xs => some xs
  | .sea xs => some xs
  | _ => none
theorem walk_list {K : PySem.W.Frag} {p : Addr} {vs : List V} {ds : List D} {ι : List Addr} {B : Hp} (hK : X.K = K) (h : SqL K B p vs) (hv : Paired (DA K ι B) vs ds) : WalkD X (Itl K p) ι B ds := by
  subst hK
  intro e ι2 B2 H ρ O σ i r i2 b2
  have hs : SqL X.K H p vs := (b2.trans r.sub).seq h
  refine ⟨fun d hd => ?_, fun hi => ⟨vs, hs, by rw [paired_len hv]; exact hi⟩⟩
  obtain ⟨v, h1, h2⟩ := paired_get hv hd
  refine ⟨⟨vs, v, hs, h1⟩, fun x H' y => ?_⟩
  obtain ⟨rfl, y⟩ := y
  have y := y vs hs
  rw [h1] at y
  cases y
  exact ⟨B2, r, Same.refl _, Same.refl _, DA.mono b2 i2 _ _ h2⟩
/-- for x in xs, a list -/
theorem ei_list (h : EX X Wx a ma) : EI X Wx tg a (bindE ma fun d => optE (itemsD d)) := by
  obtain ⟨t, pt, et⟩ := h
  refine ⟨_, pi_list pt, fun e ι B H ρ O σ R r q => et e ι B H ρ O σ _ r ?_⟩
  simp only [bindE] at q
  cases z : ma ρ O with
  | bad => rw [z] at q; exact q
  | err c p O' => rw [z] at q; exact q
  | ok d O' =>
    rw [z] at q
    dsimp only at q
    intro ι' B' H' v r' i' b' hv
    cases d with
    | lst ds =>
      cases hv with
      | lst h1 h2 => exact ⟨_, rfl, ⟨_, SqL.of (r'.sub _ _ h1)⟩, q ι' B' H' _ r' i' b' (walk_list rfl (SqL.of h1) h2)⟩
    | sea ds =>
      cases hv with
      | sea h1 h2 => exact ⟨_, rfl, ⟨_, r'.sub.seq h1⟩, q ι' B' H' _ r' i' b' (walk_list rfl h1 h2)⟩
    | _ => exact q.elim
def tupD : D → Option (List D)
  | .tup xs => some xs
  | _ => none
theorem walk_tup {K : PySem.W.Frag} {p : Addr} {vs : List V} {ds : List D} {ι : List Addr} {B : Hp} (hK : X.K = K) (h : SqT K B p vs) (hv : Paired (DA K ι B) vs ds) : WalkD X (Itt K p) ι B ds := by
  subst hK
  intro e ι2 B2 H ρ O σ i r i2 b2
  have hs : SqT X.K H p vs := sqT_same (b2.trans r.sub) h
  refine ⟨fun d hd => ?_, fun hi => ⟨vs, hs, by rw [paired_len hv]; exact hi⟩⟩
  obtain ⟨v, h1, h2⟩ := paired_get hv hd
  refine ⟨⟨vs, v, hs, h1⟩, fun x H' y => ?_⟩
  obtain ⟨rfl, y⟩ := y
  have y := y vs hs
  rw [h1] at y
  cases y
  exact ⟨B2, r, Same.refl _, Same.refl _, DA.mono b2 i2 _ _ h2⟩
theorem ei_tup (h : EX X Wx a ma) : EI X Wx tg a (bindE ma fun d => optE (tupD d)) := by
  obtain ⟨t, pt, et⟩ := h
  refine ⟨_, pi_tup pt, fun e ι B H ρ O σ R r q => et e ι B H ρ O σ _ r ?_⟩
  simp only [bindE] at q
  cases z : ma ρ O with
  | bad => rw [z] at q; exact q
  | err c p O' => rw [z] at q; exact q
  | ok d O' =>
    rw [z] at q
    dsimp only at q
    intro ι' B' H' v r' i' b' hv
    cases d with
    | tup ds =>
      cases hv with
      | tup h1 h2 => exact ⟨_, rfl, ⟨_, sqT_same r'.sub h1⟩, q ι' B' H' _ r' i' b' (walk_tup rfl h1 h2)⟩
    | _ => exact q.elim
/-- for c in text -/
def signsD : D → Option (List D)
  | .str y => some (y.cps.toList.map fun c => .str ⟨#[c]⟩)
  | _ => none
theorem walk_str (y : Str) {ι : List Addr} {B : Hp} : WalkD X (Its y) ι B (y.cps.toList.map fun c => .str ⟨#[c]⟩) := by
  intro e ι2 B2 H ρ O σ i r i2 b2
  refine ⟨fun d hd => ?_, fun hi => by rw [List.length_map, Array.length_toList] at hi; exact hi⟩
  rw [List.getElem?_map, Array.getElem?_toList] at hd
  simp only [Option.map_eq_some_iff] at hd
  obtain ⟨c, h1, rfl⟩ := hd
  refine ⟨(Array.getElem?_eq_some_iff.mp h1).1, fun x H' h => ?_⟩
  obtain ⟨rfl, c', h2, rfl⟩ := h
  rw [h1] at h2
  cases h2
  exact ⟨B2, r, Same.refl _, Same.refl _, .str _⟩
theorem ei_str (h : EZ X Wx a ma) : EI X Wx tg a (bindE ma fun d => optE (signsD d)) := by
  obtain ⟨t, pt, et⟩ := h
  refine ⟨_, pi_str pt, fun e ι B H ρ O σ R r q => et e ι B H ρ O σ _ r ?_⟩
  simp only [bindE] at q
  cases z : ma ρ O with
  | bad => rw [z] at q; exact q
  | err c p O' => rw [z] at q; exact q
  | ok d O' =>
    rw [z] at q
    dsimp only at q
    intro ι' B' H' v r' i' b' hv
    have hv := hv.dh r'
    cases d with
    | str y => cases hv; exact ⟨y, rfl, q ι' B' H' _ r' i' b' (walk_str y)⟩
    | _ => exact q.elim
/-! ### ranges -/
/-- by natAbs: the kernel does not count it -/
def cRng (j : Int) : Bool := decide (j.natAbs < 2 ^ 62)
theorem cRng_ok {j : Int} (h : cRng j = true) : -(2 ^ 62) ≤ j ∧ j < 2 ^ 62 := by
  have := of_decide_eq_true h
  omega
theorem cRng_mk {j : Int} (h0 : -1000000000000000000 ≤ j) (h1 : j ≤ 1000000000000000000) : cRng j = true := decide_eq_true (by omega)
def rangeD : List D → Option (List D)
  | [.int j] => if cRng j = true then some ((List.range j.toNat).map fun k => .int ((0 : Int) + (k : Nat))) else none
  | [.int i, .int j] => if cRng i = true then if cRng j = true then some ((List.range (j - i).toNat).map fun k => .int (i + (k : Nat))) else none else none
  | _ => none
theorem walk_range (lo : Int) (n : Nat) {ι : List Addr} {B : Hp} : WalkD X (Itr lo n) ι B ((List.range n).map fun k => .int (lo + (k : Nat))) := by
  intro e ι2 B2 H ρ O σ i r i2 b2
  refine ⟨fun d hd => ?_, fun hi => by rw [List.length_map, List.length_range] at hi; exact hi⟩
  have hi : i < n := by
    apply Classical.byContradiction
    intro hn
    rw [List.getElem?_eq_none (by rw [List.length_map, List.length_range]; omega)] at hd
    cases hd
  rw [List.getElem?_map, List.getElem?_range hi] at hd
  cases hd
  refine ⟨hi, fun x H' h => ?_⟩
  obtain ⟨rfl, rfl⟩ := h
  exact ⟨B2, r, Same.refl _, Same.refl _, .int _⟩
end
end DL

set_option Elab.async false
set_option linter.all false
set_option maxRecDepth 100000
namespace DL
open PySem L2

section
variable {K : PySem.W.Frag} {mg : Mg} {e : Ent} {ι ι' : List Addr} {B B' H H' : Hp} {ρ : Rho} {O O' : Sto} {σ : St} {a p : Addr} {c : Cell}
/-- the slots that hold data -/
def shrO : Option SD → Option SD
  | some (.shr d) => some (.shr d)
  | _ => none
def wipeR (ρ : Rho) : List Nat → Rho
  | [] => ρ
  | v :: vs => (wipeR ρ vs).set v none
def bareR (vs : List Nat) (ρ : Rho) : Rho := wipeR (ρ.map shrO) vs
theorem Rel.wipe (r : Rel K mg e ι B H ρ O σ) : ∀ vs : List Nat, Rel K mg e ι B H (wipeR ρ vs) O (L2.wipe σ vs)
  | [] => r
  | v :: vs => (Rel.wipe r vs).unset
/-- a block's entry: the data of the slots is seen -/
theorem Rel.block (r : Rel K mg e ι B H ρ O σ) (vs : List Nat) : Rel K mg ⟨ι, B, H⟩ ι B H (bareR vs ρ) O (L2.wipe σ vs) := by
  refine Rel.wipe ?_ vs
  have get : ∀ (i : Nat) (x : SD), (ρ.map shrO)[i]? = some (some x) → ∃ d, ρ[i]? = some (some (.shr d)) ∧ x = .shr d := fun i x q => by
    rw [List.getElem?_map] at q
    cases z : ρ[i]? with
    | none => rw [z] at q; cases q
    | some o =>
      rw [z] at q
      simp only [Option.map_some, Option.some.injEq] at q
      cases o with
      | none => cases q
      | some y =>
        cases y with
        | shr d => cases q; exact ⟨d, rfl, rfl⟩
        | own c => cases q
        | raw v => cases q
  have q := r.enter
  refine ⟨q.sub, q.eB, q.ei, q.fB, q.fH, q.fi, by rw [List.length_map]; exact r.len, fun i x h => ?_, fun i j a c c' h => ?_, q.lo, q.ob, q.nd⟩
  · obtain ⟨d, h1, rfl⟩ := get i x h
    exact r.sl i _ h1
  · obtain ⟨d, _, h2⟩ := get i _ h
    cases h2
end

section
variable {X : Cx} {Wx : WX} {a b c tg it : Expr} {pos : Pos} {ma mb mc : ME D} {i : Nat} {x : Str}
theorem ei_range1 {p : Pos} {m : ME (List D)} (hm : X.mg "range" = none) (h : EAZ X Wx [a] m) (hl : LenA m 1) (hg : Gl X "range" := by rfl) (hs : starEach [a] X.env = [(false, eval a X.env)] := by rfl) : EI X Wx tg (.Call (.Name "range" p) [a] [] pos) (bindE m fun ds => optE (rangeD ds)) := by
  obtain ⟨t, pt, et⟩ := h
  refine ⟨_, pi_range1 hg hm pt hs, fun e ι B H ρ O σ R r q => et e ι B H ρ O σ _ r ?_⟩
  simp only [bindE] at q
  cases z : m ρ O with
  | bad => rw [z] at q; exact q
  | err c p O' => rw [z] at q; exact q
  | ok ds O' =>
    rw [z] at q
    dsimp only at q
    intro ι' B' H' vs r' i' b' hv
    replace hv := rSs.dh r' hv
    have hlen := hl _ _ _ _ z
    cases z2 : rangeD ds with
    | none => rw [z2] at q; exact q.elim
    | some xs =>
      rw [z2] at q
      unfold rangeD at z2
      split at z2
      · rename_i j
        split at z2
        · rename_i hb
          cases z2
          obtain ⟨v, rfl, h1⟩ := paired1 hv
          cases h1
          exact ⟨j, rfl, (cRng_ok hb).1, (cRng_ok hb).2, q ι' B' H' _ r' i' b' (walk_range 0 j.toNat)⟩
        · cases z2
      · simp at hlen
      · cases z2
theorem ei_range2 {p : Pos} {m : ME (List D)} (hm : X.mg "range" = none) (h : EAZ X Wx [a, b] m) (hl : LenA m 2) (hg : Gl X "range" := by rfl) (hs : starEach [a, b] X.env = [(false, eval a X.env), (false, eval b X.env)] := by rfl) (hs2 : starEach [b] X.env = [(false, eval b X.env)] := by rfl) :
    EI X Wx tg (.Call (.Name "range" p) [a, b] [] pos) (bindE m fun ds => optE (rangeD ds)) := by
  obtain ⟨t, pt, et⟩ := h
  refine ⟨_, pi_range2 hg hm pt hs hs2, fun e ι B H ρ O σ R r q => et e ι B H ρ O σ _ r ?_⟩
  simp only [bindE] at q
  cases z : m ρ O with
  | bad => rw [z] at q; exact q
  | err c p O' => rw [z] at q; exact q
  | ok ds O' =>
    rw [z] at q
    dsimp only at q
    intro ι' B' H' vs r' i' b' hv
    replace hv := rSs.dh r' hv
    have hlen := hl _ _ _ _ z
    cases z2 : rangeD ds with
    | none => rw [z2] at q; exact q.elim
    | some xs =>
      rw [z2] at q
      unfold rangeD at z2
      split at z2
      · simp at hlen
      · rename_i i j
        split at z2
        · rename_i hb
          split at z2
          · rename_i hb2
            cases z2
            obtain ⟨v, w, rfl, h1, h2⟩ := paired2 hv
            cases h1
            cases h2
            exact ⟨i, j, rfl, ⟨(cRng_ok hb).1, (cRng_ok hb).2, (cRng_ok hb2).1, (cRng_ok hb2).2⟩, q ι' B' H' _ r' i' b' (walk_range i (j - i).toNat)⟩
          · cases z2
        · cases z2
      · cases z2

/-! ### while -/
def whileF (c : ME Bool) (m : MS) : Nat → MS
  | 0 => badS
  | n + 1 => bindS c fun k ρ O => if k = true then (match m ρ O with
    | .nx ρ' O' => whileF c m n ρ' O'
    | .ct ρ' O' => whileF c m n ρ' O'
    | .bk ρ' O' => .nx ρ' O'
    | r => r) else .nx ρ O
open Classical in
noncomputable def whileS (c : ME Bool) (m : MS) : MS := fun ρ O => if h : ∃ n, whileF c m n ρ O ≠ .bad then whileF c m h.choose ρ O else .bad
theorem whileF_more {c : ME Bool} {m : MS} : ∀ (n : Nat) (ρ : Rho) (O : Sto), whileF c m n ρ O ≠ .bad → whileF c m (n + 1) ρ O = whileF c m n ρ O
  | 0, _, _, h => absurd rfl h
  | n + 1, ρ, O, h => by
    rw [whileF, whileF]
    rw [whileF] at h
    unfold bindS at h ⊢
    cases z : c ρ O with
    | bad => rfl
    | err c p O' => rfl
    | ok k O' =>
      rw [z] at h
      dsimp only at h ⊢
      cases k with
      | false => rfl
      | true =>
        rw [if_pos rfl] at h ⊢
        rw [if_pos rfl]
        cases z2 : m ρ O' with
        | nx ρ1 O1 => rw [z2] at h; exact whileF_more n ρ1 O1 h
        | ct ρ1 O1 => rw [z2] at h; exact whileF_more n ρ1 O1 h
        | bk ρ1 O1 => rfl
        | ret x O1 => rfl
        | err c p ρ1 O1 => rfl
        | bad => rfl
theorem whileF_le {c : ME Bool} {m : MS} {n k : Nat} {ρ : Rho} {O : Sto} (h : whileF c m n ρ O ≠ .bad) : whileF c m (n + k) ρ O = whileF c m n ρ O := by
  induction k with
  | zero => rfl
  | succ k ih =>
    show whileF c m (n + k + 1) ρ O = _
    rw [whileF_more _ _ _ (by rw [ih]; exact h), ih]
theorem whileS_eq {c : ME Bool} {m : MS} {n : Nat} {ρ : Rho} {O : Sto} {r : RS} (h : whileF c m n ρ O = r) (hr : r ≠ .bad) : whileS c m ρ O = r := by
  have ex : ∃ n, whileF c m n ρ O ≠ .bad := ⟨n, by rw [h]; exact hr⟩
  unfold whileS
  rw [dif_pos ex]
  have h1 := ex.choose_spec
  rcases Nat.le_total n ex.choose with hle | hle
  · obtain ⟨k, e⟩ := Nat.exists_eq_add_of_le hle
    rw [e, whileF_le (by rw [h]; exact hr), h]
  · obtain ⟨k, e⟩ := Nat.exists_eq_add_of_le hle
    rw [← h, e, whileF_le h1]
theorem EvS.whileF {tc : TT} {tb : TS} {mc : ME Bool} {m : MS} (hc : Ev X Wx (rQ Bool) tc mc) (hb : EvS X Wx tb m) (n : Nat) : EvS X Wx (tWhile tc tb) (DL.whileF mc m n) := by
  intro e ι B H ρ O σ D' r q
  refine ⟨fun k σ H => ∃ ρ O ι2 B2, Rel X.K X.mg e ι2 B2 H ρ O σ ∧ EvSP X Wx e ι2 B2 D' (DL.whileF mc m k ρ O), ⟨n, ρ, O, ι, B, r, q⟩, ?_⟩
  rintro k σ H ⟨ρ, O, ι2, B2, r2, q2⟩
  cases k with
  | zero => exact q2.elim
  | succ k =>
    refine hc e ι2 B2 H ρ O σ _ r2 ?_
    rw [DL.whileF] at q2
    unfold bindS at q2
    cases z : mc ρ O with
    | bad => rw [z] at q2; exact q2
    | err c p O' => rw [z] at q2; exact fun ι' B' H' C dx r' i' b' h => q2 ι' B' H' σ C dx r' i' b' h
    | ok b O' =>
      rw [z] at q2
      dsimp only at q2
      intro ι' B' H' b' r' i' s' hb'
      cases hb'
      cases b with
      | false =>
        rw [if_neg Bool.false_ne_true] at q2 ⊢
        exact q2 ι' B' H' σ r' i' s'
      | true =>
        rw [if_pos rfl] at q2 ⊢
        refine ⟨fun σ' H' => ∃ ρ O ι2 B2, Rel X.K X.mg e ι2 B2 H' ρ O σ' ∧ EvSP X Wx e ι2 B2 D' (DL.whileF mc m k ρ O), fun σ' H' h => ⟨k, Nat.lt_succ_self k, h⟩, hb e ι' B' H' ρ O' σ _ r' ?_⟩
        cases z2 : m ρ O' with
        | nx ρ1 O1 => rw [z2] at q2; exact fun ι3 B3 H3 σ3 r3 i3 b3 => ⟨ρ1, O1, ι3, B3, r3, EvSP.later (r := DL.whileF mc m k ρ1 O1) (i'.trans i3) (s'.trans b3) q2⟩
        | ct ρ1 O1 => rw [z2] at q2; exact fun ι3 B3 H3 σ3 r3 i3 b3 => ⟨ρ1, O1, ι3, B3, r3, EvSP.later (r := DL.whileF mc m k ρ1 O1) (i'.trans i3) (s'.trans b3) q2⟩
        | bk ρ1 O1 => rw [z2] at q2; exact fun ι3 B3 H3 σ3 r3 i3 b3 => q2 ι3 B3 H3 σ3 r3 (i'.trans i3) (s'.trans b3)
        | ret y O1 => rw [z2] at q2; exact fun ι3 B3 H3 v r3 i3 b3 => q2 ι3 B3 H3 v r3 (i'.trans i3) (s'.trans b3)
        | err c p ρ1 O1 => rw [z2] at q2; exact fun ι3 B3 H3 σ3 C dx r3 i3 b3 => q2 ι3 B3 H3 σ3 C dx r3 (i'.trans i3) (s'.trans b3)
        | bad => rw [z2] at q2; exact q2
theorem es_while {t : ME Bool} {sts : List Stmt} {m : MS} (hp : PassesOwn (model X.prog X.w) X.A X.env X.xe) (hc : ET X Wx c t) (hb : EB X Wx sts m) : ES X Wx (.While c sts [] pos) (whileS t m) := by
  obtain ⟨tc, pc, ec⟩ := hc
  obtain ⟨tb, pb, eb⟩ := hb
  refine ⟨_, ps_while hp pc pb, fun e ι B H ρ O σ D' r q => ?_⟩
  unfold whileS at q
  split at q
  · rename_i h
    exact EvS.whileF ec eb h.choose e ι B H ρ O σ D' r q
  · exact q.elim

/-! ### the reading that a function gives -/
def canon {β α : Type} (X : Cx) (Wx : WX) (R : RV β α) (m : ME α) : St → Hp → (β → Hp → Prop) → Prop := fun σ H Q => ∃ e ι B ρ O, Rel X.K X.mg e ι B H ρ O σ ∧ EvP X Wx R e ι B ρ σ Q (m ρ O)
theorem EX.pe {m : ME D} (h : EX X Wx a m) : PE X a (canon X Wx (rD X) m) := by
  obtain ⟨t, pt, et⟩ := h
  exact ⟨fun pins s σ H Q I ⟨e, ι, B, ρ, O, r, q⟩ => pt.run pins s σ H Q I (et e ι B H ρ O σ Q r q)⟩
theorem canon_ev {β α : Type} {R : RV β α} {m : ME α} : Ev X Wx R (canon X Wx R m) m := fun e ι B H ρ O σ Q r q => ⟨e, ι, B, ρ, O, r, q⟩
/-- tests of a comprehension -/
def ETs (X : Cx) (Wx : WX) (es : List Expr) (m : ME Bool) : Prop := ∃ t, PTs X es t ∧ Ev X Wx (rQ Bool) t m
theorem ets_nil : ETs X Wx [] (pureE true) := ⟨_, pts_nil, fun e ι B H ρ O σ Q r q => EvP.ok r q rfl⟩
theorem ets_one {m : ME Bool} (h : ET X Wx c m) : ETs X Wx [c] m := by
  obtain ⟨t, pt, et⟩ := h
  exact ⟨_, pts_one pt, et⟩
theorem ETs.pts {es : List Expr} {m : ME Bool} (h : ETs X Wx es m) : PTs X es (canon X Wx (rQ Bool) m) := by
  obtain ⟨t, pt, et⟩ := h
  exact ⟨fun pins s σ H Q I ⟨e, ι, B, ρ, O, r, q⟩ => pt.run pins s σ H Q I (et e ι B H ρ O σ Q r q)⟩
/-- a target that stores in the slots vs alone -/
def EvGW (X : Cx) (g : TG) (vs : List Nat) (f : D → MS) : Prop := ∀ x d e ι B H ρ O σ (Q : St → Hp → Prop), Rel X.K X.mg e ι B H ρ O σ → DA X.K ι B x d →
  (match f d ρ O with
    | .nx ρ' O' => ∀ ι' B' H' σ', Rel X.K X.mg e ι' B' H' ρ' O' σ' → Pre ι ι' → Same B B' → L2.wipe σ' vs = L2.wipe σ vs → Q σ' H'
    | _ => False) → g x σ H Q
theorem evgw_name (i : Nat) : EvGW X (gName i) [i] (nameG i) := fun x d e ι B H ρ O σ Q r hx q => q ι B H _ (r.set' hx) (Pre.refl _) (Same.refl _) (by
  show (σ.set i (some x)).set i none = σ.set i none
  rw [List.set_set])
theorem wipe_comm (σ : St) (i : Nat) (o : Option V) : ∀ vs : List Nat, L2.wipe (σ.set i o) vs = (L2.wipe σ vs).set i (if i ∈ vs then none else o)
  | [] => by
    rw [if_neg (by simp)]
    rfl
  | v :: vs => by
    show (L2.wipe (σ.set i o) vs).set v none = ((L2.wipe σ vs).set v none).set i _
    rw [wipe_comm σ i o vs]
    by_cases h : i = v
    · subst h
      rw [List.set_set, if_pos (by simp), List.set_set]
    · rw [List.set_comm _ _ h]
      congr 1
      by_cases h2 : i ∈ vs
      · rw [if_pos h2, if_pos (List.mem_cons_of_mem _ h2)]
      · rw [if_neg h2, if_neg (by simp only [List.mem_cons, not_or]; exact ⟨h, h2⟩)]
theorem wipe_wipe (σ : St) : ∀ vs ws : List Nat, (∀ v ∈ vs, v ∈ ws) → L2.wipe (L2.wipe σ vs) ws = L2.wipe σ ws
  | [], _, _ => rfl
  | v :: vs, ws, h => by
    show L2.wipe ((L2.wipe σ vs).set v none) ws = _
    rw [wipe_comm, wipe_wipe σ vs ws fun u hu => h u (List.mem_cons_of_mem _ hu), ite_self]
    have hv : v ∈ ws := h v List.mem_cons_self
    clear h
    induction ws with
    | nil => cases hv
    | cons w ws ih =>
      show ((L2.wipe σ ws).set w none).set v none = (L2.wipe σ ws).set w none
      by_cases e : v = w
      · subst e; rw [List.set_set]
      · rw [List.set_comm _ _ (Ne.symm e), ih ((List.mem_cons.mp hv).resolve_left e)]

/-! ### [e for x in xs if t] -/
def compL (vs : List Nat) (f : D → MS) (mt : ME Bool) (me : ME D) : List D → List D → ME (List D)
  | [], acc, ρ, O => .ok acc O
  | d :: ds, acc, ρ, O => match f d (bareR vs ρ) O with
    | .nx ρ1 O1 => match mt ρ1 O1 with
      | .ok true O2 => match me ρ1 O2 with
        | .ok y O3 => if acc.length < sizeLine then compL vs f mt me ds (acc ++ [y]) ρ O3 else .bad
        | _ => .bad
      | .ok false O2 => compL vs f mt me ds acc ρ O2
      | _ => .bad
    | _ => .bad
def compM (vs : List Nat) (mi : ME (List D)) (f : D → MS) (mt : ME Bool) (me : ME D) : ME Cell := bindE mi fun ds => bindE (compL vs f mt me ds []) fun ys => pureE (.lst ys)
abbrev WF : WX := fun _ _ _ _ => False
theorem compL_noerr {vs : List Nat} {f : D → MS} {mt : ME Bool} {me : ME D} {c : Str} {p : D} {O' : Sto} : ∀ {ds acc : List D} {ρ : Rho} {O : Sto}, compL vs f mt me ds acc ρ O ≠ .err c p O'
  | [], _, _, _, h => by cases h
  | d :: ds, acc, ρ, O, h => by
    unfold compL at h
    split at h
    · split at h
      · split at h
        · split at h
          · exact compL_noerr h
          · cases h
        · cases h
      · exact compL_noerr h
      · cases h
    · cases h
theorem EvN.comp {wi : TI} {g : TG} {tt : TT} {te : TE} {vs : List Nat} {mi : ME (List D)} {f : D → MS} {mt : ME Bool} {me : ME D} (hi : EvI X Wx wi mi) (hg : EvGW X g vs f) (ht : Ev X WF (rQ Bool) tt mt) (he : Ev X WF (rD X) te me) :
    EvN X Wx (tLc wi g tt te vs) (compM vs mi f mt me) := by
  intro e ι B H ρ O σ Q r q
  refine hi e ι B H ρ O σ _ r ?_
  simp only [compM, bindE] at q
  cases z : mi ρ O with
  | bad => rw [z] at q; exact q
  | err c p O' => rw [z] at q; exact q
  | ok ds O' =>
    rw [z] at q
    dsimp only at q
    intro ι' B' H' J r' i' b' wk D hD
    obtain ⟨rD0, f1, f2, f3⟩ := r'.fresh hD (.lst [])
    have nD := r'.notOwn hD
    -- what is left of the list is made
    refine ⟨fun i mm H => mm = ds.length - i ∧ i ≤ ds.length ∧ ∃ O ι2 B2 accV acc, Rel X.K X.mg e ι2 B2 H ρ O σ ∧ Pre ι' ι2 ∧ Same B' B2 ∧ H D = some (.lst accV) ∧ B2 D = none ∧ D ∉ ι2 ∧ Paired (DA X.K ι2 B2) accV acc ∧
      (match compL vs f mt me (ds.drop i) acc ρ O with
      | .ok ys O2 => ∀ ι3 B3 H3 yv, Rel X.K X.mg e ι3 B3 H3 ρ O2 σ → Pre ι' ι3 → Same B' B3 → H3 D = some (.lst yv) → B3 D = none → D ∉ ι3 → Paired (DA X.K ι3 B3) yv ys → Q (.ref D) H3
      | .err _ _ _ => False
      | .bad => False), ⟨ds.length, by simp, Nat.zero_le _, O', ι', B', [], [], rD0, Pre.refl _, Same.refl _, upd_same, f1, f3, .nil, ?_⟩, ?_⟩
    · rw [List.drop_zero]
      cases z2 : compL vs f mt me ds [] ρ O' with
      | bad => rw [z2] at q; exact q
      | err c p O2 => exact absurd z2 compL_noerr
      | ok ys O2 =>
        rw [z2] at q
        exact fun ι3 B3 H3 yv r3 i3 b3 h1 h2 h3 h4 => q ι3 B3 H3 D r3 (i'.trans i3) (b'.trans b3) ⟨yv, h1, h4⟩ h2 f2 h3 nD
    · rintro i mm H ⟨rfl, hil, O, ι2, B2, accV, acc, r2, i2, b2, hDv, hDB, hDi, hacc, q2⟩
      have rb := r2.block vs
      obtain ⟨w1, w2⟩ := wk ⟨ι2, B2, H⟩ ι2 B2 H _ O _ i rb i2 b2
      by_cases hlt : i < ds.length
      · have hd : ds[i]? = some ds[i] := List.getElem?_eq_getElem hlt
        have hdr : ds.drop i = ds[i] :: ds.drop (i + 1) := List.drop_eq_getElem_cons hlt
        rw [hdr] at q2
        unfold compL at q2
        obtain ⟨go, step⟩ := w1 _ hd
        refine .inr ⟨go, fun H' => i + 1 ≤ ds.length ∧ ∃ O ι2 B2 accV acc, Rel X.K X.mg e ι2 B2 H' ρ O σ ∧ Pre ι' ι2 ∧ Same B' B2 ∧ H' D = some (.lst accV) ∧ B2 D = none ∧ D ∉ ι2 ∧ Paired (DA X.K ι2 B2) accV acc ∧
          (match compL vs f mt me (ds.drop (i + 1)) acc ρ O with
          | .ok ys O2 => ∀ ι3 B3 H3 yv, Rel X.K X.mg e ι3 B3 H3 ρ O2 σ → Pre ι' ι3 → Same B' B3 → H3 D = some (.lst yv) → B3 D = none → D ∉ ι3 → Paired (DA X.K ι3 B3) yv ys → Q (.ref D) H3
          | .err _ _ _ => False
          | .bad => False), fun H' h => ⟨ds.length - (i + 1), by omega, rfl, h⟩, fun x H3 y => ?_⟩
        obtain ⟨B3, r3, b3, s3, hx⟩ := step x H3 y
        refine hg x _ _ ι2 B3 H3 _ O _ _ r3 hx ?_
        cases z2 : f ds[i] (bareR vs ρ) O with
        | nx ρ1 O1 =>
          rw [z2] at q2
          dsimp only at q2
          intro ι4 B4 H4 σ4 r4 i4 b4 hw
          refine ⟨by rw [hw]; exact wipe_wipe σ vs vs (fun _ h => h), ?_⟩
          refine ht _ ι4 B4 H4 ρ1 O1 σ4 _ r4 ?_
          -- behind a turn
          have back : ∀ {ι5 : List Addr} {B5 H5 : Hp} {O5 : Sto} {ρ5 : Rho} {σ5 : St}, Rel X.K X.mg ⟨ι2, B2, H⟩ ι5 B5 H5 ρ5 O5 σ5 → Rel X.K X.mg e ι5 B5 H5 ρ O5 σ ∧ H5 D = some (.lst accV) ∧ B5 D = none ∧ D ∉ ι5 := fun {ι5 B5 H5 O5 ρ5 σ5} r5 => by
            refine ⟨r2.after r5.bare, r5.fH D _ hDv hDi, ?_, fun m => ?_⟩
            · cases z5 : B5 D with
              | none => rfl
              | some o =>
                rcases r5.fB D o z5 with y | y
                · have y' : B2 D = some o := y
                  rw [hDB] at y'; cases y'
                · have y' : H D = none := y
                  rw [hDv] at y'; cases y'
            · rcases r5.fi D m with y | y
              · exact hDi y
              · have y' : H D = none := y
                rw [hDv] at y'; cases y'
          cases z3 : mt ρ1 O1 with
          | bad => rw [z3] at q2; exact q2.elim
          | err c p O2 => rw [z3] at q2; exact q2.elim
          | ok k O2 =>
            rw [z3] at q2
            intro ι5 B5 H5 k' r5 i5 b5 hk
            cases hk
            cases k with
            | false =>
              dsimp only at q2
              rw [if_neg Bool.false_ne_true]
              obtain ⟨r6, h1, h2, h3⟩ := back r5
              exact ⟨hlt, O2, ι5, B5, accV, acc, r6, ((i2.trans i4).trans i5), ((b2.trans b3).trans b4).trans b5, h1, h2, h3, DA.monos ((b3.trans b4).trans b5) (i4.trans i5) _ _ hacc, q2⟩
            | true =>
              dsimp only at q2
              rw [if_pos rfl]
              refine he _ ι5 B5 H5 ρ1 O2 σ4 _ r5 ?_
              cases z4 : me ρ1 O2 with
              | bad => rw [z4] at q2; exact q2.elim
              | err c p O3 => rw [z4] at q2; exact q2.elim
              | ok y O3 =>
                rw [z4] at q2
                dsimp only at q2
                intro ι6 B6 H6 yv r6 i6 b6 hy
                obtain ⟨r7, h1, h2, h3⟩ := back r6
                have hacc6 := DA.monos (((b3.trans b4).trans b5).trans b6) ((i4.trans i5).trans i6) _ _ hacc
                by_cases hz : acc.length < sizeLine
                · rw [if_pos hz] at q2
                  exact ⟨accV, h1, by rw [paired_len hacc]; exact hz, hlt, O3, ι6, B6, accV ++ [yv], acc ++ [y], r7.poke h2 (.inl f2) nD h3, ((i2.trans i4).trans i5).trans i6, (((b2.trans b3).trans b4).trans b5).trans b6, upd_same, h2, h3, paired_app hacc6 (.cons hy .nil), q2⟩
                · rw [if_neg hz] at q2
                  exact q2.elim
        | bk ρ' O' => rw [z2] at q2; exact q2.elim
        | ct ρ' O' => rw [z2] at q2; exact q2.elim
        | ret x O' => rw [z2] at q2; exact q2.elim
        | err c p ρ' O' => rw [z2] at q2; exact q2.elim
        | bad => rw [z2] at q2; exact q2.elim
      · have hi : ds.length ≤ i := by omega
        rw [List.drop_eq_nil_of_le hi] at q2
        exact .inl ⟨w2 hi, q2 ι2 B2 H accV r2 i2 b2 hDv hDB hDi hacc⟩
section
variable {elt : Expr} {ifs : List Expr} {scope : Scope} {own : List (Str × Nat)} {mi : ME (List D)} {f : D → MS} {mt : ME Bool} {me : ME D} {g : TG}
theorem en_comp (hc : X.calm = true) (hN : X.N.Nodup) (hi : EI X Wx tg it mi) (ok : BlkOk X.N X.env.scope scope own)
    (hg : ∀ (s : Shared) (H : Hp) (C : Addr) (cl : List (Str × Addr)) (fp : List Addr), PG (X.blk s H scope (compEnvC scope cl C X.env) fp) tg g) (eg : EvGW X g (own.map (·.2)) f)
    (ht : ∀ (s : Shared) (H : Hp) (C : Addr) (cl : List (Str × Addr)) (fp : List Addr), ETs (X.blk s H scope (compEnvC scope cl C X.env) fp) WF ifs mt)
    (he : ∀ (s : Shared) (H : Hp) (C : Addr) (cl : List (Str × Addr)) (fp : List Addr), EX (X.blk s H scope (compEnvC scope cl C X.env) fp) WF elt me) (hs : ∀ x, foldedSetIterable it X.env x = pure x := by intro _; rfl) :
    EN X Wx (.ListComp elt [⟨tg, it, ifs, 0⟩] scope pos) (compM (own.map (·.2)) mi f mt me) := by
  obtain ⟨wi, pi, ei⟩ := hi
  refine ⟨_, pe_lc (g := g) (tt := canon X WF (rQ Bool) mt) (te := canon X WF (rD X) me) hc hN pi ok hg (fun s H C cl fp => (ht s H C cl fp).pts) (fun s H C cl fp => (he s H C cl fp).pe) hs, EvN.comp ei eg canon_ev canon_ev⟩
theorem es_newLc {y : Str} {py spos : Pos} (i : Nat) (hc : X.calm = true) (hN : X.N.Nodup) (hi : EI X Wx tg it mi) (ok : BlkOk X.N X.env.scope scope own)
    (hg : ∀ (s : Shared) (H : Hp) (C : Addr) (cl : List (Str × Addr)) (fp : List Addr), PG (X.blk s H scope (compEnvC scope cl C X.env) fp) tg g) (eg : EvGW X g (own.map (·.2)) f)
    (ht : ∀ (s : Shared) (H : Hp) (C : Addr) (cl : List (Str × Addr)) (fp : List Addr), ETs (X.blk s H scope (compEnvC scope cl C X.env) fp) WF ifs mt)
    (he : ∀ (s : Shared) (H : Hp) (C : Addr) (cl : List (Str × Addr)) (fp : List Addr), EX (X.blk s H scope (compEnvC scope cl C X.env) fp) WF elt me)
    (hy : X.N[i]? = some y := by rfl) (hyl : X.env.scope.names.lookup y = some .local := by rfl)
    (hsw : swapsWith (.ListComp elt [⟨tg, it, ifs, 0⟩] scope pos) (some (.Name y py)) spos.line X.env = pure true := by exact sw_true rfl rfl rfl (by decide +kernel)) (hs : ∀ x, foldedSetIterable it X.env x = pure x := by intro _; rfl) :
    ES X Wx (.Assign [.Name y py] (.ListComp elt [⟨tg, it, ifs, 0⟩] scope pos) spos) (newS i (compM (own.map (·.2)) mi f mt me)) := by
  obtain ⟨wi, pi, ei⟩ := hi
  exact ⟨_, ps_setLc (g := g) (tt := canon X WF (rQ Bool) mt) (te := canon X WF (rD X) me) hc hN hy hyl hsw pi ok hg (fun s H C cl fp => (ht s H C cl fp).pts) (fun s H C cl fp => (he s H C cl fp).pe) hs, EvS.new (EvN.comp ei eg canon_ev canon_ev)⟩
end
/-- a new list, frozen -/
def thawM (m : ME Cell) : ME D := bindE m fun c => match c with
  | .lst xs => pureE (.lst xs)
  | _ => badE
theorem EN.frz {m : ME Cell} (h : EN X Wx a m) : EX X Wx a (thawM m) := by
  obtain ⟨t, pt, et⟩ := h
  refine ⟨t, pt, fun e ι B H ρ O σ Q r q => et e ι B H ρ O σ Q r ?_⟩
  simp only [thawM, bindE] at q
  cases z : m ρ O with
  | bad => rw [z] at q; exact q
  | err c p O' => rw [z] at q; exact q
  | ok c O' =>
    rw [z] at q
    dsimp only at q
    intro ι' B' H' a r' i' b' h1 h2 h3 h4 h5
    cases c with
    | lst xs =>
      obtain ⟨vs, h1, h6⟩ := h1
      obtain ⟨r3, b3⟩ := r'.freezeAt h1 h2 h3 h4 h5
      exact q ι' _ H' _ r3 i' (b'.trans b3) (.lst upd_same (DA.monos b3 (Pre.refl _) _ _ h6))
    | _ => exact q.elim
end
end DL

set_option Elab.async false
set_option linter.all false
set_option maxRecDepth 100000
namespace DL
open PySem L2

/-! ### a def of the text, callable -/
/-- the def st stands under the name x -/
def Df (K : PySem.W.Frag) (mg : Mg) (x qual : Str) (st : Stmt) (ps : List Str) : Prop := ∃ (a : Addr) (fd : FuncData), mg x = some (.ref a) ∧ Fun K x qual st a fd ∧ ∀ (s : Shared) (us : List Value), us.length = ps.length → BindsTo s fd ⟨us, []⟩ (ps.zip us)
/-- under the name x stands a def that does what f says -/
def Cal (P : Program) (w : World) (K : PySem.W.Frag) (mg : Mg) (base : Heap) (k : Nat) (x : Str) (n : Nat) (f : MF) : Prop :=
  ∃ (a : Addr) (fd : FuncData) (ps : List Str), mg x = some (.ref a) ∧ PySem.W.keepIn K (.ref a) = true ∧ Binds K fd ps [] ∧ FnOk P w K mg base (L2.CX P w) k a fd ps (spF K mg n f)
theorem df_mk {K : PySem.W.Frag} {h : Heap} {mg : Mg} {x qual : Str} {st : Stmt} {ps : List Str} {f : Addr} (X : K.In h) (G : h.Ns mainGlobals mg)
    {od an : Option Addr} {sl : Array (Option Value)} {oc kV dc pm cd ct : Value}
    (a : PySem.W.nsIn K mainGlobals x = some (some (.ref f))) (l : K.lookup f = some ⟨oc, od, .func (PySem.W.fnOf x qual (defArgs st) (defBody st) (defScope st) .none kV dc pm an cd ct), sl⟩) (c : PySem.W.codeIn K cd qual = true) (k : PySem.W.keepIn K (.ref f) = true)
    (b : ∀ (kV doc pm : Value) (an : Option Addr) (cdv ct : Value) (us : List Value), us.length = ps.length → bindArgs (PySem.W.fnOf x qual (defArgs st) (defBody st) (defScope st) .none kV doc pm an cdv ct) ⟨us, []⟩ = pure (ps.zip us)) : Df K mg x qual st ps := by
  have F := fun_mk (st := st) l c k
  exact ⟨f, _, PySem.W.mg_of X G a, F, fun s us h => .of_eq (b _ _ _ _ _ _ us h)⟩
section
variable {P : Program} {w : World} {K : PySem.W.Frag} {mg : Mg} {base : Heap} {x qual : Str} {st : Stmt} {N ps : List Str} {k : Nat} {m : MS}
/-- the body's derivation, at every entry -/
def Bod (P : Program) (w : World) (K : PySem.W.Frag) (mg : Mg) (base : Heap) (qual : Str) (st : Stmt) (N : List Str) (k : Nat) (m : MS) : Prop :=
  ∀ (f : Addr) (cdv : Value) (A : Around) (outer : List Env) (s : Shared) (H : Hp) (E : XK), Room k (A.deeper (PyProof.Rows.envOfC qual (defScope st) s.heap.objs.size f cdv)) →
      EB (cxOf (L2.CX P w) P w K mg base N qual (defScope st) f cdv A outer s H E) (fun cls d _ H => E cls d H) (defBody st) m
theorem cal_of (D : Df K mg x qual st ps) (S : FnScope N ps (defScope st)) (b : Bod P w K mg base qual st N k m) : Cal P w K mg base (k + 1) x ps.length (runF N.length m) := by
  obtain ⟨a, fd, hm, F, hb⟩ := D
  exact ⟨a, fd, ps, hm, F.kp, fun s us _ h => by rw [List.append_nil] at h ⊢; exact hb s us h, fn_ok F S (b a)⟩
end
section
variable {X : Cx} {Wx : WX} {pos : Pos} {n k k' : Nat} {f : MF} {x : Str} {p : Pos} {e : Expr} {es : List Expr} {m : ME (List D)}
theorem ex_cal (tk : Takes X Wx) (C : Cal X.prog X.w X.K X.mg X.base k x n f) (hr : Room k' X.A) (ha : EA X Wx (e :: es) m) (hl : LenA m n) (hk : k ≤ k' := by decide) (hg : Gl X x := by rfl) (hdb : (x == ("__debug__" : Str)) = false := by decide)
    (he : starEach (e :: es) X.env = (false, eval e X.env) :: starEach es X.env := by rfl) (hpl : (backTo pos (starEach es X.env)).any (·.1) = false := by rfl) : EX X Wx (.Call (.Name x p) (e :: es) [] pos) (callF f [] m) := by
  obtain ⟨a, fd, ps, hm, hkp, hb, F⟩ := C
  exact ex_call tk F (hr.mono hk) hm hkp hb .nil (fun _ _ => .nil) ha hl rfl hg hdb he hpl
theorem en_cal (tk : Takes X Wx) (C : Cal X.prog X.w X.K X.mg X.base k x n f) (hr : Room k' X.A) (ha : EA X Wx (e :: es) m) (hl : LenA m n) (hk : k ≤ k' := by decide) (hg : Gl X x := by rfl) (hdb : (x == ("__debug__" : Str)) = false := by decide)
    (he : starEach (e :: es) X.env = (false, eval e X.env) :: starEach es X.env := by rfl) (hpl : (backTo pos (starEach es X.env)).any (·.1) = false := by rfl) : EN X Wx (.Call (.Name x p) (e :: es) [] pos) (callN f [] m) := by
  obtain ⟨a, fd, ps, hm, hkp, hb, F⟩ := C
  exact en_call tk F (hr.mono hk) hm hkp hb .nil (fun _ _ => .nil) ha hl rfl hg hdb he hpl
end

/-! ### the end -/
/-- the law's own promise -/
def spLaw (K : PySem.W.Frag) : Sp := fun vs H Q _ => ∃ (a : Addr) (ns : List Int), vs = [.ref a] ∧ SqL K H a (ns.map V.int) ∧ ns.length ≤ 63 ∧ ∀ H', Q (.bl true) H'
/-- what is to be shown of the law's function -/
def LawTrue (f : MF) : Prop := ∀ ns : List Int, ns.length ≤ 63 → ∃ O', f [.sea (ns.map .int)] [] = .ok (.shr (.bl true)) O'
theorem paired_ints {K : PySem.W.Frag} {ι : List Addr} {B : Hp} : ∀ ns : List Int, Paired (DA K ι B) (ns.map V.int) (ns.map D.int)
  | [] => .nil
  | n :: ns => .cons (.int n) (paired_ints ns)
theorem spLaw_of {K : PySem.W.Frag} {mg : Mg} {f : MF} (h : LawTrue f) (vs : List V) (H : Hp) (Q : VK) (E : XK) (q : spLaw K vs H Q E) : spF K mg 1 f vs H Q E := by
  obtain ⟨a, ns, rfl, hs, hl, k⟩ := q
  obtain ⟨O', e⟩ := h ns hl
  refine ⟨[.sea (ns.map .int)], [], H, [], ⟨Same.refl _, Same.refl _, Pre.refl _, fun a o h => .inl h, fun a o h m => h, fun a h => .inl h, rfl, fun i x h => by simp at h, fun i j a c c' h => by simp at h, rfl, fun n c a h => by simp at h, .nil⟩, .cons (.sea hs (paired_ints ns)) .nil, rfl, ?_⟩
  rw [e]
  intro ι' B' H' v r hv
  cases hv
  exact k H'
theorem law_end {l : PySem.W.OpenLaw} {q : Program} {loose : List Str} {XP : (Str → Option Value) → Heap → Prop} {YP : World → Heap → Prop} {d : DefRec} {K : Params → PySem.W.Frag} {qual : Str} {st : Stmt} {N : List Str} {x : Str} {k : Nat} {m : MS} (hn : l.most = some 63) (hdf : d.params.defaults = [])
    (S : FnScope N [x] (defScope st)) (hr : Room (k + 1) callerA)
    (hY : ∀ (w : World) (h : Heap), YP w h → (K w.params).In h)
    (hD : ∀ (w : World) (mg : Mg) (h : Heap), (K w.params).In h → h.Ns mainGlobals mg → Df (K w.params) mg d.name qual st [x])
    (hb : ∀ (w : World) (mg : Mg) (h : Heap), (K w.params).In h → h.Ns mainGlobals mg → ∀ base : Heap, Bod l.prog w (K w.params) mg base qual st N k m)
    (true_ : LawTrue (runF N.length m)) :
    PySem.W.WalkO q loose XP YP l.row.toRowW d [] (fun f vs => PySem.call f vs) := by
  refine L2.walk_of (n := 63) (k := k + 1) (x := x) (CX := fun w => L2.CX l.prog w) (sp := fun w => spLaw (K w.params)) hn (by decide) hdf hr hY (fun w mg fa h KX G hmg => ?_) (fun w H a ns hl _ hS => ⟨a, ns, rfl, hS, hl, fun _ => rfl⟩) fun w H s e s' z => ?_
  · obtain ⟨a, fd, hm, F, hbi⟩ := hD w mg h KX G
    rw [hmg] at hm
    cases hm
    exact ⟨fd, fun s u => hbi s [u] rfl, fun base _ _ => (fn_ok F S (hb w mg h KX G base fa)).imp (spLaw_of true_)⟩
  · obtain ⟨_, _, _, _, _, _, _, _, _, _, _, _, z⟩ := z
    exact z.elim
end DL

set_option Elab.async false
set_option linter.all false
set_option maxRecDepth 100000
namespace DL
open PySem L2
section
variable {X : Cx} {Wx : WX} {a b c tg : Expr} {pos : Pos} {ma mb mc : ME D}
theorem ex_gint' {x : Str} {i : Int} {pos : Pos} (hm : ∃ t, X.mg x = some (.int i t)) (hg : Gl X x := by rfl) (hd : (x == ("__debug__" : Str)) = false := by decide) : EX X Wx (.Name x pos) (cM (.int i)) := by
  obtain ⟨t, h⟩ := hm
  exact ex_gint h hg hd
theorem ex_gstr' {x : Str} {i : Str} {pos : Pos} (hm : ∃ t, X.mg x = some (.str i t)) (hg : Gl X x := by rfl) (hd : (x == ("__debug__" : Str)) = false := by decide) : EX X Wx (.Name x pos) (cM (.str i)) := by
  obtain ⟨t, h⟩ := hm
  exact ex_gstr h hg hd
theorem gint_mk {K : PySem.W.Frag} {h : Heap} {mg : Mg} {x : Str} {i : Int} {t : Tok} (KX : K.In h) (G : h.Ns mainGlobals mg) (z : PySem.W.nsIn K mainGlobals x = some (some (.int i t))) : ∃ t, mg x = some (.int i t) := ⟨t, PySem.W.mg_of KX G z⟩
theorem gstr_mk {K : PySem.W.Frag} {h : Heap} {mg : Mg} {x : Str} {i : Str} {t : Tok} (KX : K.In h) (G : h.Ns mainGlobals mg) (z : PySem.W.nsIn K mainGlobals x = some (some (.str i t))) : ∃ t, mg x = some (.str i t) := ⟨t, PySem.W.mg_of KX G z⟩
theorem sl_all : SlR X (rSlAll X.K) := sl_list.or sl_str
abbrev rngM (m : ME (List D)) : ME (List D) := bindE m fun ds => optE (rangeD ds)
/-- what is walked: a list, a tuple, a text's signs -/
def walkD : D → Option (List D)
  | .lst xs => some xs
  | .sea xs => some xs
  | .tup xs => some xs
  | .str y => some (y.cps.toList.map fun c => .str ⟨#[c]⟩)
  | _ => none
abbrev itM (m : ME D) : ME (List D) := bindE m fun d => optE (walkD d)
theorem ei_any (h : EX X Wx a ma) : EI X Wx tg a (itM ma) := by
  have h0 := h
  obtain ⟨wl, pl, el⟩ := ei_list (tg := tg) h
  obtain ⟨wt, pt, et⟩ := ei_tup (tg := tg) h
  obtain ⟨ws, ps, es⟩ := ei_str (tg := tg) h.z
  refine ⟨fun σ H R => wl σ H R ∨ wt σ H R ∨ ws σ H R, ⟨fun pins s σ H R I h => ?_⟩, fun e ι B H ρ O σ R r q => ?_⟩
  · rcases h with h | h | h
    · exact pl.run pins s σ H R I h
    · exact pt.run pins s σ H R I h
    · exact ps.run pins s σ H R I h
  · simp only [itM, bindE] at q
    cases z : ma ρ O with
    | bad => rw [z] at q; exact q.elim
    | err c p O' =>
      rw [z] at q
      exact .inl (el e ι B H ρ O σ R r (by simp only [bindE]; rw [z]; exact q))
    | ok d O' =>
      rw [z] at q
      dsimp only at q
      cases d with
      | lst xs => exact .inl (el e ι B H ρ O σ R r (by simp only [bindE]; rw [z]; exact q))
      | sea xs => exact .inl (el e ι B H ρ O σ R r (by simp only [bindE]; rw [z]; exact q))
      | tup xs => exact .inr (.inl (et e ι B H ρ O σ R r (by simp only [bindE]; rw [z]; exact q)))
      | str y => exact .inr (.inr (es e ι B H ρ O σ R r (by simp only [bindE]; rw [z]; exact q)))
      | _ => exact q.elim
end
end DL

set_option Elab.async false
set_option linter.all false
set_option maxRecDepth 100000
/-! DLEval: how the functions run: equations at a state. -/
namespace DL
open PySem L2
section
variable {α β : Type} {ρ ρ' : Rho} {O O' : Sto} {a b m n : MS} {ma mb mc : ME D} {t u : ME Bool} {d : D}
theorem seqS_nx (h : a ρ O = .nx ρ' O') : seqS a b ρ O = b ρ' O' := by unfold seqS; rw [h]
theorem seqS_ret {x : SD} (h : a ρ O = .ret x O') : seqS a b ρ O = .ret x O' := by unfold seqS; rw [h]
theorem bindS_ok {m : ME α} {f : α → MS} {x : α} (h : m ρ O = .ok x O') : bindS m f ρ O = f x ρ O' := by unfold bindS; rw [h]
theorem bindE_ok {m : ME α} {f : α → ME β} {x : α} (h : m ρ O = .ok x O') : bindE m f ρ O = f x ρ O' := by unfold bindE; rw [h]
theorem ifS_ap (t : ME Bool) (m n : MS) (ρ : Rho) (O : Sto) : ifS t m n ρ O = match t ρ O with
  | .ok true O' => m ρ O'
  | .ok false O' => n ρ O'
  | .err c p O' => .err c p ρ O'
  | .bad => .bad := by
  unfold ifS bindS
  cases t ρ O with
  | ok b O' => cases b <;> rfl
  | err c p O' => rfl
  | bad => rfl
theorem ifM_ap {α : Type} (t : ME Bool) (m n : ME α) (ρ : Rho) (O : Sto) : ifM t m n ρ O = match t ρ O with
  | .ok true O' => m ρ O'
  | .ok false O' => n ρ O'
  | .err c p O' => .err c p O'
  | .bad => .bad := by
  unfold ifM bindE
  cases t ρ O with
  | ok b O' => cases b <;> rfl
  | err c p O' => rfl
  | bad => rfl
theorem andT_ap (t u : ME Bool) (ρ : Rho) (O : Sto) : andT t u ρ O = match t ρ O with
  | .ok true O' => u ρ O'
  | .ok false O' => .ok false O'
  | .err c p O' => .err c p O'
  | .bad => .bad := by
  unfold andT bindE
  cases t ρ O with
  | ok b O' => cases b <;> rfl
  | err c p O' => rfl
  | bad => rfl
theorem orT_ap (t u : ME Bool) (ρ : Rho) (O : Sto) : orT t u ρ O = match t ρ O with
  | .ok true O' => .ok true O'
  | .ok false O' => u ρ O'
  | .err c p O' => .err c p O'
  | .bad => .bad := by
  unfold orT bindE
  cases t ρ O with
  | ok b O' => cases b <;> rfl
  | err c p O' => rfl
  | bad => rfl
theorem andV_ap (m n : ME D) (ρ : Rho) (O : Sto) : andV m n ρ O = match m ρ O with
  | .ok (.bl true) O' => n ρ O'
  | .ok (.bl false) O' => .ok (.bl false) O'
  | .ok _ _ => .bad
  | .err c p O' => .err c p O'
  | .bad => .bad := by
  unfold andV bindE
  cases m ρ O with
  | ok d O' =>
    cases d with
    | bl b => cases b <;> rfl
    | _ => rfl
  | err c p O' => rfl
  | bad => rfl
theorem orV_ap (m n : ME D) (ρ : Rho) (O : Sto) : orV m n ρ O = match m ρ O with
  | .ok (.bl false) O' => n ρ O'
  | .ok (.bl true) O' => .ok (.bl true) O'
  | .ok _ _ => .bad
  | .err c p O' => .err c p O'
  | .bad => .bad := by
  unfold orV bindE
  cases m ρ O with
  | ok d O' =>
    cases d with
    | bl b => cases b <;> rfl
    | _ => rfl
  | err c p O' => rfl
  | bad => rfl
theorem chainM_ap (f g : D → D → Option D) (ma mb mc : ME D) (ρ : Rho) (O : Sto) : chainM f g ma mb mc ρ O = match ma ρ O with
  | .ok x O1 => match mb ρ O1 with
    | .ok y O2 => match f x y with
      | some (.bl true) => (match mc ρ O2 with
        | .ok z O3 => (match g y z with
          | some w => .ok w O3
          | none => .bad)
        | .err c p O' => .err c p O'
        | .bad => .bad)
      | some (.bl false) => .ok (.bl false) O2
      | _ => .bad
    | .err c p O' => .err c p O'
    | .bad => .bad
  | .err c p O' => .err c p O'
  | .bad => .bad := by
  unfold chainM bindE
  cases ma ρ O with
  | ok x O1 =>
    dsimp only
    cases mb ρ O1 with
    | ok y O2 =>
      dsimp only
      cases f x y with
      | none => rfl
      | some d =>
        cases d with
        | bl b =>
          cases b with
          | true =>
            simp only [optE, pureE, boolOnly, if_true]
            cases mc ρ O2 with
            | ok z O3 =>
              dsimp only
              cases g y z <;> rfl
            | err c p O' => rfl
            | bad => rfl
          | false => rfl
        | _ => rfl
    | err c p O' => rfl
    | bad => rfl
  | err c p O' => rfl
  | bad => rfl

/-! ### loops -/
/-- one turn: .nx goes on -/
def turnS (g : D → MS) (m : MS) (d : D) : MS := fun ρ O => match g d ρ O with
  | .nx ρ1 O1 => match m ρ1 O1 with
    | .ct ρ2 O2 => .nx ρ2 O2
    | r => r
  | _ => .bad
theorem loopS_nil {g : D → MS} : loopS g m [] ρ O = .nx ρ O := rfl
theorem loopS_cons {g : D → MS} {ds : List D} : loopS g m (d :: ds) ρ O = match turnS g m d ρ O with
  | .nx ρ' O' => loopS g m ds ρ' O'
  | .bk ρ' O' => .nx ρ' O'
  | r => r := by
  rw [loopS]
  unfold turnS
  cases g d ρ O with
  | nx ρ1 O1 =>
    dsimp only
    cases m ρ1 O1 <;> rfl
  | _ => rfl
/-- a loop by what holds at each rest -/
theorem loopS_by {g : D → MS} (P : List D → Rho → Sto → Prop) (Q : RS → Prop) (hn : ∀ ρ O, P [] ρ O → Q (.nx ρ O))
    (hc : ∀ d ds ρ O, P (d :: ds) ρ O → match turnS g m d ρ O with
      | .nx ρ' O' => P ds ρ' O'
      | .bk ρ' O' => Q (.nx ρ' O')
      | r => Q r) : ∀ (ds : List D) (ρ : Rho) (O : Sto), P ds ρ O → Q (loopS g m ds ρ O)
  | [], ρ, O, h => hn ρ O h
  | d :: ds, ρ, O, h => by
    rw [loopS_cons]
    have q := hc d ds ρ O h
    cases z : turnS g m d ρ O with
    | nx ρ' O' => rw [z] at q; exact loopS_by P Q hn hc ds ρ' O' q
    | bk ρ' O' => rw [z] at q; exact q
    | ct ρ' O' => rw [z] at q; exact q
    | ret x O' => rw [z] at q; exact q
    | err c p ρ' O' => rw [z] at q; exact q
    | bad => rw [z] at q; exact q
/-- a loop that only goes on: the state is R of what is folded -/
theorem loopS_fold {σ : Type} {g : D → MS} (R : σ → Rho) (f : σ → D → σ) (ds : List D) (h : ∀ s d, d ∈ ds → turnS g m d (R s) O = .nx (R (f s d)) O) (s : σ) : loopS g m ds (R s) O = .nx (R (ds.foldl f s)) O := by
  induction ds generalizing s with
  | nil => rfl
  | cons d ds ih =>
    rw [loopS_cons, h s d List.mem_cons_self]
    exact ih (fun s x hx => h s x (List.mem_cons_of_mem _ hx)) (f s d)
/-- .. with something that holds throughout -/
theorem loopS_foldI {σ : Type} {g : D → MS} (R : σ → Rho) (f : σ → D → σ) (I : σ → Prop) : ∀ (ds : List D) (s : σ), (∀ s d, d ∈ ds → I s → turnS g m d (R s) O = .nx (R (f s d)) O ∧ I (f s d)) → I s → loopS g m ds (R s) O = .nx (R (ds.foldl f s)) O ∧ I (ds.foldl f s)
  | [], s, _, h => ⟨rfl, h⟩
  | d :: ds, s, h, hs => by
    obtain ⟨h1, h2⟩ := h s d List.mem_cons_self hs
    rw [loopS_cons, h1]
    exact loopS_foldI R f I ds (f s d) (fun s x hx => h s x (List.mem_cons_of_mem _ hx)) h2
/-- a comprehension without a test whose element is f of the item -/
theorem compL_map {vs : List Nat} {g : D → MS} {me : ME D} {ρ : Rho} (f : D → D) (ds : List D) : ∀ (acc : List D), (∀ d, d ∈ ds → ∃ ρ1, g d (bareR vs ρ) O = .nx ρ1 O ∧ me ρ1 O = .ok (f d) O) → acc.length + ds.length ≤ sizeLine → compL vs g (pureE true) me ds acc ρ O = .ok (acc ++ ds.map f) O := by
  induction ds with
  | nil => intro acc _ _; rw [List.map_nil, List.append_nil]; rfl
  | cons d ds ih =>
    intro acc h hl
    obtain ⟨ρ1, h1, h2⟩ := h d List.mem_cons_self
    rw [List.length_cons] at hl
    unfold compL
    rw [h1]
    show (match me ρ1 O with | .ok y O3 => if acc.length < sizeLine then compL vs g (pureE true) me ds (acc ++ [y]) ρ O3 else .bad | _ => .bad) = _
    rw [h2]
    dsimp only
    rw [if_pos (by omega), ih (acc ++ [f d]) (fun x hx => h x (List.mem_cons_of_mem _ hx)) (by rw [List.length_append, List.length_singleton]; omega), List.map_cons, List.append_assoc]
    rfl
end

/-! ### ints -/
abbrev dI (ns : List Int) : List D := ns.map .int
abbrev dN (ns : List Nat) : List D := ns.map fun (n : Nat) => D.int (n : Int)
theorem pys_ints : ∀ ns : List Int, D.pys (dI ns) = some (ns.map .int)
  | [] => rfl
  | n :: ns => by
    show (match D.py (.int n), D.pys (dI ns) with
      | some a, some r => some (a :: r)
      | _, _ => none) = _
    rw [pys_ints ns]
    rfl
theorem canLay_ints : ∀ ns : List Int, PyData.canLayAll0 (ns.map .int) = true
  | [] => by simp [PyData.canLayAll0]
  | n :: ns => by simp [PyData.canLayAll0, PyData.canLay0, canLay_ints ns]
theorem depth_ints : ∀ ns : List Int, PyData.depthAll (ns.map .int) = 0
  | [] => by simp [PyData.depthAll]
  | n :: ns => by simp [PyData.depthAll, PyData.depth, depth_ints ns]
theorem shaped_ints (ns : List Int) : SeqAt.shaped (.list (ns.map .int)) = true := by
  simp [SeqAt.shaped, PyData.canLay0, canLay_ints, PyData.depth, depth_ints]
theorem eqv_ints : ∀ ns ms : List Int, PyData.eqvAll (ns.map .int) (ms.map .int) = decide (ns = ms)
  | [], [] => by simp [PyData.eqvAll]
  | [], _ :: _ => by simp [PyData.eqvAll]
  | _ :: _, [] => by simp [PyData.eqvAll]
  | n :: ns, m :: ms => by
    simp only [List.map_cons, PyData.eqvAll, PyData.eqv, eqv_ints ns ms, List.cons.injEq]
    by_cases h : n = m <;> by_cases h2 : ns = ms <;> simp [h, h2]
/-- == of two lists of ints -/
theorem eqB_ints (ns ms : List Int) : eqB (.lst (dI ns)) (.lst (dI ms)) = some (decide (ns = ms)) := by
  unfold eqB
  simp only [D.py, pys_ints, Option.map_some]
  rw [if_pos ⟨shaped_ints ns, shaped_ints ms⟩]
  simp [PyData.eqv, eqv_ints]

theorem eqB_ii (i j : Int) : eqB (.int i) (.int j) = some (decide (i = j)) := rfl
theorem eqB_bb (i j : Bool) : eqB (.bl i) (.bl j) = some (decide (i = j)) := rfl
theorem eqB_ss (i j : Str) : eqB (.str i) (.str j) = some (decide (i = j)) := rfl
theorem eqB_nn : eqB .non .non = some true := rfl
/-- a loop that only goes on, by what holds behind i turns -/
theorem loopS_inv {m : MS} {g : D → MS} {O : Sto} (I : Nat → Rho → Prop) (ds : List D) (step : ∀ (i : Nat) (d : D) (ρ : Rho), ds[i]? = some d → I i ρ → ∃ ρ', turnS g m d ρ O = .nx ρ' O ∧ I (i + 1) ρ') {ρ : Rho} (h0 : I 0 ρ) : ∃ ρ', loopS g m ds ρ O = .nx ρ' O ∧ I ds.length ρ' := by
  induction ds generalizing I ρ with
  | nil => exact ⟨ρ, rfl, h0⟩
  | cons d ds ih =>
    obtain ⟨ρ1, h1, h2⟩ := step 0 d ρ rfl h0
    rw [loopS_cons, h1]
    exact ih (fun i => I (i + 1)) (fun i x ρ hx hi => step (i + 1) x ρ (by simpa using hx) hi) h2
/-- .. where a turn may hand back x or go on; x is given back only if A -/
theorem loopS_ret {m : MS} {g : D → MS} {O : Sto} (I : Nat → Rho → Prop) (x : SD) (A : Prop) (ds : List D) (step : ∀ (i : Nat) (d : D) (ρ : Rho), ds[i]? = some d → I i ρ → (∃ ρ', turnS g m d ρ O = .nx ρ' O ∧ I (i + 1) ρ') ∨ (turnS g m d ρ O = .ret x O ∧ A)) {ρ : Rho} (h0 : I 0 ρ) :
    (∃ ρ', loopS g m ds ρ O = .nx ρ' O ∧ I ds.length ρ') ∨ (loopS g m ds ρ O = .ret x O ∧ A) := by
  induction ds generalizing I ρ with
  | nil => exact .inl ⟨ρ, rfl, h0⟩
  | cons d ds ih =>
    rcases step 0 d ρ rfl h0 with ⟨ρ1, h1, h2⟩ | ⟨h1, h2⟩
    · rw [loopS_cons, h1]
      exact ih (fun i => I (i + 1)) (fun i x ρ hx hi => step (i + 1) x ρ (by simpa using hx) hi) h2
    · rw [loopS_cons, h1]
      exact .inr ⟨rfl, h2⟩
theorem range_get {n : Nat} {lo : Int} {i : Nat} {d : D} (h : ((List.range n).map fun (k : Nat) => D.int (lo + (k : Nat)))[i]? = some d) : i < n ∧ d = .int (lo + i) := by
  rw [List.getElem?_map] at h
  simp only [Option.map_eq_some_iff] at h
  obtain ⟨k, h1, rfl⟩ := h
  obtain ⟨h2, h3⟩ := List.getElem?_eq_some_iff.mp h1
  simp at h2 h3
  subst h3
  exact ⟨h2, rfl⟩
theorem ints_get {ns : List Int} {i : Nat} {d : D} (h : (dI ns)[i]? = some d) : ∃ (hi : i < ns.length), d = .int ns[i] := by
  rw [List.getElem?_map] at h
  simp only [Option.map_eq_some_iff] at h
  obtain ⟨k, h1, rfl⟩ := h
  obtain ⟨h2, h3⟩ := List.getElem?_eq_some_iff.mp h1
  exact ⟨h2, by rw [h3]⟩
theorem nats_get {ns : List Nat} {i : Nat} {d : D} (h : (dN ns)[i]? = some d) : ∃ (hi : i < ns.length), d = .int (ns[i] : Nat) := by
  rw [List.getElem?_map] at h
  simp only [Option.map_eq_some_iff] at h
  obtain ⟨k, h1, rfl⟩ := h
  obtain ⟨h2, h3⟩ := List.getElem?_eq_some_iff.mp h1
  exact ⟨h2, by rw [h3]⟩
theorem dN_dI (ns : List Nat) : dN ns = dI (ns.map Int.ofNat) := by
  unfold dN dI
  rw [List.map_map]
  rfl
theorem at_ints {ns : List Int} {k : Nat} (h : k < ns.length) : atI (dI ns) (k : Int) = some (.int ns[k]) := atI_nat (by rw [List.getElem?_map, List.getElem?_eq_getElem h]; rfl)
theorem cDivW_lit (i : Int) {j : Nat} (h : 0 < j) (h2 : j < 2 ^ 64 := by decide) : cDivW i (j : Int) = true := by
  unfold cDivW
  rw [decide_eq_true_eq]
  refine ⟨by omega, ?_⟩
  have e : ((j : Int)).natAbs = j := by omega
  rw [e]
  exact (Nat.log2_lt (by omega)).mpr (Nat.lt_of_lt_of_le h2 (Nat.pow_le_pow_right (by decide) (by decide)))
theorem cMod_pos (i : Int) {j : Int} (h : 0 < j) : cMod i j = true := decide_eq_true h
theorem cMul_right (i : Int) {j : Int} (h : j.natAbs < 2 ^ 64) : cMul i j = true := by
  unfold cMul
  rw [decide_eq_true h, Bool.or_true]
theorem cMul_left {i : Int} (j : Int) (h : i.natAbs < 2 ^ 64) : cMul i j = true := by
  unfold cMul
  rw [decide_eq_true h, Bool.true_or]
theorem cPow_ok' {i j : Int} (h0 : 0 ≤ j) (h1 : j ≤ 1000000) (h2 : i.natAbs < 2 ^ 64) : cPow i j = true := decide_eq_true ⟨h0, h1, h2⟩
theorem cShr_ok {i j : Int} (h : 0 ≤ j) : cShr i j = true := decide_eq_true h

/-! ### at a state -/
section
variable {α β : Type} (ρ : Rho) (O : Sto) (a b : MS) (i : Nat)
theorem seqS_ap : seqS a b ρ O = match a ρ O with
  | .nx ρ' O' => b ρ' O'
  | r => r := rfl
theorem bindS_ap (m : ME α) (f : α → MS) : bindS m f ρ O = match m ρ O with
  | .ok x O' => f x ρ O'
  | .err c p O' => .err c p ρ O'
  | .bad => .bad := rfl
theorem bindE_ap (m : ME α) (f : α → ME β) : bindE m f ρ O = match m ρ O with
  | .ok x O' => f x ρ O'
  | .err c p O' => .err c p O'
  | .bad => .bad := rfl
theorem pureE_ap (x : α) : pureE x ρ O = .ok x O := rfl
theorem badE_ap : badE (α := α) ρ O = .bad := rfl
theorem optE_some (x : α) : optE (some x) ρ O = .ok x O := rfl
theorem optE_none : optE (none : Option α) ρ O = .bad := rfl
theorem setS_ap (m : ME D) : setS i m ρ O = match m ρ O with
  | .ok d O' => .nx (ρ.set i (some (.shr d))) O'
  | .err c p O' => .err c p ρ O'
  | .bad => .bad := by unfold setS bindS; cases m ρ O <;> rfl
theorem newS_ap (m : ME Cell) : newS i m ρ O = match m ρ O with
  | .ok d O' => .nx (ρ.set i (some (.own d))) O'
  | .err c p O' => .err c p ρ O'
  | .bad => .bad := by unfold newS bindS; cases m ρ O <;> rfl
theorem exprS_ap (m : ME D) : exprS m ρ O = match m ρ O with
  | .ok _ O' => .nx ρ O'
  | .err c p O' => .err c p ρ O'
  | .bad => .bad := by unfold exprS bindS; cases m ρ O <;> rfl
theorem retS_ap (m : ME D) : retS m ρ O = match m ρ O with
  | .ok d O' => .ret (.shr d) O'
  | .err c p O' => .err c p ρ O'
  | .bad => .bad := by unfold retS bindS; cases m ρ O <;> rfl
theorem retN_ap (m : ME Cell) : retN m ρ O = match m ρ O with
  | .ok d O' => .ret (.own d) O'
  | .err c p O' => .err c p ρ O'
  | .bad => .bad := by unfold retN bindS; cases m ρ O <;> rfl
theorem retO_ap : retO i ρ O = match ρ[i]? with
  | some (some (.own c)) => .ret (.own c) O
  | _ => .bad := rfl
theorem retNon_ap : retNon ρ O = .ret (.shr .non) O := rfl
theorem skipS_ap : skipS ρ O = .nx ρ O := rfl
theorem badS_ap : badS ρ O = .bad := rfl
theorem brkS_ap : brkS ρ O = .bk ρ O := rfl
theorem forS_ap (it : ME (List D)) (g : D → MS) : forS it g a ρ O = match it ρ O with
  | .ok ds O' => loopS g a ds ρ O'
  | .err c p O' => .err c p ρ O'
  | .bad => .bad := by unfold forS bindS; cases it ρ O <;> rfl
theorem nameG_ap (d : D) : nameG i d ρ O = .nx (ρ.set i (some (.shr d))) O := rfl
theorem frzS_ap : frzS i ρ O = match ρ[i]? with
  | some (some (.own (.lst xs))) => .nx (ρ.set i (some (.shr (.lst xs)))) O
  | _ => .bad := rfl
theorem augS_ap (f : D → D → Option D) (m : ME D) : augS i f m ρ O = match ρ[i]? with
  | some (some (.shr d)) => (match m ρ O with
    | .ok y O' => (match f d y with
      | some z => .nx (ρ.set i (some (.shr z))) O'
      | none => .bad)
    | .err c p O' => .err c p ρ O'
    | .bad => .bad)
  | _ => .bad := by
  unfold augS bindS
  split
  · rename_i d h
    simp only [h]
    cases m ρ O <;> rfl
  · rename_i h
    first
      | rfl
      | (split
         · rename_i d h2
           exact absurd h2 (h d)
         · rfl)
theorem appS_ap (m : ME D) : appS' i m ρ O = if isLst ρ[i]? = true then (match m ρ O with
    | .ok d O' => (match ρ[i]? with
      | some (some (.own (.lst xs))) => if xs.length < sizeLine then .nx (ρ.set i (some (.own (.lst (xs ++ [d]))))) O' else .bad
      | _ => .bad)
    | .err c p O' => .err c p ρ O'
    | .bad => .bad) else .bad := by
  unfold appS' appS bindS
  split
  · cases m ρ O <;> rfl
  · rfl
theorem rdM_ap : rdM i ρ O = match ρ[i]? with
  | some (some (.shr d)) => .ok d O
  | _ => .bad := rfl
theorem rdZ_ap : rdZ i ρ O = match ρ[i]? with
  | some (some (.shr d)) => .ok d O
  | some (some (.own (.lst xs))) => .ok (.lst xs) O
  | some (some (.own (.dct es))) => .ok (.dct es) O
  | _ => .bad := rfl
theorem binM_ap (f : D → D → Option D) (m n : ME D) : binM f m n ρ O = match m ρ O with
  | .ok x O1 => (match n ρ O1 with
    | .ok y O2 => optE (f x y) ρ O2
    | .err c p O' => .err c p O'
    | .bad => .bad)
  | .err c p O' => .err c p O'
  | .bad => .bad := by
  unfold binM bindE
  cases m ρ O with
  | ok x O1 => dsimp only; cases n ρ O1 <;> rfl
  | err c p O' => rfl
  | bad => rfl
theorem un1_ap (f : D → Option D) (m : ME D) : un1 f m ρ O = match m ρ O with
  | .ok x O1 => optE (f x) ρ O1
  | .err c p O' => .err c p O'
  | .bad => .bad := by unfold un1 bindE; cases m ρ O <;> rfl
theorem boolM_ap (m : ME D) : boolM m ρ O = match m ρ O with
  | .ok (.bl b) O1 => .ok b O1
  | .ok _ _ => .bad
  | .err c p O' => .err c p O'
  | .bad => .bad := by
  unfold boolM bindE
  cases m ρ O with
  | ok d O1 => cases d <;> rfl
  | err c p O' => rfl
  | bad => rfl
theorem truM_ap (m : ME D) : truM m ρ O = match m ρ O with
  | .ok x O1 => optE (truD x) ρ O1
  | .err c p O' => .err c p O'
  | .bad => .bad := by unfold truM bindE; cases m ρ O <;> rfl
theorem notT_ap (t : ME Bool) : notT t ρ O = match t ρ O with
  | .ok b O' => .ok (!b) O'
  | .err c p O' => .err c p O'
  | .bad => .bad := by unfold notT bindE; cases t ρ O <;> rfl
theorem notV_ap (m : ME D) : notV m ρ O = match m ρ O with
  | .ok (.bl b) O1 => .ok (.bl (!b)) O1
  | .ok _ _ => .bad
  | .err c p O' => .err c p O'
  | .bad => .bad := by
  unfold notV bindE
  cases m ρ O with
  | ok d O1 => cases d <;> rfl
  | err c p O' => rfl
  | bad => rfl
theorem consA_ap (m : ME D) (n : ME (List D)) : consA m n ρ O = match m ρ O with
  | .ok d O1 => (match n ρ O1 with
    | .ok ds O2 => .ok (d :: ds) O2
    | .err c p O' => .err c p O'
    | .bad => .bad)
  | .err c p O' => .err c p O'
  | .bad => .bad := by first | rfl | (unfold consA bindE; cases m ρ O with
  | ok x O1 => dsimp only; cases n ρ O1 <;> rfl
  | err c p O' => rfl
  | bad => rfl)
theorem nilA_ap : nilA ρ O = .ok [] O := rfl
theorem lstM_ap (m : ME (List D)) : lstM m ρ O = match m ρ O with
  | .ok ds O1 => if ds.length ≤ sizeLine then .ok (.lst ds) O1 else .bad
  | .err c p O' => .err c p O'
  | .bad => .bad := by
  unfold lstM bindE
  cases m ρ O with
  | ok d O1 => dsimp only; split <;> rfl
  | err c p O' => rfl
  | bad => rfl
theorem tupM_ap (m : ME (List D)) : tupM m ρ O = match m ρ O with
  | .ok ds O1 => if ds.length ≤ sizeLine then .ok (.tup ds) O1 else .bad
  | .err c p O' => .err c p O'
  | .bad => .bad := by
  unfold tupM bindE
  cases m ρ O with
  | ok d O1 => dsimp only; split <;> rfl
  | err c p O' => rfl
  | bad => rfl
theorem dispL_ap (m : ME (List D)) : bindE m (fun ds => if ds.length ≤ sizeLine then pureE ds else badE) ρ O = match m ρ O with
  | .ok ds O1 => if ds.length ≤ sizeLine then .ok ds O1 else .bad
  | .err c p O' => .err c p O'
  | .bad => .bad := by
  unfold bindE
  cases m ρ O with
  | ok d O1 => dsimp only; split <;> rfl
  | err c p O' => rfl
  | bad => rfl
theorem callM_ap (f : List D → Option D) (m : ME (List D)) : callM f m ρ O = match m ρ O with
  | .ok ds O1 => optE (f ds) ρ O1
  | .err c p O' => .err c p O'
  | .bad => .bad := by unfold callM bindE; cases m ρ O <;> rfl
theorem callF_ap (f : MF) (dd : List D) (m : ME (List D)) : callF f dd m ρ O = match m ρ O with
  | .ok ds O1 => (match f (ds ++ dd) O1 with
    | .ok (.shr d) O' => .ok d O'
    | .ok (.own (.lst xs)) O' => .ok (.lst xs) O'
    | .err c p O' => .err c p O'
    | _ => .bad)
  | .err c p O' => .err c p O'
  | .bad => .bad := by unfold callF bindE; cases m ρ O <;> rfl
theorem callN_ap (f : MF) (dd : List D) (m : ME (List D)) : callN f dd m ρ O = match m ρ O with
  | .ok ds O1 => (match f (ds ++ dd) O1 with
    | .ok (.own c) O' => .ok c O'
    | .err c p O' => .err c p O'
    | _ => .bad)
  | .err c p O' => .err c p O'
  | .bad => .bad := by unfold callN bindE; cases m ρ O <;> rfl
theorem mapE_ap (f : α → β) (m : ME α) : mapE f m ρ O = match m ρ O with
  | .ok x O1 => .ok (f x) O1
  | .err c p O' => .err c p O'
  | .bad => .bad := by unfold mapE bindE; cases m ρ O <;> rfl
theorem thawM_ap (m : ME Cell) : thawM m ρ O = match m ρ O with
  | .ok (.lst xs) O1 => .ok (.lst xs) O1
  | .ok _ _ => .bad
  | .err c p O' => .err c p O'
  | .bad => .bad := by
  unfold thawM bindE
  cases m ρ O with
  | ok d O1 => cases d <;> rfl
  | err c p O' => rfl
  | bad => rfl
theorem partM_ap (m : ME D) : partM m ρ O = match m ρ O with
  | .ok (.int j) O1 => .ok (some j) O1
  | .ok _ _ => .bad
  | .err c p O' => .err c p O'
  | .bad => .bad := by
  unfold partM bindE
  cases m ρ O with
  | ok d O1 => cases d <;> rfl
  | err c p O' => rfl
  | bad => rfl
theorem noPart_ap : noPart ρ O = .ok none O := rfl
theorem slM_ap (m : ME D) (lo hi : ME (Option Int)) : slM m lo hi ρ O = match m ρ O with
  | .ok d O1 => (match lo ρ O1 with
    | .ok l O2 => (match hi ρ O2 with
      | .ok u O3 => optE (slD l u d) ρ O3
      | .err c p O' => .err c p O'
      | .bad => .bad)
    | .err c p O' => .err c p O'
    | .bad => .bad)
  | .err c p O' => .err c p O'
  | .bad => .bad := by
  unfold slM bindE
  cases m ρ O with
  | ok x O1 =>
    dsimp only
    cases lo ρ O1 with
    | ok l O2 => dsimp only; cases hi ρ O2 <;> rfl
    | err c p O' => rfl
    | bad => rfl
  | err c p O' => rfl
  | bad => rfl
theorem compM_ap (vs : List Nat) (mi : ME (List D)) (f : D → MS) (mt : ME Bool) (me : ME D) : compM vs mi f mt me ρ O = match mi ρ O with
  | .ok ds O1 => (match compL vs f mt me ds [] ρ O1 with
    | .ok ys O2 => .ok (.lst ys) O2
    | .err c p O' => .err c p O'
    | .bad => .bad)
  | .err c p O' => .err c p O'
  | .bad => .bad := by
  unfold compM bindE
  cases mi ρ O with
  | ok x O1 => dsimp only; cases compL vs f mt me x [] ρ O1 <;> rfl
  | err c p O' => rfl
  | bad => rfl
theorem turnS_ap (g : D → MS) (d : D) : turnS g a d ρ O = match g d ρ O with
  | .nx ρ1 O1 => (match a ρ1 O1 with
    | .ct ρ2 O2 => .nx ρ2 O2
    | r => r)
  | _ => .bad := rfl
theorem runF_ap (n : Nat) (ds : List D) : runF n a ds O = match a (ds.map (fun d => some (.shr d)) ++ List.replicate (n - ds.length) none) O with
  | .nx _ O' => .ok (.shr .non) O'
  | .ret x O' => .ok x O'
  | .err c p _ O' => .err c p O'
  | _ => .bad := rfl
end
theorem sizeLine_v : sizeLine = 16777216 := sizeLine_eq
end DL

set_option Elab.async false
set_option linter.all false
set_option maxRecDepth 100000
namespace Gen
open PySem L2 DL
def top (i : Nat) : Stmt := PySem.Challenge.pw_formkeeper_k35_sums_of_octets.main.body.getD i (.Pass ⟨0, 0, 0, 0⟩)
abbrev s_L_cell : Stmt := top 6
abbrev s_L_integer : Stmt := top 8
abbrev s_L_row : Stmt := top 7
abbrev s_L_sum : Stmt := top 10
abbrev s_sum_of : Stmt := top 4
abbrev s_law : Stmt := top 12
structure Txt (K : PySem.W.Frag) (mg : Mg) : Prop where
  b_abs : mg "abs" = none
  b_bool : mg "bool" = none
  b_int : mg "int" = none
  b_isinstance : mg "isinstance" = none
  b_len : mg "len" = none
  b_list : mg "list" = none
  b_max : mg "max" = none
  b_range : mg "range" = none
  c_ALL_BITS : ∃ t, mg "ALL_BITS" = some (.int 4294967295 t)
  c_POLYNOMIAL : ∃ t, mg "POLYNOMIAL" = some (.int 79764919 t)
  c_TOP : ∃ t, mg "TOP" = some (.int 2147483648 t)
/-! cell -/
/- slots: 0 ~script, 1 ~k -/
def m_L_cell : MS :=
 (seqS (ifS (boolM (binM ltD (rdM 1) (callM lenD (consA (rdM 0) nilA))))
 (retS (callM intF (consA (binM ixD (rdM 0) (rdM 1)) nilA)))
 skipS)
 (retS (cM (.int 0))))
def f_L_cell : MF := runF 2 m_L_cell
theorem sc_L_cell : FnScope ["_law_script", "_law_k"] ["_law_script", "_law_k"] (defScope s_L_cell) := ⟨rfl, rfl, rfl, by decide +kernel, rfl, by decide +kernel, by decide +kernel⟩
theorem b_L_cell {P : Program} {w : World} {K : PySem.W.Frag} {mg : Mg} {base : Heap} (T : Txt K mg)  : Bod P w K mg base "_law_cell" s_L_cell ["_law_script", "_law_k"] 0 m_L_cell := by
  intro f cdv A outer s H E hr
  have hu := hr.units
  have tk : Takes (cxOf (L2.CX P w) P w K mg base ["_law_script", "_law_k"] "_law_cell" (defScope s_L_cell) f cdv A outer s H E) (fun cls d _ H => E cls d H) := takes_of rfl rfl rfl rfl
  exact (eb_cons (es_if (et_lt (EX.z (ex_var 1)) (EX.z (ex_len T.b_len (eaz_cons (EX.z (ex_var 0)) eaz_nil)))) (eb_one (es_ret (ex_intc T.b_int (eaz_cons (EX.z (ex_ix (EX.z (ex_var 0)) (EX.z (ex_var 1)))) eaz_nil)))) eb_nil)
 (eb_one (es_ret ex_int)))
/-! integer -/
/- slots: 0 ~value -/
def m_L_integer : MS :=
 (retS (andV (un1 (isiD "int") (rdM 0)) (notV (un1 (isiD "bool") (rdM 0)))))
def f_L_integer : MF := runF 1 m_L_integer
theorem sc_L_integer : FnScope ["_law_value"] ["_law_value"] (defScope s_L_integer) := ⟨rfl, rfl, rfl, by decide +kernel, rfl, by decide +kernel, by decide +kernel⟩
theorem b_L_integer {P : Program} {w : World} {K : PySem.W.Frag} {mg : Mg} {base : Heap} (T : Txt K mg)  : Bod P w K mg base "_law_integer" s_L_integer ["_law_value"] 0 m_L_integer := by
  intro f cdv A outer s H E hr
  have hu := hr.units
  have tk : Takes (cxOf (L2.CX P w) P w K mg base ["_law_value"] "_law_integer" (defScope s_L_integer) f cdv A outer s H E) (fun cls d _ H => E cls d H) := takes_of rfl rfl rfl rfl
  exact (eb_one (es_ret (ex_and' (ex_isi T.b_isinstance T.b_int (by decide +kernel) (EX.z (ex_var 0))) (ex_one (ex_not' (ex_isi T.b_isinstance T.b_bool (by decide +kernel) (EX.z (ex_var 0))))))))
/-! row -/
/- slots: 0 ~cell_here, 1 ~count, 2 ~bound, 3 ~rest, 4 ~mixed, 5 ~row_here, 6 ~k -/
def l_L_row_1 : MS :=
 (ifS (boolM (binM geD (rdM 3) (rdM 2)))
 (seqS (appS' 5 (binM modD (callM intF (consA (rdM 3) nilA)) (rdM 2)))
 (setS 3 (binM fdivD (rdM 3) (rdM 2))))
 (seqS (setS 4 (binM modD (callM intF (consA (binM addD (binM addD (binM mulD (rdM 4) (cM (.int 48271))) (binM mulD (cM (.int 11)) (rdM 6))) (cM (.int 7))) nilA)) (cM (.int 2147483647))))
 (appS' 5 (binM modD (callM intF (consA (binM fdivD (binM mulD (rdM 4) (cM (.int 2862933555777941757))) (cM (.int 1024))) nilA)) (rdM 2)))))
def m_L_row : MS :=
 (seqS (setS 3 (callM absF (consA (callM intF (consA (rdM 0) nilA)) nilA)))
 (seqS (setS 4 (binM addD (binM modD (callM intF (consA (rdM 0) nilA)) (cM (.int 1000003))) (cM (.int 1))))
 (seqS (newS 5 (mapE .lst (bindE nilA fun ds => if ds.length ≤ sizeLine then pureE ds else badE)))
 (seqS (forS (rngM (consA (rdM 1) nilA)) (nameG 6)
 l_L_row_1)
 (retO 5)))))
def f_L_row : MF := runF 7 m_L_row
theorem sc_L_row : FnScope ["_law_cell_here", "_law_count", "_law_bound", "_law_rest", "_law_mixed", "_law_row_here", "_law_k"] ["_law_cell_here", "_law_count", "_law_bound"] (defScope s_L_row) := ⟨rfl, rfl, rfl, by decide +kernel, rfl, by decide +kernel, by decide +kernel⟩
theorem b_L_row {P : Program} {w : World} {K : PySem.W.Frag} {mg : Mg} {base : Heap} (T : Txt K mg)  : Bod P w K mg base "_law_row" s_L_row ["_law_cell_here", "_law_count", "_law_bound", "_law_rest", "_law_mixed", "_law_row_here", "_law_k"] 0 m_L_row := by
  intro f cdv A outer s H E hr
  have hu := hr.units
  have tk : Takes (cxOf (L2.CX P w) P w K mg base ["_law_cell_here", "_law_count", "_law_bound", "_law_rest", "_law_mixed", "_law_row_here", "_law_k"] "_law_row" (defScope s_L_row) f cdv A outer s H E) (fun cls d _ H => E cls d H) := takes_of rfl rfl rfl rfl
  exact (eb_cons (es_set 3 (ex_abs T.b_abs (eaz_cons (EX.z (ex_intc T.b_int (eaz_cons (EX.z (ex_var 0)) eaz_nil))) eaz_nil)) sc_L_row.nd)
 (eb_cons (es_set 4 (ex_add (EX.z (ex_mod (EX.z (ex_intc T.b_int (eaz_cons (EX.z (ex_var 0)) eaz_nil))) (EX.z ex_int))) (EX.z ex_int)) sc_L_row.nd)
 (eb_cons (es_new 5 (EL.n (el_disp ea_nil)) sc_L_row.nd)
 (eb_cons (es_for (passes_of rfl) rfl (ei_range1 T.b_range (eaz_cons (EX.z (ex_var 1)) eaz_nil) (lenA_cons lenA_nil)) (eg_name 6 sc_L_row.nd) (eb_one (es_if (et_ge (EX.z (ex_var 3)) (EX.z (ex_var 2))) (eb_cons (es_app 5 (ex_mod (EX.z (ex_intc T.b_int (eaz_cons (EX.z (ex_var 3)) eaz_nil))) (EX.z (ex_var 2))))
 (eb_one (es_set 3 (ex_fdiv (EX.z (ex_var 3)) (EX.z (ex_var 2))) sc_L_row.nd))) (eb_cons (es_set 4 (ex_mod (EX.z (ex_intc T.b_int (eaz_cons (EX.z (ex_add (EX.z (ex_add (EX.z (ex_mul (EX.z (ex_var 4)) (EX.z ex_int))) (EX.z (ex_mul (EX.z ex_int) (EX.z (ex_var 6)))))) (EX.z ex_int))) eaz_nil))) (EX.z ex_int)) sc_L_row.nd)
 (eb_one (es_app 5 (ex_mod (EX.z (ex_intc T.b_int (eaz_cons (EX.z (ex_fdiv (EX.z (ex_mul (EX.z (ex_var 4)) (EX.z ex_int))) (EX.z ex_int))) eaz_nil))) (EX.z (ex_var 2)))))))))
 (eb_one (es_retO 5))))))
/-! sum -/
/- slots: 0 ~octets_here, 1 ~total, 2 ~octet, 3 ~k -/
def l_L_sum_1 : MS :=
 (seqS (setS 1 (binM mulD (rdM 1) (cM (.int 2))))
 (ifS (boolM (binM geD (rdM 1) (cM (.int 4294967296))))
 (setS 1 (binM xorD (binM subD (rdM 1) (cM (.int 4294967296))) (cM (.int 79764919))))
 skipS))
def l_L_sum_2 : MS :=
 (seqS (setS 1 (binM xorD (rdM 1) (binM shlD (rdM 2) (cM (.int 24)))))
 (forS (rngM (consA (cM (.int 8)) nilA)) (nameG 3)
 l_L_sum_1))
def m_L_sum : MS :=
 (seqS (setS 1 (cM (.int 0)))
 (seqS (forS (itM (rdM 0)) (nameG 2)
 l_L_sum_2)
 (retS (rdM 1))))
def f_L_sum : MF := runF 4 m_L_sum
theorem sc_L_sum : FnScope ["_law_octets_here", "_law_total", "_law_octet", "_law_k"] ["_law_octets_here"] (defScope s_L_sum) := ⟨rfl, rfl, rfl, by decide +kernel, rfl, by decide +kernel, by decide +kernel⟩
theorem b_L_sum {P : Program} {w : World} {K : PySem.W.Frag} {mg : Mg} {base : Heap} (T : Txt K mg)  : Bod P w K mg base "_law_sum" s_L_sum ["_law_octets_here", "_law_total", "_law_octet", "_law_k"] 0 m_L_sum := by
  intro f cdv A outer s H E hr
  have hu := hr.units
  have tk : Takes (cxOf (L2.CX P w) P w K mg base ["_law_octets_here", "_law_total", "_law_octet", "_law_k"] "_law_sum" (defScope s_L_sum) f cdv A outer s H E) (fun cls d _ H => E cls d H) := takes_of rfl rfl rfl rfl
  exact (eb_cons (es_set 1 ex_int sc_L_sum.nd)
 (eb_cons (es_for (passes_of rfl) rfl (ei_any (ex_var 0)) (eg_name 2 sc_L_sum.nd) (eb_cons (es_set 1 (ex_xor (EX.z (ex_var 1)) (EX.z (ex_shl (EX.z (ex_var 2)) (EX.z ex_int)))) sc_L_sum.nd)
 (eb_one (es_for (passes_of rfl) rfl (ei_range1 T.b_range (eaz_cons (EX.z ex_int) eaz_nil) (lenA_cons lenA_nil)) (eg_name 3 sc_L_sum.nd) (eb_cons (es_set 1 (ex_mul (EX.z (ex_var 1)) (EX.z ex_int)) sc_L_sum.nd)
 (eb_one (es_if (et_ge (EX.z (ex_var 1)) (EX.z ex_int)) (eb_one (es_set 1 (ex_xor (EX.z (ex_sub (EX.z (ex_var 1)) (EX.z ex_int))) (EX.z ex_int)) sc_L_sum.nd)) eb_nil)))))))
 (eb_one (es_ret (ex_var 1)))))
/-! sum_of -/
/- slots: 0 octets, 1 total, 2 octet, 3 _, 4 is_out -/
def l_sum_of_1 : MS :=
 (seqS (setS 4 (binM geD (rdM 1) (cM (.int 2147483648))))
 (seqS (setS 1 (binM andD (binM shlD (rdM 1) (cM (.int 1))) (cM (.int 4294967295))))
 (ifS (truM (rdM 4))
 (augS 1 xorD (cM (.int 79764919)))
 skipS)))
def l_sum_of_2 : MS :=
 (seqS (augS 1 xorD (binM shlD (rdM 2) (cM (.int 24))))
 (forS (rngM (consA (cM (.int 8)) nilA)) (nameG 3)
 l_sum_of_1))
def m_sum_of : MS :=
 (seqS (setS 1 (cM (.int 0)))
 (seqS (forS (itM (rdM 0)) (nameG 2)
 l_sum_of_2)
 (retS (rdM 1))))
def f_sum_of : MF := runF 5 m_sum_of
theorem sc_sum_of : FnScope ["octets", "total", "octet", "_", "is_out"] ["octets"] (defScope s_sum_of) := ⟨rfl, rfl, rfl, by decide +kernel, rfl, by decide +kernel, by decide +kernel⟩
theorem b_sum_of {P : Program} {w : World} {K : PySem.W.Frag} {mg : Mg} {base : Heap} (T : Txt K mg)  : Bod P w K mg base "sum_of" s_sum_of ["octets", "total", "octet", "_", "is_out"] 0 m_sum_of := by
  intro f cdv A outer s H E hr
  have hu := hr.units
  have tk : Takes (cxOf (L2.CX P w) P w K mg base ["octets", "total", "octet", "_", "is_out"] "sum_of" (defScope s_sum_of) f cdv A outer s H E) (fun cls d _ H => E cls d H) := takes_of rfl rfl rfl rfl
  exact (eb_cons (es_set 1 ex_int sc_sum_of.nd)
 (eb_cons (es_for (passes_of rfl) rfl (ei_any (ex_var 0)) (eg_name 2 sc_sum_of.nd) (eb_cons (es_augXor 1 (EX.z (ex_shl (EX.z (ex_var 2)) (EX.z ex_int))) sc_sum_of.nd)
 (eb_one (es_for (passes_of rfl) rfl (ei_range1 T.b_range (eaz_cons (EX.z ex_int) eaz_nil) (lenA_cons lenA_nil)) (eg_name 3 sc_sum_of.nd) (eb_cons (es_set 4 (ex_ge (EX.z (ex_var 1)) (EX.z (ex_gint' T.c_TOP))) sc_sum_of.nd)
 (eb_cons (es_set 1 (ex_and (EX.z (ex_shl (EX.z (ex_var 1)) (EX.z ex_int))) (EX.z (ex_gint' T.c_ALL_BITS))) sc_sum_of.nd)
 (eb_one (es_if (et_tru (EX.z (ex_var 4))) (eb_one (es_augXor 1 (EX.z (ex_gint' T.c_POLYNOMIAL)) sc_sum_of.nd)) eb_nil))))))))
 (eb_one (es_ret (ex_var 1)))))
/-! law -/
/- slots: 0 ~script, 1 ~first, 2 ~octets_here, 3 ~given, 4 ~told, 5 ~burst, 6 ~at, 7 ~whole, 8 ~octet, 9 ~size, 10 ~shift, 11 ~changed, 12 ~others, 13 ~k -/
def l_law_1 : MS :=
 (setS 7 (binM addD (binM mulD (rdM 7) (cM (.int 256))) (rdM 8)))
def k_law_1 : MS :=
 (seqS (setS 11 (binM xorD (rdM 7) (binM modD (binM shlD (rdM 5) (rdM 10)) (binM shlD (cM (.int 1)) (binM mulD (cM (.int 8)) (callM lenD (consA (rdM 2) nilA)))))))
 (seqS (newS 12 (compM [13] (rngM (consA (callM lenD (consA (rdM 2) nilA)) nilA)) (nameG 13) (pureE true) (binM modD (binM fdivD (rdM 11) (binM shlD (cM (.int 1)) (binM mulD (cM (.int 8)) (binM subD (binM subD (callM lenD (consA (rdM 2) nilA)) (cM (.int 1))) (rdM 13))))) (cM (.int 256)))))
 (seqS (frzS 12) (seqS (ifS (boolM (binM eqD (rdM 12) (rdM 2)))
 (retS (binM eqD (callF f_sum_of [] (consA (rdM 12) nilA)) (rdM 4)))
 skipS)
 (retS (andV (binM neD (callF f_sum_of [] (consA (rdM 12) nilA)) (rdM 4)) (binM eqD (callF f_sum_of [] (consA (rdM 12) nilA)) (callF f_L_sum [] (consA (rdM 12) nilA)))))))))
def k_law_2 : MS :=
 (seqS (setS 6 (binM modD (callF f_L_cell [] (consA (rdM 0) (consA (cM (.int 3)) nilA))) (binM mulD (cM (.int 8)) (callM lenD (consA (rdM 2) nilA)))))
 (seqS (setS 7 (cM (.int 0)))
 (seqS (forS (itM (rdM 2)) (nameG 8)
 l_law_1)
 (seqS (setS 9 (un1 bitLen (rdM 5)))
 (seqS (setS 10 (callM max2F (consA (cM (.int 0)) (consA (binM subD (binM subD (binM mulD (cM (.int 8)) (callM lenD (consA (rdM 2) nilA))) (rdM 6)) (rdM 9)) nilA))))
 k_law_1)))))
def k_law_3 : MS :=
 (seqS (setS 3 (mapE .lst (bindE (consA (rdM 2) nilA) fun ds => optE (listL ds))))
 (seqS (setS 4 (callF f_sum_of [] (consA (rdM 3) nilA)))
 (seqS (ifS (orT (notT (truM (callF f_L_integer [] (consA (rdM 4) nilA)))) (orT (boolM (binM neD (rdM 4) (callF f_L_sum [] (consA (rdM 2) nilA)))) (boolM (binM neD (rdM 3) (rdM 2)))))
 (retS (cM (.bl false)))
 skipS)
 (seqS (ifS (boolM (binM eqD (rdM 2) (lstM nilA)))
 (retS (binM eqD (rdM 4) (cM (.int 0))))
 skipS)
 (seqS (setS 5 (binM addD (cM (.int 1)) (binM modD (callF f_L_cell [] (consA (rdM 0) (consA (cM (.int 2)) nilA))) (cM (.int 4294967295)))))
 k_law_2)))))
def m_law : MS :=
 (seqS (setS 1 (callF f_L_cell [] (consA (rdM 0) (consA (cM (.int 0)) nilA))))
 (seqS (setS 2 (callF f_L_row [] (consA (callF f_L_cell [] (consA (rdM 0) (consA (cM (.int 1)) nilA))) (consA (binM modD (rdM 1) (cM (.int 61))) (consA (cM (.int 256)) nilA)))))
 k_law_3))
def f_law : MF := runF 14 m_law
theorem sc_law : FnScope ["_law_script", "_law_first", "_law_octets_here", "_law_given", "_law_told", "_law_burst", "_law_at", "_law_whole", "_law_octet", "_law_size", "_law_shift", "_law_changed", "_law_others", "_law_k"] ["_law_script"] (defScope s_law) := ⟨rfl, rfl, rfl, by decide +kernel, rfl, by decide +kernel, by decide +kernel⟩
theorem b_law {P : Program} {w : World} {K : PySem.W.Frag} {mg : Mg} {base : Heap} (T : Txt K mg) (C_L_cell : Cal P w K mg base 1 "_law_cell" 2 f_L_cell) (C_L_integer : Cal P w K mg base 1 "_law_integer" 1 f_L_integer) (C_L_row : Cal P w K mg base 1 "_law_row" 3 f_L_row) (C_L_sum : Cal P w K mg base 1 "_law_sum" 1 f_L_sum) (C_sum_of : Cal P w K mg base 1 "sum_of" 1 f_sum_of) : Bod P w K mg base "law" s_law ["_law_script", "_law_first", "_law_octets_here", "_law_given", "_law_told", "_law_burst", "_law_at", "_law_whole", "_law_octet", "_law_size", "_law_shift", "_law_changed", "_law_others", "_law_k"] 1 m_law := by
  intro f cdv A outer s H E hr
  have hu := hr.units
  have tk : Takes (cxOf (L2.CX P w) P w K mg base ["_law_script", "_law_first", "_law_octets_here", "_law_given", "_law_told", "_law_burst", "_law_at", "_law_whole", "_law_octet", "_law_size", "_law_shift", "_law_changed", "_law_others", "_law_k"] "law" (defScope s_law) f cdv A outer s H E) (fun cls d _ H => E cls d H) := takes_of rfl rfl rfl rfl
  exact (eb_cons (es_set 1 (ex_cal tk C_L_cell hr (ea_cons (ex_var 0) (ea_cons ex_int ea_nil)) (lenA_cons (lenA_cons lenA_nil))) sc_law.nd)
 (eb_cons (es_set 2 (ex_cal tk C_L_row hr (ea_cons (ex_cal tk C_L_cell hr (ea_cons (ex_var 0) (ea_cons ex_int ea_nil)) (lenA_cons (lenA_cons lenA_nil))) (ea_cons (ex_mod (EX.z (ex_var 1)) (EX.z ex_int)) (ea_cons ex_int ea_nil))) (lenA_cons (lenA_cons (lenA_cons lenA_nil)))) sc_law.nd)
 (eb_cons (es_set 3 (EL.x (el_list T.b_list (eaz_cons (EX.z (ex_var 2)) eaz_nil))) sc_law.nd)
 (eb_cons (es_set 4 (ex_cal tk C_sum_of hr (ea_cons (ex_var 3) ea_nil) (lenA_cons lenA_nil)) sc_law.nd)
 (eb_cons (es_if (EW.t (ew_or (et_not (et_tru (EX.z (ex_cal tk C_L_integer hr (ea_cons (ex_var 4) ea_nil) (lenA_cons lenA_nil))))) (ew_or (et_ne hu (EX.z (ex_var 4)) (EX.z (ex_cal tk C_L_sum hr (ea_cons (ex_var 2) ea_nil) (lenA_cons lenA_nil)))) (ew_or1 (et_ne hu (EX.z (ex_var 3)) (EX.z (ex_var 2))))))) (eb_one (es_ret ex_bl)) eb_nil)
 (eb_cons (es_if (et_eq hu (EX.z (ex_var 2)) (EX.z (ex_lst ea_nil))) (eb_one (es_ret (ex_eq hu (EX.z (ex_var 4)) (EX.z ex_int)))) eb_nil)
 (eb_cons (es_set 5 (ex_add (EX.z ex_int) (EX.z (ex_mod (EX.z (ex_cal tk C_L_cell hr (ea_cons (ex_var 0) (ea_cons ex_int ea_nil)) (lenA_cons (lenA_cons lenA_nil)))) (EX.z ex_int)))) sc_law.nd)
 (eb_cons (es_set 6 (ex_mod (EX.z (ex_cal tk C_L_cell hr (ea_cons (ex_var 0) (ea_cons ex_int ea_nil)) (lenA_cons (lenA_cons lenA_nil)))) (EX.z (ex_mul (EX.z ex_int) (EX.z (ex_len T.b_len (eaz_cons (EX.z (ex_var 2)) eaz_nil)))))) sc_law.nd)
 (eb_cons (es_set 7 ex_int sc_law.nd)
 (eb_cons (es_for (passes_of rfl) rfl (ei_any (ex_var 2)) (eg_name 8 sc_law.nd) (eb_one (es_set 7 (ex_add (EX.z (ex_mul (EX.z (ex_var 7)) (EX.z ex_int))) (EX.z (ex_var 8))) sc_law.nd)))
 (eb_cons (es_set 9 (ex_bits (EX.z (ex_var 5))) sc_law.nd)
 (eb_cons (es_set 10 (ex_max2 T.b_max rfl (eaz_cons (EX.z ex_int) (eaz_cons (EX.z (ex_sub (EX.z (ex_sub (EX.z (ex_mul (EX.z ex_int) (EX.z (ex_len T.b_len (eaz_cons (EX.z (ex_var 2)) eaz_nil))))) (EX.z (ex_var 6)))) (EX.z (ex_var 9)))) eaz_nil))) sc_law.nd)
 (eb_cons (es_set 11 (ex_xor (EX.z (ex_var 7)) (EX.z (ex_mod (EX.z (ex_shl (EX.z (ex_var 5)) (EX.z (ex_var 10)))) (EX.z (ex_shl (EX.z ex_int) (EX.z (ex_mul (EX.z ex_int) (EX.z (ex_len T.b_len (eaz_cons (EX.z (ex_var 2)) eaz_nil)))))))))) sc_law.nd)
 (eb_cons (es_newLc (own := [("_law_k", 13)]) 12 rfl sc_law.nd (ei_range1 T.b_range (eaz_cons (EX.z (ex_len T.b_len (eaz_cons (EX.z (ex_var 2)) eaz_nil))) eaz_nil) (lenA_cons lenA_nil)) (blkOk_by (own := [("_law_k", 13)]) (N := ["_law_script", "_law_first", "_law_octets_here", "_law_given", "_law_told", "_law_burst", "_law_at", "_law_whole", "_law_octet", "_law_size", "_law_shift", "_law_changed", "_law_others", "_law_k"]) (sc := defScope s_law) (by decide +kernel)) (fun _ _ _ _ _ => pg_name (i := 13) sc_law.nd rfl (Or.inl rfl)) (evgw_name 13) (fun _ _ _ _ _ => ets_nil) (fun _ _ _ _ _ => (ex_mod (EX.z (ex_fdiv (EX.z (ex_var 11)) (EX.z (ex_shl (EX.z ex_int) (EX.z (ex_mul (EX.z ex_int) (EX.z (ex_sub (EX.z (ex_sub (EX.z (ex_len T.b_len (eaz_cons (EX.z (ex_var 2)) eaz_nil))) (EX.z ex_int))) (EX.z (ex_var 13)))))))))) (EX.z ex_int))))
 (eb_frz 12 (eb_cons (es_if (et_eq hu (EX.z (ex_var 12)) (EX.z (ex_var 2))) (eb_one (es_ret (ex_eq hu (EX.z (ex_cal tk C_sum_of hr (ea_cons (ex_var 12) ea_nil) (lenA_cons lenA_nil))) (EX.z (ex_var 4))))) eb_nil)
 (eb_one (es_ret (ex_and' (ex_ne hu (EX.z (ex_cal tk C_sum_of hr (ea_cons (ex_var 12) ea_nil) (lenA_cons lenA_nil))) (EX.z (ex_var 4))) (ex_one (ex_eq hu (EX.z (ex_cal tk C_sum_of hr (ea_cons (ex_var 12) ea_nil) (lenA_cons lenA_nil))) (EX.z (ex_cal tk C_L_sum hr (ea_cons (ex_var 12) ea_nil) (lenA_cons lenA_nil))))))))))))))))))))))))
end Gen

set_option linter.all false
namespace My
/-! the mathematics of the sums -/
def POLY : Nat := 79764919
def stepN (t : Nat) : Nat := (2 * t % 2 ^ 32) ^^^ (t / 2 ^ 31 * POLY)
def iter (n : Nat) (t : Nat) : Nat := match n with
  | 0 => t
  | n + 1 => stepN (iter n t)
def octN (t o : Nat) : Nat := iter 8 (t ^^^ (o * 2 ^ 24))
def sumN (os : List Nat) : Nat := os.foldl octN 0
theorem top_bit {t : Nat} (h : t < 2 ^ 32) : t / 2 ^ 31 = 0 ∨ t / 2 ^ 31 = 1 := by omega
theorem step_lt (t : Nat) (h : t < 2 ^ 32) : stepN t < 2 ^ 32 := by
  unfold stepN
  apply Nat.xor_lt_two_pow
  · omega
  · unfold POLY
    rcases top_bit h with e | e <;> rw [e] <;> decide
theorem step_low {t : Nat} (h : t < 2 ^ 31) : stepN t = 2 * t := by
  unfold stepN
  have e : t / 2 ^ 31 = 0 := by omega
  rw [e, Nat.zero_mul, Nat.xor_zero]
  omega
theorem step_zero {t : Nat} (h : t < 2 ^ 32) (e : stepN t = 0) : t = 0 := by
  unfold stepN at e
  rcases top_bit h with e1 | e1
  · rw [e1, Nat.zero_mul, Nat.xor_zero] at e
    omega
  · rw [e1, Nat.one_mul] at e
    have e2 : 2 * t % 2 ^ 32 = POLY := by
      have := congrArg (· ^^^ POLY) e
      simpa [Nat.xor_assoc] using this
    unfold POLY at e2
    omega
theorem mul_bit {x y : Nat} (hx : x = 0 ∨ x = 1) (hy : y = 0 ∨ y = 1) : (x ^^^ y) * POLY = (x * POLY) ^^^ (y * POLY) := by
  rcases hx with rfl | rfl <;> rcases hy with rfl | rfl <;> decide
theorem step_xor {a b : Nat} (ha : a < 2 ^ 32) (hb : b < 2 ^ 32) : stepN (a ^^^ b) = stepN a ^^^ stepN b := by
  unfold stepN
  have e1 : 2 * (a ^^^ b) % 2 ^ 32 = (2 * a % 2 ^ 32) ^^^ (2 * b % 2 ^ 32) := by
    rw [← Nat.xor_mod_two_pow]
    congr 1
    have := Nat.shiftLeft_xor_distrib (a := a) (b := b) (i := 1)
    simp only [Nat.shiftLeft_eq, Nat.pow_one] at this
    rw [Nat.mul_comm, this, Nat.mul_comm 2 a, Nat.mul_comm 2 b]
  have e2 : (a ^^^ b) / 2 ^ 31 = (a / 2 ^ 31) ^^^ (b / 2 ^ 31) := by
    have := Nat.shiftRight_xor_distrib (a := a) (b := b) (i := 31)
    simpa only [Nat.shiftRight_eq_div_pow] using this
  rw [e1, e2, mul_bit (top_bit ha) (top_bit hb)]
  ac_rfl
theorem xor_lt {a b : Nat} (ha : a < 2 ^ 32) (hb : b < 2 ^ 32) : a ^^^ b < 2 ^ 32 := Nat.xor_lt_two_pow ha hb
theorem iter_lt (n : Nat) {t : Nat} (h : t < 2 ^ 32) : iter n t < 2 ^ 32 := by
  induction n with
  | zero => exact h
  | succ n ih => exact step_lt _ ih
theorem iter_xor (n : Nat) {a b : Nat} (ha : a < 2 ^ 32) (hb : b < 2 ^ 32) : iter n (a ^^^ b) = iter n a ^^^ iter n b := by
  induction n with
  | zero => rfl
  | succ n ih => show stepN _ = _; rw [ih, step_xor (iter_lt n ha) (iter_lt n hb)]; rfl
theorem iter_zero {n t : Nat} (h : t < 2 ^ 32) (e : iter n t = 0) : t = 0 := by
  induction n with
  | zero => exact e
  | succ n ih => exact ih (step_zero (iter_lt n h) e)
theorem iter_low : ∀ (n : Nat) {t : Nat}, t * 2 ^ n < 2 ^ 32 → iter n t = t * 2 ^ n
  | 0, t, _ => by simp [iter]
  | n + 1, t, h => by
    have h1 : t * 2 ^ n < 2 ^ 31 := by rw [Nat.pow_succ, ← Nat.mul_assoc] at h; omega
    show stepN (iter n t) = _
    rw [iter_low n (by omega), step_low h1, Nat.pow_succ, Nat.mul_comm 2, Nat.mul_assoc]
/-- bit by bit -/
def feed : Nat → Nat → Nat → Nat
  | 0, _, t => t
  | m + 1, W, t => stepN (feed m (W / 2) t ^^^ (W % 2 * 2 ^ 31))
theorem bit_lt (W : Nat) : W % 2 * 2 ^ 31 < 2 ^ 32 := by omega
theorem feed_lt : ∀ (m W : Nat) {t : Nat}, t < 2 ^ 32 → feed m W t < 2 ^ 32
  | 0, _, _, h => h
  | m + 1, W, _, h => step_lt _ (xor_lt (feed_lt m (W / 2) h) (bit_lt W))
theorem half_xor (a b : Nat) : (a ^^^ b) / 2 = a / 2 ^^^ b / 2 := by
  have := Nat.shiftRight_xor_distrib (a := a) (b := b) (i := 1)
  simpa only [Nat.shiftRight_eq_div_pow, Nat.pow_one] using this
theorem bit_xor (a b : Nat) : (a ^^^ b) % 2 * 2 ^ 31 = (a % 2 * 2 ^ 31) ^^^ (b % 2 * 2 ^ 31) := by
  have e : (a ^^^ b) % 2 = a % 2 ^^^ b % 2 := by
    have := Nat.xor_mod_two_pow (a := a) (b := b) (n := 1)
    simpa only [Nat.pow_one] using this
  rw [e]
  have ha : a % 2 = 0 ∨ a % 2 = 1 := by omega
  have hb : b % 2 = 0 ∨ b % 2 = 1 := by omega
  rcases ha with ha | ha <;> rcases hb with hb | hb <;> rw [ha, hb] <;> decide
theorem feed_xor : ∀ (m : Nat) {W e t u : Nat}, t < 2 ^ 32 → u < 2 ^ 32 → feed m (W ^^^ e) (t ^^^ u) = feed m W t ^^^ feed m e u
  | 0, _, _, _, _, _, _ => rfl
  | m + 1, W, e, t, u, ht, hu => by
    show stepN (feed m ((W ^^^ e) / 2) (t ^^^ u) ^^^ ((W ^^^ e) % 2 * 2 ^ 31)) = stepN (feed m (W / 2) t ^^^ (W % 2 * 2 ^ 31)) ^^^ stepN (feed m (e / 2) u ^^^ (e % 2 * 2 ^ 31))
    rw [half_xor, feed_xor m ht hu, bit_xor, ← step_xor (xor_lt (feed_lt m _ ht) (bit_lt W)) (xor_lt (feed_lt m _ hu) (bit_lt e))]
    congr 1
    ac_rfl
theorem feed_cat : ∀ (b a W o t : Nat), o < 2 ^ b → feed (a + b) (W * 2 ^ b + o) t = feed b o (feed a W t)
  | 0, a, W, o, t, h => by
    have : o = 0 := by simpa using h
    subst this
    simp [feed]
  | b + 1, a, W, o, t, h => by
    have e1 : (W * 2 ^ (b + 1) + o) / 2 = W * 2 ^ b + o / 2 := by rw [Nat.pow_succ, ← Nat.mul_assoc]; omega
    have e2 : (W * 2 ^ (b + 1) + o) % 2 = o % 2 := by rw [Nat.pow_succ, ← Nat.mul_assoc]; omega
    show stepN (feed (a + b) ((W * 2 ^ (b + 1) + o) / 2) t ^^^ ((W * 2 ^ (b + 1) + o) % 2 * 2 ^ 31)) = stepN (feed b (o / 2) (feed a W t) ^^^ (o % 2 * 2 ^ 31))
    rw [e1, e2, feed_cat b a W (o / 2) t (by rw [Nat.pow_succ] at h; omega)]
theorem feed_zeros : ∀ (m t : Nat), feed m 0 t = iter m t
  | 0, _ => rfl
  | m + 1, t => by
    show stepN (feed m (0 / 2) t ^^^ (0 % 2 * 2 ^ 31)) = stepN (iter m t)
    rw [Nat.zero_div, feed_zeros m t]
    simp
theorem iter_of_zero : ∀ n : Nat, iter n 0 = 0
  | 0 => rfl
  | n + 1 => by
    show stepN (iter n 0) = 0
    rw [iter_of_zero n]
    decide
theorem add_xor {x k c : Nat} (h : c < 2 ^ k) : x * 2 ^ k + c = (x * 2 ^ k) ^^^ c := by
  have := Nat.two_pow_add_eq_or_of_lt (i := k) (b := c) h x
  rw [Nat.mul_comm] at this
  rw [this]
  apply Nat.eq_of_testBit_eq
  intro j
  rw [Nat.testBit_or, Nat.testBit_xor]
  by_cases hj : j < k
  · have : (x * 2 ^ k).testBit j = false := by
      rw [Nat.testBit_mul_two_pow]
      simp; omega
    simp [this]
  · have : c.testBit j = false := Nat.testBit_lt_two_pow (Nat.lt_of_lt_of_le h (Nat.pow_le_pow_right (by decide) (by omega)))
    simp [this]
/-- m bits from the top of the sum -/
theorem iter_feed : ∀ (m : Nat) {W t : Nat}, m ≤ 32 → W < 2 ^ m → t < 2 ^ 32 → iter m (t ^^^ (W * 2 ^ (32 - m))) = feed m W t
  | 0, W, t, _, h, _ => by
    have : W = 0 := by simpa using h
    subst this
    simp [iter, feed]
  | m + 1, W, t, hm, h, ht => by
    have e0 : W = W / 2 * 2 + W % 2 := by omega
    have hp : (2 : Nat) ^ (32 - m) = 2 ^ (32 - (m + 1)) * 2 := by rw [← Nat.pow_succ]; congr 1; omega
    have hc : W % 2 * 2 ^ (32 - (m + 1)) < 2 ^ (32 - m) := by
      rw [hp]
      have h1 : W % 2 < 2 := Nat.mod_lt _ (by decide)
      calc W % 2 * 2 ^ (32 - (m + 1)) < 2 * 2 ^ (32 - (m + 1)) := Nat.mul_lt_mul_of_pos_right h1 (Nat.pos_of_ne_zero (by simp))
        _ = _ := by rw [Nat.mul_comm]
    have hw : W / 2 < 2 ^ m := by rw [Nat.pow_succ] at h; omega
    have e1 : W * 2 ^ (32 - (m + 1)) = (W / 2 * 2 ^ (32 - m)) ^^^ (W % 2 * 2 ^ (32 - (m + 1))) := by
      rw [← add_xor hc, hp]
      conv => lhs; rw [e0, Nat.add_mul]
      rw [Nat.mul_assoc, Nat.mul_comm 2]
    have hl : W / 2 * 2 ^ (32 - m) < 2 ^ 32 := by
      calc W / 2 * 2 ^ (32 - m) < 2 ^ m * 2 ^ (32 - m) := Nat.mul_lt_mul_of_pos_right hw (Nat.pos_of_ne_zero (by simp))
        _ = 2 ^ 32 := by rw [← Nat.pow_add]; congr 1; omega
    have hc2 : W % 2 * 2 ^ (32 - (m + 1)) < 2 ^ 32 := Nat.lt_of_lt_of_le hc (Nat.pow_le_pow_right (by decide) (by omega))
    have hlow : W % 2 * 2 ^ (32 - (m + 1)) * 2 ^ m = W % 2 * 2 ^ 31 := by
      rw [Nat.mul_assoc, ← Nat.pow_add]; congr 2; omega
    show stepN (iter m (t ^^^ (W * 2 ^ (32 - (m + 1))))) = stepN (feed m (W / 2) t ^^^ (W % 2 * 2 ^ 31))
    rw [e1, ← Nat.xor_assoc, iter_xor m (xor_lt ht hl) hc2, iter_feed m (by omega) hw ht, iter_low m (by rw [hlow]; exact bit_lt W), hlow]
theorem oct_feed {t o : Nat} (ht : t < 2 ^ 32) (ho : o < 256) : octN t o = feed 8 o t := iter_feed 8 (by decide) ho ht
/-- the number of octets -/
def numN (os : List Nat) : Nat := os.foldl (fun a o => a * 256 + o) 0
theorem fold_feed : ∀ (os : List Nat) (m W : Nat), (∀ o ∈ os, o < 256) → os.foldl octN (feed m W 0) = feed (m + 8 * os.length) (os.foldl (fun a o => a * 256 + o) W) 0
  | [], m, W, _ => rfl
  | o :: os, m, W, h => by
    have ho : o < 256 := h o List.mem_cons_self
    show os.foldl octN (octN (feed m W 0) o) = feed _ (os.foldl _ (W * 256 + o)) 0
    rw [oct_feed (feed_lt m W (by decide)) ho, ← feed_cat 8 m W o 0 ho, fold_feed os (m + 8) _ fun x hx => h x (List.mem_cons_of_mem _ hx)]
    congr 1
    simp only [List.length_cons]
    omega
theorem sum_feed {os : List Nat} (h : ∀ o ∈ os, o < 256) : sumN os = feed (8 * os.length) (numN os) 0 := by
  have := fold_feed os 0 0 h
  simp only [feed, Nat.zero_add] at this
  exact this
/-- a burst is seen -/
theorem burst_seen {M b s : Nat} (hb : b < 2 ^ 32) (he : b * 2 ^ s % 2 ^ M ≠ 0) : feed M (b * 2 ^ s % 2 ^ M) 0 ≠ 0 := by
  by_cases hs : s < M
  · have hm : M = (M - s) + s := by omega
    have e1 : b * 2 ^ s % 2 ^ M = b % 2 ^ (M - s) * 2 ^ s := by
      conv => lhs; rw [hm, Nat.pow_add]
      rw [Nat.mul_mod_mul_right]
    have hc : b % 2 ^ (M - s) ≠ 0 := by
      intro z
      rw [e1, z, Nat.zero_mul] at he
      exact he rfl
    generalize hcd : b % 2 ^ (M - s) = c at *
    have c32 : c < 2 ^ 32 := by rw [← hcd]; exact Nat.lt_of_le_of_lt (Nat.mod_le _ _) hb
    have ck : c < 2 ^ (M - s) := by rw [← hcd]; exact Nat.mod_lt _ (Nat.pos_of_ne_zero (by simp))
    have e2 : feed M (c * 2 ^ s) 0 = iter s (feed (M - s) c 0) := by
      conv => lhs; rw [hm]
      have := feed_cat s (M - s) c 0 0 (Nat.pos_of_ne_zero (by simp))
      rw [Nat.add_zero] at this
      rw [this, feed_zeros]
    rw [e1, e2]
    intro z
    have z1 := iter_zero (feed_lt _ _ (by decide)) z
    by_cases hk : M - s ≤ 32
    · rw [← iter_feed (M - s) hk ck (by decide), Nat.zero_xor] at z1
      have hlt : c * 2 ^ (32 - (M - s)) < 2 ^ 32 := by
        calc c * 2 ^ (32 - (M - s)) < 2 ^ (M - s) * 2 ^ (32 - (M - s)) := Nat.mul_lt_mul_of_pos_right ck (Nat.pos_of_ne_zero (by simp))
          _ = 2 ^ 32 := by rw [← Nat.pow_add]; congr 1; omega
      have z2 := iter_zero hlt z1
      rcases Nat.mul_eq_zero.mp z2 with y | y
      · exact hc y
      · simp at y
    · have e3 : M - s = (M - s - 32) + 32 := by omega
      have := feed_cat 32 (M - s - 32) 0 c 0 c32
      rw [Nat.zero_mul, Nat.zero_add, ← e3, feed_zeros, iter_of_zero, ← iter_feed 32 (Nat.le_refl _) c32 (by decide), Nat.zero_xor] at this
      rw [this] at z1
      exact hc (by simpa using iter_zero (t := c * 2 ^ (32 - 32)) (by simpa using c32) z1)
  · exfalso
    apply he
    obtain ⟨k, e⟩ := Nat.exists_eq_add_of_le (Nat.le_of_not_lt hs)
    rw [e, Nat.pow_add, Nat.mul_comm (2 ^ M), ← Nat.mul_assoc]
    exact Nat.mul_mod_left _ _
theorem xor_ne {a b : Nat} (h : b ≠ 0) : a ^^^ b ≠ a := by
  intro e
  apply h
  have := congrArg (a ^^^ ·) e
  simpa [← Nat.xor_assoc] using this
end My

set_option linter.all false
namespace My
open PySem L2 DL Gen
local macro_rules | `(tactic| walk_at "ev") => `(tactic| simp only [seqS_ap, bindS_ap, bindE_ap, pureE_ap, badE_ap, optE_some, optE_none, setS_ap, newS_ap, exprS_ap, retS_ap, retN_ap, retO_ap, retNon_ap, skipS_ap, badS_ap, brkS_ap, forS_ap, nameG_ap, frzS_ap, augS_ap, appS_ap, rdM_ap, rdZ_ap, binM_ap, un1_ap, boolM_ap, truM_ap, notT_ap, notV_ap, consA_ap, nilA_ap, lstM_ap, tupM_ap, dispL_ap, callM_ap, callF_ap, callN_ap, mapE_ap, thawM_ap, partM_ap, noPart_ap, slM_ap, compM_ap, turnS_ap, runF_ap, ifS_ap, ifM_ap, andT_ap, orT_ap, andV_ap, orV_ap, chainM_ap,
  isLst, isNon, walkD, rangeD, intF, absF, max2F, min2F, lenD, listL, addD, addA, subD, mulD, intD, relD, eqD, neD, eqB_ints, eqB_ii, eqB_bb, eqB_ss, eqB_nn, ixD, cMod_pos, truD, bitLen, negD, isBD, catL, repL, slD, isiD, tyD,
  List.map_cons, List.map_nil, List.length_cons, List.length_nil, List.length_map, List.length_range, List.cons_append, List.nil_append, List.append_nil, List.replicate, List.set_cons_succ, List.set_cons_zero, List.getElem?_cons_zero, List.getElem?_cons_succ, Option.map_some, Option.map_none, Option.bind_some, reduceIte, Bool.not_true, Bool.not_false, decide_true, decide_false, Bool.true_or, Bool.or_true, and_true, true_and, eq_self_iff_true, bareR, wipeR, shrO, Int.reduceLT, Int.reduceLE, Nat.reduceLT, Nat.reduceLeDiff, Nat.reduceAdd, Nat.reduceSub, Int.reduceAdd, Int.reduceSub, Int.reduceMul, Int.reduceNeg, *])
theorem cell_eq (ns : List Int) (k : Nat) (O : Sto) : f_L_cell [.sea (dI ns), .int k] O = .ok (.shr (.int (ns.getD k 0))) O := by
  unfold f_L_cell m_L_cell
  by_cases h : k < ns.length
  · have e := at_ints h
    have h2 : ((k : Int) < (ns.length : Int)) := by omega
    walk_at "ev"
    simp [List.getD, h]
  · have h2 : ¬ ((k : Int) < (ns.length : Int)) := by omega
    walk_at "ev"
    simp [List.getD, h]
theorem int_eq (n : Int) (O : Sto) : f_L_integer [.int n] O = .ok (.shr (.bl true)) O := by
  unfold f_L_integer m_L_integer
  have e1 : kitB "int" "int" = some true := by decide +kernel
  have e2 : kitB "int" "bool" = some false := by decide +kernel
  walk_at "ev"
theorem dN_app (bs : List Nat) {x : Int} (h : 0 ≤ x) : dN bs ++ [.int x] = dN (bs ++ [x.toNat]) := by
  unfold dN
  rw [List.map_append, List.map_cons, List.map_nil, Int.toNat_of_nonneg h]
theorem row_eq (c n : Int) (O : Sto) (h0 : 0 ≤ n) (h1 : n < 61) : ∃ bs : List Nat, f_L_row [.int c, .int n, .int 256] O = .ok (.own (.lst (dN bs))) O ∧ bs.length = n.toNat ∧ ∀ b ∈ bs, b < 256 := by
  have L := loopS_inv (O := O) (g := nameG 6) (m := l_L_row_1)
    (fun i ρ => ∃ (r m : Int) (k : Option SD) (bs : List Nat), ρ = [some (.shr (.int c)), some (.shr (.int n)), some (.shr (.int 256)), some (.shr (.int r)), some (.shr (.int m)), some (.own (.lst (dN bs))), k] ∧ m.natAbs < 2 ^ 32 ∧ bs.length = i ∧ ∀ b ∈ bs, b < 256)
    ((List.range n.toNat).map fun (k : Nat) => D.int ((0 : Int) + (k : Nat))) (by
    intro i d ρ hd hI
    obtain ⟨hi, rfl⟩ := range_get hd
    obtain ⟨r, m, k, bs, rfl, hm, hl, hb⟩ := hI
    have hz : bs.length < sizeLine := by rw [sizeLine_v]; omega
    have hl2 : ∀ z : Nat, (bs ++ [z]).length = i + 1 := fun z => by rw [List.length_append, hl, List.length_singleton]
    clear hl hd
    have d1 : ∀ x, cDivW x 256 = true := fun x => cDivW_lit x (by decide)
    have d2 : ∀ x, cDivW x 1024 = true := fun x => cDivW_lit x (by decide)
    have m1 : ∀ x, cMul x 48271 = true := fun x => cMul_right x (by decide)
    have m2 : ∀ x, cMul 11 x = true := fun x => cMul_left x (by decide)
    have m3 : ∀ x, cMul x 2862933555777941757 = true := fun x => cMul_right x (by decide)
    by_cases hr : 256 ≤ r
    · refine ⟨[some (.shr (.int c)), some (.shr (.int n)), some (.shr (.int 256)), some (.shr (.int (r / 256))), some (.shr (.int m)), some (.own (.lst (dN (bs ++ [(r % 256).toNat])))), some (.shr (.int (0 + (i : Int))))], ?_, _, _, _, _, rfl, hm, hl2 _, ?_⟩
      · rw [← dN_app _ (Int.emod_nonneg _ (by decide)), l_L_row_1]
        walk_at "ev"
      · intro b hb'
        rcases List.mem_append.mp hb' with h | h
        · exact hb b h
        · simp at h; omega
    · generalize hq : (m * 48271 + 11 * (0 + (i : Int)) + 7) % 2147483647 = q
      have hq0 : 0 ≤ q := by rw [← hq]; exact Int.emod_nonneg _ (by decide)
      have hq1 : q < 2147483647 := by rw [← hq]; exact Int.emod_lt_of_pos _ (by decide)
      refine ⟨[some (.shr (.int c)), some (.shr (.int n)), some (.shr (.int 256)), some (.shr (.int r)), some (.shr (.int q)), some (.own (.lst (dN (bs ++ [(q * 2862933555777941757 / 1024 % 256).toNat])))), some (.shr (.int (0 + (i : Int))))], ?_, _, _, _, _, rfl, by omega, hl2 _, ?_⟩
      · rw [← dN_app _ (Int.emod_nonneg _ (by decide)), l_L_row_1]
        walk_at "ev"
      · intro b hb'
        rcases List.mem_append.mp hb' with h | h
        · exact hb b h
        · simp at h; omega) (ρ := [some (.shr (.int c)), some (.shr (.int n)), some (.shr (.int 256)), some (.shr (.int (if c < 0 then -c else c))), some (.shr (.int (c % 1000003 + 1))), some (.own (.lst (dN []))), none]) ⟨_, _, none, [], rfl, by omega, rfl, by simp⟩
  obtain ⟨ρ', e, r, m, k, bs, hρ, hm, hl, hb⟩ := L
  rw [List.length_map, List.length_range] at hl
  refine ⟨bs, ?_, hl, hb⟩
  unfold f_L_row m_L_row
  have r1 : cRng n = true := cRng_mk (by omega) (by omega)
  have s0 : 0 ≤ sizeLine := Nat.zero_le _
  subst hρ
  unfold dN at e
  rw [List.map_nil] at e
  walk_at "ev"
theorem mask32 (x : Int) (h : 0 ≤ x) : Builtin.bitAnd x 4294967295 = x % 4294967296 := by
  have e := Bits.bitAnd_mask 32 h
  simpa using e
theorem xor_nat (a b : Nat) : Builtin.bitXor (a : Int) (b : Int) = ((a ^^^ b : Nat) : Int) := by
  rw [Bits.bitXor_pp (by omega) (by omega)]
  rfl
theorem step_hi {t : Nat} (h : t < 2 ^ 32) (h2 : 2147483648 ≤ t) : stepN t = (2 * t % 4294967296) ^^^ 79764919 := by
  unfold stepN
  have : t / 2 ^ 31 = 1 := by omega
  rw [this]
  rfl
/-- eight turns of sum_of -/
theorem turns_prog (a : SD) (c : Option SD) (O : Sto) (t : Nat) (ht : t < 2 ^ 32) (k0 o0 : Option SD) : ∃ k o, loopS (nameG 3) l_sum_of_1 ((List.range (8 : Int).toNat).map fun (k : Nat) => D.int ((0 : Int) + (k : Nat))) [some a, some (.shr (.int t)), c, k0, o0] O = .nx [some a, some (.shr (.int (iter 8 t : Nat))), c, k, o] O := by
  have L := loopS_inv (O := O) (g := nameG 3) (m := l_sum_of_1) (fun i ρ => ∃ k o, ρ = [some a, some (.shr (.int (iter i t : Nat))), c, k, o])
    ((List.range (8 : Int).toNat).map fun (k : Nat) => D.int ((0 : Int) + (k : Nat))) (by
    intro i d ρ hd hI
    obtain ⟨hi, rfl⟩ := range_get hd
    obtain ⟨k, o, rfl⟩ := hI
    generalize hu : iter i t = u
    have hu2 : u < 2 ^ 32 := by rw [← hu]; exact iter_lt i ht
    have hs : iter (i + 1) t = stepN u := by rw [← hu]; rfl
    refine ⟨[some a, some (.shr (.int (stepN u : Nat))), c, some (.shr (.int (0 + (i : Int)))), some (.shr (.bl (decide (2147483648 ≤ (u : Int)))))], ?_, _, _, by rw [hs]⟩
    have p1 : cPow (u : Int) 1 = true := cPow_ok' (by decide) (by decide) (by omega)
    have e1 : Builtin.bitAnd ((u : Int) * 2 ^ (1 : Int).toNat) 4294967295 = ((2 * u % 4294967296 : Nat) : Int) := by
      rw [show ((1 : Int).toNat) = 1 from rfl, Int.pow_succ, Int.pow_zero, Int.one_mul, mask32 _ (by omega)]
      omega
    rw [l_sum_of_1]
    by_cases h : (2147483648 : Int) ≤ u
    · have e2 : Builtin.bitXor ((2 * u % 4294967296 : Nat) : Int) 79764919 = ((stepN u : Nat) : Int) := by
        rw [show (79764919 : Int) = ((79764919 : Nat) : Int) from rfl, xor_nat, step_hi hu2 (by omega)]
      clear hs hu hd
      walk_at "ev"
    · have e2 : ((2 * u % 4294967296 : Nat) : Int) = ((stepN u : Nat) : Int) := by
        rw [step_low (by omega)]
        omega
      rw [e2] at e1
      clear hs hu hd e2
      walk_at "ev") (ρ := [some a, some (.shr (.int t)), c, k0, o0]) ⟨k0, o0, rfl⟩
  obtain ⟨ρ', e, k, o, rfl⟩ := L
  exact ⟨k, o, e⟩
theorem foldl_lt (os : List Nat) : ∀ {t : Nat}, t < 2 ^ 32 → (∀ o ∈ os, o < 256) → os.foldl octN t < 2 ^ 32 := by
  induction os with
  | nil => intro t h _; exact h
  | cons o os ih =>
    intro t h hb
    have h1 : o < 256 := hb o List.mem_cons_self
    exact ih (iter_lt 8 (xor_lt h (by omega))) fun x hx => hb x (List.mem_cons_of_mem _ hx)
theorem take_fold (os : List Nat) (i : Nat) (h : i < os.length) (t : Nat) : (os.take (i + 1)).foldl octN t = octN ((os.take i).foldl octN t) os[i] := by
  rw [List.take_succ_eq_append_getElem h, List.foldl_append]
  rfl
theorem sum_of_eq (os : List Nat) (h : ∀ o ∈ os, o < 256) (O : Sto) : f_sum_of [.lst (dN os)] O = .ok (.shr (.int (sumN os : Nat))) O := by
  have L := loopS_inv (O := O) (g := nameG 2) (m := l_sum_of_2) (fun i ρ => ∃ c k o, ρ = [some (.shr (.lst (dN os))), some (.shr (.int ((os.take i).foldl octN 0 : Nat))), c, k, o]) (dN os) (by
    intro i d ρ hd hI
    obtain ⟨hi, rfl⟩ := nats_get hd
    obtain ⟨c, k, o, rfl⟩ := hI
    have hx : os[i] < 256 := h _ (List.getElem_mem hi)
    have hlt : (os.take i).foldl octN 0 < 2 ^ 32 := foldl_lt _ (by decide) fun x hx => h x (List.mem_of_mem_take hx)
    rw [take_fold os i hi]
    generalize (os.take i).foldl octN 0 = t at *
    generalize os[i] = x at *
    obtain ⟨k', o', e⟩ := turns_prog (.shr (.lst (dN os))) (some (.shr (.int (x : Int)))) O (t ^^^ (x * 2 ^ 24)) (xor_lt hlt (by omega)) k o
    refine ⟨[some (.shr (.lst (dN os))), some (.shr (.int (octN t x : Nat))), some (.shr (.int x)), k', o'], ?_, _, _, _, rfl⟩
    have p1 : cPow (x : Int) 24 = true := cPow_ok' (by decide) (by decide) (by omega)
    have e1 : Builtin.bitXor (t : Int) ((x : Int) * 2 ^ (24 : Int).toNat) = ((t ^^^ (x * 2 ^ 24) : Nat) : Int) := by
      rw [← xor_nat]
      congr 1
    have r1 : cRng 8 = true := by decide
    rw [l_sum_of_2, octN]
    clear hd hlt hx
    walk_at "ev") (ρ := [some (.shr (.lst (dN os))), some (.shr (.int (0 : Int))), none, none, none]) ⟨none, none, none, rfl⟩
  obtain ⟨ρ', e, c, k, o, rfl⟩ := L
  rw [List.length_map, List.take_length] at e
  unfold f_sum_of m_sum_of sumN
  walk_at "ev"

/-- eight turns of the law's own sum -/
theorem turns_law (a : SD) (c : Option SD) (O : Sto) (t : Nat) (ht : t < 2 ^ 32) (k0 : Option SD) : ∃ k, loopS (nameG 3) l_L_sum_1 ((List.range (8 : Int).toNat).map fun (k : Nat) => D.int ((0 : Int) + (k : Nat))) [some a, some (.shr (.int t)), c, k0] O = .nx [some a, some (.shr (.int (iter 8 t : Nat))), c, k] O := by
  have L := loopS_inv (O := O) (g := nameG 3) (m := l_L_sum_1) (fun i ρ => ∃ k, ρ = [some a, some (.shr (.int (iter i t : Nat))), c, k])
    ((List.range (8 : Int).toNat).map fun (k : Nat) => D.int ((0 : Int) + (k : Nat))) (by
    intro i d ρ hd hI
    obtain ⟨hi, rfl⟩ := range_get hd
    obtain ⟨k, rfl⟩ := hI
    generalize hu : iter i t = u
    have hu2 : u < 2 ^ 32 := by rw [← hu]; exact iter_lt i ht
    have hs : iter (i + 1) t = stepN u := by rw [← hu]; rfl
    refine ⟨[some a, some (.shr (.int (stepN u : Nat))), c, some (.shr (.int (0 + (i : Int))))], ?_, _, by rw [hs]⟩
    have p1 : ∀ x, cMul x 2 = true := fun x => cMul_right x (by decide)
    rw [l_L_sum_1]
    by_cases h : (4294967296 : Int) ≤ (u : Int) * 2
    · have e2 : Builtin.bitXor ((u : Int) * 2 - 4294967296) 79764919 = ((stepN u : Nat) : Int) := by
        rw [show (79764919 : Int) = ((79764919 : Nat) : Int) from rfl, show (u : Int) * 2 - 4294967296 = ((2 * u % 4294967296 : Nat) : Int) by omega, xor_nat, step_hi hu2 (by omega)]
      clear hs hu hd
      walk_at "ev"
    · have e2 : (u : Int) * 2 = ((stepN u : Nat) : Int) := by
        rw [step_low (by omega)]
        omega
      rw [e2] at h
      clear hs hu hd
      walk_at "ev") (ρ := [some a, some (.shr (.int t)), c, k0]) ⟨k0, rfl⟩
  obtain ⟨ρ', e, k, rfl⟩ := L
  exact ⟨k, e⟩
theorem L_sum_eq (os : List Nat) (h : ∀ o ∈ os, o < 256) (O : Sto) : f_L_sum [.lst (dN os)] O = .ok (.shr (.int (sumN os : Nat))) O := by
  have L := loopS_inv (O := O) (g := nameG 2) (m := l_L_sum_2) (fun i ρ => ∃ c k, ρ = [some (.shr (.lst (dN os))), some (.shr (.int ((os.take i).foldl octN 0 : Nat))), c, k]) (dN os) (by
    intro i d ρ hd hI
    obtain ⟨hi, rfl⟩ := nats_get hd
    obtain ⟨c, k, rfl⟩ := hI
    have hx : os[i] < 256 := h _ (List.getElem_mem hi)
    have hlt : (os.take i).foldl octN 0 < 2 ^ 32 := foldl_lt _ (by decide) fun x hx => h x (List.mem_of_mem_take hx)
    rw [take_fold os i hi]
    generalize (os.take i).foldl octN 0 = t at *
    generalize os[i] = x at *
    obtain ⟨k', e⟩ := turns_law (.shr (.lst (dN os))) (some (.shr (.int (x : Int)))) O (t ^^^ (x * 2 ^ 24)) (xor_lt hlt (by omega)) k
    refine ⟨[some (.shr (.lst (dN os))), some (.shr (.int (octN t x : Nat))), some (.shr (.int x)), k'], ?_, _, _, rfl⟩
    have p1 : cPow (x : Int) 24 = true := cPow_ok' (by decide) (by decide) (by omega)
    have e1 : Builtin.bitXor (t : Int) ((x : Int) * 2 ^ (24 : Int).toNat) = ((t ^^^ (x * 2 ^ 24) : Nat) : Int) := by
      rw [← xor_nat]
      congr 1
    have r1 : cRng 8 = true := by decide
    rw [l_L_sum_2, octN]
    clear hd hlt hx
    walk_at "ev") (ρ := [some (.shr (.lst (dN os))), some (.shr (.int (0 : Int))), none, none]) ⟨none, none, rfl⟩
  obtain ⟨ρ', e, c, k, rfl⟩ := L
  rw [List.length_map, List.take_length] at e
  unfold f_L_sum m_L_sum sumN
  walk_at "ev"
/-! the digits -/
def digs (n W : Nat) : List Nat := (List.range n).map fun k => W / 2 ^ (8 * (n - 1 - k)) % 256
theorem digs_succ (n W : Nat) : digs (n + 1) W = digs n (W / 256) ++ [W % 256] := by
  unfold digs
  rw [List.range_succ, List.map_append, List.map_cons, List.map_nil]
  congr 1
  · apply List.map_congr_left
    intro k hk
    have hk := List.mem_range.mp hk
    rw [show 8 * (n + 1 - 1 - k) = 8 + 8 * (n - 1 - k) by omega, Nat.pow_add, Nat.div_div_eq_div_mul]
  · rw [show 8 * (n + 1 - 1 - n) = 0 by omega, Nat.pow_zero, Nat.div_one]
theorem numN_snoc (l : List Nat) (o : Nat) : numN (l ++ [o]) = numN l * 256 + o := by
  unfold numN
  rw [List.foldl_append]
  rfl
theorem numN_digs : ∀ (n : Nat) {W : Nat}, W < 2 ^ (8 * n) → numN (digs n W) = W
  | 0, W, h => by
    have : W = 0 := by simpa using h
    subst this
    rfl
  | n + 1, W, h => by
    have h2 : W / 256 < 2 ^ (8 * n) := by
      rw [show 8 * (n + 1) = 8 * n + 8 by omega, Nat.pow_add] at h
      omega
    rw [digs_succ, numN_snoc, numN_digs n h2]
    omega
theorem digs_lt {n W o : Nat} (h : o ∈ digs n W) : o < 256 := by
  obtain ⟨k, _, rfl⟩ := List.mem_map.mp h
  exact Nat.mod_lt _ (by decide)
theorem digs_len (n W : Nat) : (digs n W).length = n := by simp [digs]
theorem numN_lt : ∀ (n : Nat) (os : List Nat), os.length = n → (∀ o ∈ os, o < 256) → numN os < 2 ^ (8 * n) ∧ digs n (numN os) = os
  | 0, os, hl, _ => by
    have : os = [] := List.length_eq_zero_iff.mp hl
    subst this
    exact ⟨by decide, rfl⟩
  | n + 1, os, hl, h => by
    rcases List.eq_nil_or_concat os with rfl | ⟨l, o, rfl⟩
    · simp at hl
    · rw [List.concat_eq_append] at *
      have hl2 : l.length = n := by simpa using hl
      obtain ⟨h1, h2⟩ := numN_lt n l hl2 fun x hx => h x (List.mem_append.mpr (.inl hx))
      have ho : o < 256 := h o (by simp)
      rw [numN_snoc]
      refine ⟨?_, ?_⟩
      · rw [show 8 * (n + 1) = 8 * n + 8 by omega, Nat.pow_add]
        omega
      · rw [digs_succ, show (numN l * 256 + o) / 256 = numN l by omega, h2, show (numN l * 256 + o) % 256 = o by omega]
/-- the sums of what a burst changed -/
theorem sums_differ {os : List Nat} {b s : Nat} (h : ∀ o ∈ os, o < 256) (hb : b < 2 ^ 32) (hd : digs os.length (numN os ^^^ (b * 2 ^ s % 2 ^ (8 * os.length))) ≠ os) : sumN (digs os.length (numN os ^^^ (b * 2 ^ s % 2 ^ (8 * os.length)))) ≠ sumN os := by
  obtain ⟨h1, h2⟩ := numN_lt os.length os rfl h
  have he : b * 2 ^ s % 2 ^ (8 * os.length) ≠ 0 := by
    intro e
    rw [e, Nat.xor_zero] at hd
    exact hd h2
  have hlt : numN os ^^^ (b * 2 ^ s % 2 ^ (8 * os.length)) < 2 ^ (8 * os.length) := Nat.xor_lt_two_pow h1 (Nat.mod_lt _ (Nat.pow_pos (by decide)))
  rw [sum_feed (fun o ho => digs_lt ho), numN_digs _ hlt, digs_len, sum_feed h]
  have := feed_xor (8 * os.length) (W := numN os) (e := b * 2 ^ s % 2 ^ (8 * os.length)) (t := 0) (u := 0) (by decide) (by decide)
  rw [Nat.xor_zero] at this
  rw [this]
  exact xor_ne (burst_seen hb he)
theorem eqB_nats (a b : List Nat) : eqB (.lst (dN a)) (.lst (dN b)) = some (decide (a = b)) := by
  rw [dN_dI, dN_dI, eqB_ints]
  congr 1
  apply decide_eq_decide.mpr
  constructor
  · intro h
    exact (List.map_inj_right (fun x y h => Int.ofNat.inj h)).mp h
  · rintro rfl
    rfl
end My

set_option linter.all false
set_option maxRecDepth 100000
namespace My
open PySem L2 DL Gen
local macro_rules | `(tactic| walk_at "ev") => `(tactic| simp only [seqS_ap, bindS_ap, bindE_ap, pureE_ap, badE_ap, optE_some, optE_none, setS_ap, newS_ap, exprS_ap, retS_ap, retN_ap, retO_ap, retNon_ap, skipS_ap, badS_ap, brkS_ap, forS_ap, nameG_ap, frzS_ap, augS_ap, appS_ap, rdM_ap, rdZ_ap, binM_ap, un1_ap, boolM_ap, truM_ap, notT_ap, notV_ap, consA_ap, nilA_ap, lstM_ap, tupM_ap, dispL_ap, callM_ap, callF_ap, callN_ap, mapE_ap, thawM_ap, partM_ap, noPart_ap, slM_ap, compM_ap, turnS_ap, runF_ap, ifS_ap, ifM_ap, andT_ap, orT_ap, andV_ap, orV_ap, chainM_ap,
  isLst, isNon, walkD, rangeD, intF, absF, max2F, min2F, lenD, listL, addD, addA, subD, mulD, intD, relD, eqD, neD, eqB_ints, eqB_ii, eqB_bb, eqB_ss, eqB_nn, ixD, cMod_pos, truD, bitLen, negD, isBD, catL, repL, slD, isiD, tyD,
  List.map_cons, List.map_nil, List.length_cons, List.length_nil, List.length_map, List.length_range, List.cons_append, List.nil_append, List.append_nil, List.replicate, List.set_cons_succ, List.set_cons_zero, List.getElem?_cons_zero, List.getElem?_cons_succ, Option.map_some, Option.map_none, Option.bind_some, reduceIte, Bool.not_true, Bool.not_false, decide_true, decide_false, Bool.true_or, Bool.or_true, and_true, true_and, eq_self_iff_true, bareR, wipeR, shrO, Int.reduceLT, Int.reduceLE, Nat.reduceLT, Nat.reduceLeDiff, Nat.reduceAdd, Nat.reduceSub, Int.reduceAdd, Int.reduceSub, Int.reduceMul, Int.reduceNeg, *])
/-- the whole number -/
theorem whole_eq (os : List Nat) (O : Sto) (a b c d e f g i j k l m nn : Option SD) : ∃ g', loopS (nameG 8) l_law_1 (dN os) [a, b, c, d, e, f, g, some (.shr (.int 0)), i, j, k, l, m, nn] O = .nx [a, b, c, d, e, f, g, some (.shr (.int (numN os : Nat))), g', j, k, l, m, nn] O := by
  have L := loopS_inv (O := O) (g := nameG 8) (m := l_law_1) (fun n ρ => ∃ g', ρ = [a, b, c, d, e, f, g, some (.shr (.int (numN (os.take n) : Nat))), g', j, k, l, m, nn]) (dN os) (by
    intro n x ρ hd hI
    obtain ⟨hi, rfl⟩ := nats_get hd
    obtain ⟨g', rfl⟩ := hI
    refine ⟨_, ?_, some (.shr (.int (os[n] : Nat))), rfl⟩
    rw [List.take_succ_eq_append_getElem hi, numN_snoc]
    have p1 : ∀ x, cMul x 256 = true := fun x => cMul_right x (by decide)
    have e1 : ((numN (os.take n) : Nat) : Int) * 256 + (os[n] : Nat) = ((numN (os.take n) * 256 + os[n] : Nat) : Int) := by omega
    rw [l_law_1]
    clear hd
    walk_at "ev") (ρ := [a, b, c, d, e, f, g, some (.shr (.int 0)), i, j, k, l, m, nn]) ⟨i, rfl⟩
  obtain ⟨ρ', e, g', rfl⟩ := L
  rw [List.length_map, List.take_length] at e
  exact ⟨g', e⟩
theorem comp_eq (os : List Nat) (W : Nat) (hn : os.length < 61) (O : Sto) (a b d e f g h i j k m n : Option SD) :
    compL [13] (nameG 13) (pureE true) (binM modD (binM fdivD (rdM 11) (binM shlD (cM (.int 1)) (binM mulD (cM (.int 8)) (binM subD (binM subD (callM lenD (consA (rdM 2) nilA)) (cM (.int 1))) (rdM 13))))) (cM (.int 256))) ((List.range (os.length : Int).toNat).map fun (k : Nat) => D.int ((0 : Int) + (k : Nat))) [] [a, b, some (.shr (.lst (dN os))), d, e, f, g, h, i, j, k, some (.shr (.int (W : Nat))), m, n] O = .ok (dN (digs os.length W)) O := by
  have c := compL_map (O := O) (vs := [13]) (g := nameG 13) (me := binM modD (binM fdivD (rdM 11) (binM shlD (cM (.int 1)) (binM mulD (cM (.int 8)) (binM subD (binM subD (callM lenD (consA (rdM 2) nilA)) (cM (.int 1))) (rdM 13))))) (cM (.int 256)))
    (ρ := [a, b, some (.shr (.lst (dN os))), d, e, f, g, h, i, j, k, some (.shr (.int (W : Nat))), m, n])
    (fun d => match d with
      | .int z => .int ((W / 2 ^ (8 * (os.length - 1 - z.toNat)) % 256 : Nat) : Int)
      | x => x)
    ((List.range (os.length : Int).toNat).map fun (k : Nat) => D.int ((0 : Int) + (k : Nat))) [] (by
    intro x hx
    obtain ⟨z, hz, rfl⟩ := List.mem_map.mp hx
    have hz := List.mem_range.mp hz
    have hz : z < os.length := by omega
    refine ⟨_, rfl, ?_⟩
    have e1 : (0 : Int) + (z : Nat) = (z : Nat) := by omega
    have e2 : (8 : Int) * ((os.length : Int) - 1 - (z : Nat)) = ((8 * (os.length - 1 - z) : Nat) : Int) := by omega
    have c1 : ∀ x, cMul 8 x = true := fun x => cMul_left x (by decide)
    have c2 : cPow 1 ((8 * (os.length - 1 - z) : Nat) : Int) = true := cPow_ok' (by omega) (by omega) (by decide)
    have c3 : cDivW (W : Nat) (1 * 2 ^ ((8 * (os.length - 1 - z) : Nat) : Int).toNat) = true := by
      have : (1 : Int) * 2 ^ ((8 * (os.length - 1 - z) : Nat) : Int).toNat = ((2 ^ (8 * (os.length - 1 - z)) : Nat) : Int) := by
        rw [Int.one_mul, Int.toNat_natCast]
        norm_cast
      rw [this]
      unfold cDivW
      rw [decide_eq_true_eq]
      refine ⟨by have := Nat.pow_pos (a := 2) (n := 8 * (os.length - 1 - z)) (by decide); omega, ?_⟩
      rw [Int.natAbs_natCast, Nat.log2_two_pow]
      omega
    have e3 : (W : Int) / (1 * 2 ^ ((8 * (os.length - 1 - z) : Nat) : Int).toNat) % 256 = ((W / 2 ^ (8 * (os.length - 1 - z)) % 256 : Nat) : Int) := by
      rw [Int.one_mul, Int.toNat_natCast]
      norm_cast
    have e4 : (z : Int).toNat = z := Int.toNat_natCast z
    clear hx
    walk_at "ev") (by simp; rw [sizeLine_v]; omega)
  rw [c, List.nil_append, List.map_map]
  congr 1
  unfold digs dN
  rw [List.map_map, Int.toNat_natCast]
  apply List.map_congr_left
  intro z _
  show D.int _ = D.int _
  congr 1
  rw [show ((0 : Int) + (z : Nat)).toNat = z by omega]
end My

set_option linter.all false
set_option maxRecDepth 100000
namespace My
open PySem L2 DL Gen
local macro_rules | `(tactic| walk_at "ev") => `(tactic| simp only [seqS_ap, bindS_ap, bindE_ap, pureE_ap, badE_ap, optE_some, optE_none, setS_ap, newS_ap, exprS_ap, retS_ap, retN_ap, retO_ap, retNon_ap, skipS_ap, badS_ap, brkS_ap, forS_ap, nameG_ap, frzS_ap, augS_ap, appS_ap, rdM_ap, rdZ_ap, binM_ap, un1_ap, boolM_ap, truM_ap, notT_ap, notV_ap, consA_ap, nilA_ap, lstM_ap, tupM_ap, dispL_ap, callM_ap, callF_ap, callN_ap, mapE_ap, thawM_ap, partM_ap, noPart_ap, slM_ap, compM_ap, turnS_ap, runF_ap, ifS_ap, ifM_ap, andT_ap, orT_ap, andV_ap, orV_ap, chainM_ap,
  isLst, isNon, walkD, rangeD, intF, absF, max2F, min2F, lenD, listL, addD, addA, subD, mulD, intD, relD, eqD, neD, eqB_ints, eqB_ii, eqB_bb, eqB_ss, eqB_nn, ixD, cMod_pos, truD, bitLen, negD, isBD, catL, repL, slD, isiD, tyD,
  List.map_cons, List.map_nil, List.length_cons, List.length_nil, List.length_map, List.length_range, List.cons_append, List.nil_append, List.append_nil, List.replicate, List.set_cons_succ, List.set_cons_zero, List.getElem?_cons_zero, List.getElem?_cons_succ, Option.map_some, Option.map_none, Option.bind_some, reduceIte, Bool.not_true, Bool.not_false, decide_true, decide_false, Bool.true_or, Bool.or_true, and_true, true_and, eq_self_iff_true, bareR, wipeR, shrO, Int.reduceLT, Int.reduceLE, Nat.reduceLT, Nat.reduceLeDiff, Nat.reduceAdd, Nat.reduceSub, Int.reduceAdd, Int.reduceSub, Int.reduceMul, Int.reduceNeg, *])
theorem k1_eq (a0 a1 a3 a6 g' a9 : Option SD) (os : List Nat) (ho : ∀ o ∈ os, o < 256) (hn : os.length < 61) (b s : Nat) (hb : b < 2 ^ 32) (hs : s ≤ 488) :
    k_law_1 [a0, a1, some (.shr (.lst (dN os))), a3, some (.shr (.int (sumN os : Nat))), some (.shr (.int b)), a6, some (.shr (.int (numN os : Nat))), g', a9, some (.shr (.int s)), none, none, none] [] = .ret (.shr (.bl true)) [] := by
  generalize hL : 8 * (os.length : Int) = L at *
  have c1 : ∀ x, cMul 8 x = true := fun x => cMul_left x (by decide)
  have p1 : cPow b s = true := cPow_ok' (by omega) (by omega) (by omega)
  have p2 : cPow 1 L = true := cPow_ok' (by omega) (by omega) (by decide)
  have p3 : (1 : Int) * 2 ^ L.toNat = ((2 ^ (8 * os.length) : Nat) : Int) := by
    rw [Int.one_mul, show L.toNat = 8 * os.length by omega]
    norm_cast
  have p4 : cMod (b * 2 ^ (s : Int).toNat) ((2 ^ (8 * os.length) : Nat) : Int) = true := cMod_pos _ (by have := Nat.pow_pos (a := 2) (n := 8 * os.length) (by decide); omega)
  have p5 : Builtin.bitXor (numN os : Nat) ((b * 2 ^ (s : Int).toNat) % ((2 ^ (8 * os.length) : Nat) : Int)) = ((numN os ^^^ (b * 2 ^ s % 2 ^ (8 * os.length)) : Nat) : Int) := by
    rw [← xor_nat, Int.toNat_natCast, Int.natCast_emod, Int.natCast_mul, Int.natCast_pow]
    rfl
  generalize hW : numN os ^^^ (b * 2 ^ s % 2 ^ (8 * os.length)) = W at *
  have x1 := comp_eq os W hn []
  have r1 : cRng os.length = true := cRng_mk (by omega) (by omega)
  have s5 := sum_of_eq (digs os.length W) (fun o h => digs_lt h) []
  have s6 := L_sum_eq (digs os.length W) (fun o h => digs_lt h) []
  have q3 := eqB_nats (digs os.length W) os
  have q4 : digs os.length W ≠ os → ¬ ((sumN (digs os.length W) : Nat) : Int) = (sumN os : Nat) := by
    intro h
    rw [← hW] at h ⊢
    have := sums_differ ho hb h
    omega
  clear hW hb ho hs hn
  unfold k_law_1
  by_cases h : digs os.length W = os
  · clear q4
    rw [h] at s5 s6 q3
    walk_at "ev"
  · have q5 := q4 h
    clear q4
    walk_at "ev"
theorem k2_eq (ns : List Int) (a1 a3 : Option SD) (os : List Nat) (ho : ∀ o ∈ os, o < 256) (hn : os.length < 61) (hz : os ≠ []) (b : Nat) (hb : b < 2 ^ 32) :
    k_law_2 [some (.shr (.sea (dI ns))), a1, some (.shr (.lst (dN os))), a3, some (.shr (.int (sumN os : Nat))), some (.shr (.int b)), none, none, none, none, none, none, none, none] [] = .ret (.shr (.bl true)) [] := by
  have h3 : f_L_cell [.sea (dI ns), .int 3] [] = .ok (.shr (.int (ns.getD 3 0))) [] := cell_eq ns 3 []
  generalize ns.getD 3 0 = n3 at *
  have hlen : 0 < os.length := List.length_pos_iff.mpr hz
  generalize hL : 8 * (os.length : Int) = L at *
  have c1 : ∀ x, cMul 8 x = true := fun x => cMul_left x (by decide)
  have a0 := Int.emod_nonneg n3 (b := L) (by omega)
  have d1 : cMod n3 L = true := cMod_pos _ (by omega)
  generalize hat : n3 % L = at1 at *
  obtain ⟨g', w1⟩ := whole_eq os [] (some (.shr (.sea (dI ns)))) a1 (some (.shr (.lst (dN os)))) a3 (some (.shr (.int (sumN os : Nat)))) (some (.shr (.int b))) (some (.shr (.int at1))) none none none none none none
  have w2 : ∃ s : Nat, (if L - at1 - (Builtin.Int.intBits b : Nat) > 0 then L - at1 - (Builtin.Int.intBits b : Nat) else 0) = (s : Int) ∧ s ≤ 488 := by
    split
    · exact ⟨_, (Int.toNat_of_nonneg (by omega)).symm, by omega⟩
    · exact ⟨0, rfl, by omega⟩
  obtain ⟨s, w2, w3⟩ := w2
  have k1 := k1_eq (some (.shr (.sea (dI ns)))) a1 a3 (some (.shr (.int at1))) g' (some (.shr (.int (Builtin.Int.intBits b : Nat)))) os ho hn b s hb w3
  clear ho hn hz hb a0 w3 hlen
  unfold k_law_2
  walk_at "ev"
theorem k3_eq (ns : List Int) (n0 : Int) (os : List Nat) (ho : ∀ o ∈ os, o < 256) (hn : os.length < 61) :
    k_law_3 [some (.shr (.sea (dI ns))), some (.shr (.int n0)), some (.shr (.lst (dN os))), none, none, none, none, none, none, none, none, none, none, none] [] = .ret (.shr (.bl true)) [] := by
  have h2 : f_L_cell [.sea (dI ns), .int 2] [] = .ok (.shr (.int (ns.getD 2 0))) [] := cell_eq ns 2 []
  generalize ns.getD 2 0 = n2 at *
  have s1 := sum_of_eq os ho []
  have s2 := L_sum_eq os ho []
  have s3 := int_eq (sumN os : Nat) []
  have q1 := eqB_nats os os
  have q2 : eqB (.lst (dN os)) (.lst []) = some (decide (os = [])) := eqB_nats os []
  have z0 : (0 : Nat) ≤ sizeLine := Nat.zero_le _
  by_cases hz : os = []
  · subst hz
    have s4 : ((sumN [] : Nat) : Int) = 0 := rfl
    clear hn ho
    simp only [dN, List.map_nil] at s1 s2 s3 q1 q2
    rw [s4] at s1 s2 s3
    clear s4
    unfold k_law_3
    walk_at "ev"
  · have hb0 : 1 ≤ 1 + n2 % 4294967295 ∧ 1 + n2 % 4294967295 < 4294967296 := by omega
    generalize hbi : 1 + n2 % 4294967295 = bi at *
    obtain ⟨b, rfl⟩ : ∃ b : Nat, bi = (b : Int) := ⟨bi.toNat, by omega⟩
    have k2 := k2_eq ns (some (.shr (.int n0))) (some (.shr (.lst (dN os)))) os ho hn hz b (by omega)
    clear hb0 ho hn
    unfold k_law_3
    walk_at "ev"
theorem law_true : LawTrue (runF (["_law_script", "_law_first", "_law_octets_here", "_law_given", "_law_told", "_law_burst", "_law_at", "_law_whole", "_law_octet", "_law_size", "_law_shift", "_law_changed", "_law_others", "_law_k"] : List Str).length Gen.m_law) := by
  intro ns hns
  show ∃ O', runF 14 Gen.m_law _ _ = _
  refine ⟨[], ?_⟩
  have h0 : f_L_cell [.sea (dI ns), .int 0] [] = .ok (.shr (.int (ns.getD 0 0))) [] := cell_eq ns 0 []
  have h1 : f_L_cell [.sea (dI ns), .int 1] [] = .ok (.shr (.int (ns.getD 1 0))) [] := cell_eq ns 1 []
  generalize ns.getD 0 0 = n0 at *
  generalize ns.getD 1 0 = n1 at *
  obtain ⟨os, hr, hl, ho⟩ := row_eq n1 (n0 % 61) [] (Int.emod_nonneg _ (by decide)) (Int.emod_lt_of_pos _ (by decide))
  have hn : os.length < 61 := by
    have := Int.emod_lt_of_pos n0 (b := 61) (by decide)
    omega
  have k3 := k3_eq ns n0 os ho hn
  clear hl hn ho hns
  unfold m_law
  walk_at "ev"
end My

open PySem PySem.W PyProof.Rows
set_option maxRecDepth 100000 in
set_option maxHeartbeats 0 in
theorem PySem.Challenge.cw_formkeeper_k35_sums_of_octets_holds : PySem.Challenge.rw_formkeeper_k35_sums_of_octets.Holds := by
  w_on; o_law; k_head; (case hw => w_witness2)
  k_fill
  refine DL.law_end (l := PySem.Challenge.rw_formkeeper_k35_sums_of_octets) (qual := "law") (st := Gen.s_law) (N := ["_law_script", "_law_first", "_law_octets_here", "_law_given", "_law_told", "_law_burst", "_law_at", "_law_whole", "_law_octet", "_law_size", "_law_shift", "_law_changed", "_law_others", "_law_k"]) (x := "_law_script") (k := 1) (m := Gen.m_law) rfl rfl Gen.sc_law ⟨rfl, by decide, by decide⟩ (fun w h Y => PySem.W.kIn_of Y) ?D ?B My.law_true
  case D =>
    intro w mg h KX G
    try delta L2.KOf
    refine' DL.df_mk (x := "law") (qual := "law") (st := Gen.s_law) (ps := ["_law_script"]) KX G ?a ?l ?c ?k (fun _ _ _ _ _ _ us hl => match us, hl with | [_], _ => rfl)
    (case a => k_is); (case l => k_is); (case c => k_is); (case k => k_is)
  case B =>
    intro w mg h KX G base
    have b_abs : mg "abs" = none := by refine' PySem.W.mg_none_of KX G ?z; (case z => k_is)
    have b_bool : mg "bool" = none := by refine' PySem.W.mg_none_of KX G ?z; (case z => k_is)
    have b_int : mg "int" = none := by refine' PySem.W.mg_none_of KX G ?z; (case z => k_is)
    have b_isinstance : mg "isinstance" = none := by refine' PySem.W.mg_none_of KX G ?z; (case z => k_is)
    have b_len : mg "len" = none := by refine' PySem.W.mg_none_of KX G ?z; (case z => k_is)
    have b_list : mg "list" = none := by refine' PySem.W.mg_none_of KX G ?z; (case z => k_is)
    have b_max : mg "max" = none := by refine' PySem.W.mg_none_of KX G ?z; (case z => k_is)
    have b_range : mg "range" = none := by refine' PySem.W.mg_none_of KX G ?z; (case z => k_is)
    have c_ALL_BITS : ∃ t, mg "ALL_BITS" = some (.int 4294967295 t) := by refine' DL.gint_mk KX G ?z; (case z => k_is)
    have c_POLYNOMIAL : ∃ t, mg "POLYNOMIAL" = some (.int 79764919 t) := by refine' DL.gint_mk KX G ?z; (case z => k_is)
    have c_TOP : ∃ t, mg "TOP" = some (.int 2147483648 t) := by refine' DL.gint_mk KX G ?z; (case z => k_is)
    have T : Gen.Txt (L2.KOf KX) mg := ⟨b_abs, b_bool, b_int, b_isinstance, b_len, b_list, b_max, b_range, c_ALL_BITS, c_POLYNOMIAL, c_TOP⟩
    have D_L_cell : DL.Df (L2.KOf KX) mg "_law_cell" "_law_cell" Gen.s_L_cell ["_law_script", "_law_k"] := by
      try delta L2.KOf
      refine' DL.df_mk (x := "_law_cell") (qual := "_law_cell") (st := Gen.s_L_cell) (ps := ["_law_script", "_law_k"]) KX G ?a ?l ?c ?k (fun _ _ _ _ _ _ us hl => match us, hl with | [_, _], _ => rfl)
      (case a => k_is); (case l => k_is); (case c => k_is); (case k => k_is)
    have C_L_cell := DL.cal_of D_L_cell Gen.sc_L_cell (Gen.b_L_cell (P := PySem.Challenge.rw_formkeeper_k35_sums_of_octets.prog) (w := w) (base := base) T )
    have D_L_integer : DL.Df (L2.KOf KX) mg "_law_integer" "_law_integer" Gen.s_L_integer ["_law_value"] := by
      try delta L2.KOf
      refine' DL.df_mk (x := "_law_integer") (qual := "_law_integer") (st := Gen.s_L_integer) (ps := ["_law_value"]) KX G ?a ?l ?c ?k (fun _ _ _ _ _ _ us hl => match us, hl with | [_], _ => rfl)
      (case a => k_is); (case l => k_is); (case c => k_is); (case k => k_is)
    have C_L_integer := DL.cal_of D_L_integer Gen.sc_L_integer (Gen.b_L_integer (P := PySem.Challenge.rw_formkeeper_k35_sums_of_octets.prog) (w := w) (base := base) T )
    have D_L_row : DL.Df (L2.KOf KX) mg "_law_row" "_law_row" Gen.s_L_row ["_law_cell_here", "_law_count", "_law_bound"] := by
      try delta L2.KOf
      refine' DL.df_mk (x := "_law_row") (qual := "_law_row") (st := Gen.s_L_row) (ps := ["_law_cell_here", "_law_count", "_law_bound"]) KX G ?a ?l ?c ?k (fun _ _ _ _ _ _ us hl => match us, hl with | [_, _, _], _ => rfl)
      (case a => k_is); (case l => k_is); (case c => k_is); (case k => k_is)
    have C_L_row := DL.cal_of D_L_row Gen.sc_L_row (Gen.b_L_row (P := PySem.Challenge.rw_formkeeper_k35_sums_of_octets.prog) (w := w) (base := base) T )
    have D_L_sum : DL.Df (L2.KOf KX) mg "_law_sum" "_law_sum" Gen.s_L_sum ["_law_octets_here"] := by
      try delta L2.KOf
      refine' DL.df_mk (x := "_law_sum") (qual := "_law_sum") (st := Gen.s_L_sum) (ps := ["_law_octets_here"]) KX G ?a ?l ?c ?k (fun _ _ _ _ _ _ us hl => match us, hl with | [_], _ => rfl)
      (case a => k_is); (case l => k_is); (case c => k_is); (case k => k_is)
    have C_L_sum := DL.cal_of D_L_sum Gen.sc_L_sum (Gen.b_L_sum (P := PySem.Challenge.rw_formkeeper_k35_sums_of_octets.prog) (w := w) (base := base) T )
    have D_sum_of : DL.Df (L2.KOf KX) mg "sum_of" "sum_of" Gen.s_sum_of ["octets"] := by
      try delta L2.KOf
      refine' DL.df_mk (x := "sum_of") (qual := "sum_of") (st := Gen.s_sum_of) (ps := ["octets"]) KX G ?a ?l ?c ?k (fun _ _ _ _ _ _ us hl => match us, hl with | [_], _ => rfl)
      (case a => k_is); (case l => k_is); (case c => k_is); (case k => k_is)
    have C_sum_of := DL.cal_of D_sum_of Gen.sc_sum_of (Gen.b_sum_of (P := PySem.Challenge.rw_formkeeper_k35_sums_of_octets.prog) (w := w) (base := base) T )
    exact Gen.b_law T C_L_cell C_L_integer C_L_row C_L_sum C_sum_of

