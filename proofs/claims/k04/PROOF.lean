import PyProof.Rows.All
import Wide.All
import OpenK.AllK
import Wide.FinOn
import HandS.ForMost
import HandS.ForExc
import HandS.CallSlots
import HandS.Wide
import HandS.EndBits
import HandS.IsInst
import HandS.Style
import HandS.WideBits
import HandS.TupAny
import HandS.ExcInit
import HandS.ExcSuper
import KE.KExcSuper
import KE.KSuper
import HandS.TryOnly
import HandS.TryMany
import HandS.ExcField
import HandS.ExcIs
import KE.KExcIs
import HandS.Small
import HandS.StrMore
import HandS.StrSplit
import HandS.Replace
import HandS.Codes
import PyProof.Rows.StrLawsPart
import HandS.More
import HandS.DictComp
import HandS.SortInts
import KE.SortData
import KE.SortKeyHeap
import HandS.SortKw
import HandS.Text
import HandS.IntHex
import PyProof.StrOps2
import HandS.Flow
import HandS.Deep
import HandS.AnyAll
import HandS.Nested
import HandS.GenOver
import HandS.EndTab
import KE.KNest
import PyProof.Rows.StrSplitAre
import PySem.Challenge.RW_formkeeper_k04_names
set_option Elab.async false
set_option linter.all false
set_option maxRecDepth 100000
/-! DL: a layer over the hand layer: every value is a piece of data (D), every object that is changed is a cell of a store; expressions and statements are functions over them. -/
namespace DL
open PySem L2
/-- where the tables of the defs' own code objects lie (generator expressions, nested defs) -/
class Tabs where
  ts : List Addr
variable [Tabs]

/-! ### data -/
inductive D where
  | non | bl (b : Bool) | int (i : Int) | str (x : Str)
  | lst (xs : List D) | sea (xs : List D) | tup (xs : List D) | dct (kvs : List (Key × D)) | obj (n : Nat)
instance : Inhabited D := ⟨.non⟩
/-- what is changed in place -/
inductive Cell where
  | lst (xs : List D) | dct (kvs : List (Key × D)) | ins (c : Str) (fs : List (Str × D))
instance : Inhabited Cell := ⟨.lst []⟩
inductive SD where
  | shr (d : D) | own (c : Cell) | hot (c : Str) (p : D)
abbrev Sto := List Cell
abbrev Rho := List (Option SD)

/-- a value v stands for the data d: by what is frozen (B) and by the store's addresses -/
inductive DA (K : PySem.W.Frag) (ι : List Addr) (B : Hp) : V → D → Prop
  | non : DA K ι B .non .non
  | bl (b : Bool) : DA K ι B (.bl b) (.bl b)
  | int (i : Int) : DA K ι B (.int i) (.int i)
  | str (x : Str) : DA K ι B (.str x) (.str x)
  | lst {a : Addr} {vs : List V} {ds : List D} : B a = some (.lst vs) → Paired (DA K ι B) vs ds → DA K ι B (.ref a) (.lst ds)
  | sea {a : Addr} {vs : List V} {ds : List D} : SqL K B a vs → Paired (DA K ι B) vs ds → DA K ι B (.ref a) (.sea ds)
  | tup {a : Addr} {vs : List V} {ds : List D} : SqT K B a vs → Paired (DA K ι B) vs ds → DA K ι B (.ref a) (.tup ds)
  | dct {a : Addr} {o : Obj} {kvs : List (Key × V)} {es : List (Key × D)} : B a = some (.frz o (.dK kvs)) → kvs.map (·.1) = es.map (·.1) → Paired (DA K ι B) (kvs.map (·.2)) (es.map (·.2)) → DA K ι B (.ref a) (.dct es)
  | obj {a : Addr} {n : Nat} : ι[n]? = some a → DA K ι B (.ref a) (.obj n)

/-- the store's addresses go on -/
def Pre (ι ι' : List Addr) : Prop := ∀ (n : Nat) (a : Addr), ι[n]? = some a → ι'[n]? = some a
theorem Pre.refl (ι : List Addr) : Pre ι ι := fun _ _ h => h
theorem Pre.trans {a b c : List Addr} (h : Pre a b) (k : Pre b c) : Pre a c := fun n x q => k n x (h n x q)
theorem Pre.mem {a b : List Addr} (h : Pre a b) {x : Addr} (m : x ∈ a) : x ∈ b := by
  obtain ⟨n, q⟩ := List.mem_iff_getElem?.mp m
  exact List.mem_of_getElem? (h n x q)
theorem Rd.same {B B' : Hp} {a : Addr} {u : HO} (h : Same B B') (r : Rd B a u) : Rd B' a u := by
  rcases r with r | ⟨o, r⟩
  · exact .inl (h _ _ r)
  · exact .inr ⟨o, h _ _ r⟩
theorem sqT_same {K : PySem.W.Frag} {B B' : Hp} {a : Addr} {xs : List V} (h : Same B B') (r : SqT K B a xs) : SqT K B' a xs := by
  rcases r with r | r
  · exact .inl (Rd.same h r)
  · exact .inr r
abbrev KD (K : PySem.W.Frag) (ι : List Addr) (B : Hp) : Key × V → Key × D → Prop := fun p q => p.1 = q.1 ∧ DA K ι B p.2 q.2
abbrev FD (K : PySem.W.Frag) (ι : List Addr) (B : Hp) : Str × V → Str × D → Prop := fun p q => p.1 = q.1 ∧ DA K ι B p.2 q.2
section
variable {K : PySem.W.Frag} {ι ι' : List Addr} {B B' : Hp}
mutual
theorem DA.mono (hB : Same B B') (hi : Pre ι ι') : ∀ (d : D) (v : V), DA K ι B v d → DA K ι' B' v d
  | .non, _, h => by cases h; exact .non
  | .bl b, _, h => by cases h; exact .bl b
  | .int i, _, h => by cases h; exact .int i
  | .str x, _, h => by cases h; exact .str x
  | .lst ds, _, h => by
    cases h with
    | lst h1 h2 => exact .lst (hB _ _ h1) (DA.monos hB hi ds _ h2)
  | .sea ds, _, h => by
    cases h with
    | sea h1 h2 => exact .sea (hB.seq h1) (DA.monos hB hi ds _ h2)
  | .tup ds, _, h => by
    cases h with
    | tup h1 h2 => exact .tup (sqT_same hB h1) (DA.monos hB hi ds _ h2)
  | .dct es, _, h => by
    cases h with
    | dct h1 h2 h3 => exact .dct (hB _ _ h1) h2 (DA.monok hB hi es _ h3)
  | .obj n, _, h => by
    cases h with
    | obj h1 => exact .obj (hi _ _ h1)
theorem DA.monos (hB : Same B B') (hi : Pre ι ι') : ∀ (ds : List D) (vs : List V), Paired (DA K ι B) vs ds → Paired (DA K ι' B') vs ds
  | [], _, h => by cases h; exact .nil
  | d :: ds, _, h => by
    cases h with
    | cons h1 h2 => exact .cons (DA.mono hB hi d _ h1) (DA.monos hB hi ds _ h2)
theorem DA.monok (hB : Same B B') (hi : Pre ι ι') : ∀ (es : List (Key × D)) (vs : List V), Paired (DA K ι B) vs (es.map (·.2)) → Paired (DA K ι' B') vs (es.map (·.2))
  | [], _, h => by cases h; exact .nil
  | (k, d) :: es, _, h => by
    cases h with
    | cons h1 h2 => exact .cons (DA.mono hB hi d _ h1) (DA.monok hB hi es _ h2)
end
theorem KD.mono (hB : Same B B') (hi : Pre ι ι') : ∀ (es : List (Key × D)) (kvs : List (Key × V)), Paired (KD K ι B) kvs es → Paired (KD K ι' B') kvs es
  | [], _, h => by cases h; exact .nil
  | (k, d) :: es, _, h => by
    cases h with
    | cons h1 h2 => exact .cons ⟨h1.1, DA.mono hB hi d _ h1.2⟩ (KD.mono hB hi es _ h2)
theorem KD.split : ∀ {es : List (Key × D)} {kvs : List (Key × V)}, Paired (KD K ι B) kvs es → kvs.map (·.1) = es.map (·.1) ∧ Paired (DA K ι B) (kvs.map (·.2)) (es.map (·.2))
  | _, _, .nil => ⟨rfl, .nil⟩
  | _, _, .cons h t => ⟨by rw [List.map_cons, List.map_cons, h.1, (KD.split t).1], .cons h.2 (KD.split t).2⟩
theorem KD.join : ∀ {es : List (Key × D)} {kvs : List (Key × V)}, kvs.map (·.1) = es.map (·.1) → Paired (DA K ι B) (kvs.map (·.2)) (es.map (·.2)) → Paired (KD K ι B) kvs es
  | [], [], _, _ => .nil
  | [], _ :: _, h, _ => by simp at h
  | _ :: _, [], h, _ => by simp at h
  | (k, d) :: es, (k', v) :: kvs, h, p => by
    simp only [List.map_cons, List.cons.injEq] at h
    cases p with
    | cons p1 p2 => exact .cons ⟨h.1, p1⟩ (KD.join h.2 p2)
theorem DA.monof (hB : Same B B') (hi : Pre ι ι') : ∀ (es : List (Str × D)) (kvs : List (Str × V)), Paired (FD K ι B) kvs es → Paired (FD K ι' B') kvs es
  | [], _, h => by cases h; exact .nil
  | (k, d) :: es, _, h => by
    cases h with
    | cons h1 h2 => exact .cons ⟨h1.1, DA.mono hB hi d _ h1.2⟩ (DA.monof hB hi es _ h2)
end

/-! ### the state -/
/-- how things stood at the def's entry -/
structure Ent where
  ι : List Addr
  B : Hp
  H : Hp
  hot : Option (Addr × Value × Option Addr) := none
/-- .. within a context: what is caught there -/
abbrev en (X : Cx) (e : Ent) : Ent := { e with hot := cond X.calm none (X.pn.head?.map fun p => (p.1, p.2.cls, p.2.dict)) }
abbrev Mg := Str → Option Value
/-- a cell of the store stands at a -/
def CA (K : PySem.W.Frag) (mg : Mg) (ι : List Addr) (B H : Hp) (a : Addr) : Cell → Prop
  | .lst ds => ∃ vs, H a = some (.lst vs) ∧ Paired (DA K ι B) vs ds
  | .dct es => ∃ kvs, H a = some (.dK kvs) ∧ Paired (KD K ι B) kvs es
  | .ins c fs => ∃ C dx fvs, mg c = some (.ref C) ∧ H a = some (.ins C dx fvs) ∧ Paired (FD K ι B) fvs fs
/-- an exception of the class c with the place p; its dict at dx -/
def Exc (K : PySem.W.Frag) (mg : Mg) (ι : List Addr) (B : Hp) (C dx : Addr) (c : Str) (p : D) : Prop :=
  mg c = some (.ref C) ∧ ∃ fs v, B dx = some (.xd fs) ∧ fs.lookup ("place" : Str) = some v ∧ DA K ι B v p ∧ fs.lookup ("name" : Str) = some (.str c)
theorem Exc.mono {K : PySem.W.Frag} {mg : Mg} {ι ι' : List Addr} {B B' : Hp} {C dx : Addr} {c : Str} {p : D} (hB : Same B B') (hi : Pre ι ι') (h : Exc K mg ι B C dx c p) : Exc K mg ι' B' C dx c p := by
  obtain ⟨h1, fs, v, h2, h3, h4, h5⟩ := h
  exact ⟨h1, fs, v, hB _ _ h2, h3, DA.mono hB hi _ _ h4, h5⟩

def SA (K : PySem.W.Frag) (mg : Mg) (e : Ent) (ι : List Addr) (B H : Hp) (v : V) : SD → Prop
  | .shr d => DA K ι B v d
  | .own c => ∃ a, v = .ref a ∧ CA K mg ι B H a c ∧ B a = none ∧ e.H a = none ∧ a ∉ ι
  | .hot c p => ∃ a C dx, e.hot = some (a, .ref C, some dx) ∧ v = .ref a ∧ Exc K mg ι B C dx c p
structure Rel (K : PySem.W.Frag) (mg : Mg) (e : Ent) (ι : List Addr) (B H : Hp) (ρ : Rho) (O : Sto) (σ : St) : Prop where
  sub : Same B H
  eB : Same e.B B
  ei : Pre e.ι ι
  fB : ∀ a o, B a = some o → e.B a = some o ∨ e.H a = none
  fH : ∀ a o, e.H a = some o → a ∉ e.ι → a ∉ Tabs.ts → H a = some o
  fi : ∀ a, a ∈ ι → a ∈ e.ι ∨ e.H a = none
  len : σ.length = ρ.length
  sl : ∀ (i : Nat) (x : SD), ρ[i]? = some (some x) → ∃ v, σ[i]? = some (some v) ∧ SA K mg e ι B H v x
  sep : ∀ (i j : Nat) (a : Addr) (c c' : Cell), ρ[i]? = some (some (.own c)) → ρ[j]? = some (some (.own c')) → σ[i]? = some (some (.ref a)) → σ[j]? = some (some (.ref a)) → i = j
  lo : O.length = ι.length
  ob : ∀ (n : Nat) (c : Cell) (a : Addr), O[n]? = some c → ι[n]? = some a → CA K mg ι B H a c ∧ B a = none
  nd : ι.Nodup
  tb : ∀ P ∈ Tabs.ts, B P = none ∧ ∃ ps : Array Value, H P = some (.tbl ps) ∧ TriplesOk ps.toList
section
variable {K : PySem.W.Frag} {mg : Mg} {e : Ent} {ι ι' : List Addr} {B B' H H' : Hp} {ρ : Rho} {O : Sto} {σ : St} {a p : Addr} {c : Cell}
theorem SA.hot_mono {v : V} {c : Str} {p : D} (hB : Same B B') (hi : Pre ι ι') (h : SA K mg e ι B H v (.hot c p)) : SA K mg e ι' B' H' v (.hot c p) := by
  obtain ⟨a, C, dx, h1, h2, h5⟩ := h
  exact ⟨a, C, dx, h1, h2, h5.mono hB hi⟩
theorem CA.there (h : CA K mg ι B H a c) : ∃ o, H a = some o := by
  cases c with
  | lst ds => obtain ⟨_, h, _⟩ := h; exact ⟨_, h⟩
  | dct es => obtain ⟨_, h, _⟩ := h; exact ⟨_, h⟩
  | ins c fs => obtain ⟨_, _, _, _, h, _⟩ := h; exact ⟨_, h⟩
theorem CA.mono (hB : Same B B') (hi : Pre ι ι') (hH : H' a = H a) (h : CA K mg ι B H a c) : CA K mg ι' B' H' a c := by
  cases c with
  | lst ds => obtain ⟨vs, h, r⟩ := h; exact ⟨vs, hH.trans h, DA.monos hB hi _ _ r⟩
  | dct es => obtain ⟨vs, h, r⟩ := h; exact ⟨vs, hH.trans h, KD.mono hB hi _ _ r⟩
  | ins c fs => obtain ⟨C, dx, fvs, m, h, r⟩ := h; exact ⟨C, dx, fvs, m, hH.trans h, DA.monof hB hi _ _ r⟩
/-- the store's cell at an address -/
theorem Rel.cell (r : Rel K mg e ι B H ρ O σ) (h : a ∈ ι) : ∃ (n : Nat) (c : Cell), ι[n]? = some a ∧ O[n]? = some c ∧ CA K mg ι B H a c ∧ B a = none := by
  obtain ⟨n, q⟩ := List.mem_iff_getElem?.mp h
  have hn : n < O.length := by
    rw [r.lo]
    exact (List.getElem?_eq_some_iff.mp q).1
  have hc : O[n]? = some O[n] := List.getElem?_eq_getElem hn
  obtain ⟨h1, h2⟩ := r.ob n _ a hc q
  exact ⟨n, _, q, hc, h1, h2⟩
/-- what is no table -/
theorem Rel.nt (r : Rel K mg e ι B H ρ O σ) {o : HO} (h : H a = some o) (ho : ∀ ps, o ≠ .tbl ps) : a ∉ Tabs.ts := fun m => by
  obtain ⟨_, ps, q, _⟩ := r.tb a m
  rw [h] at q
  exact ho ps (Option.some.inj q)
theorem Rel.fnt (r : Rel K mg e ι B H ρ O σ) (h : H a = none) : a ∉ Tabs.ts := fun m => by
  obtain ⟨_, ps, q, _⟩ := r.tb a m
  rw [h] at q
  cases q
theorem CA.nt (r : Rel K mg e ι B H ρ O σ) (h : CA K mg ι' B' H a c) : a ∉ Tabs.ts := by
  cases c with
  | lst ds => obtain ⟨_, h, _⟩ := h; exact r.nt h fun ps z => by cases z
  | dct es => obtain ⟨_, h, _⟩ := h; exact r.nt h fun ps z => by cases z
  | ins c fs => obtain ⟨_, _, _, _, h, _⟩ := h; exact r.nt h fun ps z => by cases z
/-- what is free now was free at the entry -/
theorem Rel.free (r : Rel K mg e ι B H ρ O σ) (h : H a = none) : e.H a = none := by
  cases q : e.H a with
  | none => rfl
  | some o =>
    by_cases m : a ∈ e.ι
    · obtain ⟨_, _, _, _, x, _⟩ := r.cell (r.ei.mem m)
      obtain ⟨o', x⟩ := x.there
      rw [h] at x
      cases x
    · by_cases mt : a ∈ Tabs.ts
      · obtain ⟨_, ps, x, _⟩ := r.tb a mt
        rw [h] at x
        cases x
      · rw [r.fH a o q m mt] at h
        cases h
/-- the frozen part and the heap have grown by new objects -/
theorem Rel.grow (r : Rel K mg e ι B H ρ O σ) (hH : Same H H') (hB : Same B B') (hs : Same B' H') (fb : ∀ a o, B' a = some o → B a = some o ∨ H a = none) : Rel K mg e ι B' H' ρ O σ := by
  have keep : ∀ {a : Addr} {c : Cell}, CA K mg ι B H a c → B a = none → CA K mg ι B' H' a c ∧ B' a = none := fun {a c} h n => by
    obtain ⟨o, q⟩ := h.there
    refine ⟨h.mono hB (Pre.refl _) ((hH _ _ q).trans q.symm), ?_⟩
    cases z : B' a with
    | none => rfl
    | some o' =>
      rcases fb a o' z with y | y
      · rw [n] at y; cases y
      · rw [q] at y; cases y
  refine ⟨hs, r.eB.trans hB, r.ei, fun a o h => ?_, fun a o h m mt => hH _ _ (r.fH a o h m mt), r.fi, r.len, fun i x h => ?_, r.sep, r.lo, fun n c a h1 h2 => keep (r.ob n c a h1 h2).1 (r.ob n c a h1 h2).2, r.nd, fun P m => ?_⟩
  rotate_right
  · obtain ⟨n, ps, q, k⟩ := r.tb P m
    refine ⟨?_, ps, hH _ _ q, k⟩
    cases z : B' P with
    | none => rfl
    | some o =>
      rcases fb P o z with y | y
      · rw [n] at y; cases y
      · rw [q] at y; cases y
  · rcases fb a o h with y | y
    · exact r.fB a o y
    · exact .inr (r.free y)
  · obtain ⟨v, h1, h2⟩ := r.sl i x h
    refine ⟨v, h1, ?_⟩
    cases x with
    | shr d => exact DA.mono hB (Pre.refl _) d v h2
    | hot c p => exact SA.hot_mono hB (Pre.refl _) h2
    | own c =>
      obtain ⟨a, e1, e2, e3, e4, e5⟩ := h2
      obtain ⟨k1, k2⟩ := keep e2 e3
      exact ⟨a, e1, k1, k2, e4, e5⟩
/-- a new object, frozen at once -/
theorem Rel.alloc (r : Rel K mg e ι B H ρ O σ) (hp : H p = none) (o : HO) : Rel K mg e ι (upd B p o) (upd H p o) ρ O σ ∧ Same B (upd B p o) := by
  have nb : B p = none := r.sub.free hp
  have sb : Same B (upd B p o) := fun b x h => by rw [upd_ne (ne_of_none h nb)]; exact h
  have sh : Same H (upd H p o) := fun b x h => by rw [upd_ne (ne_of_none h hp)]; exact h
  refine ⟨r.grow sh sb (fun b x h => ?_) fun b x h => ?_, sb⟩
  · by_cases e1 : b = p
    · subst e1; rw [upd_same] at h ⊢; exact h
    · rw [upd_ne e1] at h ⊢; exact r.sub _ _ h
  · by_cases e1 : b = p
    · subst e1; exact .inr hp
    · rw [upd_ne e1] at h; exact .inl h
/-- a new object, not frozen -/
theorem Rel.fresh (r : Rel K mg e ι B H ρ O σ) (hp : H p = none) (o : HO) : Rel K mg e ι B (upd H p o) ρ O σ ∧ B p = none ∧ e.H p = none ∧ p ∉ ι := by
  have nb : B p = none := r.sub.free hp
  have sh : Same H (upd H p o) := fun b x h => by rw [upd_ne (ne_of_none h hp)]; exact h
  refine ⟨r.grow sh (Same.refl _) (r.sub.trans sh) fun b x h => .inl h, nb, r.free hp, fun m => ?_⟩
  obtain ⟨_, _, _, _, x, _⟩ := r.cell m
  obtain ⟨o', x⟩ := x.there
  rw [hp] at x
  cases x
/-- without the slots -/
theorem Rel.bare (r : Rel K mg e ι B H ρ O σ) : Rel K mg e ι B H [] O [] :=
  ⟨r.sub, r.eB, r.ei, r.fB, r.fH, r.fi, rfl, fun i x h => by simp at h, fun i j a c c' h => by simp at h, r.lo, r.ob, r.nd, r.tb⟩
/-- a callee's entry -/
theorem Rel.enter {hot : Option (Addr × Value × Option Addr)} (r : Rel K mg e ι B H ρ O σ) : Rel K mg ⟨ι, B, H, hot⟩ ι B H [] O [] :=
  ⟨r.sub, Same.refl _, Pre.refl _, fun a o h => .inl h, fun a o h m _ => h, fun a h => .inl h, rfl, fun i x h => by simp at h, fun i j a c c' h => by simp at h, r.lo, r.ob, r.nd, r.tb⟩
/-- behind a callee -/
theorem Rel.after {O' : Sto} {hot : Option (Addr × Value × Option Addr)} (r : Rel K mg e ι B H ρ O σ) (q : Rel K mg ⟨ι, B, H, hot⟩ ι' B' H' [] O' []) : Rel K mg e ι' B' H' ρ O' σ := by
  refine ⟨q.sub, r.eB.trans q.eB, r.ei.trans q.ei, fun a o h => ?_, fun a o h m mt => ?_, fun a h => ?_, r.len, fun i x h => ?_, r.sep, q.lo, q.ob, q.nd, q.tb⟩
  · rcases q.fB a o h with y | y
    · exact r.fB a o y
    · exact .inr (r.free y)
  · by_cases m2 : a ∈ ι
    · rcases r.fi a m2 with y | y
      · exact absurd y m
      · rw [h] at y; cases y
    · exact q.fH a o (r.fH a o h m mt) m2 mt
  · rcases q.fi a h with y | y
    · exact r.fi a y
    · exact .inr (r.free y)
  · obtain ⟨v, h1, h2⟩ := r.sl i x h
    refine ⟨v, h1, ?_⟩
    cases x with
    | shr d => exact DA.mono q.eB q.ei d v h2
    | hot c p => exact SA.hot_mono q.eB q.ei h2
    | own c =>
      obtain ⟨a, e1, e2, e3, e4, e5⟩ := h2
      obtain ⟨o, eo⟩ := e2.there
      have hh : H' a = H a := (q.fH a o eo e5 (CA.nt r e2)).trans eo.symm
      refine ⟨a, e1, e2.mono q.eB q.ei hh, ?_, e4, fun m => ?_⟩
      · cases z : B' a with
        | none => rfl
        | some o' =>
          rcases q.fB a o' z with y | y
          · have y' : B a = some o' := y
            rw [e3] at y'; cases y'
          · have y' : H a = none := y
            rw [eo] at y'; cases y'
      · rcases q.fi a m with y | y
        · exact e5 y
        · have y' : H a = none := y
          rw [eo] at y'; cases y'
/-- a slot is set to data -/
theorem Rel.set (r : Rel K mg e ι B H ρ O σ) {i : Nat} {v : V} {d : D} (h : DA K ι B v d) (hi : i < ρ.length) : Rel K mg e ι B H (ρ.set i (some (.shr d))) O (σ.set i (some v)) := by
  have hi2 : i < σ.length := by rw [r.len]; exact hi
  refine ⟨r.sub, r.eB, r.ei, r.fB, r.fH, r.fi, by rw [List.length_set, List.length_set]; exact r.len, fun j x q => ?_, fun j k a c c' h1 h2 h3 h4 => ?_, r.lo, r.ob, r.nd, r.tb⟩
  · by_cases e1 : i = j
    · subst e1
      rw [List.getElem?_set_self hi] at q
      cases q
      exact ⟨v, List.getElem?_set_self hi2, h⟩
    · rw [List.getElem?_set_ne e1] at q ⊢
      exact r.sl j x q
  · by_cases e1 : i = j
    · subst e1
      rw [List.getElem?_set_self hi] at h1
      cases h1
    · by_cases e2 : i = k
      · subst e2
        rw [List.getElem?_set_self hi] at h2
        cases h2
      · rw [List.getElem?_set_ne e1] at h1 h3
        rw [List.getElem?_set_ne e2] at h2 h4
        exact r.sep j k a c c' h1 h2 h3 h4
/-- .. to what is caught -/
theorem Rel.setHot (r : Rel K mg e ι B H ρ O σ) {i : Nat} {v : V} {n : Str} {p : D} (h : SA K mg e ι B H v (.hot n p)) (hi : i < ρ.length) : Rel K mg e ι B H (ρ.set i (some (.hot n p))) O (σ.set i (some v)) := by
  have hi2 : i < σ.length := by rw [r.len]; exact hi
  refine ⟨r.sub, r.eB, r.ei, r.fB, r.fH, r.fi, by rw [List.length_set, List.length_set]; exact r.len, fun j x q => ?_, fun j k a c c' h1 h2 h3 h4 => ?_, r.lo, r.ob, r.nd, r.tb⟩
  · by_cases e1 : i = j
    · subst e1
      rw [List.getElem?_set_self hi] at q
      cases q
      exact ⟨v, List.getElem?_set_self hi2, h⟩
    · rw [List.getElem?_set_ne e1] at q ⊢
      exact r.sl j x q
  · by_cases e1 : i = j
    · subst e1
      rw [List.getElem?_set_self hi] at h1
      cases h1
    · by_cases e2 : i = k
      · subst e2
        rw [List.getElem?_set_self hi] at h2
        cases h2
      · rw [List.getElem?_set_ne e1] at h1 h3
        rw [List.getElem?_set_ne e2] at h2 h4
        exact r.sep j k a c c' h1 h2 h3 h4
/-- .. to nothing -/
theorem Rel.unset (r : Rel K mg e ι B H ρ O σ) {i : Nat} {o : Option V} : Rel K mg e ι B H (ρ.set i none) O (σ.set i o) := by
  refine ⟨r.sub, r.eB, r.ei, r.fB, r.fH, r.fi, by rw [List.length_set, List.length_set]; exact r.len, fun j x q => ?_, fun j k a c c' h1 h2 h3 h4 => ?_, r.lo, r.ob, r.nd, r.tb⟩
  · by_cases e1 : i = j
    · subst e1
      rw [List.getElem?_set] at q
      split at q
      · split at q <;> cases q
      · rename_i z; exact absurd rfl z
    · rw [List.getElem?_set_ne e1] at q ⊢
      exact r.sl j x q
  · by_cases e1 : i = j
    · subst e1
      rw [List.getElem?_set] at h1
      split at h1
      · split at h1 <;> cases h1
      · rename_i z; exact absurd rfl z
    · by_cases e2 : i = k
      · subst e2
        rw [List.getElem?_set] at h2
        split at h2
        · split at h2 <;> cases h2
        · rename_i z; exact absurd rfl z
      · rw [List.getElem?_set_ne e1] at h1 h3
        rw [List.getElem?_set_ne e2] at h2 h4
        exact r.sep j k a c c' h1 h2 h3 h4
/-- a new cell comes to a slot -/
theorem Rel.setOwn (r : Rel K mg e ι B H ρ O σ) {i : Nat} (hi : i < ρ.length) (ca : CA K mg ι B H a c) (hb : B a = none) (he : e.H a = none) (hn : a ∉ ι)
    (ne : ∀ (j : Nat) (c' : Cell), ρ[j]? = some (some (.own c')) → σ[j]? ≠ some (some (.ref a))) : Rel K mg e ι B H (ρ.set i (some (.own c))) O (σ.set i (some (.ref a))) := by
  have hi2 : i < σ.length := by rw [r.len]; exact hi
  refine ⟨r.sub, r.eB, r.ei, r.fB, r.fH, r.fi, by rw [List.length_set, List.length_set]; exact r.len, fun j x q => ?_, fun j k b c1 c2 h1 h2 h3 h4 => ?_, r.lo, r.ob, r.nd, r.tb⟩
  · by_cases e1 : i = j
    · subst e1
      rw [List.getElem?_set_self hi] at q
      cases q
      exact ⟨_, List.getElem?_set_self hi2, a, rfl, ca, hb, he, hn⟩
    · rw [List.getElem?_set_ne e1] at q ⊢
      exact r.sl j x q
  · by_cases e1 : i = j
    · by_cases e2 : i = k
      · exact e1.symm.trans e2
      · subst e1
        rw [List.getElem?_set_self hi2] at h3
        cases h3
        rw [List.getElem?_set_ne e2] at h2 h4
        exact absurd h4 (ne k c2 h2)
    · by_cases e2 : i = k
      · subst e2
        rw [List.getElem?_set_self hi2] at h4
        cases h4
        rw [List.getElem?_set_ne e1] at h1 h3
        exact absurd h3 (ne j c1 h1)
      · rw [List.getElem?_set_ne e1] at h1 h3
        rw [List.getElem?_set_ne e2] at h2 h4
        exact r.sep j k b c1 c2 h1 h2 h3 h4

/-- the heap has changed at an address that is not frozen and not the caller's -/
theorem Rel.poke (r : Rel K mg e ι B H ρ O σ) (hb : B a = none) (he : e.H a = none ∨ a ∈ e.ι) {o : HO}
    (hs : ∀ (i : Nat) (c : Cell), ρ[i]? = some (some (.own c)) → σ[i]? ≠ some (some (.ref a))) (hn : a ∉ ι) (hta : a ∉ Tabs.ts) : Rel K mg e ι B (upd H a o) ρ O σ := by
  refine ⟨fun b x h => ?_, r.eB, r.ei, r.fB, fun b x h m mt => ?_, r.fi, r.len, fun i x h => ?_, r.sep, r.lo, fun n c b h1 h2 => ?_, r.nd, fun P m => (let ⟨n, ps, q, k⟩ := r.tb P m; ⟨n, ps, (upd_ne fun z => hta (by rw [← z]; exact m)).trans q, k⟩)⟩
  · rw [upd_ne (ne_of_none h hb)]; exact r.sub _ _ h
  · have : b ≠ a := by
      rintro rfl
      rcases he with y | y
      · rw [h] at y; cases y
      · exact m y
    rw [upd_ne this]; exact r.fH b x h m mt
  · obtain ⟨v, h1, h2⟩ := r.sl i x h
    refine ⟨v, h1, ?_⟩
    cases x with
    | shr d => exact h2
    | hot c p => exact SA.hot_mono (Same.refl _) (Pre.refl _) h2
    | own c =>
      obtain ⟨b, e1, e2, e3, e4, e5⟩ := h2
      subst e1
      have : b ≠ a := by
        rintro rfl
        exact hs i c h h1
      exact ⟨b, rfl, e2.mono (Same.refl _) (Pre.refl _) (upd_ne this), e3, e4, e5⟩
  · have : b ≠ a := by
      rintro rfl
      exact hn (List.mem_of_getElem? h2)
    obtain ⟨k1, k2⟩ := r.ob n c b h1 h2
    exact ⟨k1.mono (Same.refl _) (Pre.refl _) (upd_ne this), k2⟩
/-- an owned cell is changed -/
theorem Rel.putOwn (r : Rel K mg e ι B H ρ O σ) {i : Nat} {c' : Cell} {o : HO} (h : ρ[i]? = some (some (.own c))) (hv : σ[i]? = some (some (.ref a))) (ca : CA K mg ι B (upd H a o) a c') :
    Rel K mg e ι B (upd H a o) (ρ.set i (some (.own c'))) O σ := by
  obtain ⟨v, h1, b, e1, e2, e3, e4, e5⟩ := r.sl i _ h
  rw [hv] at h1
  cases h1
  cases e1
  have hi : i < ρ.length := (List.getElem?_eq_some_iff.mp h).1
  have q : Rel K mg e ι B (upd H a o) (ρ.set i none) O (σ.set i none) := by
    refine (r.unset (i := i) (o := none)).poke e3 (.inl e4) (fun j c2 h2 h3 => ?_) e5 (CA.nt r e2)
    by_cases e6 : i = j
    · subst e6
      rw [List.getElem?_set_self hi] at h2
      cases h2
    · rw [List.getElem?_set_ne e6] at h2 h3
      exact e6 (r.sep i j a c c2 h h2 hv h3)
  have hi2 : i < (ρ.set i none).length := by rw [List.length_set]; exact hi
  have z := q.setOwn (i := i) (c := c') (a := a) hi2 ca e3 e4 e5 fun j c2 h2 h3 => by
    by_cases e6 : i = j
    · subst e6
      rw [List.getElem?_set_self hi] at h2
      cases h2
    · rw [List.getElem?_set_ne e6] at h2 h3
      exact e6 (r.sep i j a c c2 h h2 hv h3)
  have e7 : σ = σ.set i (some (.ref a)) := by
    apply List.ext_getElem?
    intro j
    by_cases e6 : i = j
    · subst e6
      rw [List.getElem?_set_self (by rw [r.len]; exact hi)]
      exact hv
    · rw [List.getElem?_set_ne e6]
  rw [List.set_set, List.set_set, ← e7] at z
  exact z
/-- an owned list is frozen -/
theorem Rel.freezeL (r : Rel K mg e ι B H ρ O σ) {i : Nat} {ds : List D} (h : ρ[i]? = some (some (.own (.lst ds)))) : ∃ B', Rel K mg e ι B' H (ρ.set i (some (.shr (.lst ds)))) O σ ∧ Same B B' := by
  obtain ⟨v, h1, a, e1, e2, e3, e4, e5⟩ := r.sl i _ h
  subst e1
  obtain ⟨vs, hv, pv⟩ := e2
  have sb : Same B (upd B a (.lst vs)) := fun b x h => by rw [upd_ne (ne_of_none h e3)]; exact h
  have hi : i < ρ.length := (List.getElem?_eq_some_iff.mp h).1
  have e7 : σ = σ.set i (some (.ref a)) := by
    apply List.ext_getElem?
    intro j
    by_cases e6 : i = j
    · subst e6
      rw [List.getElem?_set_self (by rw [r.len]; exact hi)]
      exact h1
    · rw [List.getElem?_set_ne e6]
  refine ⟨_, ?_, sb⟩
  have q := r.unset (i := i) (o := none)
  have q2 : Rel K mg e ι (upd B a (.lst vs)) H (ρ.set i none) O (σ.set i none) := by
    refine ⟨fun b x h => ?_, q.eB.trans sb, q.ei, fun b x h => ?_, q.fH, q.fi, q.len, fun j x h2 => ?_, q.sep, q.lo, fun n c b h2 h3 => ?_, q.nd, fun P m => ⟨(upd_ne fun z => r.nt hv (fun ps y => by cases y) (by rw [← z]; exact m)).trans (q.tb P m).1, (q.tb P m).2⟩⟩
    · by_cases e6 : b = a
      · subst e6; rw [upd_same] at h; cases h; exact hv
      · rw [upd_ne e6] at h; exact r.sub _ _ h
    · by_cases e6 : b = a
      · subst e6; exact .inr e4
      · rw [upd_ne e6] at h; exact r.fB b x h
    · obtain ⟨w, k1, k2⟩ := q.sl j x h2
      refine ⟨w, k1, ?_⟩
      cases x with
      | shr d => exact DA.mono sb (Pre.refl _) d w k2
      | hot c p => exact SA.hot_mono sb (Pre.refl _) k2
      | own c =>
        obtain ⟨b, m1, m2, m3, m4, m5⟩ := k2
        subst m1
        have hne : b ≠ a := by
          rintro rfl
          by_cases e6 : i = j
          · subst e6
            rw [List.getElem?_set_self hi] at h2
            cases h2
          · rw [List.getElem?_set_ne e6] at h2 k1
            exact e6 (r.sep i j b _ _ h h2 h1 k1)
        exact ⟨b, rfl, m2.mono sb (Pre.refl _) rfl, by rw [upd_ne hne]; exact m3, m4, m5⟩
    · have hne : b ≠ a := by
        rintro rfl
        exact e5 (List.mem_of_getElem? h3)
      obtain ⟨k1, k2⟩ := r.ob n c b h2 h3
      exact ⟨k1.mono sb (Pre.refl _) rfl, by rw [upd_ne hne]; exact k2⟩
  have z := q2.set (i := i) (v := .ref a) (d := .lst ds) (.lst upd_same (DA.monos sb (Pre.refl _) _ _ pv)) (by rw [List.length_set]; exact hi)
  rw [List.set_set, List.set_set, ← e7] at z
  exact z
end

/-! ### results -/
inductive RE (α : Type) where
  | ok (a : α) (O : Sto) | err (c : Str) (p : D) (O : Sto) | bad
inductive RS where
  | nx (ρ : Rho) (O : Sto) | bk (ρ : Rho) (O : Sto) | ct (ρ : Rho) (O : Sto) | ret (x : SD) (O : Sto) | err (c : Str) (p : D) (ρ : Rho) (O : Sto) | bad
abbrev ME (α : Type) := Rho → Sto → RE α
abbrev MS := Rho → Sto → RS
abbrev MF := List D → Sto → RE SD

section
variable {β α γ δ : Type}
/-- how a Lean value of a reading stands for data -/
abbrev RV (β α : Type) := List Addr → Hp → Rho → St → β → α → Prop
/-- the wish behind an expression: the outcome r leads to Q (or, raised, to Wx) -/
def EvP (X : Cx) (Wx : WX) (R : RV β α) (e : Ent) (ι : List Addr) (B : Hp) (ρ : Rho) (σ : St) (Q : β → Hp → Prop) : RE α → Prop
  | .ok d O' => ∀ ι' B' H' v, Rel X.K X.mg (en X e) ι' B' H' ρ O' σ → Pre ι ι' → Same B B' → R ι' B' ρ σ v d → Q v H'
  | .err c p O' => ∀ ι' B' H' C dx, Rel X.K X.mg (en X e) ι' B' H' ρ O' σ → Pre ι ι' → Same B B' → Exc X.K X.mg ι' B' C dx c p → Wx (.ref C) (some dx) σ H'
  | .bad => False
def Ev (X : Cx) (Wx : WX) (R : RV β α) (t : St → Hp → (β → Hp → Prop) → Prop) (m : ME α) : Prop :=
  ∀ e ι B H ρ O σ Q, Rel X.K X.mg (en X e) ι B H ρ O σ → EvP X Wx R e ι B ρ σ Q (m ρ O) → t σ H Q
/-- a further step, behind a value -/
def EvC (X : Cx) (Wx : WX) (R : RV β α) (R' : RV γ δ) (u : β → St → Hp → (γ → Hp → Prop) → Prop) (f : α → ME δ) : Prop :=
  ∀ x a e ι B H ρ O σ Q, Rel X.K X.mg (en X e) ι B H ρ O σ → R ι B ρ σ x a → EvP X Wx R' e ι B ρ σ Q (f a ρ O) → u x σ H Q
def bindE (m : ME α) (f : α → ME δ) : ME δ := fun ρ O =>
  match m ρ O with
  | .ok a O' => f a ρ O'
  | .err c p O' => .err c p O'
  | .bad => .bad
def pureE (a : α) : ME α := fun _ O => .ok a O
def badE : ME α := fun _ _ => .bad
def optE : Option α → ME α
  | some a => pureE a
  | none => badE
variable {X : Cx} {Wx : WX} {R : RV β α} {R' : RV γ δ}
theorem EvP.later {e : Ent} {ι ι' : List Addr} {B B' : Hp} {ρ : Rho} {σ : St} {Q : β → Hp → Prop} {r : RE α} (hi : Pre ι ι') (hB : Same B B') (h : EvP X Wx R e ι B ρ σ Q r) : EvP X Wx R e ι' B' ρ σ Q r := by
  cases r with
  | ok d O' => exact fun ι2 B2 H2 v r2 i2 b2 q => h ι2 B2 H2 v r2 (hi.trans i2) (hB.trans b2) q
  | err c p O' => exact fun ι2 B2 H2 C dx r2 i2 b2 q => h ι2 B2 H2 C dx r2 (hi.trans i2) (hB.trans b2) q
  | bad => exact h
theorem Ev.bind {t : St → Hp → (β → Hp → Prop) → Prop} {m : ME α} {u : β → St → Hp → (γ → Hp → Prop) → Prop} {f : α → ME δ} (h : Ev X Wx R t m) (k : EvC X Wx R R' u f) :
    Ev X Wx R' (fun σ H Q => t σ H fun x H1 => u x σ H1 Q) (bindE m f) := by
  intro e ι B H ρ O σ Q r q
  refine h e ι B H ρ O σ _ r ?_
  unfold bindE at q
  cases z : m ρ O with
  | bad => rw [z] at q; exact q
  | err c p O' => rw [z] at q; exact q
  | ok a O' =>
    rw [z] at q
    intro ι' B' H' v r' i' b' ra
    exact k v a e ι' B' H' ρ O' σ Q r' ra (EvP.later (r := f a ρ O') i' b' q)
theorem EvP.ok {e : Ent} {ι : List Addr} {B H : Hp} {ρ : Rho} {O : Sto} {σ : St} {Q : β → Hp → Prop} {v : β} {a : α} (r : Rel X.K X.mg (en X e) ι B H ρ O σ) (h : EvP X Wx R e ι B ρ σ Q (.ok a O)) (q : R ι B ρ σ v a) : Q v H :=
  h ι B H v r (Pre.refl _) (Same.refl _) q
/-- the readings of values, tests, arguments, parts of slices -/
abbrev rD (X : Cx) : RV V D := fun ι B _ _ v d => DA X.K ι B v d
/-- a cell as data -/
def Cell.dat : Cell → D
  | .lst xs => .lst xs
  | .dct es => .dct es
  | .ins _ _ => .non
/-- frozen, or owned by a slot -/
def rS (X : Cx) : RV V D := fun ι B ρ σ v d => DA X.K ι B v d ∨ ∃ (i : Nat) (c : Cell), ρ[i]? = some (some (.own c)) ∧ σ[i]? = some (some v) ∧ d = c.dat ∧ (∀ n fs, c ≠ .ins n fs)
abbrev rQ (α : Type) : RV α α := fun _ _ _ _ a b => a = b
abbrev rDs (X : Cx) : RV (List V) (List D) := fun ι B _ _ vs ds => Paired (DA X.K ι B) vs ds
end

/-- a value as it may be read now: its own object in the heap, its parts frozen -/
def DH (K : PySem.W.Frag) (ι : List Addr) (B H : Hp) (v : V) : D → Prop
  | .lst ds => ∃ a vs, v = .ref a ∧ H a = some (.lst vs) ∧ Paired (DA K ι B) vs ds
  | .sea ds => ∃ a vs, v = .ref a ∧ SqL K H a vs ∧ Paired (DA K ι B) vs ds
  | .tup ds => ∃ a vs, v = .ref a ∧ SqT K H a vs ∧ Paired (DA K ι B) vs ds
  | .dct es => ∃ a kvs, v = .ref a ∧ Rd H a (.dK kvs) ∧ Paired (KD K ι B) kvs es
  | d => DA K ι B v d
theorem DA.dh {K : PySem.W.Frag} {ι : List Addr} {B H : Hp} {v : V} {d : D} (hs : Same B H) (h : DA K ι B v d) : DH K ι B H v d := by
  cases d with
  | non => exact h
  | bl b => exact h
  | int i => exact h
  | str x => exact h
  | obj n => exact h
  | lst ds =>
    cases h with
    | lst h1 h2 => exact ⟨_, _, rfl, hs _ _ h1, h2⟩
  | sea ds =>
    cases h with
    | sea h1 h2 => exact ⟨_, _, rfl, hs.seq h1, h2⟩
  | tup ds =>
    cases h with
    | tup h1 h2 => exact ⟨_, _, rfl, sqT_same hs h1, h2⟩
  | dct es =>
    cases h with
    | dct h1 h2 h3 => exact ⟨_, _, rfl, .inr ⟨_, hs _ _ h1⟩, KD.join h2 h3⟩
theorem rS.dh {X : Cx} {e : Ent} {ι : List Addr} {B H : Hp} {ρ : Rho} {O : Sto} {σ : St} {v : V} {d : D} (r : Rel X.K X.mg (en X e) ι B H ρ O σ) (h : rS X ι B ρ σ v d) : DH X.K ι B H v d := by
  rcases h with h | ⟨i, c, h1, h2, rfl, h3⟩
  · exact h.dh r.sub
  · obtain ⟨w, k1, a, k2, k3, k4, k5, k6⟩ := r.sl i _ h1
    rw [h2] at k1
    cases k1
    subst k2
    cases c with
    | lst ds => obtain ⟨vs, k3, k7⟩ := k3; exact ⟨a, vs, rfl, k3, k7⟩
    | dct es => obtain ⟨kvs, k3, k7⟩ := k3; exact ⟨a, kvs, rfl, .inl k3, k7⟩
    | ins n fs => exact absurd rfl (h3 n fs)
/-- what the store holds, read -/
def derefD (O : Sto) : D → D
  | .obj n => match O[n]? with
    | some (.lst xs) => .lst xs
    | some (.dct es) => .dct es
    | _ => .obj n
  | d => d
theorem DA.dhO {K : PySem.W.Frag} {mg : Mg} {e : Ent} {ι : List Addr} {B H : Hp} {ρ : Rho} {O : Sto} {σ : St} {v : V} {d : D} (r : Rel K mg e ι B H ρ O σ) (h : DA K ι B v d) : DH K ι B H v (derefD O d) := by
  cases d with
  | obj n =>
    cases h with
    | obj h1 =>
      cases z : O[n]? with
      | none =>
        rw [show derefD O (.obj n) = .obj n by simp only [derefD, z]]
        exact DA.dh r.sub (.obj h1)
      | some c =>
        obtain ⟨k, _⟩ := r.ob n c _ z h1
        cases c with
        | lst ds =>
          rw [show derefD O (.obj n) = .lst ds by simp only [derefD, z]]
          obtain ⟨vs, k3, k7⟩ := k
          exact ⟨_, vs, rfl, k3, k7⟩
        | dct es =>
          rw [show derefD O (.obj n) = .dct es by simp only [derefD, z]]
          obtain ⟨kvs, k3, k7⟩ := k
          exact ⟨_, kvs, rfl, .inl k3, k7⟩
        | ins c fs =>
          rw [show derefD O (.obj n) = .obj n by simp only [derefD, z]]
          exact DA.dh r.sub (.obj h1)
  | _ => exact h.dh r.sub
theorem rS.dhO {X : Cx} {e : Ent} {ι : List Addr} {B H : Hp} {ρ : Rho} {O : Sto} {σ : St} {v : V} {d : D} (r : Rel X.K X.mg (en X e) ι B H ρ O σ) (h : rS X ι B ρ σ v d) : DH X.K ι B H v (derefD O d) := by
  rcases h with h | ⟨i, c, h1, h2, rfl, h3⟩
  · exact h.dhO r
  · have := rS.dh r (.inr ⟨i, c, h1, h2, rfl, h3⟩)
    cases c with
    | ins n fs => exact absurd rfl (h3 n fs)
    | _ => exact this
/-- an answer that asks the store -/
def optO {α : Type} (o : Sto → Option α) : ME α := fun _ O => match o O with
  | some a => .ok a O
  | none => .bad
theorem rS.mono {X : Cx} {ι ι' : List Addr} {B B' : Hp} {ρ : Rho} {σ : St} {v : V} {d : D} (hi : Pre ι ι') (hB : Same B B') (h : rS X ι B ρ σ v d) : rS X ι' B' ρ σ v d := by
  rcases h with h | h
  · exact .inl (DA.mono hB hi _ _ h)
  · exact .inr h

/-- an expression e does what m says -/
def EX (X : Cx) (Wx : WX) (e : Expr) (m : ME D) : Prop := ∃ t, PE X e t ∧ Ev X Wx (rD X) t m
/-- .. its value is read at once -/
def EZ (X : Cx) (Wx : WX) (e : Expr) (m : ME D) : Prop := ∃ t, PE X e t ∧ Ev X Wx (rS X) t m
theorem EX.z {X : Cx} {Wx : WX} {e : Expr} {m : ME D} (h : EX X Wx e m) : EZ X Wx e m := by
  obtain ⟨t, pt, et⟩ := h
  refine ⟨t, pt, fun e ι B H ρ O σ Q r q => et e ι B H ρ O σ Q r ?_⟩
  cases z : m ρ O with
  | ok d O' => rw [z] at q; exact fun ι' B' H' v r' i' b' h => q ι' B' H' v r' i' b' (.inl h)
  | err c p O' => rw [z] at q; exact q
  | bad => rw [z] at q; exact q
def ET (X : Cx) (Wx : WX) (e : Expr) (m : ME Bool) : Prop := ∃ t, PT X e t ∧ Ev X Wx (rQ Bool) t m
def EA (X : Cx) (Wx : WX) (es : List Expr) (m : ME (List D)) : Prop := ∃ t, PA X es t ∧ Ev X Wx (rDs X) t m

/-! ### statements -/
/-- the wish behind a statement -/
def EvSP (X : Cx) (Wx : WX) (e : Ent) (ι : List Addr) (B : Hp) (D' : Ends) : RS → Prop
  | .nx ρ' O' => ∀ ι' B' H' σ', Rel X.K X.mg (en X e) ι' B' H' ρ' O' σ' → Pre ι ι' → Same B B' → D'.nx σ' H'
  | .bk ρ' O' => ∀ ι' B' H' σ', Rel X.K X.mg (en X e) ι' B' H' ρ' O' σ' → Pre ι ι' → Same B B' → D'.bk σ' H'
  | .ct ρ' O' => ∀ ι' B' H' σ', Rel X.K X.mg (en X e) ι' B' H' ρ' O' σ' → Pre ι ι' → Same B B' → D'.ct σ' H'
  | .ret x O' => ∀ ι' B' H' v, Rel X.K X.mg (en X e) ι' B' H' [] O' [] → Pre ι ι' → Same B B' → SA X.K X.mg (en X e) ι' B' H' v x → D'.rt v H'
  | .err c p ρ' O' => ∀ ι' B' H' σ' C dx, Rel X.K X.mg (en X e) ι' B' H' ρ' O' σ' → Pre ι ι' → Same B B' → Exc X.K X.mg ι' B' C dx c p → Wx (.ref C) (some dx) σ' H'
  | .bad => False
def EvS (X : Cx) (Wx : WX) (t : TS) (m : MS) : Prop := ∀ e ι B H ρ O σ D', Rel X.K X.mg (en X e) ι B H ρ O σ → EvSP X Wx e ι B D' (m ρ O) → t D' σ H
def ES (X : Cx) (Wx : WX) (st : Stmt) (m : MS) : Prop := ∃ t, PS X st t ∧ EvS X Wx t m
def EB (X : Cx) (Wx : WX) (sts : List Stmt) (m : MS) : Prop := ∃ t, PSs X sts t ∧ EvS X Wx t m
section
variable {X : Cx} {Wx : WX} {e : Ent} {ι ι' : List Addr} {B B' : Hp} {D' D2 : Ends} {r : RS}
theorem EvSP.later (hi : Pre ι ι') (hB : Same B B') (h : EvSP X Wx e ι B D' r) : EvSP X Wx e ι' B' D' r := by
  cases r with
  | nx ρ' O' => exact fun ι2 B2 H2 σ' r2 i2 b2 => h ι2 B2 H2 σ' r2 (hi.trans i2) (hB.trans b2)
  | bk ρ' O' => exact fun ι2 B2 H2 σ' r2 i2 b2 => h ι2 B2 H2 σ' r2 (hi.trans i2) (hB.trans b2)
  | ct ρ' O' => exact fun ι2 B2 H2 σ' r2 i2 b2 => h ι2 B2 H2 σ' r2 (hi.trans i2) (hB.trans b2)
  | ret x O' => exact fun ι2 B2 H2 v r2 i2 b2 => h ι2 B2 H2 v r2 (hi.trans i2) (hB.trans b2)
  | err c p ρ' O' => exact fun ι2 B2 H2 σ' C dx r2 i2 b2 => h ι2 B2 H2 σ' C dx r2 (hi.trans i2) (hB.trans b2)
  | bad => exact h
/-- one statement behind another -/
def seqS (a b : MS) : MS := fun ρ O =>
  match a ρ O with
  | .nx ρ' O' => b ρ' O'
  | r => r
def skipS : MS := fun ρ O => .nx ρ O
theorem eb_nil : EB X Wx [] skipS := ⟨_, pss_nil, fun e ι B H ρ O σ D' r q => q ι B H σ r (Pre.refl _) (Same.refl _)⟩
theorem eb_cons {st : Stmt} {rest : List Stmt} {a b : MS} (ha : ES X Wx st a) (hb : EB X Wx rest b) : EB X Wx (st :: rest) (seqS a b) := by
  obtain ⟨t, pt, et⟩ := ha
  obtain ⟨u, pu, eu⟩ := hb
  refine ⟨_, pss_cons pt pu, fun e ι B H ρ O σ D' r q => ?_⟩
  refine et e ι B H ρ O σ _ r ?_
  unfold seqS at q
  cases z : a ρ O with
  | nx ρ' O' =>
    rw [z] at q
    exact fun ι' B' H' σ' r' i' b' => eu e ι' B' H' ρ' O' σ' D' r' (EvSP.later (r := b ρ' O') i' b' q)
  | bk ρ' O' => rw [z] at q; exact q
  | ct ρ' O' => rw [z] at q; exact q
  | ret x O' => rw [z] at q; exact q
  | err c p ρ' O' => rw [z] at q; exact q
  | bad => rw [z] at q; exact q
theorem eb_one {st : Stmt} {a : MS} (ha : ES X Wx st a) : EB X Wx [st] a := by
  obtain ⟨t, pt, et⟩ := ha
  exact ⟨_, pss_one pt, et⟩
/-- an expression's value goes on into a statement -/
def bindS {α : Type} (m : ME α) (f : α → MS) : MS := fun ρ O =>
  match m ρ O with
  | .ok a O' => f a ρ O'
  | .err c p O' => .err c p ρ O'
  | .bad => .bad
theorem EvS.bind {β α : Type} {R : RV β α} {t : St → Hp → (β → Hp → Prop) → Prop} {m : ME α} {f : α → MS} {u : β → TS} (h : Ev X Wx R t m)
    (k : ∀ x a e ι B H ρ O σ D', Rel X.K X.mg (en X e) ι B H ρ O σ → R ι B ρ σ x a → EvSP X Wx e ι B D' (f a ρ O) → u x D' σ H) : EvS X Wx (fun D' σ H => t σ H fun x H1 => u x D' σ H1) (bindS m f) := by
  intro e ι B H ρ O σ D' r q
  refine h e ι B H ρ O σ _ r ?_
  unfold bindS at q
  cases z : m ρ O with
  | bad => rw [z] at q; exact q
  | err c p O' =>
    rw [z] at q
    exact fun ι' B' H' C dx r' i' b' x => q ι' B' H' σ C dx r' i' b' x
  | ok a O' =>
    rw [z] at q
    intro ι' B' H' v r' i' b' ra
    exact k v a e ι' B' H' ρ O' σ D' r' ra (EvSP.later (r := f a ρ O') i' b' q)
end
end DL

set_option Elab.async false
set_option linter.all false
set_option maxRecDepth 100000
namespace DL
open PySem L2
variable [Tabs]
section
variable {X : Cx} {Wx : WX}

/-! ### constants, names -/
abbrev cM (d : D) : ME D := pureE d
theorem ev_const {v : V} {d : D} (h : ∀ ι B, DA X.K ι B v d) : Ev X Wx (rD X) (tC v) (cM d) := fun e ι B H ρ O σ Q r q => EvP.ok r q (h ι B)
theorem ex_int {i : Int} {j pos} : EX X Wx (.Constant (.int i) j pos) (cM (.int i)) := ⟨_, pe_int, ev_const fun _ _ => .int i⟩
theorem ex_bl {b : Bool} {j pos} : EX X Wx (.Constant (.bool b) j pos) (cM (.bl b)) := ⟨_, pe_bl, ev_const fun _ _ => .bl b⟩
theorem ex_non {j pos} : EX X Wx (.Constant .none j pos) (cM .non) := ⟨_, pe_non, ev_const fun _ _ => .non⟩
theorem ex_str {x : Str} {j pos} : EX X Wx (.Constant (.str x) j pos) (cM (.str x)) := ⟨_, pe_str, ev_const fun _ _ => .str x⟩
def rdM (i : Nat) : ME D := fun ρ O => match ρ[i]? with
  | some (some (.shr d)) => .ok d O
  | _ => .bad
theorem ev_var (i : Nat) : Ev X Wx (rD X) (tVar i) (rdM i) := by
  intro e ι B H ρ O σ Q r q
  unfold rdM at q
  split at q
  · rename_i d z
    obtain ⟨v, h1, h2⟩ := r.sl i _ z
    exact ⟨v, h1, EvP.ok r q h2⟩
  · exact q.elim
theorem ex_var (i : Nat) {x : Str} {pos : Pos} (hN : X.N[i]? = some x := by rfl) (hv : Vis X.env.scope x := by first | exact Or.inl rfl | exact Or.inr (Or.inl rfl) | exact Or.inr (Or.inr rfl)) (hd : (x == ("__debug__" : Str)) = false := by decide)
    (hcd : (x == ("__classdict__" : Str)) = false := by decide) : EX X Wx (.Name x pos) (rdM i) := ⟨_, pe_var hN hv hd hcd, ev_var i⟩
/-- .. read at once: owned or not -/
def rdZ (i : Nat) : ME D := fun ρ O => match ρ[i]? with
  | some (some (.shr d)) => .ok d O
  | some (some (.own (.lst xs))) => .ok (.lst xs) O
  | some (some (.own (.dct es))) => .ok (.dct es) O
  | _ => .bad
theorem ev_varZ (i : Nat) : Ev X Wx (rS X) (tVar i) (rdZ i) := by
  intro e ι B H ρ O σ Q r q
  unfold rdZ at q
  split at q
  · rename_i d z
    obtain ⟨v, h1, h2⟩ := r.sl i _ z
    exact ⟨v, h1, EvP.ok r q (.inl h2)⟩
  · rename_i xs z
    obtain ⟨v, h1, h2⟩ := r.sl i _ z
    exact ⟨v, h1, EvP.ok r q (.inr ⟨i, _, z, h1, rfl, fun _ _ h => nomatch h⟩)⟩
  · rename_i xs z
    obtain ⟨v, h1, h2⟩ := r.sl i _ z
    exact ⟨v, h1, EvP.ok r q (.inr ⟨i, _, z, h1, rfl, fun _ _ h => nomatch h⟩)⟩
  · exact q.elim
theorem ez_var (i : Nat) {x : Str} {pos : Pos} (hN : X.N[i]? = some x := by rfl) (hv : Vis X.env.scope x := by first | exact Or.inl rfl | exact Or.inr (Or.inl rfl) | exact Or.inr (Or.inr rfl)) (hd : (x == ("__debug__" : Str)) = false := by decide)
    (hcd : (x == ("__classdict__" : Str)) = false := by decide) : EZ X Wx (.Name x pos) (rdZ i) := ⟨_, pe_var hN hv hd hcd, ev_varZ i⟩
theorem ex_gint {x : Str} {i : Int} {t : Tok} {pos : Pos} (hm : X.mg x = some (.int i t)) (hg : Gl X x := by rfl) (hd : (x == ("__debug__" : Str)) = false := by decide) : EX X Wx (.Name x pos) (cM (.int i)) :=
  ⟨_, pe_glob (v := .int i) hg hm ⟨t, rfl⟩ hd, ev_const fun _ _ => .int i⟩
theorem ex_gstr {x : Str} {i : Str} {t : Tok} {pos : Pos} (hm : X.mg x = some (.str i t)) (hg : Gl X x := by rfl) (hd : (x == ("__debug__" : Str)) = false := by decide) : EX X Wx (.Name x pos) (cM (.str i)) :=
  ⟨_, pe_glob (v := .str i) hg hm ⟨t, rfl⟩ hd, ev_const fun _ _ => .str i⟩

/-! ### two operands -/
theorem Ev.bind2 {γ δ : Type} {R' : RV γ δ} {ta tb : TE} {ma mb : ME D} {u : V → V → St → Hp → (γ → Hp → Prop) → Prop} {f : D → D → ME δ} (ha : Ev X Wx (rS X) ta ma) (hb : Ev X Wx (rS X) tb mb)
    (k : ∀ x y a b e ι B H ρ O σ Q, Rel X.K X.mg (en X e) ι B H ρ O σ → rS X ι B ρ σ x a → rS X ι B ρ σ y b → EvP X Wx R' e ι B ρ σ Q (f a b ρ O) → u x y σ H Q) :
    Ev X Wx R' (fun σ H Q => ta σ H fun x H1 => tb σ H1 fun y H2 => u x y σ H2 Q) (bindE ma fun a => bindE mb fun b => f a b) := by
  refine Ev.bind (u := fun x σ H1 Q => tb σ H1 fun y H2 => u x y σ H2 Q) (f := fun a => bindE mb fun b => f a b) ha fun x a e ι B H ρ O σ Q r hx q => ?_
  refine hb e ι B H ρ O σ _ r ?_
  simp only [bindE] at q
  cases z : mb ρ O with
  | bad => rw [z] at q; exact q
  | err c p O' => rw [z] at q; exact q
  | ok b O' =>
    rw [z] at q
    intro ι' B' H' y r' i' b' hy
    exact k x y a b e ι' B' H' ρ O' σ Q r' (rS.mono i' b' hx) hy (EvP.later (r := f a b ρ O') i' b' q)
/-- an operation on two values -/
def Op2 (X : Cx) (r : R2) (f : D → D → Option D) : Prop := ∀ x y a b z e ι B H ρ O σ (Q : VK), Rel X.K X.mg (en X e) ι B H ρ O σ → DH X.K ι B H x a → DH X.K ι B H y b → f a b = some z →
  (∀ B' H' v, Rel X.K X.mg (en X e) ι B' H' ρ O σ → Same B B' → DA X.K ι B' v z → Q v H') → r x y H Q
def binM (f : D → D → Option D) (ma mb : ME D) : ME D := bindE ma fun a => bindE mb fun b => optO fun O => f (derefD O a) (derefD O b)
theorem ev_op {r : R2} {f : D → D → Option D} {ta tb : TE} {ma mb : ME D} (ho : Op2 X r f) (ha : Ev X Wx (rS X) ta ma) (hb : Ev X Wx (rS X) tb mb) : Ev X Wx (rD X) (tOp r ta tb) (binM f ma mb) := by
  refine Ev.bind2 (u := fun x y σ H Q => r x y H Q) ha hb fun x y a b e ι B H ρ O σ Q rl hx hy q => ?_
  simp only [optO] at q
  cases z : f (derefD O a) (derefD O b) with
  | none => rw [z] at q; exact q.elim
  | some d =>
    rw [z] at q
    exact ho x y _ _ d e ι B H ρ O σ Q rl (hx.dhO rl) (hy.dhO rl) z fun B' H' v r' b' hv => q ι B' H' v r' (Pre.refl _) b' hv
theorem ex_op {op : Operator} {r : R2} {f : D → D → Option D} {a b : Expr} {pos : Pos} {ma mb : ME D} (hr : OpR X (binaryOp op) r) (ho : Op2 X r f) (ha : EZ X Wx a ma) (hb : EZ X Wx b mb) : EX X Wx (.BinOp a op b pos) (binM f ma mb) := by
  obtain ⟨ta, pa, ea⟩ := ha
  obtain ⟨tb, pb, eb⟩ := hb
  exact ⟨_, pe_op hr pa pb, ev_op ho ea eb⟩
theorem ex_cmp {op : CmpOp} {r : R2} {f : D → D → Option D} {a b : Expr} {pos : Pos} {ma mb : ME D} (hr : OpR X (compareOp op) r) (ho : Op2 X r f) (ha : EZ X Wx a ma) (hb : EZ X Wx b mb) (hm : behindInMarks op b = false) : EX X Wx (.Compare a [op] [b] pos) (binM f ma mb) := by
  obtain ⟨ta, pa, ea⟩ := ha
  obtain ⟨tb, pb, eb⟩ := hb
  exact ⟨_, pe_cmpR hr pa pb hm, ev_op ho ea eb⟩
/-- a value that is a truth value, as a test -/
def boolM (m : ME D) : ME Bool := bindE m fun d => match d with
  | .bl b => pureE b
  | _ => badE
theorem ev_bool {t : TE} {m : ME D} (h : Ev X Wx (rD X) t m) : Ev X Wx (rQ Bool) (fun σ H Q => t σ H fun x H' => ∃ k, x = .bl k ∧ Q k H') (boolM m) := by
  refine Ev.bind (u := fun x σ H Q => ∃ k, x = .bl k ∧ Q k H) h fun x a e ι B H ρ O σ Q r hx q => ?_
  cases a with
  | bl b =>
    cases hx
    exact ⟨b, rfl, EvP.ok r q rfl⟩
  | _ => exact q.elim
theorem et_cmp {op : CmpOp} {r : R2} {f : D → D → Option D} {a b : Expr} {pos : Pos} {ma mb : ME D} (hr : OpR X (compareOp op) r) (ho : Op2 X r f) (ha : EZ X Wx a ma) (hb : EZ X Wx b mb) (hm : behindInMarks op b = false) : ET X Wx (.Compare a [op] [b] pos) (boolM (binM f ma mb)) := by
  obtain ⟨ta, pa, ea⟩ := ha
  obtain ⟨tb, pb, eb⟩ := hb
  exact ⟨_, pt_cmpR hr pa pb hm, ev_bool (ev_op ho ea eb)⟩
/-- a value's truth -/
def truD : D → Option Bool
  | .non => some false
  | .bl b => some b
  | .int i => some (i != 0)
  | .str y => if y.length ≤ sizeLine then some ((y.length : Int) != 0) else none
  | .lst xs | .sea xs | .tup xs => some (!xs.isEmpty)
  | _ => none
def truM (m : ME D) : ME Bool := bindE m fun d => optO fun O => truD (derefD O d)
theorem paired_empty {α β : Type} {F : α → β → Prop} {xs : List α} {ys : List β} (h : Paired F xs ys) : xs.isEmpty = ys.isEmpty := by cases h <;> rfl
theorem et_tru {a : Expr} {m : ME D} (h : EZ X Wx a m) (he : ∀ whole, isTrue a X.env whole = (do let v ← whole; standAt a.pos; holding [v] (truthy v)) := by intro _; rfl) : ET X Wx a (truM m) := by
  obtain ⟨t, pt, et⟩ := h
  refine ⟨_, pt_truth pt he, Ev.bind (u := fun x σ H Q => ∃ k, TruV X.K x H k ∧ Q k H) et fun x a e ι B H ρ O σ Q r hs q => ?_⟩
  have hx := hs.dhO r
  simp only [optO] at q
  generalize derefD O a = a at hx q
  cases z : truD a with
  | none => rw [z] at q; exact q.elim
  | some k =>
    rw [z] at q
    refine ⟨k, ?_, EvP.ok r q rfl⟩
    cases a with
    | non => cases hx; simp only [truD, Option.some.injEq] at z; exact z.symm
    | bl b => cases hx; simp only [truD, Option.some.injEq] at z; exact z.symm
    | int i => cases hx; simp only [truD, Option.some.injEq] at z; exact z.symm
    | str y =>
      cases hx
      simp only [truD] at z
      split at z
      · rename_i hl
        simp only [Option.some.injEq] at z
        exact ⟨hl, z.symm⟩
      · cases z
    | lst xs =>
      simp only [truD, Option.some.injEq] at z
      obtain ⟨a, vs, rfl, h1, h2⟩ := hx
      exact .inl ⟨_, SqL.of h1, by rw [paired_empty h2]; exact z.symm⟩
    | sea xs =>
      simp only [truD, Option.some.injEq] at z
      obtain ⟨a, vs, rfl, h1, h2⟩ := hx
      exact .inl ⟨_, h1, by rw [paired_empty h2]; exact z.symm⟩
    | tup xs =>
      simp only [truD, Option.some.injEq] at z
      obtain ⟨a, vs, rfl, h1, h2⟩ := hx
      exact .inr (.inl ⟨_, h1, by rw [paired_empty h2]; exact z.symm⟩)
    | dct es => cases z
    | obj n => cases z

/-! ### arithmetic -/
theorem atomI {e : Ent} {ι : List Addr} {B H : Hp} {ρ : Rho} {O : Sto} {σ : St} {Q : VK} {v : V} {z : D} (r : Rel X.K X.mg (en X e) ι B H ρ O σ) (h : ∀ B' H' v, Rel X.K X.mg (en X e) ι B' H' ρ O σ → Same B B' → DA X.K ι B' v z → Q v H') (hv : DA X.K ι B v z) : Q v H :=
  h B H v r (Same.refl _) hv
theorem newL {e : Ent} {ι : List Addr} {B H : Hp} {ρ : Rho} {O : Sto} {σ : St} {Q : VK} {vs : List V} {ds : List D} (r : Rel X.K X.mg (en X e) ι B H ρ O σ) (h : ∀ B' H' v, Rel X.K X.mg (en X e) ι B' H' ρ O σ → Same B B' → DA X.K ι B' v (.lst ds) → Q v H') (hv : Paired (DA X.K ι B) vs ds) :
    ∀ p, H p = none → Q (.ref p) (upd H p (.lst vs)) := fun p hp => by
  obtain ⟨r', s'⟩ := r.alloc hp (.lst vs)
  exact h _ _ _ r' s' (.lst upd_same (DA.monos s' (Pre.refl _) _ _ hv))
theorem newT {e : Ent} {ι : List Addr} {B H : Hp} {ρ : Rho} {O : Sto} {σ : St} {Q : VK} {vs : List V} {ds : List D} (r : Rel X.K X.mg (en X e) ι B H ρ O σ) (h : ∀ B' H' v, Rel X.K X.mg (en X e) ι B' H' ρ O σ → Same B B' → DA X.K ι B' v (.tup ds) → Q v H') (hv : Paired (DA X.K ι B) vs ds) :
    ∀ p, H p = none → Q (.ref p) (upd H p (.tup vs)) := fun p hp => by
  obtain ⟨r', s'⟩ := r.alloc hp (.tup vs)
  exact h _ _ _ r' s' (.tup (SqT.of upd_same) (DA.monos s' (Pre.refl _) _ _ hv))
theorem paired_len {α β : Type} {F : α → β → Prop} {xs : List α} {ys : List β} (h : Paired F xs ys) : xs.length = ys.length := Paired.length h
theorem paired_app {α β : Type} {F : α → β → Prop} : ∀ {xs xs' : List α} {ys ys' : List β}, Paired F xs ys → Paired F xs' ys' → Paired F (xs ++ xs') (ys ++ ys')
  | _, _, _, _, .nil, h => h
  | _, _, _, _, .cons a t, h => .cons a (paired_app t h)
theorem paired_get {α β : Type} {F : α → β → Prop} : ∀ {xs : List α} {ys : List β} {i : Nat} {b : β}, Paired F xs ys → ys[i]? = some b → ∃ a, xs[i]? = some a ∧ F a b
  | _, _, _, _, .nil, h => by simp at h
  | _, _, 0, b, .cons a t, h => by
    simp at h
    subst h
    exact ⟨_, rfl, a⟩
  | _, _, i + 1, b, .cons a t, h => by
    obtain ⟨x, h1, h2⟩ := paired_get (i := i) t (by simpa using h)
    exact ⟨x, by simpa using h1, h2⟩
theorem paired_get' {α β : Type} {F : α → β → Prop} : ∀ {xs : List α} {ys : List β} {i : Nat} {a : α}, Paired F xs ys → xs[i]? = some a → ∃ b, ys[i]? = some b ∧ F a b
  | _, _, _, _, .nil, h => by simp at h
  | _, _, 0, a, .cons x t, h => by
    simp at h
    subst h
    exact ⟨_, rfl, x⟩
  | _, _, i + 1, a, .cons x t, h => by
    obtain ⟨y, h1, h2⟩ := paired_get' (i := i) t (by simpa using h)
    exact ⟨y, by simpa using h1, h2⟩
theorem paired_take {α β : Type} {F : α → β → Prop} : ∀ {xs : List α} {ys : List β} (n : Nat), Paired F xs ys → Paired F (xs.take n) (ys.take n)
  | _, _, 0, _ => by simp only [List.take_zero]; exact .nil
  | _, _, _ + 1, .nil => .nil
  | _, _, n + 1, .cons a t => .cons a (paired_take n t)
theorem paired_drop {α β : Type} {F : α → β → Prop} : ∀ {xs : List α} {ys : List β} (n : Nat), Paired F xs ys → Paired F (xs.drop n) (ys.drop n)
  | _, _, 0, h => h
  | _, _, _ + 1, .nil => .nil
  | _, _, n + 1, .cons _ t => paired_drop n t
theorem paired_set {α β : Type} {F : α → β → Prop} {a : α} {b : β} (h : F a b) : ∀ {xs : List α} {ys : List β} (n : Nat), Paired F xs ys → Paired F (xs.set n a) (ys.set n b)
  | _, _, _, .nil => .nil
  | _, _, 0, .cons _ t => .cons h t
  | _, _, n + 1, .cons c t => .cons c (paired_set h n t)
theorem paired_rep {α β : Type} {F : α → β → Prop} {xs : List α} {ys : List β} (h : Paired F xs ys) : ∀ k : Nat, Paired F (List.replicate k xs).flatten (List.replicate k ys).flatten
  | 0 => .nil
  | k + 1 => by
    rw [List.replicate_succ, List.flatten_cons, List.replicate_succ, List.flatten_cons]
    exact paired_app h (paired_rep h k)

def addD : D → D → Option D
  | .int i, .int j => some (.int (i + j))
  | .str x, .str y => if x.length + y.length ≤ sizeLine then some (.str (x ++ y)) else none
  | .lst a, .lst b => if a.length + b.length ≤ sizeLine then some (.lst (a ++ b)) else none
  | _, _ => none
abbrev rAddAll : R2 := fun x y H Q => (rI0 (fun i j => .int (i + j))) x y H Q ∨ (∃ i j, x = .str i ∧ y = .str j ∧ i.length + j.length ≤ sizeLine ∧ Q (.str (i ++ j)) H) ∨ rCat x y H Q
theorem op_addAll : OpR X (binaryOp .Add) rAddAll := op_add.or (op_add_str.or op_cat)
theorem op2_add : Op2 X rAddAll addD := by
  intro x y a b z e ι B H ρ O σ Q r hx hy hz q
  unfold addD at hz
  split at hz
  · rename_i i j
    cases hx
    cases hy
    cases hz
    exact .inl ⟨i, j, rfl, rfl, atomI r q (.int _)⟩
  · rename_i s t
    cases hx
    cases hy
    split at hz
    · rename_i hl
      cases hz
      exact .inr (.inl ⟨s, t, rfl, rfl, hl, atomI r q (.str _)⟩)
    · cases hz
  · rename_i as bs
    split at hz
    · rename_i hl
      cases hz
      obtain ⟨a1, vs1, rfl, h1, h2⟩ := hx
      obtain ⟨a2, vs2, rfl, h3, h4⟩ := hy
      exact .inr (.inr ⟨_, _, _, _, rfl, rfl, h1, h3, by rw [paired_len h2, paired_len h4]; exact hl, newL r q (paired_app h2 h4)⟩)
    · cases hz
  · cases hz
theorem ex_add {a b : Expr} {pos : Pos} {ma mb : ME D} (ha : EZ X Wx a ma) (hb : EZ X Wx b mb) : EX X Wx (.BinOp a .Add b pos) (binM addD ma mb) := ex_op op_addAll op2_add ha hb
def subD : D → D → Option D
  | .int i, .int j => some (.int (i - j))
  | _, _ => none
theorem op2_sub : Op2 X (rI0 fun i j => .int (i - j)) subD := by
  intro x y a b z e ι B H ρ O σ Q r hx hy hz q
  unfold subD at hz
  split at hz
  · rename_i i j
    cases hx
    cases hy
    cases hz
    exact ⟨i, j, rfl, rfl, atomI r q (.int _)⟩
  · cases hz
theorem ex_sub {a b : Expr} {pos : Pos} {ma mb : ME D} (ha : EZ X Wx a ma) (hb : EZ X Wx b mb) : EX X Wx (.BinOp a .Sub b pos) (binM subD ma mb) := ex_op op_sub op2_sub ha hb
/-- two ints under a condition -/
def intD (C : Int → Int → Bool) (g : Int → Int → Int) : D → D → Option D
  | .int i, .int j => if C i j then some (.int (g i j)) else none
  | _, _ => none
theorem op2_int {C : Int → Int → Bool} {C' : Int → Int → Prop} {g : Int → Int → Int} (h : ∀ i j, C i j = true → C' i j) : Op2 X (rI C' fun i j => .int (g i j)) (intD C g) := by
  intro x y a b z e ι B H ρ O σ Q r hx hy hz q
  unfold intD at hz
  split at hz
  · rename_i i j
    cases hx
    cases hy
    split at hz
    · rename_i hc
      cases hz
      exact ⟨i, j, rfl, rfl, h _ _ hc, atomI r q (.int _)⟩
    · cases hz
  · cases hz
def cMul (i j : Int) : Bool := decide (i.natAbs < 2 ^ 64) || decide (j.natAbs < 2 ^ 64)
def cDiv (_ j : Int) : Bool := decide (0 < j ∧ j < 1073741824)
def cDivW (_ j : Int) : Bool := decide (0 < j ∧ j.natAbs.log2 < 9000)
def cMod (_ j : Int) : Bool := decide (0 < j)
def cPow (i j : Int) : Bool := decide (0 ≤ j ∧ j ≤ 1000000 ∧ i.natAbs < 2 ^ 64)
def cShr (_ j : Int) : Bool := decide (0 ≤ j)
abbrev mulI := intD cMul fun i j => i * j
abbrev fdivD := intD cDivW fun i j => i / j
abbrev modD := intD cMod fun i j => i % j
abbrev powD := intD cPow fun i j => i ^ j.toNat
abbrev shlD := intD cPow fun i j => i * 2 ^ j.toNat
abbrev shrD := intD cShr fun i j => i / 2 ^ j.toNat
abbrev andD := intD (fun _ _ => true) Builtin.bitAnd
abbrev orD := intD (fun _ _ => true) Builtin.bitOr
abbrev xorD := intD (fun _ _ => true) Builtin.bitXor
def mulD : D → D → Option D
  | .lst xs, .int k => if -(2 ^ 63) ≤ k ∧ k < 2 ^ 63 ∧ xs.length * k.toNat ≤ sizeLine then some (.lst (List.replicate k.toNat xs).flatten) else none
  | a, b => mulI a b
abbrev rMulAll : R2 := fun x y H Q => (rI CMul fun i j => .int (i * j)) x y H Q ∨ rRep x y H Q
theorem op_mulAll : OpR X (binaryOp .Mult) rMulAll := op_mul.or op_rep
theorem cDivW_ok {i j : Int} (h : cDivW i j = true) : CDivW i j := by
  unfold cDivW at h
  have q := of_decide_eq_true h
  exact q
theorem cPow_ok {i j : Int} (h : cPow i j = true) : CPow i j := by
  unfold cPow at h
  have q := of_decide_eq_true h
  exact q
theorem cMul_ok {i j : Int} (h : cMul i j = true) : CMul i j := by
  unfold cMul at h
  simp only [Bool.or_eq_true, decide_eq_true_eq] at h
  unfold CMul
  rcases h with h | h
  · left; omega
  · right; omega
theorem op2_mul : Op2 X rMulAll mulD := by
  intro x y a b z e ι B H ρ O σ Q r hx hy hz q
  unfold mulD at hz
  split at hz
  · rename_i xs k
    cases hy
    split at hz
    · rename_i hl
      cases hz
      obtain ⟨a1, vs1, rfl, h1, h2⟩ := hx
      exact .inr ⟨_, _, _, rfl, rfl, h1, hl.1, hl.2.1, by rw [paired_len h2]; exact hl.2.2, newL r q (paired_rep h2 _)⟩
    · cases hz
  · exact .inl (op2_int (fun _ _ => cMul_ok) _ _ _ _ _ _ _ _ _ _ _ _ _ r hx hy hz q)
theorem ex_mul {a b : Expr} {pos : Pos} {ma mb : ME D} (ha : EZ X Wx a ma) (hb : EZ X Wx b mb) : EX X Wx (.BinOp a .Mult b pos) (binM mulD ma mb) := ex_op op_mulAll op2_mul ha hb
theorem ex_fdiv {a b : Expr} {pos : Pos} {ma mb : ME D} (ha : EZ X Wx a ma) (hb : EZ X Wx b mb) : EX X Wx (.BinOp a .FloorDiv b pos) (binM fdivD ma mb) := ex_op op_fdivW (op2_int fun _ _ => cDivW_ok) ha hb
theorem ex_mod {a b : Expr} {pos : Pos} {ma mb : ME D} (ha : EZ X Wx a ma) (hb : EZ X Wx b mb) : EX X Wx (.BinOp a .Mod b pos) (binM modD ma mb) := ex_op op_mod (op2_int fun _ _ h => of_decide_eq_true h) ha hb
theorem ex_pow {a b : Expr} {pos : Pos} {ma mb : ME D} (ha : EZ X Wx a ma) (hb : EZ X Wx b mb) : EX X Wx (.BinOp a .Pow b pos) (binM powD ma mb) := ex_op op_pow (op2_int fun _ _ => cPow_ok) ha hb
theorem ex_shl {a b : Expr} {pos : Pos} {ma mb : ME D} (ha : EZ X Wx a ma) (hb : EZ X Wx b mb) : EX X Wx (.BinOp a .LShift b pos) (binM shlD ma mb) := ex_op op_shl (op2_int fun _ _ => cPow_ok) ha hb
theorem ex_shr {a b : Expr} {pos : Pos} {ma mb : ME D} (ha : EZ X Wx a ma) (hb : EZ X Wx b mb) : EX X Wx (.BinOp a .RShift b pos) (binM shrD ma mb) := ex_op op_shr (op2_int fun _ _ h => of_decide_eq_true h) ha hb
theorem op2_int0 {g : Int → Int → Int} : Op2 X (rI0 fun i j => .int (g i j)) (intD (fun _ _ => true) g) := by
  intro x y a b z e ι B H ρ O σ Q r hx hy hz q
  obtain ⟨i, j, e1, e2, _, h⟩ := op2_int (C' := fun _ _ => True) (fun _ _ _ => True.intro) x y a b z e ι B H ρ O σ Q r hx hy hz q
  exact ⟨i, j, e1, e2, h⟩
theorem ex_and {a b : Expr} {pos : Pos} {ma mb : ME D} (ha : EZ X Wx a ma) (hb : EZ X Wx b mb) : EX X Wx (.BinOp a .BitAnd b pos) (binM andD ma mb) := ex_op op_and op2_int0 ha hb
theorem ex_or {a b : Expr} {pos : Pos} {ma mb : ME D} (ha : EZ X Wx a ma) (hb : EZ X Wx b mb) : EX X Wx (.BinOp a .BitOr b pos) (binM orD ma mb) := ex_op op_or op2_int0 ha hb
theorem ex_xor {a b : Expr} {pos : Pos} {ma mb : ME D} (ha : EZ X Wx a ma) (hb : EZ X Wx b mb) : EX X Wx (.BinOp a .BitXor b pos) (binM xorD ma mb) := ex_op op_xor op2_int0 ha hb

/-! ### comparisons -/
def relD (g : Int → Int → Bool) : D → D → Option D
  | .int i, .int j => some (.bl (g i j))
  | _, _ => none
theorem op2_rel {g : Int → Int → Bool} : Op2 X (rI0 fun i j => .bl (g i j)) (relD g) := by
  intro x y a b z e ι B H ρ O σ Q r hx hy hz q
  unfold relD at hz
  split at hz
  · rename_i i j
    cases hx
    cases hy
    cases hz
    exact ⟨i, j, rfl, rfl, atomI r q (.bl _)⟩
  · cases hz
abbrev ltD := relD fun i j => decide (i < j)
abbrev leD := relD fun i j => decide (i ≤ j)
abbrev gtD := relD fun i j => decide (j < i)
abbrev geD := relD fun i j => decide (j ≤ i)
section
variable {a b : Expr} {pos : Pos} {ma mb : ME D}
theorem ex_lt (ha : EZ X Wx a ma) (hb : EZ X Wx b mb) : EX X Wx (.Compare a [.Lt] [b] pos) (binM ltD ma mb) := ex_cmp op_lt op2_rel ha hb (nomark _)
theorem ex_le (ha : EZ X Wx a ma) (hb : EZ X Wx b mb) : EX X Wx (.Compare a [.LtE] [b] pos) (binM leD ma mb) := ex_cmp op_le op2_rel ha hb (nomark _)
theorem ex_gt (ha : EZ X Wx a ma) (hb : EZ X Wx b mb) : EX X Wx (.Compare a [.Gt] [b] pos) (binM gtD ma mb) := ex_cmp op_gt op2_rel ha hb (nomark _)
theorem ex_ge (ha : EZ X Wx a ma) (hb : EZ X Wx b mb) : EX X Wx (.Compare a [.GtE] [b] pos) (binM geD ma mb) := ex_cmp op_ge op2_rel ha hb (nomark _)
theorem et_lt (ha : EZ X Wx a ma) (hb : EZ X Wx b mb) : ET X Wx (.Compare a [.Lt] [b] pos) (boolM (binM ltD ma mb)) := et_cmp op_lt op2_rel ha hb (nomark _)
theorem et_le (ha : EZ X Wx a ma) (hb : EZ X Wx b mb) : ET X Wx (.Compare a [.LtE] [b] pos) (boolM (binM leD ma mb)) := et_cmp op_le op2_rel ha hb (nomark _)
theorem et_gt (ha : EZ X Wx a ma) (hb : EZ X Wx b mb) : ET X Wx (.Compare a [.Gt] [b] pos) (boolM (binM gtD ma mb)) := et_cmp op_gt op2_rel ha hb (nomark _)
theorem et_ge (ha : EZ X Wx a ma) (hb : EZ X Wx b mb) : ET X Wx (.Compare a [.GtE] [b] pos) (boolM (binM geD ma mb)) := et_cmp op_ge op2_rel ha hb (nomark _)
end
/-! data as the library reads it -/
mutual
def D.py : D → Option PyData
  | .non => some .none
  | .bl b => some (.bool b)
  | .int i => some (.int i)
  | .str x => some (.str x)
  | .lst xs => (D.pys xs).map .list
  | .sea xs => (D.pys xs).map .list
  | .tup xs => (D.pys xs).map .tuple
  | .dct _ => none
  | .obj _ => none
def D.pys : List D → Option (List PyData)
  | [] => some []
  | d :: ds => match d.py, D.pys ds with
    | some a, some r => some (a :: r)
    | _, _ => none
end
mutual
theorem DA.dp {K : PySem.W.Frag} {ι : List Addr} {B H : Hp} (hs : Same B H) : ∀ (d : D) (v : V) (p : PyData), DA K ι B v d → d.py = some p → Dp K H v p
  | .non, _, _, h, e => by cases h; simp only [D.py, Option.some.injEq] at e; subst e; exact .non
  | .bl b, _, _, h, e => by cases h; simp only [D.py, Option.some.injEq] at e; subst e; exact .bl b
  | .int i, _, _, h, e => by cases h; simp only [D.py, Option.some.injEq] at e; subst e; exact .int i
  | .str x, _, _, h, e => by cases h; simp only [D.py, Option.some.injEq] at e; subst e; exact .str x
  | .lst xs, _, _, h, e => by
    simp only [D.py, Option.map_eq_some_iff] at e
    obtain ⟨ps, e1, e2⟩ := e
    subst e2
    cases h with
    | lst h1 h2 => exact .lst (SqL.of (hs _ _ h1)) (DA.dps hs xs _ ps h2 e1)
  | .sea xs, _, _, h, e => by
    simp only [D.py, Option.map_eq_some_iff] at e
    obtain ⟨ps, e1, e2⟩ := e
    subst e2
    cases h with
    | sea h1 h2 => exact .lst (hs.seq h1) (DA.dps hs xs _ ps h2 e1)
  | .tup xs, _, _, h, e => by
    simp only [D.py, Option.map_eq_some_iff] at e
    obtain ⟨ps, e1, e2⟩ := e
    subst e2
    cases h with
    | tup h1 h2 => exact .tup (sqT_same hs h1) (DA.dps hs xs _ ps h2 e1)
  | .dct _, _, _, _, e => by simp only [D.py] at e; cases e
  | .obj _, _, _, _, e => by simp only [D.py] at e; cases e
theorem DA.dps {K : PySem.W.Frag} {ι : List Addr} {B H : Hp} (hs : Same B H) : ∀ (ds : List D) (vs : List V) (ps : List PyData), Paired (DA K ι B) vs ds → D.pys ds = some ps → DpAll K H vs ps
  | [], _, _, h, e => by cases h; simp only [D.pys, Option.some.injEq] at e; subst e; exact .nil
  | d :: ds, _, _, h, e => by
    cases h with
    | cons h1 h2 =>
      simp only [D.pys] at e
      split at e
      · rename_i a r e1 e2
        cases e
        exact .cons (DA.dp hs d _ a h1 e1) (DA.dps hs ds _ r h2 e2)
      · cases e
end
theorem DH.dp {K : PySem.W.Frag} {ι : List Addr} {B H : Hp} (hs : Same B H) {d : D} {v : V} {p : PyData} (h : DH K ι B H v d) (e : d.py = some p) : Dp K H v p := by
  cases d with
  | non => exact DA.dp hs _ _ _ h e
  | bl b => exact DA.dp hs _ _ _ h e
  | int i => exact DA.dp hs _ _ _ h e
  | str x => exact DA.dp hs _ _ _ h e
  | dct x => simp only [D.py] at e; cases e
  | obj x => simp only [D.py] at e; cases e
  | lst xs =>
    simp only [D.py, Option.map_eq_some_iff] at e
    obtain ⟨ps, e1, e2⟩ := e
    subst e2
    obtain ⟨a, vs, rfl, h1, h2⟩ := h
    exact .lst (SqL.of h1) (DA.dps hs xs _ ps h2 e1)
  | sea xs =>
    simp only [D.py, Option.map_eq_some_iff] at e
    obtain ⟨ps, e1, e2⟩ := e
    subst e2
    obtain ⟨a, vs, rfl, h1, h2⟩ := h
    exact .lst h1 (DA.dps hs xs _ ps h2 e1)
  | tup xs =>
    simp only [D.py, Option.map_eq_some_iff] at e
    obtain ⟨ps, e1, e2⟩ := e
    subst e2
    obtain ⟨a, vs, rfl, h1, h2⟩ := h
    exact .tup h1 (DA.dps hs xs _ ps h2 e1)
/-- == of data -/
def eqB : D → D → Option Bool
  | .non, .non => some true
  | .bl a, .bl b => some (decide (a = b))
  | .int i, .int j => some (decide (i = j))
  | .str x, .str y => some (decide (x = y))
  | a, b => match a.py, b.py with
    | some p, some q => if SeqAt.shaped p = true ∧ SeqAt.shaped q = true then some (PyData.eqv p q) else none
    | _, _ => none
def eqD (a b : D) : Option D := (eqB a b).map .bl
def neD (a b : D) : Option D := (eqB a b).map fun k => .bl (!k)
abbrev rEqAll (K : PySem.W.Frag) : R2 := fun x y H Q => rEq x y H Q ∨ rEqD K x y H Q
abbrev rNeAll (K : PySem.W.Frag) : R2 := fun x y H Q => rNe x y H Q ∨ rNeD K x y H Q
theorem op2_eq : Op2 X (rEqAll X.K) eqD := by
  intro x y a b z e ι B H ρ O σ Q r hx hy hz q
  unfold eqD at hz
  simp only [Option.map_eq_some_iff] at hz
  obtain ⟨k, hk, rfl⟩ := hz
  unfold eqB at hk
  split at hk
  · cases hx; cases hy; cases hk; exact .inl ⟨rfl, atomI r q (.bl _)⟩
  · rename_i a b
    cases hx; cases hy; cases hk
    refine .inl ⟨rfl, ?_⟩
    have := atomI r q (.bl _)
    rw [show decide (V.bl a = V.bl b) = decide (a = b) from by simp]
    exact this
  · rename_i a b
    cases hx; cases hy; cases hk
    refine .inl ⟨rfl, ?_⟩
    have := atomI r q (.bl _)
    rw [show decide (V.int a = V.int b) = decide (a = b) from by simp]
    exact this
  · rename_i a b
    cases hx; cases hy; cases hk
    refine .inl ⟨rfl, ?_⟩
    have := atomI r q (.bl _)
    rw [show decide (V.str a = V.str b) = decide (a = b) from by simp]
    exact this
  · split at hk
    · rename_i p1 q1 e1 e2
      split at hk
      · rename_i hc
        cases hk
        exact .inr ⟨p1, q1, DH.dp r.sub hx e1, DH.dp r.sub hy e2, hc.1, hc.2, atomI r q (.bl _)⟩
      · cases hk
    · cases hk
theorem op2_ne : Op2 X (rNeAll X.K) neD := by
  intro x y a b z e ι B H ρ O σ Q r hx hy hz q
  unfold neD at hz
  simp only [Option.map_eq_some_iff] at hz
  obtain ⟨k, hk, rfl⟩ := hz
  unfold eqB at hk
  split at hk
  · cases hx; cases hy; cases hk; exact .inl ⟨rfl, atomI r q (.bl _)⟩
  · rename_i a b
    cases hx; cases hy; cases hk
    refine .inl ⟨rfl, ?_⟩
    have := atomI r q (.bl _)
    rw [show decide (V.bl a = V.bl b) = decide (a = b) from by simp]
    exact this
  · rename_i a b
    cases hx; cases hy; cases hk
    refine .inl ⟨rfl, ?_⟩
    have := atomI r q (.bl _)
    rw [show decide (V.int a = V.int b) = decide (a = b) from by simp]
    exact this
  · rename_i a b
    cases hx; cases hy; cases hk
    refine .inl ⟨rfl, ?_⟩
    have := atomI r q (.bl _)
    rw [show decide (V.str a = V.str b) = decide (a = b) from by simp]
    exact this
  · split at hk
    · rename_i p1 q1 e1 e2
      split at hk
      · rename_i hc
        cases hk
        exact .inr ⟨p1, q1, DH.dp r.sub hx e1, DH.dp r.sub hy e2, hc.1, hc.2, atomI r q (.bl _)⟩
      · cases hk
    · cases hk
section
variable {a b : Expr} {pos : Pos} {ma mb : ME D}
theorem ex_eq (hu : X.A.units + 64 < cLine) (ha : EZ X Wx a ma) (hb : EZ X Wx b mb) : EX X Wx (.Compare a [.Eq] [b] pos) (binM eqD ma mb) := ex_cmp (OpR.or op_eq (op_eqD hu)) op2_eq ha hb (nomark _)
theorem ex_ne (hu : X.A.units + 64 < cLine) (ha : EZ X Wx a ma) (hb : EZ X Wx b mb) : EX X Wx (.Compare a [.NotEq] [b] pos) (binM neD ma mb) := ex_cmp (OpR.or op_ne (op_neD hu)) op2_ne ha hb (nomark _)
theorem et_eq (hu : X.A.units + 64 < cLine) (ha : EZ X Wx a ma) (hb : EZ X Wx b mb) : ET X Wx (.Compare a [.Eq] [b] pos) (boolM (binM eqD ma mb)) := et_cmp (OpR.or op_eq (op_eqD hu)) op2_eq ha hb (nomark _)
theorem et_ne (hu : X.A.units + 64 < cLine) (ha : EZ X Wx a ma) (hb : EZ X Wx b mb) : ET X Wx (.Compare a [.NotEq] [b] pos) (boolM (binM neD ma mb)) := et_cmp (OpR.or op_ne (op_neD hu)) op2_ne ha hb (nomark _)
end
end
end DL

set_option Elab.async false
set_option linter.all false
set_option maxRecDepth 100000
namespace DL
open PySem L2
variable [Tabs]
section
variable {X : Cx} {Wx : WX} {a b c : Expr} {pos : Pos} {ma mb mc : ME D}

/-! ### tests -/
def notT (m : ME Bool) : ME Bool := bindE m fun b => pureE (!b)
theorem et_not {m : ME Bool} (h : ET X Wx a m) : ET X Wx (.UnaryOp .Not a pos) (notT m) := by
  obtain ⟨t, pt, et⟩ := h
  refine ⟨_, pt_not pt, Ev.bind (R' := rQ Bool) (u := fun c _ H1 Q => Q (!c) H1) et fun x a e ι B H ρ O σ Q r hx q => ?_⟩
  cases hx
  exact EvP.ok r q rfl
def EW (X : Cx) (Wx : WX) (e : Expr) (m : ME Bool) : Prop := ∃ t, PW X e t ∧ Ev X Wx (rQ Bool) t m
theorem EW.t {e : Expr} {m : ME Bool} (h : EW X Wx e m) : ET X Wx e m := by
  obtain ⟨t, pt, et⟩ := h
  exact ⟨t, pt.pt, et⟩
def andT (m n : ME Bool) : ME Bool := bindE m fun b => if b = true then n else pureE false
def orT (m n : ME Bool) : ME Bool := bindE m fun b => if b = true then pureE true else n
theorem ew_and1 {m : ME Bool} (h : ET X Wx a m) : EW X Wx (.BoolOp .And [a] pos) m := by
  obtain ⟨t, pt, et⟩ := h
  exact ⟨t, pw_and1 pt, et⟩
theorem ew_or1 {m : ME Bool} (h : ET X Wx a m) : EW X Wx (.BoolOp .Or [a] pos) m := by
  obtain ⟨t, pt, et⟩ := h
  exact ⟨t, pw_or1 pt, et⟩
theorem ew_and {rest : List Expr} {m n : ME Bool} (h : ET X Wx a m) (k : EW X Wx (.BoolOp .And (b :: rest) pos) n) : EW X Wx (.BoolOp .And (a :: b :: rest) pos) (andT m n) := by
  obtain ⟨t, pt, et⟩ := h
  obtain ⟨u, pu, eu⟩ := k
  refine ⟨_, pw_and pt pu, Ev.bind (R' := rQ Bool) (u := fun c σ H1 Q => if c = true then u σ H1 Q else Q false H1) et fun x a e ι B H ρ O σ Q r hx q => ?_⟩
  cases hx
  cases x with
  | true => rw [if_pos rfl] at q ⊢; exact eu e ι B H ρ O σ Q r q
  | false => rw [if_neg Bool.false_ne_true] at q ⊢; exact EvP.ok r q rfl
theorem ew_or {rest : List Expr} {m n : ME Bool} (h : ET X Wx a m) (k : EW X Wx (.BoolOp .Or (b :: rest) pos) n) : EW X Wx (.BoolOp .Or (a :: b :: rest) pos) (orT m n) := by
  obtain ⟨t, pt, et⟩ := h
  obtain ⟨u, pu, eu⟩ := k
  refine ⟨_, pw_or pt pu, Ev.bind (R' := rQ Bool) (u := fun c σ H1 Q => if c = true then Q true H1 else u σ H1 Q) et fun x a e ι B H ρ O σ Q r hx q => ?_⟩
  cases hx
  cases x with
  | true => rw [if_pos rfl] at q ⊢; exact EvP.ok r q rfl
  | false => rw [if_neg Bool.false_ne_true] at q ⊢; exact eu e ι B H ρ O σ Q r q
/-- a truth value as a test, whatever gives it -/
theorem et_val (h : EX X Wx a ma) (he : ∀ whole, isTrue a X.env whole = (do let v ← whole; standAt a.pos; holding [v] (truthy v)) := by intro _; rfl) : ET X Wx a (boolM ma) := by
  obtain ⟨t, pt, et⟩ := h
  exact ⟨_, pt_val pt he, ev_bool et⟩
/-! .. as values -/
def boolOnly (m : D → ME D) (b : Bool) : D → ME D
  | .bl k => if k = b then m (.bl k) else pureE (.bl k)
  | _ => badE
def andV (m n : ME D) : ME D := bindE m (boolOnly (fun _ => n) true)
def orV (m n : ME D) : ME D := bindE m (boolOnly (fun _ => n) false)
def notV (m : ME D) : ME D := bindE m fun d => match d with
  | .bl k => pureE (.bl (!k))
  | _ => badE
theorem ex_one {op} (h : EX X Wx a ma) : EX X Wx (.BoolOp op [a] pos) ma := by
  obtain ⟨t, pt, et⟩ := h
  exact ⟨t, pe_one pt, et⟩
theorem ex_and' {rest : List Expr} (h : EX X Wx a ma) (k : EX X Wx (.BoolOp .And (b :: rest) pos) mb) : EX X Wx (.BoolOp .And (a :: b :: rest) pos) (andV ma mb) := by
  obtain ⟨t, pt, et⟩ := h
  obtain ⟨u, pu, eu⟩ := k
  refine ⟨_, pe_and pt pu, Ev.bind (R' := rD X) (u := fun (x : V) σ H1 Q => ∃ c, x = V.bl c ∧ if c = true then u σ H1 Q else Q (.bl false) H1) et fun x a e ι B H ρ O σ Q r hx q => ?_⟩
  cases a with
  | bl k =>
    cases hx
    refine ⟨k, rfl, ?_⟩
    cases k with
    | true => rw [if_pos rfl]; exact eu e ι B H ρ O σ Q r q
    | false => rw [if_neg Bool.false_ne_true]; exact EvP.ok r q (.bl _)
  | _ => exact q.elim
theorem ex_or' {rest : List Expr} (h : EX X Wx a ma) (k : EX X Wx (.BoolOp .Or (b :: rest) pos) mb) : EX X Wx (.BoolOp .Or (a :: b :: rest) pos) (orV ma mb) := by
  obtain ⟨t, pt, et⟩ := h
  obtain ⟨u, pu, eu⟩ := k
  refine ⟨_, pe_or pt pu, Ev.bind (R' := rD X) (u := fun (x : V) σ H1 Q => ∃ c, x = V.bl c ∧ if c = true then Q (.bl true) H1 else u σ H1 Q) et fun x a e ι B H ρ O σ Q r hx q => ?_⟩
  cases a with
  | bl k =>
    cases hx
    refine ⟨k, rfl, ?_⟩
    cases k with
    | true => rw [if_pos rfl]; exact EvP.ok r q (.bl _)
    | false => rw [if_neg Bool.false_ne_true]; exact eu e ι B H ρ O σ Q r q
  | _ => exact q.elim
theorem ex_not' (h : EX X Wx a ma) : EX X Wx (.UnaryOp .Not a pos) (notV ma) := by
  obtain ⟨t, pt, et⟩ := h
  refine ⟨_, pe_not pt, Ev.bind (R' := rD X) (u := fun (x : V) σ H1 Q => ∃ c, x = V.bl c ∧ Q (.bl (!c)) H1) et fun x a e ι B H ρ O σ Q r hx q => ?_⟩
  cases a with
  | bl k =>
    cases hx
    exact ⟨k, rfl, EvP.ok r q (.bl _)⟩
  | _ => exact q.elim
def ifM {α : Type} (t : ME Bool) (m n : ME α) : ME α := bindE t fun b => if b = true then m else n
theorem ex_if {t : ME Bool} (hc : ET X Wx c t) (ha : EX X Wx a ma) (hb : EX X Wx b mb) : EX X Wx (.IfExp c a b pos) (ifM t ma mb) := by
  obtain ⟨tc, pc, ec⟩ := hc
  obtain ⟨ta, pa, ea⟩ := ha
  obtain ⟨tb, pb, eb⟩ := hb
  refine ⟨_, pe_ifExp pc pa pb, Ev.bind (R' := rD X) (u := fun d σ H1 Q => if d = true then ta σ H1 Q else tb σ H1 Q) ec fun x a e ι B H ρ O σ Q r hx q => ?_⟩
  cases hx
  cases x with
  | true => rw [if_pos rfl] at q ⊢; exact ea e ι B H ρ O σ Q r q
  | false => rw [if_neg Bool.false_ne_true] at q ⊢; exact eb e ι B H ρ O σ Q r q

/-! ### x is None, x is True .. -/
def isNon : D → Bool
  | .non => true
  | _ => false
def isND (a : D) (_ : D) : Option D := some (.bl (isNon a))
def notND (a : D) (_ : D) : Option D := some (.bl (!isNon a))
theorem DH.non {K : PySem.W.Frag} {ι : List Addr} {B H : Hp} {v : V} {d : D} (h : DH K ι B H v d) : decide (v = .non) = isNon d := by
  cases d with
  | non => cases h; rfl
  | bl b => cases h; rfl
  | int i => cases h; rfl
  | str x => cases h; rfl
  | lst xs => obtain ⟨a, vs, rfl, _⟩ := h; rfl
  | sea xs => obtain ⟨a, vs, rfl, _⟩ := h; rfl
  | tup xs => obtain ⟨a, vs, rfl, _⟩ := h; rfl
  | dct xs => obtain ⟨a, vs, rfl, _⟩ := h; rfl
  | obj n => cases h; rfl
theorem ex_isN {j pos'} (h : EZ X Wx a ma) : EX X Wx (.Compare a [.Is] [.Constant .none j pos'] pos) (bindE ma fun d => pureE (.bl (isNon d))) := by
  obtain ⟨t, pt, et⟩ := h
  refine ⟨_, pe_cmp (pc_isN pt), Ev.bind (R' := rD X) (u := fun (x : V) σ H1 Q => Q (V.bl (decide (x = V.non))) H1) et fun x a e ι B H ρ O σ Q r hx q => ?_⟩
  dsimp only
  rw [(hx.dh r).non]
  exact EvP.ok r q (.bl _)
theorem ex_notN {j pos'} (h : EZ X Wx a ma) : EX X Wx (.Compare a [.IsNot] [.Constant .none j pos'] pos) (bindE ma fun d => pureE (.bl (!isNon d))) := by
  obtain ⟨t, pt, et⟩ := h
  refine ⟨_, pe_cmp (pc_notN pt), Ev.bind (R' := rD X) (u := fun (x : V) σ H1 Q => Q (V.bl (!decide (x = V.non))) H1) et fun x a e ι B H ρ O σ Q r hx q => ?_⟩
  dsimp only
  rw [(hx.dh r).non]
  exact EvP.ok r q (.bl _)
theorem et_isN {j pos'} (h : EZ X Wx a ma) : ET X Wx (.Compare a [.Is] [.Constant .none j pos'] pos) (bindE ma fun d => pureE (isNon d)) := by
  obtain ⟨t, pt, et⟩ := h
  refine ⟨_, pt_cmp (pc_isN pt), Ev.bind (R' := rQ Bool) (u := fun (x : V) σ H1 Q => ∃ c, V.bl (decide (x = V.non)) = V.bl c ∧ Q c H1) et fun x a e ι B H ρ O σ Q r hx q => ?_⟩
  dsimp only
  rw [(hx.dh r).non]
  exact ⟨_, rfl, EvP.ok r q rfl⟩
theorem et_notN {j pos'} (h : EZ X Wx a ma) : ET X Wx (.Compare a [.IsNot] [.Constant .none j pos'] pos) (bindE ma fun d => pureE (!isNon d)) := by
  obtain ⟨t, pt, et⟩ := h
  refine ⟨_, pt_cmp (pc_notN pt), Ev.bind (R' := rQ Bool) (u := fun (x : V) σ H1 Q => ∃ c, V.bl (!decide (x = V.non)) = V.bl c ∧ Q c H1) et fun x a e ι B H ρ O σ Q r hx q => ?_⟩
  dsimp only
  rw [(hx.dh r).non]
  exact ⟨_, rfl, EvP.ok r q rfl⟩
def isBD (neg : Bool) : D → D → Option D
  | .bl a, .bl b => some (.bl (if neg then !decide (a = b) else decide (a = b)))
  | _, _ => none
theorem op2_isB : Op2 X rIsB (isBD false) := by
  intro x y a b z e ι B H ρ O σ Q r hx hy hz q
  unfold isBD at hz
  split at hz
  · rename_i i j
    cases hx; cases hy; cases hz
    exact ⟨i, j, rfl, rfl, atomI r q (.bl _)⟩
  · cases hz
theorem op2_notB : Op2 X rNotB (isBD true) := by
  intro x y a b z e ι B H ρ O σ Q r hx hy hz q
  unfold isBD at hz
  split at hz
  · rename_i i j
    cases hx; cases hy; cases hz
    exact ⟨i, j, rfl, rfl, atomI r q (.bl _)⟩
  · cases hz
theorem ex_isB (ha : EZ X Wx a ma) (hb : EZ X Wx b mb) : EX X Wx (.Compare a [.Is] [b] pos) (binM (isBD false) ma mb) := ex_cmp op_isBl op2_isB ha hb (nomark _)
theorem ex_notB (ha : EZ X Wx a ma) (hb : EZ X Wx b mb) : EX X Wx (.Compare a [.IsNot] [b] pos) (binM (isBD true) ma mb) := ex_cmp op_notBl op2_notB ha hb (nomark _)
theorem et_isB (ha : EZ X Wx a ma) (hb : EZ X Wx b mb) : ET X Wx (.Compare a [.Is] [b] pos) (boolM (binM (isBD false) ma mb)) := et_cmp op_isBl op2_isB ha hb (nomark _)
theorem et_notB (ha : EZ X Wx a ma) (hb : EZ X Wx b mb) : ET X Wx (.Compare a [.IsNot] [b] pos) (boolM (binM (isBD true) ma mb)) := et_cmp op_notBl op2_notB ha hb (nomark _)

/-! ### a < b < c -/
def chainM (f g : D → D → Option D) (ma mb mc : ME D) : ME D := bindE ma fun x => bindE mb fun y => bindE (optE (f x y)) (boolOnly (fun _ => bindE mc fun z => optE (g y z)) true)
theorem ev_chain {r r' : R2} {f g : D → D → Option D} {ta tb tc : TE} (ho : Op2 X r f) (ho' : Op2 X r' g) (ha : Ev X Wx (rS X) ta ma) (hb : Ev X Wx (rS X) tb mb) (hc : Ev X Wx (rS X) tc mc) : Ev X Wx (rD X) (tChain r r' ta tb tc) (chainM f g ma mb mc) := by
  refine Ev.bind2 (R' := rD X) (u := fun x y σ H Q => r x y H fun z H3 => ∃ k, z = .bl k ∧ (if k = true then tc σ H3 fun w' H4 => r' y w' H4 Q else Q (.bl false) H3)) ha hb fun x y a b e ι B H ρ O σ Q rl hx hy q => ?_
  cases z : f a b with
  | none => rw [z] at q; exact q.elim
  | some d =>
    rw [z] at q
    refine ho x y a b d e ι B H ρ O σ _ rl (hx.dh rl) (hy.dh rl) z fun B' H' v r' b' hv => ?_
    cases d with
    | bl k =>
      cases hv
      refine ⟨k, rfl, ?_⟩
      cases k with
      | false => rw [if_neg Bool.false_ne_true]; exact q ι B' H' _ r' (Pre.refl _) b' (.bl _)
      | true =>
        rw [if_pos rfl]
        refine hc e ι B' H' ρ O σ _ r' ?_
        have q1 : EvP X Wx (rD X) e ι B ρ σ Q ((bindE mc fun z => optE (g b z)) ρ O) := q
        simp only [bindE] at q1
        cases zc : mc ρ O with
        | bad => rw [zc] at q1; exact q1
        | err c p O' =>
          rw [zc] at q1
          exact fun ι2 B2 H2 C dx r2 i2 b2 h => q1 ι2 B2 H2 C dx r2 i2 (b'.trans b2) h
        | ok d O' =>
          rw [zc] at q1
          dsimp only at q1
          intro ι2 B2 H2 w r2 i2 b2 hw
          cases zg : g b d with
          | none => rw [zg] at q1; exact q1.elim
          | some d2 =>
            rw [zg] at q1
            exact ho' y w b d d2 e ι2 B2 H2 ρ O' σ Q r2 ((rS.mono i2 (b'.trans b2) hy).dh r2) (hw.dh r2) zg fun B3 H3 v3 r3 b3 h3 => q1 ι2 B3 H3 v3 r3 i2 ((b'.trans b2).trans b3) h3
    | _ => exact q.elim
theorem ex_chain {op op' : CmpOp} {r r' : R2} {f g : D → D → Option D} (hr : OpR X (compareOp op) r) (hr' : OpR X (compareOp op') r') (ho : Op2 X r f) (ho' : Op2 X r' g) (ha : EZ X Wx a ma) (hb : EZ X Wx b mb) (hc : EZ X Wx c mc)
    (hm : lastMarks [op, op'] [b, c] = false := by with_unfolding_all rfl) : EX X Wx (.Compare a [op, op'] [b, c] pos) (chainM f g ma mb mc) := by
  obtain ⟨ta, pa, ea⟩ := ha
  obtain ⟨tb, pb, eb⟩ := hb
  obtain ⟨tc, pc, ec⟩ := hc
  exact ⟨_, pe_chain hr hr' pa pb pc hm, ev_chain ho ho' ea eb ec⟩
theorem et_chain {op op' : CmpOp} {r r' : R2} {f g : D → D → Option D} (hr : OpR X (compareOp op) r) (hr' : OpR X (compareOp op') r') (ho : Op2 X r f) (ho' : Op2 X r' g) (ha : EZ X Wx a ma) (hb : EZ X Wx b mb) (hc : EZ X Wx c mc)
    (hm : lastMarks [op, op'] [b, c] = false := by with_unfolding_all rfl) : ET X Wx (.Compare a [op, op'] [b, c] pos) (boolM (chainM f g ma mb mc)) := by
  obtain ⟨ta, pa, ea⟩ := ha
  obtain ⟨tb, pb, eb⟩ := hb
  obtain ⟨tc, pc, ec⟩ := hc
  exact ⟨_, pt_chain hr hr' pa pb pc hm, ev_bool (ev_chain ho ho' ea eb ec)⟩
theorem ex_lelt (ha : EZ X Wx a ma) (hb : EZ X Wx b mb) (hc : EZ X Wx c mc) (hm : lastMarks [.LtE, .Lt] [b, c] = false := by with_unfolding_all rfl) : EX X Wx (.Compare a [.LtE, .Lt] [b, c] pos) (chainM leD ltD ma mb mc) := ex_chain op_le op_lt op2_rel op2_rel ha hb hc hm
theorem et_lelt (ha : EZ X Wx a ma) (hb : EZ X Wx b mb) (hc : EZ X Wx c mc) (hm : lastMarks [.LtE, .Lt] [b, c] = false := by with_unfolding_all rfl) : ET X Wx (.Compare a [.LtE, .Lt] [b, c] pos) (boolM (chainM leD ltD ma mb mc)) := et_chain op_le op_lt op2_rel op2_rel ha hb hc hm
theorem ex_lele (ha : EZ X Wx a ma) (hb : EZ X Wx b mb) (hc : EZ X Wx c mc) (hm : lastMarks [.LtE, .LtE] [b, c] = false := by with_unfolding_all rfl) : EX X Wx (.Compare a [.LtE, .LtE] [b, c] pos) (chainM leD leD ma mb mc) := ex_chain op_le op_le op2_rel op2_rel ha hb hc hm
theorem et_lele (ha : EZ X Wx a ma) (hb : EZ X Wx b mb) (hc : EZ X Wx c mc) (hm : lastMarks [.LtE, .LtE] [b, c] = false := by with_unfolding_all rfl) : ET X Wx (.Compare a [.LtE, .LtE] [b, c] pos) (boolM (chainM leD leD ma mb mc)) := et_chain op_le op_le op2_rel op2_rel ha hb hc hm

/-! ### -x -/
def un1 (f : D → Option D) (m : ME D) : ME D := bindE m fun d => optO fun O => f (derefD O d)
def negD : D → Option D
  | .int i => some (.int (-i))
  | _ => none
theorem ex_neg (h : EZ X Wx a ma) : EX X Wx (.UnaryOp .USub a pos) (un1 negD ma) := by
  obtain ⟨t, pt, et⟩ := h
  refine ⟨_, pe_un un_neg pt, Ev.bind (R' := rD X) (u := fun x σ H1 Q => rU (fun i => .int (-i)) x H1 Q) et fun x a e ι B H ρ O σ Q r hx q => ?_⟩
  have hx := hx.dhO r
  simp only [optO] at q
  generalize derefD O a = a at hx q
  cases a with
  | int i => cases hx; exact ⟨i, rfl, EvP.ok r q (.int _)⟩
  | _ => exact q.elim

/-! ### arguments, displays -/
def nilA : ME (List D) := pureE []
def consA (m : ME D) (n : ME (List D)) : ME (List D) := bindE m fun d => bindE n fun ds => pureE (d :: ds)
theorem ea_nil : EA X Wx [] nilA := ⟨_, pa_nil, fun e ι B H ρ O σ Q r q => EvP.ok (v := []) r q .nil⟩
theorem ea_cons {e : Expr} {es : List Expr} {m : ME D} {n : ME (List D)} (h : EX X Wx e m) (k : EA X Wx es n) (hs : starEach (e :: es) X.env = (false, eval e X.env) :: starEach es X.env := by rfl) : EA X Wx (e :: es) (consA m n) := by
  obtain ⟨t, pt, et⟩ := h
  obtain ⟨u, pu, eu⟩ := k
  refine ⟨_, pa_cons pt pu hs, Ev.bind (R' := rDs X) (u := fun x σ H1 Q => u σ H1 fun xs H2 => Q (x :: xs) H2) et fun x a e ι B H ρ O σ Q r hx q => ?_⟩
  refine eu e ι B H ρ O σ _ r ?_
  simp only [bindE] at q
  cases z : n ρ O with
  | bad => rw [z] at q; exact q
  | err c p O' => rw [z] at q; exact q
  | ok ds O' =>
    rw [z] at q
    intro ι' B' H' vs r' i' b' hs
    exact q ι' B' H' (x :: vs) r' i' b' (.cons (DA.mono b' i' _ _ hx) hs)
/-- arguments read at once -/
def rSs (X : Cx) : RV (List V) (List D) := fun ι B ρ σ vs ds => Paired (rS X ι B ρ σ) vs ds
def EAZ (X : Cx) (Wx : WX) (es : List Expr) (m : ME (List D)) : Prop := ∃ t, PA X es t ∧ Ev X Wx (rSs X) t m
theorem rSs.mono {ι ι' : List Addr} {B B' : Hp} {ρ : Rho} {σ : St} : ∀ {vs : List V} {ds : List D}, Pre ι ι' → Same B B' → Paired (rS X ι B ρ σ) vs ds → Paired (rS X ι' B' ρ σ) vs ds
  | _, _, _, _, .nil => .nil
  | _, _, hi, hB, .cons h t => .cons (rS.mono hi hB h) (rSs.mono hi hB t)
theorem eaz_nil : EAZ X Wx [] nilA := ⟨_, pa_nil, fun e ι B H ρ O σ Q r q => EvP.ok (v := []) r q .nil⟩
theorem eaz_cons {e : Expr} {es : List Expr} {m : ME D} {n : ME (List D)} (h : EZ X Wx e m) (k : EAZ X Wx es n) (hs : starEach (e :: es) X.env = (false, eval e X.env) :: starEach es X.env := by rfl) : EAZ X Wx (e :: es) (consA m n) := by
  obtain ⟨t, pt, et⟩ := h
  obtain ⟨u, pu, eu⟩ := k
  refine ⟨_, pa_cons pt pu hs, Ev.bind (R' := rSs X) (u := fun x σ H1 Q => u σ H1 fun xs H2 => Q (x :: xs) H2) et fun x a e ι B H ρ O σ Q r hx q => ?_⟩
  refine eu e ι B H ρ O σ _ r ?_
  simp only [bindE] at q
  cases z : n ρ O with
  | bad => rw [z] at q; exact q
  | err c p O' => rw [z] at q; exact q
  | ok ds O' =>
    rw [z] at q
    intro ι' B' H' vs r' i' b' hs
    exact q ι' B' H' (x :: vs) r' i' b' (.cons (rS.mono i' b' hx) hs)
def lstM (m : ME (List D)) : ME D := bindE m fun ds => if ds.length ≤ sizeLine then pureE (.lst ds) else badE
def tupM (m : ME (List D)) : ME D := bindE m fun ds => if ds.length ≤ sizeLine then pureE (.tup ds) else badE
theorem ex_lst {es : List Expr} {m : ME (List D)} (h : EA X Wx es m) : EX X Wx (.List es pos) (lstM m) := by
  obtain ⟨t, pt, et⟩ := h
  refine ⟨_, pe_lst pt, Ev.bind (R' := rD X) (u := fun (xs : List V) σ H1 Q => xs.length ≤ sizeLine ∧ ∀ p, H1 p = none → Q (.ref p) (upd H1 p (.lst xs))) et fun xs ds e ι B H ρ O σ Q r hx q => ?_⟩
  split at q
  · rename_i hl
    exact ⟨by rw [paired_len hx]; exact hl, newL r (fun B' H' v r' b' hv => q ι B' H' v r' (Pre.refl _) b' hv) hx⟩
  · exact q.elim
theorem ex_tup {es : List Expr} {k} {m : ME (List D)} (h : EA X Wx es m) : EX X Wx (.Tuple es k pos) (tupM m) := by
  obtain ⟨t, pt, et⟩ := h
  refine ⟨_, pe_tup pt, Ev.bind (R' := rD X) (u := fun (xs : List V) σ H1 Q => xs.length ≤ sizeLine ∧ ∀ p, H1 p = none → Q (.ref p) (upd H1 p (.tup xs))) et fun xs ds e ι B H ρ O σ Q r hx q => ?_⟩
  split at q
  · rename_i hl
    exact ⟨by rw [paired_len hx]; exact hl, newT r (fun B' H' v r' b' hv => q ι B' H' v r' (Pre.refl _) b' hv) hx⟩
  · exact q.elim

/-! ### keys, entries -/
def keyD : D → Option Key
  | .int i => some (.inl i)
  | .str s => some (.inr s)
  | _ => none
theorem keyD_v {K : PySem.W.Frag} {ι : List Addr} {B H : Hp} {x : V} {d : D} {k : Key} (h : DH K ι B H x d) (e : keyD d = some k) : x = kV k := by
  cases d with
  | int i => cases h; cases e; rfl
  | str s => cases h; cases e; rfl
  | _ => cases e
/-- the entry of a key; an entry put, taken -/
def valD (es : List (Key × D)) (k : Key) : Option D := (es.find? fun p => decide (p.1 = k)).map (·.2)
def putD (es : List (Key × D)) (k : Key) (d : D) : List (Key × D) := if (es.any fun p => decide (p.1 = k)) = true then es.map (fun p => if p.1 = k then (p.1, d) else p) else es ++ [(k, d)]
def dropD (es : List (Key × D)) (k : Key) : List (Key × D) := es.filter fun p => decide (p.1 ≠ k)
theorem valD_cons (p : Key × D) (es : List (Key × D)) (k : Key) : valD (p :: es) k = if p.1 = k then some p.2 else valD es k := by
  unfold valD
  rw [List.find?_cons]
  by_cases h : p.1 = k <;> simp [h]
theorem paired_val {K : PySem.W.Frag} {ι : List Addr} {B : Hp} (k : Key) : ∀ {kvs : List (Key × V)} {es : List (Key × D)}, Paired (KD K ι B) kvs es → (valV kvs k = none ∧ valD es k = none) ∨ ∃ v d, valV kvs k = some v ∧ valD es k = some d ∧ DA K ι B v d
  | _, _, .nil => .inl ⟨rfl, rfl⟩
  | p :: _, q :: _, .cons h t => by
    rw [valD_cons]
    by_cases e : p.1 = k
    · rw [valV_pos e, if_pos (h.1 ▸ e)]
      exact .inr ⟨_, _, rfl, rfl, h.2⟩
    · rw [valV_neg e, if_neg (h.1 ▸ e)]
      exact paired_val k t
theorem paired_any {K : PySem.W.Frag} {ι : List Addr} {B : Hp} (k : Key) : ∀ {kvs : List (Key × V)} {es : List (Key × D)}, Paired (KD K ι B) kvs es → (kvs.any fun p => decide (p.1 = k)) = (es.any fun p => decide (p.1 = k))
  | _, _, .nil => rfl
  | p :: _, q :: _, .cons h t => by
    rw [List.any_cons, List.any_cons, paired_any k t, h.1]
theorem paired_map {α β : Type} {F : α → β → Prop} {f : α → α} {g : β → β} (h : ∀ x y, F x y → F (f x) (g y)) : ∀ {xs : List α} {ys : List β}, Paired F xs ys → Paired F (xs.map f) (ys.map g)
  | _, _, .nil => .nil
  | _, _, .cons a t => .cons (h _ _ a) (paired_map h t)
theorem paired_put {K : PySem.W.Frag} {ι : List Addr} {B : Hp} {k : Key} {v : V} {d : D} (hv : DA K ι B v d) {kvs : List (Key × V)} {es : List (Key × D)} (h : Paired (KD K ι B) kvs es) : Paired (KD K ι B) (putK kvs k v) (putD es k d) := by
  unfold putK putD
  rw [paired_any k h]
  split
  · refine paired_map (fun x y e => ?_) h
    by_cases e1 : x.1 = k
    · rw [if_pos e1, if_pos (e.1 ▸ e1)]
      exact ⟨e.1, hv⟩
    · rw [if_neg e1, if_neg (e.1 ▸ e1)]
      exact e
  · exact paired_app h (.cons ⟨rfl, hv⟩ .nil)
theorem paired_drop' {K : PySem.W.Frag} {ι : List Addr} {B : Hp} {k : Key} : ∀ {kvs : List (Key × V)} {es : List (Key × D)}, Paired (KD K ι B) kvs es → Paired (KD K ι B) (dropK kvs k) (dropD es k)
  | _, _, .nil => .nil
  | p :: _, q :: _, .cons h t => by
    unfold dropK dropD
    rw [List.filter_cons, List.filter_cons]
    by_cases e : p.1 = k
    · rw [if_neg (by simpa using e), if_neg (by simpa using (h.1 ▸ e))]
      exact paired_drop' t
    · rw [if_pos (by simpa using e), if_pos (by simpa using (h.1 ▸ e))]
      exact .cons h (paired_drop' t)

/-! ### x[i] -/
def ixD : D → D → Option D
  | .lst xs, .int i | .sea xs, .int i | .tup xs, .int i => atI xs i
  | .str z, .int i => if z.length ≤ sizeLine then (atI z.cps.toList i).map fun c => .str ⟨#[c]⟩ else none
  | .dct es, y => (keyD y).bind (valD es)
  | _, _ => none
def rIxDct : R2 := fun x y H Q => ∃ a v, x = .ref a ∧ DGet H a y (some v) ∧ Q v H
theorem u1_ {n m : Nat} (h : n + 64 < m) : n + 1 < m := by omega
theorem ix_dct (hu : X.A.units + 1 < cLine) : IxR X rIxDct := by
  intro value slice pins s σ H x y v u Q I rx ry h hs
  obtain ⟨a, z, rfl, g, q⟩ := h
  cases rx
  exact PyProof.Rows.tail_any (dict_typeIs I g) PySem.F.slot_dict_getitem.lookup (d_getItem hu I g ry fun w' s3 I3 rw' => ⟨z, H, I3, rw', q⟩) hs
abbrev rIxAll (K : PySem.W.Frag) : R2 := fun x y H Q => rIx K x y H Q ∨ rIxDct x y H Q
theorem paired_at {F : V → D → Prop} {vs : List V} {ds : List D} {i : Int} {d : D} (h : Paired F vs ds) (e : atI ds i = some d) : ∃ v, atI vs i = some v ∧ F v d := by
  unfold atI at e ⊢
  rw [paired_len h]
  cases z : ixN ds.length i with
  | none => rw [z] at e; cases e
  | some j =>
    rw [z] at e
    exact paired_get h e
theorem op2_ix : Op2 X (rIxAll X.K) ixD := by
  intro x y a b z e ι B H ρ O σ Q r hx hy hz q
  unfold ixD at hz
  split at hz
  · cases hy
    obtain ⟨p, vs, rfl, h1, h2⟩ := hx
    obtain ⟨v, h3, h4⟩ := paired_at h2 hz
    exact .inl (.inl ⟨p, vs, _, v, rfl, rfl, SqL.of h1, h3, atomI r q h4⟩)
  · cases hy
    obtain ⟨p, vs, rfl, h1, h2⟩ := hx
    obtain ⟨v, h3, h4⟩ := paired_at h2 hz
    exact .inl (.inl ⟨p, vs, _, v, rfl, rfl, h1, h3, atomI r q h4⟩)
  · cases hy
    obtain ⟨p, vs, rfl, h1, h2⟩ := hx
    obtain ⟨v, h3, h4⟩ := paired_at h2 hz
    exact .inl (.inr (.inl ⟨p, vs, _, v, rfl, rfl, h1, h3, atomI r q h4⟩))
  · rename_i s i
    cases hy
    cases hx
    split at hz
    · rename_i hl
      simp only [Option.map_eq_some_iff] at hz
      obtain ⟨c, h1, rfl⟩ := hz
      exact .inl (.inr (.inr ⟨s, i, c, rfl, rfl, hl, h1, atomI r q (.str _)⟩))
    · cases hz
  · rename_i es
    obtain ⟨p, kvs, rfl, h1, h2⟩ := hx
    cases hk : keyD b with
    | none => rw [hk] at hz; cases hz
    | some k =>
      rw [hk] at hz
      have hz : valD es k = some z := hz
      rcases paired_val k h2 with ⟨_, h3⟩ | ⟨v, d, h3, h4, h5⟩
      · rw [h3] at hz; cases hz
      · rw [h4] at hz
        cases hz
        exact .inr ⟨p, v, rfl, .inl ⟨kvs, k, h1, keyD_v hy hk, h3.symm⟩, atomI r q h5⟩
  · cases hz
theorem ex_ix (hu : X.A.units + 64 < cLine) (ha : EZ X Wx a ma) (hb : EZ X Wx b mb) (hs : PlainIx b := by intro _ _; rfl) : EX X Wx (.Subscript a b pos) (binM ixD ma mb) := by
  obtain ⟨ta, pa, ea⟩ := ha
  obtain ⟨tb, pb, eb⟩ := hb
  exact ⟨_, pe_ix (ix_seq.or (ix_dct (u1_ hu))) pa pb hs, ev_op op2_ix ea eb⟩

/-! ### x[a:b] -/
abbrev rO : RV (Option Int) (Option Int) := rQ (Option Int)
def EO (X : Cx) (Wx : WX) (e : Option Expr) (m : ME (Option Int)) : Prop := ∃ t, PO X e t ∧ Ev X Wx rO t m
def noPart : ME (Option Int) := pureE none
def partM (m : ME D) : ME (Option Int) := bindE m fun d => match d with
  | .int i => pureE (some i)
  | _ => badE
theorem eo_none : EO X Wx none noPart := ⟨_, po_none, fun e ι B H ρ O σ Q r q => EvP.ok r q rfl⟩
theorem eo_some (h : EZ X Wx a ma) : EO X Wx (some a) (partM ma) := by
  obtain ⟨t, pt, et⟩ := h
  refine ⟨_, po_some pt, Ev.bind (R' := rO) (u := fun (x : V) σ H1 Q => ∃ i, x = V.int i ∧ Q (some i) H1) et fun x a e ι B H ρ O σ Q r hx q => ?_⟩
  have hx := hx.dh r
  cases a with
  | int i => cases hx; exact ⟨i, rfl, EvP.ok r q rfl⟩
  | _ => exact q.elim
def cutD (ds : List D) (lo hi : Option Int) : List D := (ds.drop (HT.sIx ds.length 0 lo)).take (HT.sIx ds.length ds.length hi - HT.sIx ds.length 0 lo)
def slD (lo hi : Option Int) : D → Option D
  | .lst xs => some (.lst (cutD xs lo hi))
  | .sea xs => some (.lst (cutD xs lo hi))
  | .str z => if z.length ≤ sizeLine then some (.str (cutS z lo hi)) else none
  | .tup xs => some (.tup (cutD xs lo hi))
  | _ => none
theorem paired_cut {F : V → D → Prop} {vs : List V} {ds : List D} (h : Paired F vs ds) (lo hi : Option Int) : Paired F (cutV vs lo hi) (cutD ds lo hi) := by
  unfold cutV cutD
  rw [paired_len h]
  exact paired_take _ (paired_drop _ h)
def slM (m : ME D) (lo hi : ME (Option Int)) : ME D := bindE m fun d => bindE lo fun l => bindE hi fun u => optO fun O => slD l u (derefD O d)
abbrev rSlAll (K : PySem.W.Frag) : V → Option Int → Option Int → Hp → VK → Prop := fun x lo hi H Q => (rSlL K x lo hi H Q ∨ (∃ z, x = .str z ∧ z.length ≤ sizeLine ∧ Q (.str (cutS z lo hi)) H)) ∨ rSlA K x lo hi H Q
theorem cutD_all {ds : List D} {lo hi : Option Int} (h : HT.sIx ds.length 0 lo = 0 ∧ HT.sIx ds.length ds.length hi = ds.length) : cutD ds lo hi = ds := by
  unfold cutD
  rw [h.1, h.2, List.drop_zero, Nat.sub_zero, List.take_length]
theorem rS_tupO {ι : List Addr} {B : Hp} {ρ : Rho} {O : Sto} {σ : St} {v : V} {d : D} {ds : List D} (h : rS X ι B ρ σ v d) (e : derefD O d = .tup ds) : DA X.K ι B v (.tup ds) := by
  rcases h with h | ⟨i, c, h1, h2, rfl, h3⟩
  · cases d with
    | tup xs => cases e; exact h
    | obj n =>
      unfold derefD at e
      dsimp only at e
      split at e <;> cases e
    | _ => cases e
  · cases c with
    | ins n fs => exact absurd rfl (h3 n fs)
    | _ => cases e
theorem ex_sl {lo hi : Option Expr} {p2 : Pos} {ml mh : ME (Option Int)} (hS : SlR X (rSlAll X.K)) (ha : EZ X Wx a ma) (hl : EO X Wx lo ml) (hh : EO X Wx hi mh) : EX X Wx (.Subscript a (.Slice lo hi none p2) pos) (slM ma ml mh) := by
  obtain ⟨ta, pa, ea⟩ := ha
  obtain ⟨tl, pl, el⟩ := hl
  obtain ⟨th, ph, eh⟩ := hh
  refine ⟨_, pe_slice hS pa pl ph, Ev.bind (R' := rD X) (u := fun x σ H1 Q => tl σ H1 fun l H2 => th σ H2 fun u H3 => rSlAll X.K x l u H3 Q) ea fun x a e ι B H ρ O σ Q r hx q => ?_⟩
  refine el e ι B H ρ O σ _ r ?_
  simp only [bindE] at q
  cases z : ml ρ O with
  | bad => rw [z] at q; exact q
  | err c p O' => rw [z] at q; exact q
  | ok l O1 =>
    rw [z] at q
    intro ι1 B1 H1 l' r1 i1 b1 hl'
    cases hl'
    refine eh e ι1 B1 H1 ρ O1 σ _ r1 ?_
    dsimp only at q
    cases z2 : mh ρ O1 with
    | bad => rw [z2] at q; exact q
    | err c p O' =>
      rw [z2] at q
      exact fun ι2 B2 H2 C dx r2 i2 b2 h => q ι2 B2 H2 C dx r2 (i1.trans i2) (b1.trans b2) h
    | ok u O2 =>
      rw [z2] at q
      dsimp only at q
      intro ι2 B2 H2 u' r2 i2 b2 hu'
      cases hu'
      have hx2 := (rS.mono (i1.trans i2) (b1.trans b2) hx).dhO r2
      have hxt := fun ds => rS_tupO (O := O2) (ds := ds) (rS.mono (i1.trans i2) (b1.trans b2) hx)
      simp only [optO] at q
      generalize derefD O2 a = a at hx2 q hxt
      cases z3 : slD l u a with
      | none => rw [z3] at q; exact q.elim
      | some d =>
        rw [z3] at q
        unfold slD at z3
        split at z3
        · cases z3
          obtain ⟨p, vs, rfl, h1, h2⟩ := hx2
          exact .inl (.inl ⟨p, vs, rfl, SqL.of h1, newL r2 (fun B' H' v r' b' hv => q ι2 B' H' v r' (i1.trans i2) ((b1.trans b2).trans b') hv) (paired_cut h2 _ _)⟩)
        · cases z3
          obtain ⟨p, vs, rfl, h1, h2⟩ := hx2
          exact .inl (.inl ⟨p, vs, rfl, h1, newL r2 (fun B' H' v r' b' hv => q ι2 B' H' v r' (i1.trans i2) ((b1.trans b2).trans b') hv) (paired_cut h2 _ _)⟩)
        · rename_i s
          cases hx2
          split at z3
          · rename_i hs
            cases z3
            exact .inl (.inr ⟨s, rfl, hs, q ι2 B2 H2 _ r2 (i1.trans i2) (b1.trans b2) (.str _)⟩)
          · cases z3
        · cases z3
          obtain ⟨p, vs, rfl, h1, h2⟩ := hx2
          refine .inr ⟨p, vs, rfl, h1, fun hw => ?_, fun _ => newT r2 (fun B' H' v r' b' hv => q ι2 B' H' v r' (i1.trans i2) ((b1.trans b2).trans b') hv) (paired_cut h2 _ _)⟩
          rw [paired_len h2] at hw
          rw [cutD_all hw] at q
          exact q ι2 B2 H2 _ r2 (i1.trans i2) (b1.trans b2) (hxt _ rfl)
        · cases z3
end
end DL

set_option Elab.async false
set_option linter.all false
set_option maxRecDepth 100000
namespace DL
open PySem L2
variable [Tabs]

theorem set_out {α : Type} {l : List α} {i : Nat} {a : α} (h : ¬ i < l.length) : l.set i a = l := by
  rw [List.set_eq_of_length_le (by omega)]
section
variable {K : PySem.W.Frag} {mg : Mg} {e : Ent} {ι ι' : List Addr} {B B' H H' : Hp} {ρ : Rho} {O O' : Sto} {σ : St} {a p : Addr} {c : Cell}
theorem Rel.set' (r : Rel K mg e ι B H ρ O σ) {i : Nat} {v : V} {d : D} (h : DA K ι B v d) : Rel K mg e ι B H (ρ.set i (some (.shr d))) O (σ.set i (some v)) := by
  by_cases hi : i < ρ.length
  · exact r.set h hi
  · rw [set_out hi, set_out (by rw [r.len]; exact hi)]
    exact r
theorem Rel.setOwn' (r : Rel K mg e ι B H ρ O σ) {i : Nat} (ca : CA K mg ι B H a c) (hb : B a = none) (he : e.H a = none) (hn : a ∉ ι)
    (ne : ∀ (j : Nat) (c' : Cell), ρ[j]? = some (some (.own c')) → σ[j]? ≠ some (some (.ref a))) : Rel K mg e ι B H (ρ.set i (some (.own c))) O (σ.set i (some (.ref a))) := by
  by_cases hi : i < ρ.length
  · exact r.setOwn hi ca hb he hn ne
  · rw [set_out hi, set_out (by rw [r.len]; exact hi)]
    exact r
/-- a list that belongs to nobody is frozen -/
theorem Rel.freezeAt (r : Rel K mg e ι B H ρ O σ) {vs : List V} (hH : H a = some (.lst vs)) (hb : B a = none) (he : e.H a = none) (hn : a ∉ ι)
    (ne : ∀ (j : Nat) (c' : Cell), ρ[j]? = some (some (.own c')) → σ[j]? ≠ some (some (.ref a))) : Rel K mg e ι (upd B a (.lst vs)) H ρ O σ ∧ Same B (upd B a (.lst vs)) := by
  have sb : Same B (upd B a (.lst vs)) := fun b x h => by rw [upd_ne (ne_of_none h hb)]; exact h
  refine ⟨⟨fun b x h => ?_, r.eB.trans sb, r.ei, fun b x h => ?_, r.fH, r.fi, r.len, fun j x h2 => ?_, r.sep, r.lo, fun n c b h2 h3 => ?_, r.nd, fun P m => ⟨(upd_ne fun z => r.nt hH (fun ps y => by cases y) (by rw [← z]; exact m)).trans (r.tb P m).1, (r.tb P m).2⟩⟩, sb⟩
  · by_cases e6 : b = a
    · subst e6; rw [upd_same] at h; cases h; exact hH
    · rw [upd_ne e6] at h; exact r.sub _ _ h
  · by_cases e6 : b = a
    · subst e6; exact .inr he
    · rw [upd_ne e6] at h; exact r.fB b x h
  · obtain ⟨w, k1, k2⟩ := r.sl j x h2
    refine ⟨w, k1, ?_⟩
    cases x with
    | shr d => exact DA.mono sb (Pre.refl _) d w k2
    | hot c p => exact SA.hot_mono sb (Pre.refl _) k2
    | own c =>
      obtain ⟨b, m1, m2, m3, m4, m5⟩ := k2
      subst m1
      have hne : b ≠ a := by
        rintro rfl
        exact ne j c h2 k1
      exact ⟨b, rfl, m2.mono sb (Pre.refl _) rfl, by rw [upd_ne hne]; exact m3, m4, m5⟩
  · have hne : b ≠ a := by
      rintro rfl
      exact hn (List.mem_of_getElem? h3)
    obtain ⟨k1, k2⟩ := r.ob n c b h2 h3
    exact ⟨k1.mono sb (Pre.refl _) rfl, by rw [upd_ne hne]; exact k2⟩
/-- a free address is no owned one -/
theorem Rel.notOwn (r : Rel K mg e ι B H ρ O σ) (h : H a = none) : ∀ (j : Nat) (c' : Cell), ρ[j]? = some (some (.own c')) → σ[j]? ≠ some (some (.ref a)) := fun j c h1 h2 => by
  obtain ⟨v, h3, b, h4, h5, _⟩ := r.sl j _ h1
  rw [h2] at h3
  cases h3
  cases h4
  obtain ⟨o, h6⟩ := h5.there
  rw [h] at h6
  cases h6
end

section
variable {X : Cx} {Wx : WX} {a b c : Expr} {pos : Pos} {ma mb mc : ME D}
/-! ### new lists -/
/-- a new list of the data ds is made -/
def EvL (X : Cx) (Wx : WX) (t : TE) (m : ME (List D)) : Prop :=
  ∀ e ι B H ρ O σ (Q : VK), Rel X.K X.mg (en X e) ι B H ρ O σ →
    (match m ρ O with
    | .ok ds O' => ∀ ι' B' H' vs, Rel X.K X.mg (en X e) ι' B' H' ρ O' σ → Pre ι ι' → Same B B' → Paired (DA X.K ι' B') vs ds → ∀ p, H' p = none → Q (.ref p) (upd H' p (.lst vs))
    | .err c p O' => ∀ ι' B' H' C dx, Rel X.K X.mg (en X e) ι' B' H' ρ O' σ → Pre ι ι' → Same B B' → Exc X.K X.mg ι' B' C dx c p → Wx (.ref C) (some dx) σ H'
    | .bad => False) → t σ H Q
def EL (X : Cx) (Wx : WX) (e : Expr) (m : ME (List D)) : Prop := ∃ t, PE X e t ∧ EvL X Wx t m
/-- a new cell is made -/
def EvN (X : Cx) (Wx : WX) (t : TE) (m : ME Cell) : Prop :=
  ∀ e ι B H ρ O σ (Q : VK), Rel X.K X.mg (en X e) ι B H ρ O σ →
    (match m ρ O with
    | .ok c O' => ∀ ι' B' H' a, Rel X.K X.mg (en X e) ι' B' H' ρ O' σ → Pre ι ι' → Same B B' → CA X.K X.mg ι' B' H' a c → B' a = none → e.H a = none → a ∉ ι' → (∀ (j : Nat) (c' : Cell), ρ[j]? = some (some (.own c')) → σ[j]? ≠ some (some (.ref a))) → Q (.ref a) H'
    | .err c p O' => ∀ ι' B' H' C dx, Rel X.K X.mg (en X e) ι' B' H' ρ O' σ → Pre ι ι' → Same B B' → Exc X.K X.mg ι' B' C dx c p → Wx (.ref C) (some dx) σ H'
    | .bad => False) → t σ H Q
def EN (X : Cx) (Wx : WX) (e : Expr) (m : ME Cell) : Prop := ∃ t, PE X e t ∧ EvN X Wx t m
def mapE {α β : Type} (f : α → β) (m : ME α) : ME β := bindE m fun a => pureE (f a)
theorem EL.x {m : ME (List D)} (h : EL X Wx a m) : EX X Wx a (mapE .lst m) := by
  obtain ⟨t, pt, et⟩ := h
  refine ⟨t, pt, fun e ι B H ρ O σ Q r q => et e ι B H ρ O σ Q r ?_⟩
  simp only [mapE, bindE] at q
  cases z : m ρ O with
  | ok ds O' =>
    rw [z] at q
    exact fun ι' B' H' vs r' i' b' hv => newL r' (fun B2 H2 v r2 b2 h => q ι' B2 H2 v r2 i' (b'.trans b2) h) hv
  | err c p O' => rw [z] at q; exact q
  | bad => rw [z] at q; exact q
theorem EL.n {m : ME (List D)} (h : EL X Wx a m) : EN X Wx a (mapE .lst m) := by
  obtain ⟨t, pt, et⟩ := h
  refine ⟨t, pt, fun e ι B H ρ O σ Q r q => et e ι B H ρ O σ Q r ?_⟩
  simp only [mapE, bindE] at q
  cases z : m ρ O with
  | ok ds O' =>
    rw [z] at q
    intro ι' B' H' vs r' i' b' hv p hp
    obtain ⟨r2, h1, h2, h3⟩ := r'.fresh hp (.lst vs)
    exact q ι' B' _ p r2 i' b' ⟨vs, upd_same, hv⟩ h1 h2 h3 (r'.notOwn hp)
  | err c p O' => rw [z] at q; exact q
  | bad => rw [z] at q; exact q
theorem el_disp {es : List Expr} {m : ME (List D)} (h : EA X Wx es m) : EL X Wx (.List es pos) (bindE m fun ds => if ds.length ≤ sizeLine then pureE ds else badE) := by
  obtain ⟨t, pt, et⟩ := h
  refine ⟨_, pe_lst pt, fun e ι B H ρ O σ Q r q => et e ι B H ρ O σ _ r ?_⟩
  simp only [bindE] at q
  cases z : m ρ O with
  | ok ds O' =>
    rw [z] at q
    dsimp only at q
    intro ι' B' H' vs r' i' b' hv
    by_cases hl : ds.length ≤ sizeLine
    · rw [if_pos hl] at q
      exact ⟨by rw [paired_len hv]; exact hl, q ι' B' H' vs r' i' b' hv⟩
    · rw [if_neg hl] at q
      exact q.elim
  | err c p O' => rw [z] at q; exact q
  | bad => rw [z] at q; exact q
/-- an operation on two values that makes a new list -/
def Op2L (X : Cx) (r : R2) (f : D → D → Option (List D)) : Prop := ∀ x y a b ds ι B H (Q : VK), DH X.K ι B H x a → DH X.K ι B H y b → f a b = some ds →
  (∀ vs, Paired (DA X.K ι B) vs ds → ∀ p, H p = none → Q (.ref p) (upd H p (.lst vs))) → r x y H Q
def binL (f : D → D → Option (List D)) (ma mb : ME D) : ME (List D) := bindE ma fun x => bindE mb fun y => optO fun O => f (derefD O x) (derefD O y)
theorem el_op {op : Operator} {r : R2} {f : D → D → Option (List D)} (hr : OpR X (binaryOp op) r) (ho : Op2L X r f) (ha : EZ X Wx a ma) (hb : EZ X Wx b mb) : EL X Wx (.BinOp a op b pos) (binL f ma mb) := by
  obtain ⟨ta, pa, ea⟩ := ha
  obtain ⟨tb, pb, eb⟩ := hb
  refine ⟨_, pe_op hr pa pb, fun e ι B H ρ O σ Q rl q => ea e ι B H ρ O σ _ rl ?_⟩
  simp only [binL, bindE, optO] at q
  cases z : ma ρ O with
  | err c p O' => rw [z] at q; exact q
  | bad => rw [z] at q; exact q
  | ok x O1 =>
    rw [z] at q
    dsimp only at q
    intro ι1 B1 H1 xv r1 i1 b1 hx
    refine eb e ι1 B1 H1 ρ O1 σ _ r1 ?_
    cases z2 : mb ρ O1 with
    | err c p O' =>
      rw [z2] at q
      exact fun ι2 B2 H2 C dx r2 i2 b2 h => q ι2 B2 H2 C dx r2 (i1.trans i2) (b1.trans b2) h
    | bad => rw [z2] at q; exact q
    | ok y O2 =>
      rw [z2] at q
      dsimp only at q
      intro ι2 B2 H2 yv r2 i2 b2 hy
      cases z3 : f (derefD O2 x) (derefD O2 y) with
      | none => rw [z3] at q; exact q.elim
      | some ds =>
        rw [z3] at q
        exact ho xv yv _ _ ds ι2 B2 H2 Q ((rS.mono i2 b2 hx).dhO r2) (hy.dhO r2) z3 fun vs hv => q ι2 B2 H2 vs r2 (i1.trans i2) (b1.trans b2) hv
def catL : D → D → Option (List D)
  | .lst a, .lst b => if a.length + b.length ≤ sizeLine then some (a ++ b) else none
  | _, _ => none
theorem op2L_cat : Op2L X rCat catL := by
  intro x y a b ds ι B H Q hx hy hz q
  unfold catL at hz
  split at hz
  · split at hz
    · rename_i hl
      cases hz
      obtain ⟨a1, vs1, rfl, h1, h2⟩ := hx
      obtain ⟨a2, vs2, rfl, h3, h4⟩ := hy
      exact ⟨_, _, _, _, rfl, rfl, h1, h3, by rw [paired_len h2, paired_len h4]; exact hl, q _ (paired_app h2 h4)⟩
    · cases hz
  · cases hz
theorem el_cat (ha : EZ X Wx a ma) (hb : EZ X Wx b mb) : EL X Wx (.BinOp a .Add b pos) (binL catL ma mb) := el_op op_cat op2L_cat ha hb
def repL : D → D → Option (List D)
  | .lst xs, .int k => if -(2 ^ 63) ≤ k ∧ k < 2 ^ 63 ∧ xs.length * k.toNat ≤ sizeLine then some (List.replicate k.toNat xs).flatten else none
  | _, _ => none
theorem op2L_rep : Op2L X rRep repL := by
  intro x y a b ds ι B H Q hx hy hz q
  unfold repL at hz
  split at hz
  · split at hz
    · rename_i hl
      cases hz
      cases hy
      obtain ⟨a1, vs1, rfl, h1, h2⟩ := hx
      exact ⟨_, _, _, rfl, rfl, h1, hl.1, hl.2.1, by rw [paired_len h2]; exact hl.2.2, q _ (paired_rep h2 _)⟩
    · cases hz
  · cases hz
theorem el_rep (ha : EZ X Wx a ma) (hb : EZ X Wx b mb) : EL X Wx (.BinOp a .Mult b pos) (binL repL ma mb) := el_op op_rep op2L_rep ha hb

/-! ### built-in functions -/
def OpN (X : Cx) (r : List V → Hp → VK → Prop) (f : List D → Option D) : Prop := ∀ xs ds z e ι B H ρ O σ (Q : VK), Rel X.K X.mg (en X e) ι B H ρ O σ → Paired (DH X.K ι B H) xs ds → f ds = some z →
  (∀ B' H' v, Rel X.K X.mg (en X e) ι B' H' ρ O σ → Same B B' → DA X.K ι B' v z → Q v H') → r xs H Q
def callM (f : List D → Option D) (m : ME (List D)) : ME D := bindE m fun ds => optO fun O => f (ds.map (derefD O))
theorem rSs.dh {e : Ent} {ι : List Addr} {B H : Hp} {ρ : Rho} {O : Sto} {σ : St} (r : Rel X.K X.mg (en X e) ι B H ρ O σ) : ∀ {vs : List V} {ds : List D}, Paired (rS X ι B ρ σ) vs ds → Paired (DH X.K ι B H) vs ds
  | _, _, .nil => .nil
  | _, _, .cons h t => .cons (h.dh r) (rSs.dh r t)
theorem rSs.dhO {e : Ent} {ι : List Addr} {B H : Hp} {ρ : Rho} {O : Sto} {σ : St} (r : Rel X.K X.mg (en X e) ι B H ρ O σ) : ∀ {vs : List V} {ds : List D}, Paired (rS X ι B ρ σ) vs ds → Paired (DH X.K ι B H) vs (ds.map (derefD O))
  | _, _, .nil => .nil
  | _, _, .cons h t => .cons (h.dhO r) (rSs.dhO r t)
theorem ev_call {r : List V → Hp → VK → Prop} {f : List D → Option D} {t : TA} {m : ME (List D)} (ho : OpN X r f) (h : Ev X Wx (rSs X) t m) : Ev X Wx (rD X) (tCB r t) (callM f m) := by
  refine Ev.bind (R' := rD X) (u := fun xs σ H Q => r xs H Q) h fun xs ds e ι B H ρ O σ Q rl hx q => ?_
  simp only [optO] at q
  cases z : f (ds.map (derefD O)) with
  | none => rw [z] at q; exact q.elim
  | some d =>
    rw [z] at q
    exact ho xs _ d e ι B H ρ O σ Q rl (rSs.dhO rl hx) z fun B' H' v r' b' hv => q ι B' H' v r' (Pre.refl _) b' hv
theorem ex_callB {id : String} {r : List V → Hp → VK → Prop} {f : List D → Option D} {x : Str} {p : Pos} {e : Expr} {es : List Expr} {m : ME (List D)} (hc : CallR X (.builtin id) r) (ho : OpN X r f) (hm : X.mg x = none) (ha : EAZ X Wx (e :: es) m)
    (hg : Gl X x := by rfl) (hv : bootBuiltins x = some (.builtin id) := by decide +kernel) (hn : x ≠ "__name__" := by decide) (hdb : (x == ("__debug__" : Str)) = false := by decide)
    (he : starEach (e :: es) X.env = (false, eval e X.env) :: starEach es X.env := by rfl) (hpl : (backTo pos (starEach es X.env)).any (·.1) = false := by rfl) : EX X Wx (.Call (.Name x p) (e :: es) [] pos) (callM f m) := by
  obtain ⟨t, pt, et⟩ := ha
  exact ⟨_, pe_callB hc hg hm hv pt hn hdb he hpl, ev_call ho et⟩
theorem ex_callT {id : String} {r : List V → Hp → VK → Prop} {f : List D → Option D} {x : Str} {p : Pos} {e : Expr} {es : List Expr} {m : ME (List D)} (hc : CallR X (.type id) r) (ho : OpN X r f) (hm : X.mg x = none) (ha : EAZ X Wx (e :: es) m)
    (hg : Gl X x := by rfl) (hv : bootBuiltins x = some (.type id) := by decide +kernel) (hn : x ≠ "__name__" := by decide) (hdb : (x == ("__debug__" : Str)) = false := by decide)
    (he : starEach (e :: es) X.env = (false, eval e X.env) :: starEach es X.env := by rfl) (hpl : (backTo pos (starEach es X.env)).any (·.1) = false := by rfl) : EX X Wx (.Call (.Name x p) (e :: es) [] pos) (callM f m) := by
  obtain ⟨t, pt, et⟩ := ha
  exact ⟨_, pe_callTy hc hg hm hv pt hn hdb he hpl, ev_call ho et⟩
theorem paired1 {F : V → D → Prop} {xs : List V} {d : D} (h : Paired F xs [d]) : ∃ v, xs = [v] ∧ F v d := by
  cases h with
  | cons h t => cases t; exact ⟨_, rfl, h⟩
theorem paired2 {F : V → D → Prop} {xs : List V} {d e : D} (h : Paired F xs [d, e]) : ∃ v w, xs = [v, w] ∧ F v d ∧ F w e := by
  cases h with
  | cons h t =>
    cases t with
    | cons h2 t => cases t; exact ⟨_, _, rfl, h, h2⟩
def lenD : List D → Option D
  | [.lst xs] | [.sea xs] | [.tup xs] => some (.int xs.length)
  | [.str y] => if y.length ≤ sizeLine then some (.int y.length) else none
  | _ => none
theorem opN_len : OpN X (fun xs H Q => ∃ x n, xs = [x] ∧ LenV X.K x H n ∧ Q (.int n) H) lenD := by
  intro xs ds z e ι B H ρ O σ Q r hx hz q
  unfold lenD at hz
  split at hz
  · cases hz
    obtain ⟨v, rfl, p, vs, rfl, h1, h2⟩ := paired1 hx
    exact ⟨_, _, rfl, .inl ⟨vs, SqL.of h1, (paired_len h2).symm⟩, atomI r q (.int _)⟩
  · cases hz
    obtain ⟨v, rfl, p, vs, rfl, h1, h2⟩ := paired1 hx
    exact ⟨_, _, rfl, .inl ⟨vs, h1, (paired_len h2).symm⟩, atomI r q (.int _)⟩
  · cases hz
    obtain ⟨v, rfl, p, vs, rfl, h1, h2⟩ := paired1 hx
    exact ⟨_, _, rfl, .inr ⟨vs, h1, (paired_len h2).symm⟩, atomI r q (.int _)⟩
  · split at hz
    · rename_i y hl
      cases hz
      obtain ⟨v, rfl, h⟩ := paired1 hx
      cases h
      exact ⟨_, _, rfl, ⟨hl, rfl⟩, atomI r q (.int _)⟩
    · cases hz
  · cases hz
theorem ex_len {p : Pos} {e : Expr} {m : ME (List D)} (hm : X.mg "len" = none) (ha : EAZ X Wx [e] m) (hg : Gl X "len" := by rfl) (he : starEach [e] X.env = (false, eval e X.env) :: starEach [] X.env := by rfl) : EX X Wx (.Call (.Name "len" p) [e] [] pos) (callM lenD m) :=
  ex_callB call_len opN_len hm ha hg PySem.boot_len (by decide) (by decide) he rfl
def intF : List D → Option D
  | [.int i] => some (.int i)
  | [.bl b] => some (.int (if b then 1 else 0))
  | _ => none
theorem opN_int : OpN X (fun xs H Q => (∃ i, xs = [.int i] ∧ Q (.int i) H) ∨ ∃ k, xs = [.bl k] ∧ Q (.int (if k then 1 else 0)) H) intF := by
  intro xs ds z e ι B H ρ O σ Q r hx hz q
  unfold intF at hz
  split at hz
  · cases hz
    obtain ⟨v, rfl, h⟩ := paired1 hx
    cases h
    exact .inl ⟨_, rfl, atomI r q (.int _)⟩
  · cases hz
    obtain ⟨v, rfl, h⟩ := paired1 hx
    cases h
    exact .inr ⟨_, rfl, atomI r q (.int _)⟩
  · cases hz
theorem ex_intc {p : Pos} {e : Expr} {m : ME (List D)} (hm : X.mg "int" = none) (ha : EAZ X Wx [e] m) (hg : Gl X "int" := by rfl) (he : starEach [e] X.env = (false, eval e X.env) :: starEach [] X.env := by rfl) : EX X Wx (.Call (.Name "int" p) [e] [] pos) (callM intF m) :=
  ex_callT call_int1 opN_int hm ha hg (by decide +kernel) (by decide) (by decide) he rfl
def absF : List D → Option D
  | [.int i] => some (.int (if i < 0 then -i else i))
  | _ => none
theorem opN_abs : OpN X (fun xs H Q => ∃ i, xs = [.int i] ∧ Q (.int (if i < 0 then -i else i)) H) absF := by
  intro xs ds z e ι B H ρ O σ Q r hx hz q
  unfold absF at hz
  split at hz
  · cases hz
    obtain ⟨v, rfl, h⟩ := paired1 hx
    cases h
    exact ⟨_, rfl, atomI r q (.int _)⟩
  · cases hz
theorem ex_abs {p : Pos} {e : Expr} {m : ME (List D)} (hm : X.mg "abs" = none) (ha : EAZ X Wx [e] m) (hg : Gl X "abs" := by rfl) (he : starEach [e] X.env = (false, eval e X.env) :: starEach [] X.env := by rfl) : EX X Wx (.Call (.Name "abs" p) [e] [] pos) (callM absF m) :=
  ex_callB call_abs opN_abs hm ha hg (by decide +kernel) (by decide) (by decide) he rfl
def max2F : List D → Option D
  | [.int i, .int j] => some (.int (if j > i then j else i))
  | _ => none
def min2F : List D → Option D
  | [.int i, .int j] => some (.int (if j < i then j else i))
  | _ => none
theorem opN_max2 : OpN X (fun xs H Q => ∃ i j, xs = [.int i, .int j] ∧ Q (.int (if j > i then j else i)) H) max2F := by
  intro xs ds z e ι B H ρ O σ Q r hx hz q
  unfold max2F at hz
  split at hz
  · cases hz
    obtain ⟨v, w, rfl, h, h2⟩ := paired2 hx
    cases h
    cases h2
    exact ⟨_, _, rfl, atomI r q (.int _)⟩
  · cases hz
theorem opN_min2 : OpN X (fun xs H Q => ∃ i j, xs = [.int i, .int j] ∧ Q (.int (if j < i then j else i)) H) min2F := by
  intro xs ds z e ι B H ρ O σ Q r hx hz q
  unfold min2F at hz
  split at hz
  · cases hz
    obtain ⟨v, w, rfl, h, h2⟩ := paired2 hx
    cases h
    cases h2
    exact ⟨_, _, rfl, atomI r q (.int _)⟩
  · cases hz
theorem ex_max2 {p : Pos} {e e2 : Expr} {m : ME (List D)} (hm : X.mg "max" = none) (hc : X.calm = true) (ha : EAZ X Wx [e, e2] m) (hg : Gl X "max" := by rfl) (he : starEach [e, e2] X.env = (false, eval e X.env) :: starEach [e2] X.env := by rfl) (hpl : (backTo pos (starEach [e2] X.env)).any (·.1) = false := by rfl) :
    EX X Wx (.Call (.Name "max" p) [e, e2] [] pos) (callM max2F m) := ex_callB (call_max2 hc) opN_max2 hm ha hg (by decide +kernel) (by decide) (by decide) he hpl
theorem ex_min2 {p : Pos} {e e2 : Expr} {m : ME (List D)} (hm : X.mg "min" = none) (hc : X.calm = true) (ha : EAZ X Wx [e, e2] m) (hg : Gl X "min" := by rfl) (he : starEach [e, e2] X.env = (false, eval e X.env) :: starEach [e2] X.env := by rfl) (hpl : (backTo pos (starEach [e2] X.env)).any (·.1) = false := by rfl) :
    EX X Wx (.Call (.Name "min" p) [e, e2] [] pos) (callM min2F m) := ex_callB (call_min2 hc) opN_min2 hm ha hg (by decide +kernel) (by decide) (by decide) he hpl
def bitLen : D → Option D
  | .int i => some (.int (Builtin.Int.intBits i : Nat))
  | _ => none
theorem ex_bits {apos : Pos} (h : EZ X Wx a ma) (hbase : attributeBase a "bit_length" X.env (eval a X.env) = eval a X.env := by rfl) (hline : (apos.endLine == pos.line) = true := by rfl) : EX X Wx (.Call (.Attribute a "bit_length" apos) [] [] pos) (un1 bitLen ma) := by
  obtain ⟨t, pt, et⟩ := h
  refine ⟨_, pe_bits pt hbase hline, Ev.bind (R' := rD X) (u := fun (x : V) σ H1 Q => ∃ i, x = V.int i ∧ Q (V.int (Builtin.Int.intBits i : Nat)) H1) et fun x a e ι B H ρ O σ Q r hx q => ?_⟩
  have hx := hx.dhO r
  simp only [optO] at q
  generalize derefD O a = a at hx q
  cases a with
  | int i => cases hx; exact ⟨i, rfl, EvP.ok r q (.int _)⟩
  | _ => exact q.elim
/-- list(x) -/
def listL : List D → Option (List D)
  | [.lst xs] | [.sea xs] | [.tup xs] => some xs
  | _ => none
def listM (m : ME (List D)) : ME (List D) := bindE m fun ds => optO fun O => listL (ds.map (derefD O))
theorem el_list {p : Pos} {e : Expr} {m : ME (List D)} (hm : X.mg "list" = none) (ha : EAZ X Wx [e] m) (hg : Gl X "list" := by rfl) (he : starEach [e] X.env = (false, eval e X.env) :: starEach [] X.env := by rfl) :
    EL X Wx (.Call (.Name "list" p) [e] [] pos) (listM m) := by
  obtain ⟨t, pt, et⟩ := ha
  refine ⟨_, pe_callTy call_list_of hg hm (by decide +kernel) pt (by decide) (by decide) he rfl, fun e ι B H ρ O σ Q r q => et e ι B H ρ O σ _ r ?_⟩
  simp only [listM, bindE, optO] at q
  cases z : m ρ O with
  | err c p O' => rw [z] at q; exact q
  | bad => rw [z] at q; exact q
  | ok ds O' =>
    rw [z] at q
    dsimp only at q
    intro ι' B' H' vs r' i' b' hv
    have hv := rSs.dhO r' hv
    generalize ds.map (derefD O') = ds at hv q
    cases z2 : listL ds with
    | none => rw [z2] at q; exact q.elim
    | some xs =>
      rw [z2] at q
      unfold listL at z2
      split at z2
      · cases z2
        obtain ⟨v, rfl, p, ws, rfl, h1, h2⟩ := paired1 hv
        exact ⟨p, ws, rfl, .inl (SqL.of h1), q ι' B' H' ws r' i' b' h2⟩
      · cases z2
        obtain ⟨v, rfl, p, ws, rfl, h1, h2⟩ := paired1 hv
        exact ⟨p, ws, rfl, .inl h1, q ι' B' H' ws r' i' b' h2⟩
      · cases z2
        obtain ⟨v, rfl, p, ws, rfl, h1, h2⟩ := paired1 hv
        exact ⟨p, ws, rfl, .inr h1, q ι' B' H' ws r' i' b' h2⟩
      · cases z2
/-- isinstance(x, T), T a built-in class -/
def tyD : D → Option String
  | .non => some "NoneType"
  | .bl _ => some "bool"
  | .int _ => some "int"
  | .str _ => some "str"
  | .lst _ | .sea _ => some "list"
  | .tup _ => some "tuple"
  | .dct _ => some "dict"
  | .obj _ => none
def isiD (T : String) (d : D) : Option D := (tyD d).bind fun t => (kitB t T).map .bl
theorem tyX_of {ι : List Addr} {B H : Hp} {v : V} {d : D} {t : String} (h : DH X.K ι B H v d) (e : tyD d = some t) : TyX X.K H v (.type t) := by
  cases d with
  | non => cases h; cases e; exact .base .non
  | bl b => cases h; cases e; exact .base (.bl b)
  | int i => cases h; cases e; exact .base (.int i)
  | str x => cases h; cases e; exact .base (.str x)
  | lst xs => obtain ⟨a, vs, rfl, h1, h2⟩ := h; cases e; exact .base (.lst h1)
  | sea xs =>
    obtain ⟨a, vs, rfl, h1, h2⟩ := h
    cases e
    rcases h1 with (h1 | ⟨o, h1⟩) | ⟨o, _, _, h1, h3, _⟩
    · exact .base (.lst h1)
    · exact .base (.frz h1)
    · exact .kList h1 h3
  | tup xs =>
    obtain ⟨a, vs, rfl, h1, h2⟩ := h
    cases e
    rcases h1 with (h1 | ⟨o, h1⟩) | ⟨o, _, _, h1, h3, _⟩
    · exact .base (.tup h1)
    · exact .fTuple h1
    · exact .kTuple h1 h3
  | dct xs =>
    obtain ⟨a, vs, rfl, h1, h2⟩ := h
    cases e
    rcases h1 with h1 | ⟨o, h1⟩
    · exact .base (.dK h1)
    · exact .fDict h1
  | obj n => cases e
theorem ex_isi {T : String} {x : Str} {p p2 : Pos} (hm : X.mg "isinstance" = none) (hmT : X.mg x = none) (hvT : bootBuiltins x = some (.type T)) (ha : EZ X Wx a ma) (hg : Gl X "isinstance" := by rfl) (hgT : Gl X x := by rfl)
    (he : starEach [a, .Name x p2] X.env = (false, eval a X.env) :: starEach [.Name x p2] X.env := by rfl) (he2 : starEach [.Name x p2] X.env = (false, eval (.Name x p2) X.env) :: starEach [] X.env := by rfl)
    (hpl : (backTo pos (starEach [.Name x p2] X.env)).any (·.1) = false := by rfl) (hn : x ≠ "__name__" := by decide) (hd : (x == ("__debug__" : Str)) = false := by decide) : EX X Wx (.Call (.Name "isinstance" p) [a, .Name x p2] [] pos) (un1 (isiD T) ma) := by
  obtain ⟨t, pt, et⟩ := ha
  refine ⟨_, pe_callB call_isi hg hm (by decide +kernel) (pa_cons pt (pa_cons (pe_bltn (v := .ty T) hgT hmT hvT rfl hn hd) pa_nil he2) he) (by decide) (by decide) he hpl,
    Ev.bind (R' := rD X) (u := fun (x : V) σ H1 Q => rIsi X.K [x, .ty T] H1 Q) et fun x a e ι B H ρ O σ Q r hx q => ?_⟩
  have hx := hx.dhO r
  simp only [optO] at q
  generalize derefD O a = a at hx q
  unfold isiD at q
  cases z : tyD a with
  | none => rw [z] at q; exact q.elim
  | some t =>
    rw [z] at q
    simp only [Option.bind_some] at q
    cases z2 : kitB t T with
    | none => rw [z2] at q; exact q.elim
    | some b =>
      rw [z2] at q
      exact ⟨x, .ty T, .type t, .type T, b, rfl, .ty T, tyX_of hx z, kit_ty z2, EvP.ok r q (.bl b)⟩

/-! ### defs -/
/-- what a def promises: f says what comes of its arguments and the store -/
def FP (K : PySem.W.Frag) (mg : Mg) (ι : List Addr) (B H : Hp) (Q : VK) (E : XK) : RE SD → Prop
  | .ok x O' => ∀ ι' B' H' v, Rel K mg ⟨ι, B, H, none⟩ ι' B' H' [] O' [] → SA K mg ⟨ι, B, H, none⟩ ι' B' H' v x → Q v H'
  | .err c p O' => ∀ ι' B' H' C dx, Rel K mg ⟨ι, B, H, none⟩ ι' B' H' [] O' [] → Exc K mg ι' B' C dx c p → E (.ref C) (some dx) H'
  | .bad => False
def spF (K : PySem.W.Frag) (mg : Mg) (n : Nat) (f : MF) : Sp := fun vs H Q E => ∃ ds ι B O, Rel K mg ⟨ι, B, H, none⟩ ι B H [] O [] ∧ Paired (DA K ι B) vs ds ∧ ds.length = n ∧ FP K mg ι B H Q E (f ds O)
/-- a def's body at its arguments -/
def runF (n : Nat) (m : MS) : MF := fun ds O =>
  match m (ds.map (fun d => some (.shr d)) ++ List.replicate (n - ds.length) none) O with
  | .nx _ O' => .ok (.shr .non) O'
  | .ret x O' => .ok x O'
  | .err c p _ O' => .err c p O'
  | _ => .bad
theorem start_rel {K : PySem.W.Frag} {mg : Mg} {ι : List Addr} {B H : Hp} {O : Sto} {vs : List V} {ds : List D} {N : List Str} (r : Rel K mg ⟨ι, B, H, none⟩ ι B H [] O []) (h : Paired (DA K ι B) vs ds) :
    Rel K mg ⟨ι, B, H, none⟩ ι B H (ds.map (fun d => some (.shr d)) ++ List.replicate (N.length - ds.length) none) O (L2.start N vs) := by
  have hl := paired_len h
  have get : ∀ (i : Nat) (x : SD), (ds.map (fun d => some (SD.shr d)) ++ List.replicate (N.length - ds.length) none)[i]? = some (some x) → ∃ d, ds[i]? = some d ∧ x = .shr d := fun i x q => by
    by_cases hi : i < ds.length
    · rw [List.getElem?_append_left (by simpa using hi), List.getElem?_map, List.getElem?_eq_getElem hi] at q
      simp only [Option.map_some, Option.some.injEq] at q
      exact ⟨_, List.getElem?_eq_getElem hi, q.symm⟩
    · rw [List.getElem?_append_right (by simpa using hi), List.getElem?_replicate] at q
      split at q <;> cases q
  refine ⟨r.sub, r.eB, r.ei, r.fB, r.fH, r.fi, ?_, fun i x q => ?_, fun i j a c c' q => ?_, r.lo, r.ob, r.nd, r.tb⟩
  · unfold L2.start
    rw [List.length_append, List.length_append, List.length_map, List.length_map, List.length_replicate, List.length_replicate, hl]
  · obtain ⟨d, h1, rfl⟩ := get i x q
    obtain ⟨v, h2, h3⟩ := paired_get h h1
    refine ⟨v, ?_, h3⟩
    have hi : i < vs.length := (List.getElem?_eq_some_iff.mp h2).1
    unfold L2.start
    rw [List.getElem?_append_left (by simpa using hi), List.getElem?_map, h2]
    rfl
  · obtain ⟨d, _, h2⟩ := get i _ q
    cases h2
/-- THE RULE for a def: its body does what m says -/
theorem fn_ok {P : Program} {w : World} {K : PySem.W.Frag} {mg : Mg} {base : Heap} {x qual : Str} {st : Stmt} {f : Addr} {fd : FuncData} {N ps : List Str} {k : Nat} {m : MS} (F : Fun K x qual st f fd) (S : FnScope N ps (defScope st))
    (body : ∀ (cdv : Value) (A : Around) (outer : List Env) (s : Shared) (H : Hp) (E : XK), Room k (A.deeper (PyProof.Rows.envOfC qual (defScope st) s.heap.objs.size f cdv)) →
      EB (cxOf (L2.CX P w) P w K mg base N qual (defScope st) f cdv A outer s H E) (fun cls d _ H => E cls d H) (defBody st) m) :
    FnOk P w K mg base (L2.CX P w) (k + 1) f fd ps (spF K mg ps.length (runF N.length m)) := by
  refine F.okX S (fun vs H Q E h => ?_) (fun cdv A outer s H vs Q E hr h => ?_)
  · obtain ⟨ds, ι, B, O, _, h1, h2, _⟩ := h
    rw [paired_len h1, h2]
  · obtain ⟨ds, ι, B, O, r, h1, h2, q⟩ := h
    obtain ⟨t, pt, et⟩ := body cdv A outer s H E hr
    refine ⟨t, pt, et ⟨ι, B, H, none⟩ ι B H _ O (L2.start N vs) _ (start_rel r h1) ?_⟩
    unfold runF at q
    cases z : m (ds.map (fun d => some (.shr d)) ++ List.replicate (N.length - ds.length) none) O with
    | nx ρ' O' =>
      rw [z] at q
      exact fun ι' B' H' σ' r' i' b' => q ι' B' H' .non r'.bare .non
    | bk ρ' O' => rw [z] at q; exact q.elim
    | ct ρ' O' => rw [z] at q; exact q.elim
    | ret x O' =>
      rw [z] at q
      exact fun ι' B' H' v r' i' b' hv => q ι' B' H' v r' hv
    | err c p ρ' O' =>
      rw [z] at q
      exact fun ι' B' H' σ' C dx r' i' b' h => q ι' B' H' C dx r'.bare h
    | bad => rw [z] at q; exact q.elim
/-- a call: the result, frozen -/
def callF (f : MF) (dd : List D) (m : ME (List D)) : ME D := bindE m fun ds => fun _ O => match f (ds ++ dd) O with
  | .ok (.shr d) O' => .ok d O'
  | .ok (.own (.lst xs)) O' => .ok (.lst xs) O'
  | .err c p O' => .err c p O'
  | _ => .bad
/-- .. owned -/
def callN (f : MF) (dd : List D) (m : ME (List D)) : ME Cell := bindE m fun ds => fun _ O => match f (ds ++ dd) O with
  | .ok (.own c) O' => .ok c O'
  | .err c p O' => .err c p O'
  | _ => .bad
theorem own_after {K : PySem.W.Frag} {mg : Mg} {e : Ent} {ι ι' : List Addr} {B B' H H' : Hp} {ρ : Rho} {O O' : Sto} {σ : St} {a : Addr} (r : Rel K mg e ι B H ρ O σ) (h : H a = none) : e.H a = none ∧ ∀ (j : Nat) (c' : Cell), ρ[j]? = some (some (.own c')) → σ[j]? ≠ some (some (.ref a)) :=
  ⟨r.free h, r.notOwn h⟩
theorem ev_callF {n : Nat} {f : MF} {dvs : List V} {dd : List D} {t : TA} {m : ME (List D)} (hdd : ∀ ι B, Paired (DA X.K ι B) dvs dd) (hn : ∀ ρ O ds O', m ρ O = .ok ds O' → ds.length + dd.length = n) (h : Ev X Wx (rDs X) t m) :
    Ev X Wx (rD X) (tCallSD (spF X.K X.mg n f) dvs (WE Wx) t) (callF f dd m) := by
  intro e ι B H ρ O σ Q r q
  refine h e ι B H ρ O σ _ r ?_
  simp only [callF, bindE] at q
  cases z : m ρ O with
  | err c p O' => rw [z] at q; exact q
  | bad => rw [z] at q; exact q
  | ok ds O' =>
    rw [z] at q
    dsimp only at q
    intro ι' B' H' vs r' i' b' hv
    refine ⟨ds ++ dd, ι', B', O', r'.enter, paired_app hv (hdd _ _), by rw [List.length_append]; exact hn _ _ _ _ z, ?_⟩
    cases z2 : f (ds ++ dd) O' with
    | bad => rw [z2] at q; exact q
    | err c p O2 =>
      rw [z2] at q
      exact fun ι2 B2 H2 C dx r2 h2 => q ι2 B2 H2 C dx (r'.after r2) (i'.trans r2.ei) (b'.trans r2.eB) h2
    | ok x O2 =>
      rw [z2] at q
      intro ι2 B2 H2 v r2 hv2
      cases x with
      | shr d => exact q ι2 B2 H2 v (r'.after r2) (i'.trans r2.ei) (b'.trans r2.eB) hv2
      | hot c p => exact q.elim
      | own c =>
        cases c with
        | dct _ => exact q.elim
        | ins _ _ => exact q.elim
        | lst xs =>
          obtain ⟨a, rfl, ⟨ws, k1, k2⟩, k3, k4, k5⟩ := hv2
          have k4 : H' a = none := k4
          obtain ⟨k6, k7⟩ := own_after (ι' := ι') (B' := B') (H' := H') (O' := O') r' k4
          obtain ⟨r3, b3⟩ := (r'.after r2).freezeAt k1 k3 k6 k5 k7
          exact q ι2 _ H2 (.ref a) r3 (i'.trans r2.ei) ((b'.trans r2.eB).trans b3) (.lst upd_same (DA.monos b3 (Pre.refl _) _ _ k2))
theorem ev_callN {n : Nat} {f : MF} {dvs : List V} {dd : List D} {t : TA} {m : ME (List D)} (hdd : ∀ ι B, Paired (DA X.K ι B) dvs dd) (hn : ∀ ρ O ds O', m ρ O = .ok ds O' → ds.length + dd.length = n) (h : Ev X Wx (rDs X) t m) :
    EvN X Wx (tCallSD (spF X.K X.mg n f) dvs (WE Wx) t) (callN f dd m) := by
  intro e ι B H ρ O σ Q r q
  refine h e ι B H ρ O σ _ r ?_
  simp only [callN, bindE] at q
  cases z : m ρ O with
  | err c p O' => rw [z] at q; exact q
  | bad => rw [z] at q; exact q
  | ok ds O' =>
    rw [z] at q
    dsimp only at q
    intro ι' B' H' vs r' i' b' hv
    refine ⟨ds ++ dd, ι', B', O', r'.enter, paired_app hv (hdd _ _), by rw [List.length_append]; exact hn _ _ _ _ z, ?_⟩
    cases z2 : f (ds ++ dd) O' with
    | bad => rw [z2] at q; exact q
    | err c p O2 =>
      rw [z2] at q
      exact fun ι2 B2 H2 C dx r2 h2 => q ι2 B2 H2 C dx (r'.after r2) (i'.trans r2.ei) (b'.trans r2.eB) h2
    | ok x O2 =>
      rw [z2] at q
      intro ι2 B2 H2 v r2 hv2
      cases x with
      | shr d => exact q.elim
      | hot c p => exact q.elim
      | own c =>
        obtain ⟨a, rfl, k1, k3, k4, k5⟩ := hv2
        have k4 : H' a = none := k4
        obtain ⟨k6, k7⟩ := own_after (ι' := ι') (B' := B') (H' := H') (O' := O') r' k4
        exact q ι2 B2 H2 a (r'.after r2) (i'.trans r2.ei) (b'.trans r2.eB) k1 k3 k6 k5 k7
/-- how many arguments -/
theorem nilA_len {ρ : Rho} {O O' : Sto} {ds : List D} (h : nilA ρ O = .ok ds O') : ds.length = 0 := by cases h; rfl
def LenA (m : ME (List D)) (n : Nat) : Prop := ∀ ρ O ds O', m ρ O = .ok ds O' → ds.length = n
theorem lenA_nil : LenA nilA 0 := fun _ _ _ _ h => by cases h; rfl
theorem lenA_cons {m : ME D} {n : ME (List D)} {k : Nat} (h : LenA n k) : LenA (consA m n) (k + 1) := fun ρ O ds O' q => by
  simp only [consA, bindE] at q
  split at q
  · rename_i d O1 _
    split at q
    · rename_i ds' O2 e2
      cases q
      rw [List.length_cons, h _ _ _ _ e2]
    · cases q
    · cases q
  · cases q
  · cases q
section
variable {n k : Nat} {f : MF} {g : Addr} {fd : FuncData} {ps : List Str} {dvs : List V} {dus : List Value} {dd : List D} {x : Str} {p : Pos} {e : Expr} {es : List Expr} {m : ME (List D)} {j : Nat}
theorem ex_call (tk : Takes X Wx) (F : FnOk X.prog X.w X.K X.mg X.base (L2.CX X.prog X.w) k g fd ps (spF X.K X.mg n f)) (hr : Room k X.A) (hm : X.mg x = some (.ref g)) (hk : PySem.W.keepIn X.K (.ref g) = true) (hb : Binds X.K fd ps dus) (hd : Vals dvs dus)
    (hdd : ∀ ι B, Paired (DA X.K ι B) dvs dd) (ha : EA X Wx (e :: es) m) (hl : LenA m j) (hn : j + dd.length = n) (hg : Gl X x := by rfl) (hdb : (x == ("__debug__" : Str)) = false := by decide)
    (he : starEach (e :: es) X.env = (false, eval e X.env) :: starEach es X.env := by rfl) (hpl : (backTo pos (starEach es X.env)).any (·.1) = false := by rfl) : EX X Wx (.Call (.Name x p) (e :: es) [] pos) (callF f dd m) := by
  obtain ⟨t, pt, et⟩ := ha
  exact ⟨_, pe_callSD F hr hg hm hk hb hd (fun σ => passAt tk σ) pt hdb he hpl, ev_callF hdd (fun ρ O ds O' q => by rw [hl ρ O ds O' q]; exact hn) et⟩
theorem en_call (tk : Takes X Wx) (F : FnOk X.prog X.w X.K X.mg X.base (L2.CX X.prog X.w) k g fd ps (spF X.K X.mg n f)) (hr : Room k X.A) (hm : X.mg x = some (.ref g)) (hk : PySem.W.keepIn X.K (.ref g) = true) (hb : Binds X.K fd ps dus) (hd : Vals dvs dus)
    (hdd : ∀ ι B, Paired (DA X.K ι B) dvs dd) (ha : EA X Wx (e :: es) m) (hl : LenA m j) (hn : j + dd.length = n) (hg : Gl X x := by rfl) (hdb : (x == ("__debug__" : Str)) = false := by decide)
    (he : starEach (e :: es) X.env = (false, eval e X.env) :: starEach es X.env := by rfl) (hpl : (backTo pos (starEach es X.env)).any (·.1) = false := by rfl) : EN X Wx (.Call (.Name x p) (e :: es) [] pos) (callN f dd m) := by
  obtain ⟨t, pt, et⟩ := ha
  exact ⟨_, pe_callSD F hr hg hm hk hb hd (fun σ => passAt tk σ) pt hdb he hpl, ev_callN hdd (fun ρ O ds O' q => by rw [hl ρ O ds O' q]; exact hn) et⟩
end
end
end DL

set_option Elab.async false
set_option linter.all false
set_option maxRecDepth 100000
namespace DL
open PySem L2
variable [Tabs]
section
variable {X : Cx} {Wx : WX} {a b c : Expr} {pos : Pos} {ma mb mc : ME D} {i : Nat} {x : Str}

/-! ### statements -/
def setS (i : Nat) (m : ME D) : MS := bindS m fun d ρ O => .nx (ρ.set i (some (.shr d))) O
theorem EvS.set {t : TE} (h : Ev X Wx (rD X) t ma) : EvS X Wx (tAsg t (gName i)) (setS i ma) :=
  EvS.bind (u := fun x D' σ H => gName i x σ H D'.nx) h fun x a e ι B H ρ O σ D' r hx q => q ι B H (σ.set i (some x)) (r.set' hx) (Pre.refl _) (Same.refl _)
theorem es_set {pos' : Pos} (i : Nat) (he : EX X Wx a ma) (hN : X.N.Nodup) (hi : X.N[i]? = some x := by rfl) (hx : Loc X.env.scope x := by first | exact Or.inl rfl | exact Or.inr rfl) (hs : swapsWith a (some (.Name x pos')) pos.line X.env = pure false := by rfl)
    (hf : X.fn x = true ∨ X.env.scope.names.lookup x = some .local := by first | exact .inl rfl | exact .inr rfl) : ES X Wx (.Assign [.Name x pos'] a pos) (setS i ma) := by
  obtain ⟨t, pt, et⟩ := he
  exact ⟨_, ps_set hN hi hx pt hs hf, EvS.set et⟩
/-- a new cell comes into a slot -/
def newS (i : Nat) (m : ME Cell) : MS := bindS m fun c ρ O => .nx (ρ.set i (some (.own c))) O
theorem EvS.new {t : TE} {m : ME Cell} (h : EvN X Wx t m) : EvS X Wx (tAsg t (gName i)) (newS i m) := by
  intro e ι B H ρ O σ D' r q
  refine h e ι B H ρ O σ _ r ?_
  unfold newS bindS at q
  cases z : m ρ O with
  | bad => rw [z] at q; exact q
  | err c p O' =>
    rw [z] at q
    exact fun ι' B' H' C dx r' i' b' x => q ι' B' H' σ C dx r' i' b' x
  | ok c O' =>
    rw [z] at q
    exact fun ι' B' H' a r' i' b' h1 h2 h3 h4 h5 => q ι' B' H' _ (r'.setOwn' h1 h2 h3 h4 h5) i' b'
theorem es_new {pos' : Pos} {m : ME Cell} (i : Nat) (he : EN X Wx a m) (hN : X.N.Nodup) (hi : X.N[i]? = some x := by rfl) (hx : Loc X.env.scope x := by first | exact Or.inl rfl | exact Or.inr rfl) (hs : swapsWith a (some (.Name x pos')) pos.line X.env = pure false := by rfl)
    (hf : X.fn x = true ∨ X.env.scope.names.lookup x = some .local := by first | exact .inl rfl | exact .inr rfl) : ES X Wx (.Assign [.Name x pos'] a pos) (newS i m) := by
  obtain ⟨t, pt, et⟩ := he
  exact ⟨_, ps_set hN hi hx pt hs hf, EvS.new et⟩
/-- an owned list is frozen (nothing is run) -/
def frzS (i : Nat) : MS := fun ρ O => match ρ[i]? with
  | some (some (.own (.lst xs))) => .nx (ρ.set i (some (.shr (.lst xs)))) O
  | _ => .bad
theorem EvS.frz {t : TS} {m : MS} (i : Nat) (h : EvS X Wx t m) : EvS X Wx t (seqS (frzS i) m) := by
  intro e ι B H ρ O σ D' r q
  cases z : ρ[i]? with
  | none => simp only [seqS, frzS, z] at q; exact q.elim
  | some o =>
    cases o with
    | none => simp only [seqS, frzS, z] at q; exact q.elim
    | some x =>
      cases x with
      | shr d => simp only [seqS, frzS, z] at q; exact q.elim
      | hot c p => simp only [seqS, frzS, z] at q; exact q.elim
      | own c =>
        cases c with
        | dct es => simp only [seqS, frzS, z] at q; exact q.elim
        | ins c fs => simp only [seqS, frzS, z] at q; exact q.elim
        | lst xs =>
          simp only [seqS, frzS, z] at q
          obtain ⟨B', r', b'⟩ := r.freezeL z
          exact h e ι B' H _ O σ D' r' (EvSP.later (r := m _ _) (Pre.refl _) b' q)
theorem eb_frz {sts : List Stmt} {m : MS} (i : Nat) (h : EB X Wx sts m) : EB X Wx sts (seqS (frzS i) m) := by
  obtain ⟨t, pt, et⟩ := h
  exact ⟨t, pt, et.frz i⟩
theorem es_frz {st : Stmt} {m : MS} (i : Nat) (h : ES X Wx st m) : ES X Wx st (seqS (frzS i) m) := by
  obtain ⟨t, pt, et⟩ := h
  exact ⟨t, pt, et.frz i⟩
/-- an expression's value is dropped -/
def exprS (m : ME D) : MS := bindS m fun _ ρ O => .nx ρ O
theorem es_expr (he : EX X Wx a ma) (hs : swapsWith a none pos.line X.env = pure false := by rfl) : ES X Wx (.Expr a pos) (exprS ma) := by
  obtain ⟨t, pt, et⟩ := he
  exact ⟨_, ps_expr pt hs, EvS.bind (u := fun _ D' σ H => D'.nx σ H) et fun x a e ι B H ρ O σ D' r hx q => q ι B H σ r (Pre.refl _) (Same.refl _)⟩
def retS (m : ME D) : MS := bindS m fun d _ O => .ret (.shr d) O
theorem es_ret (he : EX X Wx a ma) : ES X Wx (.Return (some a) pos) (retS ma) := by
  obtain ⟨t, pt, et⟩ := he
  exact ⟨_, ps_ret pt, EvS.bind (u := fun x D' _ H => D'.rt x H) et fun x a e ι B H ρ O σ D' r hx q => q ι B H x r.bare (Pre.refl _) (Same.refl _) hx⟩
/-- .. a new cell -/
def retN (m : ME Cell) : MS := bindS m fun c _ O => .ret (.own c) O
theorem es_retN {m : ME Cell} (he : EN X Wx a m) : ES X Wx (.Return (some a) pos) (retN m) := by
  obtain ⟨t, pt, et⟩ := he
  refine ⟨_, ps_ret pt, fun e ι B H ρ O σ D' r q => et e ι B H ρ O σ _ r ?_⟩
  unfold retN bindS at q
  cases z : m ρ O with
  | bad => rw [z] at q; exact q
  | err c p O' =>
    rw [z] at q
    exact fun ι' B' H' C dx r' i' b' x => q ι' B' H' σ C dx r' i' b' x
  | ok c O' =>
    rw [z] at q
    exact fun ι' B' H' a r' i' b' h1 h2 h3 h4 h5 => q ι' B' H' (.ref a) r'.bare i' b' ⟨a, rfl, h1, h2, h3, h4⟩
/-- .. what a slot owns -/
def retO (i : Nat) : MS := fun ρ O => match ρ[i]? with
  | some (some (.own c)) => .ret (.own c) O
  | _ => .bad
theorem es_retO (i : Nat) {p : Pos} (hN : X.N[i]? = some x := by rfl) (hv : Vis X.env.scope x := by first | exact Or.inl rfl | exact Or.inr (Or.inl rfl) | exact Or.inr (Or.inr rfl)) (hd : (x == ("__debug__" : Str)) = false := by decide)
    (hcd : (x == ("__classdict__" : Str)) = false := by decide) : ES X Wx (.Return (some (.Name x p)) pos) (retO i) := by
  refine ⟨_, ps_ret (pe_var (i := i) hN hv hd hcd), fun e ι B H ρ O σ D' r q => ?_⟩
  unfold retO at q
  split at q
  · rename_i c z
    obtain ⟨v, h1, h2⟩ := r.sl i _ z
    exact ⟨v, h1, q ι B H v r.bare (Pre.refl _) (Same.refl _) h2⟩
  · exact q.elim
def retNon : MS := fun _ O => .ret (.shr .non) O
theorem es_retNon : ES X Wx (.Return none pos) retNon := ⟨_, ps_retN, fun e ι B H ρ O σ D' r q => q ι B H .non r.bare (Pre.refl _) (Same.refl _) .non⟩
theorem es_pass : ES X Wx (.Pass pos) skipS := ⟨_, ps_pass, fun e ι B H ρ O σ D' r q => q ι B H σ r (Pre.refl _) (Same.refl _)⟩
def brkS : MS := fun ρ O => .bk ρ O
theorem es_brk : ES X Wx (.Break pos) brkS := ⟨_, ps_break, fun e ι B H ρ O σ D' r q => q ι B H σ r (Pre.refl _) (Same.refl _)⟩
theorem es_doc {y : Str} {j pos'} : ES X Wx (.Expr (.Constant (.str y) j pos) pos') skipS := ⟨_, ps_doc, fun e ι B H ρ O σ D' r q => q ι B H σ r (Pre.refl _) (Same.refl _)⟩
def badS : MS := fun _ _ => .bad
/-- what is never reached -/
theorem es_never {st : Stmt} : ES X Wx st badS := ⟨_, ps_never, fun e ι B H ρ O σ D' r q => q⟩
def ifS (t : ME Bool) (m n : MS) : MS := bindS t fun b => if b = true then m else n
theorem es_if {t : ME Bool} {st su : List Stmt} {m n : MS} (hc : ET X Wx c t) (ha : EB X Wx st m) (hb : EB X Wx su n) : ES X Wx (.If c st su pos) (ifS t m n) := by
  obtain ⟨tc, pc, ec⟩ := hc
  obtain ⟨ta, pa, ea⟩ := ha
  obtain ⟨tb, pb, eb⟩ := hb
  refine ⟨_, ps_if pc pa pb, EvS.bind (u := fun d D' σ H => if d = true then ta D' σ H else tb D' σ H) ec fun x a e ι B H ρ O σ D' r hx q => ?_⟩
  cases hx
  cases x with
  | true => rw [if_pos rfl] at q ⊢; exact ea e ι B H ρ O σ D' r q
  | false => rw [if_neg Bool.false_ne_true] at q ⊢; exact eb e ι B H ρ O σ D' r q

/-! ### x op= e -/
def augS (i : Nat) (f : D → D → Option D) (m : ME D) : MS := fun ρ O => match ρ[i]? with
  | some (some (.shr d)) => bindS m (fun y ρ O => match f d y with
    | some z => .nx (ρ.set i (some (.shr z))) O
    | none => .bad) ρ O
  | _ => .bad
theorem es_aug {op : Operator} {r : R2} {f : D → D → Option D} {pos' : Pos} (i : Nat) (hr : OpR X (inplaceOp op) r) (ho : Op2 X r f) (he : EZ X Wx a ma) (hN : X.N.Nodup) (hi : X.N[i]? = some x := by rfl) (hx : Loc X.env.scope x := by first | exact Or.inl rfl | exact Or.inr rfl)
    (hf : X.fn x = true ∨ X.env.scope.names.lookup x = some .local := by first | exact .inl rfl | exact .inr rfl) : ES X Wx (.AugAssign (.Name x pos') op a pos) (augS i f ma) := by
  obtain ⟨t, pt, et⟩ := he
  refine ⟨_, ps_aug (ti := r) hN hi hx pt (fun pins s σ H x y v u Q I rx ry h => hr pins s σ H x y v u Q I rx ry h) hf, fun e ι B H ρ O σ D' rl q => ?_⟩
  unfold augS at q
  split at q
  · rename_i d z
    obtain ⟨v, h1, h2⟩ := rl.sl i _ z
    refine ⟨v, h1, et e ι B H ρ O σ _ rl ?_⟩
    unfold bindS at q
    cases z2 : ma ρ O with
    | bad => rw [z2] at q; exact q
    | err c p O' => rw [z2] at q; exact fun ι' B' H' C dx r' i' b' h => q ι' B' H' σ C dx r' i' b' h
    | ok y O' =>
      rw [z2] at q
      dsimp only at q
      intro ι' B' H' yv r' i' b' hy
      cases z3 : f d y with
      | none => rw [z3] at q; exact q.elim
      | some w =>
        rw [z3] at q
        exact ho v yv d y w e ι' B' H' ρ O' σ _ r' ((DA.mono b' i' _ _ h2).dh r'.sub) (hy.dh r') z3 fun B2 H2 zv r2 b2 hz => q ι' B2 H2 _ (r2.set' hz) i' (b'.trans b2)
  · exact q.elim
section
variable {pos' : Pos}
abbrev rIAddAll : R2 := fun x y H Q => (rI0 (fun i j => .int (i + j))) x y H Q ∨ (∃ i j, x = .str i ∧ y = .str j ∧ i.length + j.length ≤ sizeLine ∧ Q (.str (i ++ j)) H)
/-- the text grows, the number grows -/
def addA : D → D → Option D
  | .int i, .int j => some (.int (i + j))
  | .str x, .str y => if x.length + y.length ≤ sizeLine then some (.str (x ++ y)) else none
  | _, _ => none
theorem op2_addA : Op2 X rIAddAll addA := by
  intro x y a b z e ι B H ρ O σ Q r hx hy hz q
  unfold addA at hz
  split at hz
  · rename_i i j
    cases hx; cases hy; cases hz
    exact .inl ⟨i, j, rfl, rfl, atomI r q (.int _)⟩
  · rename_i s t
    cases hx; cases hy
    split at hz
    · rename_i hl
      cases hz
      exact .inr ⟨s, t, rfl, rfl, hl, atomI r q (.str _)⟩
    · cases hz
  · cases hz
theorem es_augAdd (i : Nat) (he : EZ X Wx a ma) (hN : X.N.Nodup) (hi : X.N[i]? = some x := by rfl) (hx : Loc X.env.scope x := by first | exact Or.inl rfl | exact Or.inr rfl)
    (hf : X.fn x = true ∨ X.env.scope.names.lookup x = some .local := by first | exact .inl rfl | exact .inr rfl) : ES X Wx (.AugAssign (.Name x pos') .Add a pos) (augS i addA ma) := es_aug i (OpR.or iop_add iop_add_str) op2_addA he hN hi hx hf
theorem es_augXor (i : Nat) (he : EZ X Wx a ma) (hN : X.N.Nodup) (hi : X.N[i]? = some x := by rfl) (hx : Loc X.env.scope x := by first | exact Or.inl rfl | exact Or.inr rfl)
    (hf : X.fn x = true ∨ X.env.scope.names.lookup x = some .local := by first | exact .inl rfl | exact .inr rfl) : ES X Wx (.AugAssign (.Name x pos') .BitXor a pos) (augS i xorD ma) := es_aug i iop_xor op2_int0 he hN hi hx hf
theorem es_augShr (i : Nat) (he : EZ X Wx a ma) (hN : X.N.Nodup) (hi : X.N[i]? = some x := by rfl) (hx : Loc X.env.scope x := by first | exact Or.inl rfl | exact Or.inr rfl)
    (hf : X.fn x = true ∨ X.env.scope.names.lookup x = some .local := by first | exact .inl rfl | exact .inr rfl) : ES X Wx (.AugAssign (.Name x pos') .RShift a pos) (augS i shrD ma) := es_aug i iop_shr (op2_int fun _ _ h => of_decide_eq_true h) he hN hi hx hf
end

/-! ### an owned list is changed -/
def appS (i : Nat) (m : ME D) : MS := bindS m fun d ρ O => match ρ[i]? with
  | some (some (.own (.lst xs))) => if xs.length < sizeLine then .nx (ρ.set i (some (.own (.lst (xs ++ [d]))))) O else .bad
  | _ => .bad
def isLst : Option (Option SD) → Bool
  | some (some (.own (.lst _))) => true
  | _ => false
def appS' (i : Nat) (m : ME D) : MS := fun ρ O => if isLst ρ[i]? = true then appS i m ρ O else .bad
theorem es_app {p apos cpos : Pos} (i : Nat) (he : EX X Wx a ma) (hN : X.N[i]? = some x := by rfl) (hv : Vis X.env.scope x := by first | exact Or.inl rfl | exact Or.inr (Or.inl rfl) | exact Or.inr (Or.inr rfl)) (hd : (x == ("__debug__" : Str)) = false := by decide)
    (hcd : (x == ("__classdict__" : Str)) = false := by decide)
    (hbase : attributeBase (.Name x p) "append" X.env (eval (.Name x p) X.env) = eval (.Name x p) X.env := by rfl)
    (hfew : ((backTo cpos (starEach [a] X.env)).all (fun x => !x.1) && (backToKw cpos (keywordEach [] X.env)).all (fun x => x.1.isSome)
      && decide ([a].length + ([] : List Keyword).length + (if ([] : List Keyword).isEmpty then 0 else 1) < 30)) = true := by rfl)
    (hline : (apos.endLine == cpos.line) = true := by rfl) (hs : starEach [a] X.env = (false, eval a X.env) :: starEach [] X.env := by rfl) (hplain : (backTo cpos (starEach [] X.env)).any (·.1) = false := by rfl)
    (hsw : swapsWith (.Call (.Attribute (.Name x p) "append" apos) [a] [] cpos) none pos.line X.env = pure false := by rfl) :
    ES X Wx (.Expr (.Call (.Attribute (.Name x p) "append" apos) [a] [] cpos) pos) (appS' i ma) := by
  obtain ⟨t, pt, et⟩ := he
  refine ⟨_, ps_expr (pe_bm PySem.F.plainAttrs_list PySem.F.slot_list_append PySem.F.type_list_append mt_append (pe_var (i := i) hN hv hd hcd) (pa_cons pt pa_nil hs) hbase hfew hline hs hplain) hsw, fun e ι B H ρ O σ D' r q => ?_⟩
  unfold appS' at q
  split at q
  · rename_i z0
    unfold isLst at z0
    split at z0
    · rename_i xs0 z
      obtain ⟨v, h1, a1, rfl, ⟨vs0, h2, h3⟩, h4, h5, h6⟩ := r.sl i _ z
      refine ⟨_, h1, .inl ⟨rfl, _, .inl (.inl h2)⟩, ?_⟩
      refine et e ι B H ρ O σ _ r ?_
      unfold appS bindS at q
      cases z2 : ma ρ O with
      | bad => rw [z2] at q; exact q
      | err c p O' => rw [z2] at q; exact fun ι' B' H' C dx r' i' b' h => q ι' B' H' σ C dx r' i' b' h
      | ok y O' =>
        rw [z2] at q
        dsimp only at q
        rw [z] at q
        dsimp only at q
        intro ι' B' H' yv r' i' b' hy
        split at q
        · rename_i hl
          obtain ⟨v', k1, a2, k2, ⟨vs, k3, k4⟩, k5, k6, k7⟩ := r'.sl i _ z
          rw [h1] at k1
          cases k1
          cases k2
          refine ⟨_, vs, yv, rfl, rfl, k3, by rw [paired_len k4]; exact hl, ?_⟩
          exact q ι' B' _ σ (r'.putOwn z h1 ⟨_, upd_same, paired_app k4 (.cons hy .nil)⟩) i' b'
        · exact q.elim
    · cases z0
  · exact q.elim
end

/-! ### loops -/
/-- an iterator over the data ds -/
def WalkD (X : Cx) (J : It) (ι : List Addr) (B : Hp) (ds : List D) : Prop := ∀ e ι2 B2 H ρ O σ (i : Nat), Rel X.K X.mg (en X e) ι2 B2 H ρ O σ → Pre ι ι2 → Same B B2 →
  (∀ d, ds[i]? = some d → J.go i H ∧ ∀ x H', J.yld i H x H' → ∃ B3, Rel X.K X.mg (en X e) ι2 B3 H' ρ O σ ∧ Same B2 B3 ∧ Same H H' ∧ DA X.K ι2 B3 x d) ∧ (ds.length ≤ i → J.stop i H)
def EvI (X : Cx) (Wx : WX) (wi : TI) (m : ME (List D)) : Prop := ∀ e ι B H ρ O σ R, Rel X.K X.mg (en X e) ι B H ρ O σ →
  (match m ρ O with
    | .ok ds O' => ∀ ι' B' H' J, Rel X.K X.mg (en X e) ι' B' H' ρ O' σ → Pre ι ι' → Same B B' → WalkD X J ι' B' ds → R J H'
    | .err c p O' => ∀ ι' B' H' C dx, Rel X.K X.mg (en X e) ι' B' H' ρ O' σ → Pre ι ι' → Same B B' → Exc X.K X.mg ι' B' C dx c p → Wx (.ref C) (some dx) σ H'
    | .bad => False) → wi σ H R
def EI (X : Cx) (Wx : WX) (tg it : Expr) (m : ME (List D)) : Prop := ∃ wi, PI X tg it wi ∧ EvI X Wx wi m
/-- targets -/
def EvG (X : Cx) (g : TG) (f : D → MS) : Prop := ∀ x d e ι B H ρ O σ (Q : St → Hp → Prop), Rel X.K X.mg (en X e) ι B H ρ O σ → DA X.K ι B x d →
  (match f d ρ O with
    | .nx ρ' O' => ∀ ι' B' H' σ', Rel X.K X.mg (en X e) ι' B' H' ρ' O' σ' → Pre ι ι' → Same B B' → Q σ' H'
    | _ => False) → g x σ H Q
def EG (X : Cx) (tg : Expr) (f : D → MS) : Prop := ∃ g, PG X tg g ∧ EvG X g f
section
variable {X : Cx} {Wx : WX} {a b c tg it : Expr} {pos : Pos} {ma mb mc : ME D} {i : Nat} {x : Str}
def nameG (i : Nat) (d : D) : MS := fun ρ O => .nx (ρ.set i (some (.shr d))) O
theorem evg_name (i : Nat) : EvG X (gName i) (nameG i) := fun x d e ι B H ρ O σ Q r hx q => q ι B H _ (r.set' hx) (Pre.refl _) (Same.refl _)
theorem eg_name {pos' : Pos} (i : Nat) (hN : X.N.Nodup) (hi : X.N[i]? = some x := by rfl) (hx : Loc X.env.scope x := by first | exact Or.inl rfl | exact Or.inr rfl) (hf : X.fn x = true ∨ X.env.scope.names.lookup x = some .local := by first | exact .inl rfl | exact .inr rfl) :
    EG X (.Name x pos') (nameG i) := ⟨_, pg_name hN hi hx hf, evg_name i⟩
/-- the loop over data -/
def loopS (g : D → MS) (m : MS) : List D → MS
  | [], ρ, O => .nx ρ O
  | d :: ds, ρ, O => match g d ρ O with
    | .nx ρ1 O1 => match m ρ1 O1 with
      | .nx ρ2 O2 => loopS g m ds ρ2 O2
      | .ct ρ2 O2 => loopS g m ds ρ2 O2
      | .bk ρ2 O2 => .nx ρ2 O2
      | r => r
    | _ => .bad
def forS (it : ME (List D)) (g : D → MS) (m : MS) : MS := bindS it fun ds => loopS g m ds
theorem EvS.for {wi : TI} {g : TG} {tb : TS} {mi : ME (List D)} {f : D → MS} {m : MS} (hi : EvI X Wx wi mi) (hg : EvG X g f) (hb : EvS X Wx tb m) : EvS X Wx (tFor wi g tb) (forS mi f m) := by
  intro e ι B H ρ O σ D' r q
  refine hi e ι B H ρ O σ _ r ?_
  unfold forS bindS at q
  cases z : mi ρ O with
  | bad => rw [z] at q; exact q
  | err c p O' => rw [z] at q; exact fun ι' B' H' C dx r' i' b' h => q ι' B' H' σ C dx r' i' b' h
  | ok ds O' =>
    rw [z] at q
    dsimp only at q
    intro ι' B' H' J r' i' b' wk
    refine ⟨fun i mm σ H => mm = ds.length - i ∧ i ≤ ds.length ∧ ∃ ρ O ι2 B2, Rel X.K X.mg (en X e) ι2 B2 H ρ O σ ∧ Pre ι' ι2 ∧ Same B' B2 ∧ EvSP X Wx e ι2 B2 D' (loopS f m (ds.drop i) ρ O), ⟨ds.length, by simp, Nat.zero_le _, ρ, O', ι', B', r', Pre.refl _, Same.refl _, EvSP.later (r := loopS f m ds ρ O') i' b' q⟩, ?_⟩
    rintro i mm σ H ⟨rfl, hil, ρ, O, ι2, B2, r2, i2, b2, q2⟩
    obtain ⟨w1, w2⟩ := wk e ι2 B2 H ρ O σ i r2 i2 b2
    by_cases hlt : i < ds.length
    · have hd : ds[i]? = some ds[i] := List.getElem?_eq_getElem hlt
      have hdr : ds.drop i = ds[i] :: ds.drop (i + 1) := List.drop_eq_getElem_cons hlt
      obtain ⟨go, step⟩ := w1 _ hd
      refine .inr ⟨go, fun σ' H' => ∃ ρ O ι3 B3, Rel X.K X.mg (en X e) ι3 B3 H' ρ O σ' ∧ Pre ι' ι3 ∧ Same B' B3 ∧ EvSP X Wx e ι3 B3 D' (loopS f m (ds.drop (i + 1)) ρ O), fun σ' H' h => ⟨ds.length - (i + 1), by omega, rfl, hlt, h⟩, fun x H3 y => ?_⟩
      obtain ⟨B3, r3, b3, s3, hx⟩ := step x H3 y
      rw [hdr] at q2
      unfold loopS at q2
      refine hg x _ e ι2 B3 H3 ρ O σ _ r3 hx ?_
      cases z2 : f ds[i] ρ O with
      | nx ρ1 O1 =>
        rw [z2] at q2
        dsimp only at q2
        intro ι4 B4 H4 σ4 r4 i4 b4
        refine hb e ι4 B4 H4 ρ1 O1 σ4 _ r4 ?_
        cases z3 : m ρ1 O1 with
        | nx ρ2 O2 =>
          rw [z3] at q2
          exact fun ι5 B5 H5 σ5 r5 i5 b5 => ⟨ρ2, O2, ι5, B5, r5, (i2.trans i4).trans i5, ((b2.trans b3).trans b4).trans b5, EvSP.later (r := loopS f m _ ρ2 O2) (i4.trans i5) ((b3.trans b4).trans b5) q2⟩
        | ct ρ2 O2 =>
          rw [z3] at q2
          exact fun ι5 B5 H5 σ5 r5 i5 b5 => ⟨ρ2, O2, ι5, B5, r5, (i2.trans i4).trans i5, ((b2.trans b3).trans b4).trans b5, EvSP.later (r := loopS f m _ ρ2 O2) (i4.trans i5) ((b3.trans b4).trans b5) q2⟩
        | bk ρ2 O2 =>
          rw [z3] at q2
          exact fun ι5 B5 H5 σ5 r5 i5 b5 => q2 ι5 B5 H5 σ5 r5 (i4.trans i5) ((b3.trans b4).trans b5)
        | ret x2 O2 =>
          rw [z3] at q2
          exact fun ι5 B5 H5 v r5 i5 b5 => q2 ι5 B5 H5 v r5 (i4.trans i5) ((b3.trans b4).trans b5)
        | err c p ρ2 O2 =>
          rw [z3] at q2
          exact fun ι5 B5 H5 σ5 C dx r5 i5 b5 => q2 ι5 B5 H5 σ5 C dx r5 (i4.trans i5) ((b3.trans b4).trans b5)
        | bad => rw [z3] at q2; exact q2
      | bk ρ' O' => rw [z2] at q2; exact q2
      | ct ρ' O' => rw [z2] at q2; exact q2
      | ret x O' => rw [z2] at q2; exact q2
      | err c p ρ' O' => rw [z2] at q2; exact q2
      | bad => rw [z2] at q2; exact q2
    · have hi : ds.length ≤ i := by omega
      rw [List.drop_eq_nil_of_le hi] at q2
      exact .inl ⟨w2 hi, q2 ι2 B2 H σ r2 (Pre.refl _) (Same.refl _)⟩
theorem es_for {sts : List Stmt} {mi : ME (List D)} {f : D → MS} {m : MS} (hp : PassesOwn (model X.prog X.w) X.A X.env X.xe) (hc : X.calm = true) (hi : EI X Wx tg it mi) (hg : EG X tg f) (hb : EB X Wx sts m)
    (hs : ∀ x, foldedSetIterable it X.env x = pure x := by intro _; rfl) : ES X Wx (.For tg it sts [] pos) (forS mi f m) := by
  obtain ⟨wi, pi, ei⟩ := hi
  obtain ⟨g, pg, eg⟩ := hg
  obtain ⟨t, pt, et⟩ := hb
  exact ⟨_, ps_for hp hc pi pg pt hs, EvS.for ei eg et⟩
/-! what is walked -/
def itemsD : D → Option (List D)
  | .lst xs => some xs
  | .sea xs => some xs
  | _ => none
theorem walk_list {K : PySem.W.Frag} {p : Addr} {vs : List V} {ds : List D} {ι : List Addr} {B : Hp} (hK : X.K = K) (h : SqL K B p vs) (hv : Paired (DA K ι B) vs ds) : WalkD X (Itl K p) ι B ds := by
  subst hK
  intro e ι2 B2 H ρ O σ i r i2 b2
  have hs : SqL X.K H p vs := (b2.trans r.sub).seq h
  refine ⟨fun d hd => ?_, fun hi => ⟨vs, hs, by rw [paired_len hv]; exact hi⟩⟩
  obtain ⟨v, h1, h2⟩ := paired_get hv hd
  refine ⟨⟨vs, v, hs, h1⟩, fun x H' y => ?_⟩
  obtain ⟨rfl, y⟩ := y
  have y := y vs hs
  rw [h1] at y
  cases y
  exact ⟨B2, r, Same.refl _, Same.refl _, DA.mono b2 i2 _ _ h2⟩
/-- for x in xs, a list -/
theorem ei_list (h : EX X Wx a ma) : EI X Wx tg a (bindE ma fun d => optE (itemsD d)) := by
  obtain ⟨t, pt, et⟩ := h
  refine ⟨_, pi_list pt, fun e ι B H ρ O σ R r q => et e ι B H ρ O σ _ r ?_⟩
  simp only [bindE] at q
  cases z : ma ρ O with
  | bad => rw [z] at q; exact q
  | err c p O' => rw [z] at q; exact q
  | ok d O' =>
    rw [z] at q
    dsimp only at q
    intro ι' B' H' v r' i' b' hv
    cases d with
    | lst ds =>
      cases hv with
      | lst h1 h2 => exact ⟨_, rfl, ⟨_, SqL.of (r'.sub _ _ h1)⟩, q ι' B' H' _ r' i' b' (walk_list rfl (SqL.of h1) h2)⟩
    | sea ds =>
      cases hv with
      | sea h1 h2 => exact ⟨_, rfl, ⟨_, r'.sub.seq h1⟩, q ι' B' H' _ r' i' b' (walk_list rfl h1 h2)⟩
    | _ => exact q.elim
def tupD : D → Option (List D)
  | .tup xs => some xs
  | _ => none
theorem walk_tup {K : PySem.W.Frag} {p : Addr} {vs : List V} {ds : List D} {ι : List Addr} {B : Hp} (hK : X.K = K) (h : SqT K B p vs) (hv : Paired (DA K ι B) vs ds) : WalkD X (Itt K p) ι B ds := by
  subst hK
  intro e ι2 B2 H ρ O σ i r i2 b2
  have hs : SqT X.K H p vs := sqT_same (b2.trans r.sub) h
  refine ⟨fun d hd => ?_, fun hi => ⟨vs, hs, by rw [paired_len hv]; exact hi⟩⟩
  obtain ⟨v, h1, h2⟩ := paired_get hv hd
  refine ⟨⟨vs, v, hs, h1⟩, fun x H' y => ?_⟩
  obtain ⟨rfl, y⟩ := y
  have y := y vs hs
  rw [h1] at y
  cases y
  exact ⟨B2, r, Same.refl _, Same.refl _, DA.mono b2 i2 _ _ h2⟩
theorem ei_tup (h : EX X Wx a ma) : EI X Wx tg a (bindE ma fun d => optE (tupD d)) := by
  obtain ⟨t, pt, et⟩ := h
  refine ⟨_, pi_tup pt, fun e ι B H ρ O σ R r q => et e ι B H ρ O σ _ r ?_⟩
  simp only [bindE] at q
  cases z : ma ρ O with
  | bad => rw [z] at q; exact q
  | err c p O' => rw [z] at q; exact q
  | ok d O' =>
    rw [z] at q
    dsimp only at q
    intro ι' B' H' v r' i' b' hv
    cases d with
    | tup ds =>
      cases hv with
      | tup h1 h2 => exact ⟨_, rfl, ⟨_, sqT_same r'.sub h1⟩, q ι' B' H' _ r' i' b' (walk_tup rfl h1 h2)⟩
    | _ => exact q.elim
/-- for c in text -/
def signsD : D → Option (List D)
  | .str y => some (y.cps.toList.map fun c => .str ⟨#[c]⟩)
  | _ => none
theorem walk_str (y : Str) {ι : List Addr} {B : Hp} : WalkD X (Its y) ι B (y.cps.toList.map fun c => .str ⟨#[c]⟩) := by
  intro e ι2 B2 H ρ O σ i r i2 b2
  refine ⟨fun d hd => ?_, fun hi => by rw [List.length_map, Array.length_toList] at hi; exact hi⟩
  rw [List.getElem?_map, Array.getElem?_toList] at hd
  simp only [Option.map_eq_some_iff] at hd
  obtain ⟨c, h1, rfl⟩ := hd
  refine ⟨(Array.getElem?_eq_some_iff.mp h1).1, fun x H' h => ?_⟩
  obtain ⟨rfl, c', h2, rfl⟩ := h
  rw [h1] at h2
  cases h2
  exact ⟨B2, r, Same.refl _, Same.refl _, .str _⟩
theorem ei_str (h : EZ X Wx a ma) : EI X Wx tg a (bindE ma fun d => optE (signsD d)) := by
  obtain ⟨t, pt, et⟩ := h
  refine ⟨_, pi_str pt, fun e ι B H ρ O σ R r q => et e ι B H ρ O σ _ r ?_⟩
  simp only [bindE] at q
  cases z : ma ρ O with
  | bad => rw [z] at q; exact q
  | err c p O' => rw [z] at q; exact q
  | ok d O' =>
    rw [z] at q
    dsimp only at q
    intro ι' B' H' v r' i' b' hv
    have hv := hv.dh r'
    cases d with
    | str y => cases hv; exact ⟨y, rfl, q ι' B' H' _ r' i' b' (walk_str y)⟩
    | _ => exact q.elim
/-! ### ranges -/
/-- by natAbs: the kernel does not count it -/
def cRng (j : Int) : Bool := decide (j.natAbs < 2 ^ 62)
theorem cRng_ok {j : Int} (h : cRng j = true) : -(2 ^ 62) ≤ j ∧ j < 2 ^ 62 := by
  have := of_decide_eq_true h
  omega
theorem cRng_mk {j : Int} (h0 : -1000000000000000000 ≤ j) (h1 : j ≤ 1000000000000000000) : cRng j = true := decide_eq_true (by omega)
def rangeD : List D → Option (List D)
  | [.int j] => if cRng j = true then some ((List.range j.toNat).map fun k => .int ((0 : Int) + (k : Nat))) else none
  | [.int i, .int j] => if cRng i = true then if cRng j = true then some ((List.range (j - i).toNat).map fun k => .int (i + (k : Nat))) else none else none
  | _ => none
theorem walk_range (lo : Int) (n : Nat) {ι : List Addr} {B : Hp} : WalkD X (Itr lo n) ι B ((List.range n).map fun k => .int (lo + (k : Nat))) := by
  intro e ι2 B2 H ρ O σ i r i2 b2
  refine ⟨fun d hd => ?_, fun hi => by rw [List.length_map, List.length_range] at hi; exact hi⟩
  have hi : i < n := by
    apply Classical.byContradiction
    intro hn
    rw [List.getElem?_eq_none (by rw [List.length_map, List.length_range]; omega)] at hd
    cases hd
  rw [List.getElem?_map, List.getElem?_range hi] at hd
  cases hd
  refine ⟨hi, fun x H' h => ?_⟩
  obtain ⟨rfl, rfl⟩ := h
  exact ⟨B2, r, Same.refl _, Same.refl _, .int _⟩
end
end DL

set_option Elab.async false
set_option linter.all false
set_option maxRecDepth 100000
namespace DL
open PySem L2
variable [Tabs]

section
variable {K : PySem.W.Frag} {mg : Mg} {e : Ent} {ι ι' : List Addr} {B B' H H' : Hp} {ρ : Rho} {O O' : Sto} {σ : St} {a p : Addr} {c : Cell}
/-- the slots that hold data -/
def shrO : Option SD → Option SD
  | some (.shr d) => some (.shr d)
  | _ => none
def wipeR (ρ : Rho) : List Nat → Rho
  | [] => ρ
  | v :: vs => (wipeR ρ vs).set v none
def bareR (vs : List Nat) (ρ : Rho) : Rho := wipeR (ρ.map shrO) vs
theorem Rel.wipe (r : Rel K mg e ι B H ρ O σ) : ∀ vs : List Nat, Rel K mg e ι B H (wipeR ρ vs) O (L2.wipe σ vs)
  | [] => r
  | v :: vs => (Rel.wipe r vs).unset
/-- a block's entry: the data of the slots is seen -/
theorem Rel.block {hot : Option (Addr × Value × Option Addr)} (r : Rel K mg e ι B H ρ O σ) (vs : List Nat) : Rel K mg ⟨ι, B, H, hot⟩ ι B H (bareR vs ρ) O (L2.wipe σ vs) := by
  refine Rel.wipe ?_ vs
  have get : ∀ (i : Nat) (x : SD), (ρ.map shrO)[i]? = some (some x) → ∃ d, ρ[i]? = some (some (.shr d)) ∧ x = .shr d := fun i x q => by
    rw [List.getElem?_map] at q
    cases z : ρ[i]? with
    | none => rw [z] at q; cases q
    | some o =>
      rw [z] at q
      simp only [Option.map_some, Option.some.injEq] at q
      cases o with
      | none => cases q
      | some y =>
        cases y with
        | shr d => cases q; exact ⟨d, rfl, rfl⟩
        | own c => cases q
        | hot c p => cases q
  have q := r.enter (hot := hot)
  refine ⟨q.sub, q.eB, q.ei, q.fB, q.fH, q.fi, by rw [List.length_map]; exact r.len, fun i x h => ?_, fun i j a c c' h => ?_, q.lo, q.ob, q.nd, q.tb⟩
  · obtain ⟨d, h1, rfl⟩ := get i x h
    exact r.sl i _ h1
  · obtain ⟨d, _, h2⟩ := get i _ h
    cases h2
end

section
variable {X : Cx} {Wx : WX} {a b c tg it : Expr} {pos : Pos} {ma mb mc : ME D} {i : Nat} {x : Str}
theorem ei_range1 {p : Pos} {m : ME (List D)} (hm : X.mg "range" = none) (h : EAZ X Wx [a] m) (hl : LenA m 1) (hg : Gl X "range" := by rfl) (hs : starEach [a] X.env = [(false, eval a X.env)] := by rfl) : EI X Wx tg (.Call (.Name "range" p) [a] [] pos) (bindE m fun ds => optE (rangeD ds)) := by
  obtain ⟨t, pt, et⟩ := h
  refine ⟨_, pi_range1 hg hm pt hs, fun e ι B H ρ O σ R r q => et e ι B H ρ O σ _ r ?_⟩
  simp only [bindE] at q
  cases z : m ρ O with
  | bad => rw [z] at q; exact q
  | err c p O' => rw [z] at q; exact q
  | ok ds O' =>
    rw [z] at q
    dsimp only at q
    intro ι' B' H' vs r' i' b' hv
    replace hv := rSs.dh r' hv
    have hlen := hl _ _ _ _ z
    cases z2 : rangeD ds with
    | none => rw [z2] at q; exact q.elim
    | some xs =>
      rw [z2] at q
      unfold rangeD at z2
      split at z2
      · rename_i j
        split at z2
        · rename_i hb
          cases z2
          obtain ⟨v, rfl, h1⟩ := paired1 hv
          cases h1
          exact ⟨j, rfl, (cRng_ok hb).1, (cRng_ok hb).2, q ι' B' H' _ r' i' b' (walk_range 0 j.toNat)⟩
        · cases z2
      · simp at hlen
      · cases z2
theorem ei_range2 {p : Pos} {m : ME (List D)} (hm : X.mg "range" = none) (h : EAZ X Wx [a, b] m) (hl : LenA m 2) (hg : Gl X "range" := by rfl) (hs : starEach [a, b] X.env = [(false, eval a X.env), (false, eval b X.env)] := by rfl) (hs2 : starEach [b] X.env = [(false, eval b X.env)] := by rfl) :
    EI X Wx tg (.Call (.Name "range" p) [a, b] [] pos) (bindE m fun ds => optE (rangeD ds)) := by
  obtain ⟨t, pt, et⟩ := h
  refine ⟨_, pi_range2 hg hm pt hs hs2, fun e ι B H ρ O σ R r q => et e ι B H ρ O σ _ r ?_⟩
  simp only [bindE] at q
  cases z : m ρ O with
  | bad => rw [z] at q; exact q
  | err c p O' => rw [z] at q; exact q
  | ok ds O' =>
    rw [z] at q
    dsimp only at q
    intro ι' B' H' vs r' i' b' hv
    replace hv := rSs.dh r' hv
    have hlen := hl _ _ _ _ z
    cases z2 : rangeD ds with
    | none => rw [z2] at q; exact q.elim
    | some xs =>
      rw [z2] at q
      unfold rangeD at z2
      split at z2
      · simp at hlen
      · rename_i i j
        split at z2
        · rename_i hb
          split at z2
          · rename_i hb2
            cases z2
            obtain ⟨v, w, rfl, h1, h2⟩ := paired2 hv
            cases h1
            cases h2
            exact ⟨i, j, rfl, ⟨(cRng_ok hb).1, (cRng_ok hb).2, (cRng_ok hb2).1, (cRng_ok hb2).2⟩, q ι' B' H' _ r' i' b' (walk_range i (j - i).toNat)⟩
          · cases z2
        · cases z2
      · cases z2

/-! ### while -/
def whileF (c : ME Bool) (m : MS) : Nat → MS
  | 0 => badS
  | n + 1 => bindS c fun k ρ O => if k = true then (match m ρ O with
    | .nx ρ' O' => whileF c m n ρ' O'
    | .ct ρ' O' => whileF c m n ρ' O'
    | .bk ρ' O' => .nx ρ' O'
    | r => r) else .nx ρ O
open Classical in
noncomputable def whileS (c : ME Bool) (m : MS) : MS := fun ρ O => if h : ∃ n, whileF c m n ρ O ≠ .bad then whileF c m h.choose ρ O else .bad
theorem whileF_more {c : ME Bool} {m : MS} : ∀ (n : Nat) (ρ : Rho) (O : Sto), whileF c m n ρ O ≠ .bad → whileF c m (n + 1) ρ O = whileF c m n ρ O
  | 0, _, _, h => absurd rfl h
  | n + 1, ρ, O, h => by
    rw [whileF, whileF]
    rw [whileF] at h
    unfold bindS at h ⊢
    cases z : c ρ O with
    | bad => rfl
    | err c p O' => rfl
    | ok k O' =>
      rw [z] at h
      dsimp only at h ⊢
      cases k with
      | false => rfl
      | true =>
        rw [if_pos rfl] at h ⊢
        rw [if_pos rfl]
        cases z2 : m ρ O' with
        | nx ρ1 O1 => rw [z2] at h; exact whileF_more n ρ1 O1 h
        | ct ρ1 O1 => rw [z2] at h; exact whileF_more n ρ1 O1 h
        | bk ρ1 O1 => rfl
        | ret x O1 => rfl
        | err c p ρ1 O1 => rfl
        | bad => rfl
theorem whileF_le {c : ME Bool} {m : MS} {n k : Nat} {ρ : Rho} {O : Sto} (h : whileF c m n ρ O ≠ .bad) : whileF c m (n + k) ρ O = whileF c m n ρ O := by
  induction k with
  | zero => rfl
  | succ k ih =>
    show whileF c m (n + k + 1) ρ O = _
    rw [whileF_more _ _ _ (by rw [ih]; exact h), ih]
theorem whileS_eq {c : ME Bool} {m : MS} {n : Nat} {ρ : Rho} {O : Sto} {r : RS} (h : whileF c m n ρ O = r) (hr : r ≠ .bad) : whileS c m ρ O = r := by
  have ex : ∃ n, whileF c m n ρ O ≠ .bad := ⟨n, by rw [h]; exact hr⟩
  unfold whileS
  rw [dif_pos ex]
  have h1 := ex.choose_spec
  rcases Nat.le_total n ex.choose with hle | hle
  · obtain ⟨k, e⟩ := Nat.exists_eq_add_of_le hle
    rw [e, whileF_le (by rw [h]; exact hr), h]
  · obtain ⟨k, e⟩ := Nat.exists_eq_add_of_le hle
    rw [← h, e, whileF_le h1]
theorem EvS.whileF {tc : TT} {tb : TS} {mc : ME Bool} {m : MS} (hc : Ev X Wx (rQ Bool) tc mc) (hb : EvS X Wx tb m) (n : Nat) : EvS X Wx (tWhile tc tb) (DL.whileF mc m n) := by
  intro e ι B H ρ O σ D' r q
  refine ⟨fun k σ H => ∃ ρ O ι2 B2, Rel X.K X.mg (en X e) ι2 B2 H ρ O σ ∧ EvSP X Wx e ι2 B2 D' (DL.whileF mc m k ρ O), ⟨n, ρ, O, ι, B, r, q⟩, ?_⟩
  rintro k σ H ⟨ρ, O, ι2, B2, r2, q2⟩
  cases k with
  | zero => exact q2.elim
  | succ k =>
    refine hc e ι2 B2 H ρ O σ _ r2 ?_
    rw [DL.whileF] at q2
    unfold bindS at q2
    cases z : mc ρ O with
    | bad => rw [z] at q2; exact q2
    | err c p O' => rw [z] at q2; exact fun ι' B' H' C dx r' i' b' h => q2 ι' B' H' σ C dx r' i' b' h
    | ok b O' =>
      rw [z] at q2
      dsimp only at q2
      intro ι' B' H' b' r' i' s' hb'
      cases hb'
      cases b with
      | false =>
        rw [if_neg Bool.false_ne_true] at q2 ⊢
        exact q2 ι' B' H' σ r' i' s'
      | true =>
        rw [if_pos rfl] at q2 ⊢
        refine ⟨fun σ' H' => ∃ ρ O ι2 B2, Rel X.K X.mg (en X e) ι2 B2 H' ρ O σ' ∧ EvSP X Wx e ι2 B2 D' (DL.whileF mc m k ρ O), fun σ' H' h => ⟨k, Nat.lt_succ_self k, h⟩, hb e ι' B' H' ρ O' σ _ r' ?_⟩
        cases z2 : m ρ O' with
        | nx ρ1 O1 => rw [z2] at q2; exact fun ι3 B3 H3 σ3 r3 i3 b3 => ⟨ρ1, O1, ι3, B3, r3, EvSP.later (r := DL.whileF mc m k ρ1 O1) (i'.trans i3) (s'.trans b3) q2⟩
        | ct ρ1 O1 => rw [z2] at q2; exact fun ι3 B3 H3 σ3 r3 i3 b3 => ⟨ρ1, O1, ι3, B3, r3, EvSP.later (r := DL.whileF mc m k ρ1 O1) (i'.trans i3) (s'.trans b3) q2⟩
        | bk ρ1 O1 => rw [z2] at q2; exact fun ι3 B3 H3 σ3 r3 i3 b3 => q2 ι3 B3 H3 σ3 r3 (i'.trans i3) (s'.trans b3)
        | ret y O1 => rw [z2] at q2; exact fun ι3 B3 H3 v r3 i3 b3 => q2 ι3 B3 H3 v r3 (i'.trans i3) (s'.trans b3)
        | err c p ρ1 O1 => rw [z2] at q2; exact fun ι3 B3 H3 σ3 C dx r3 i3 b3 => q2 ι3 B3 H3 σ3 C dx r3 (i'.trans i3) (s'.trans b3)
        | bad => rw [z2] at q2; exact q2
theorem es_while {t : ME Bool} {sts : List Stmt} {m : MS} (hp : PassesOwn (model X.prog X.w) X.A X.env X.xe) (hc : ET X Wx c t) (hb : EB X Wx sts m) : ES X Wx (.While c sts [] pos) (whileS t m) := by
  obtain ⟨tc, pc, ec⟩ := hc
  obtain ⟨tb, pb, eb⟩ := hb
  refine ⟨_, ps_while hp pc pb, fun e ι B H ρ O σ D' r q => ?_⟩
  unfold whileS at q
  split at q
  · rename_i h
    exact EvS.whileF ec eb h.choose e ι B H ρ O σ D' r q
  · exact q.elim

/-! ### the reading that a function gives -/
def canon {β α : Type} (X : Cx) (Wx : WX) (R : RV β α) (m : ME α) : St → Hp → (β → Hp → Prop) → Prop := fun σ H Q => ∃ e ι B ρ O, Rel X.K X.mg (en X e) ι B H ρ O σ ∧ EvP X Wx R e ι B ρ σ Q (m ρ O)
theorem EX.pe {m : ME D} (h : EX X Wx a m) : PE X a (canon X Wx (rD X) m) := by
  obtain ⟨t, pt, et⟩ := h
  exact ⟨fun pins s σ H Q I ⟨e, ι, B, ρ, O, r, q⟩ => pt.run pins s σ H Q I (et e ι B H ρ O σ Q r q)⟩
theorem canon_ev {β α : Type} {R : RV β α} {m : ME α} : Ev X Wx R (canon X Wx R m) m := fun e ι B H ρ O σ Q r q => ⟨e, ι, B, ρ, O, r, q⟩
/-- tests of a comprehension -/
def ETs (X : Cx) (Wx : WX) (es : List Expr) (m : ME Bool) : Prop := ∃ t, PTs X es t ∧ Ev X Wx (rQ Bool) t m
theorem ets_nil : ETs X Wx [] (pureE true) := ⟨_, pts_nil, fun e ι B H ρ O σ Q r q => EvP.ok r q rfl⟩
theorem ets_one {m : ME Bool} (h : ET X Wx c m) : ETs X Wx [c] m := by
  obtain ⟨t, pt, et⟩ := h
  exact ⟨_, pts_one pt, et⟩
theorem ETs.pts {es : List Expr} {m : ME Bool} (h : ETs X Wx es m) : PTs X es (canon X Wx (rQ Bool) m) := by
  obtain ⟨t, pt, et⟩ := h
  exact ⟨fun pins s σ H Q I ⟨e, ι, B, ρ, O, r, q⟩ => pt.run pins s σ H Q I (et e ι B H ρ O σ Q r q)⟩
/-- a target that stores in the slots vs alone -/
def EvGW (X : Cx) (g : TG) (vs : List Nat) (f : D → MS) : Prop := ∀ x d e ι B H ρ O σ (Q : St → Hp → Prop), Rel X.K X.mg (en X e) ι B H ρ O σ → DA X.K ι B x d →
  (match f d ρ O with
    | .nx ρ' O' => ∀ ι' B' H' σ', Rel X.K X.mg (en X e) ι' B' H' ρ' O' σ' → Pre ι ι' → Same B B' → L2.wipe σ' vs = L2.wipe σ vs → Q σ' H'
    | _ => False) → g x σ H Q
theorem evgw_name (i : Nat) : EvGW X (gName i) [i] (nameG i) := fun x d e ι B H ρ O σ Q r hx q => q ι B H _ (r.set' hx) (Pre.refl _) (Same.refl _) (by
  show (σ.set i (some x)).set i none = σ.set i none
  rw [List.set_set])
theorem wipe_comm (σ : St) (i : Nat) (o : Option V) : ∀ vs : List Nat, L2.wipe (σ.set i o) vs = (L2.wipe σ vs).set i (if i ∈ vs then none else o)
  | [] => by
    rw [if_neg (by simp)]
    rfl
  | v :: vs => by
    show (L2.wipe (σ.set i o) vs).set v none = ((L2.wipe σ vs).set v none).set i _
    rw [wipe_comm σ i o vs]
    by_cases h : i = v
    · subst h
      rw [List.set_set, if_pos (by simp), List.set_set]
    · rw [List.set_comm _ _ h]
      congr 1
      by_cases h2 : i ∈ vs
      · rw [if_pos h2, if_pos (List.mem_cons_of_mem _ h2)]
      · rw [if_neg h2, if_neg (by simp only [List.mem_cons, not_or]; exact ⟨h, h2⟩)]
theorem wipe_wipe (σ : St) : ∀ vs ws : List Nat, (∀ v ∈ vs, v ∈ ws) → L2.wipe (L2.wipe σ vs) ws = L2.wipe σ ws
  | [], _, _ => rfl
  | v :: vs, ws, h => by
    show L2.wipe ((L2.wipe σ vs).set v none) ws = _
    rw [wipe_comm, wipe_wipe σ vs ws fun u hu => h u (List.mem_cons_of_mem _ hu), ite_self]
    have hv : v ∈ ws := h v List.mem_cons_self
    clear h
    induction ws with
    | nil => cases hv
    | cons w ws ih =>
      show ((L2.wipe σ ws).set w none).set v none = (L2.wipe σ ws).set w none
      by_cases e : v = w
      · subst e; rw [List.set_set]
      · rw [List.set_comm _ _ (Ne.symm e), ih ((List.mem_cons.mp hv).resolve_left e)]

/-! ### [e for x in xs if t] -/
def compL (vs : List Nat) (f : D → MS) (mt : ME Bool) (me : ME D) : List D → List D → ME (List D)
  | [], acc, ρ, O => .ok acc O
  | d :: ds, acc, ρ, O => match f d (bareR vs ρ) O with
    | .nx ρ1 O1 => match mt ρ1 O1 with
      | .ok true O2 => match me ρ1 O2 with
        | .ok y O3 => if acc.length < sizeLine then compL vs f mt me ds (acc ++ [y]) ρ O3 else .bad
        | _ => .bad
      | .ok false O2 => compL vs f mt me ds acc ρ O2
      | _ => .bad
    | _ => .bad
def compM (vs : List Nat) (mi : ME (List D)) (f : D → MS) (mt : ME Bool) (me : ME D) : ME Cell := bindE mi fun ds => bindE (compL vs f mt me ds []) fun ys => pureE (.lst ys)
abbrev WF : WX := fun _ _ _ _ => False
theorem compL_noerr {vs : List Nat} {f : D → MS} {mt : ME Bool} {me : ME D} {c : Str} {p : D} {O' : Sto} : ∀ {ds acc : List D} {ρ : Rho} {O : Sto}, compL vs f mt me ds acc ρ O ≠ .err c p O'
  | [], _, _, _, h => by cases h
  | d :: ds, acc, ρ, O, h => by
    unfold compL at h
    split at h
    · split at h
      · split at h
        · split at h
          · exact compL_noerr h
          · cases h
        · cases h
      · exact compL_noerr h
      · cases h
    · cases h
theorem EvN.comp {wi : TI} {g : TG} {tt : TT} {te : TE} {vs : List Nat} {mi : ME (List D)} {f : D → MS} {mt : ME Bool} {me : ME D} (hi : EvI X Wx wi mi) (hg : EvGW X g vs f) (ht : Ev X WF (rQ Bool) tt mt) (he : Ev X WF (rD X) te me) :
    EvN X Wx (tLc wi g tt te vs) (compM vs mi f mt me) := by
  intro e ι B H ρ O σ Q r q
  refine hi e ι B H ρ O σ _ r ?_
  simp only [compM, bindE] at q
  cases z : mi ρ O with
  | bad => rw [z] at q; exact q
  | err c p O' => rw [z] at q; exact q
  | ok ds O' =>
    rw [z] at q
    dsimp only at q
    intro ι' B' H' J r' i' b' wk D hD
    obtain ⟨rD0, f1, f2, f3⟩ := r'.fresh hD (.lst [])
    have nD := r'.notOwn hD
    -- what is left of the list is made
    refine ⟨fun i mm H => mm = ds.length - i ∧ i ≤ ds.length ∧ ∃ O ι2 B2 accV acc, Rel X.K X.mg (en X e) ι2 B2 H ρ O σ ∧ Pre ι' ι2 ∧ Same B' B2 ∧ H D = some (.lst accV) ∧ B2 D = none ∧ D ∉ ι2 ∧ Paired (DA X.K ι2 B2) accV acc ∧
      (match compL vs f mt me (ds.drop i) acc ρ O with
      | .ok ys O2 => ∀ ι3 B3 H3 yv, Rel X.K X.mg (en X e) ι3 B3 H3 ρ O2 σ → Pre ι' ι3 → Same B' B3 → H3 D = some (.lst yv) → B3 D = none → D ∉ ι3 → Paired (DA X.K ι3 B3) yv ys → Q (.ref D) H3
      | .err _ _ _ => False
      | .bad => False), ⟨ds.length, by simp, Nat.zero_le _, O', ι', B', [], [], rD0, Pre.refl _, Same.refl _, upd_same, f1, f3, .nil, ?_⟩, ?_⟩
    · rw [List.drop_zero]
      cases z2 : compL vs f mt me ds [] ρ O' with
      | bad => rw [z2] at q; exact q
      | err c p O2 => exact absurd z2 compL_noerr
      | ok ys O2 =>
        rw [z2] at q
        exact fun ι3 B3 H3 yv r3 i3 b3 h1 h2 h3 h4 => q ι3 B3 H3 D r3 (i'.trans i3) (b'.trans b3) ⟨yv, h1, h4⟩ h2 f2 h3 nD
    · rintro i mm H ⟨rfl, hil, O, ι2, B2, accV, acc, r2, i2, b2, hDv, hDB, hDi, hacc, q2⟩
      have rb := r2.block vs (hot := (en X ⟨ι2, B2, H, none⟩).hot)
      obtain ⟨w1, w2⟩ := wk ⟨ι2, B2, H, none⟩ ι2 B2 H _ O _ i rb i2 b2
      by_cases hlt : i < ds.length
      · have hd : ds[i]? = some ds[i] := List.getElem?_eq_getElem hlt
        have hdr : ds.drop i = ds[i] :: ds.drop (i + 1) := List.drop_eq_getElem_cons hlt
        rw [hdr] at q2
        unfold compL at q2
        obtain ⟨go, step⟩ := w1 _ hd
        refine .inr ⟨go, fun H' => i + 1 ≤ ds.length ∧ ∃ O ι2 B2 accV acc, Rel X.K X.mg (en X e) ι2 B2 H' ρ O σ ∧ Pre ι' ι2 ∧ Same B' B2 ∧ H' D = some (.lst accV) ∧ B2 D = none ∧ D ∉ ι2 ∧ Paired (DA X.K ι2 B2) accV acc ∧
          (match compL vs f mt me (ds.drop (i + 1)) acc ρ O with
          | .ok ys O2 => ∀ ι3 B3 H3 yv, Rel X.K X.mg (en X e) ι3 B3 H3 ρ O2 σ → Pre ι' ι3 → Same B' B3 → H3 D = some (.lst yv) → B3 D = none → D ∉ ι3 → Paired (DA X.K ι3 B3) yv ys → Q (.ref D) H3
          | .err _ _ _ => False
          | .bad => False), fun H' h => ⟨ds.length - (i + 1), by omega, rfl, h⟩, fun x H3 y => ?_⟩
        obtain ⟨B3, r3, b3, s3, hx⟩ := step x H3 y
        refine hg x _ _ ι2 B3 H3 _ O _ _ r3 hx ?_
        cases z2 : f ds[i] (bareR vs ρ) O with
        | nx ρ1 O1 =>
          rw [z2] at q2
          dsimp only at q2
          intro ι4 B4 H4 σ4 r4 i4 b4 hw
          refine ⟨by rw [hw]; exact wipe_wipe σ vs vs (fun _ h => h), ?_⟩
          refine ht _ ι4 B4 H4 ρ1 O1 σ4 _ r4 ?_
          -- behind a turn
          have back : ∀ {ι5 : List Addr} {B5 H5 : Hp} {O5 : Sto} {ρ5 : Rho} {σ5 : St}, Rel X.K X.mg (en X ⟨ι2, B2, H, none⟩) ι5 B5 H5 ρ5 O5 σ5 → Rel X.K X.mg (en X e) ι5 B5 H5 ρ O5 σ ∧ H5 D = some (.lst accV) ∧ B5 D = none ∧ D ∉ ι5 := fun {ι5 B5 H5 O5 ρ5 σ5} r5 => by
            refine ⟨r2.after r5.bare, r5.fH D _ hDv hDi (r2.nt hDv fun ps z => by cases z), ?_, fun m => ?_⟩
            · cases z5 : B5 D with
              | none => rfl
              | some o =>
                rcases r5.fB D o z5 with y | y
                · have y' : B2 D = some o := y
                  rw [hDB] at y'; cases y'
                · have y' : H D = none := y
                  rw [hDv] at y'; cases y'
            · rcases r5.fi D m with y | y
              · exact hDi y
              · have y' : H D = none := y
                rw [hDv] at y'; cases y'
          cases z3 : mt ρ1 O1 with
          | bad => rw [z3] at q2; exact q2.elim
          | err c p O2 => rw [z3] at q2; exact q2.elim
          | ok k O2 =>
            rw [z3] at q2
            intro ι5 B5 H5 k' r5 i5 b5 hk
            cases hk
            cases k with
            | false =>
              dsimp only at q2
              rw [if_neg Bool.false_ne_true]
              obtain ⟨r6, h1, h2, h3⟩ := back r5
              exact ⟨hlt, O2, ι5, B5, accV, acc, r6, ((i2.trans i4).trans i5), ((b2.trans b3).trans b4).trans b5, h1, h2, h3, DA.monos ((b3.trans b4).trans b5) (i4.trans i5) _ _ hacc, q2⟩
            | true =>
              dsimp only at q2
              rw [if_pos rfl]
              refine he _ ι5 B5 H5 ρ1 O2 σ4 _ r5 ?_
              cases z4 : me ρ1 O2 with
              | bad => rw [z4] at q2; exact q2.elim
              | err c p O3 => rw [z4] at q2; exact q2.elim
              | ok y O3 =>
                rw [z4] at q2
                dsimp only at q2
                intro ι6 B6 H6 yv r6 i6 b6 hy
                obtain ⟨r7, h1, h2, h3⟩ := back r6
                have hacc6 := DA.monos (((b3.trans b4).trans b5).trans b6) ((i4.trans i5).trans i6) _ _ hacc
                by_cases hz : acc.length < sizeLine
                · rw [if_pos hz] at q2
                  exact ⟨accV, h1, by rw [paired_len hacc]; exact hz, hlt, O3, ι6, B6, accV ++ [yv], acc ++ [y], r7.poke h2 (.inl f2) nD h3 (r7.nt h1 fun ps z => by cases z), ((i2.trans i4).trans i5).trans i6, (((b2.trans b3).trans b4).trans b5).trans b6, upd_same, h2, h3, paired_app hacc6 (.cons hy .nil), q2⟩
                · rw [if_neg hz] at q2
                  exact q2.elim
        | bk ρ' O' => rw [z2] at q2; exact q2.elim
        | ct ρ' O' => rw [z2] at q2; exact q2.elim
        | ret x O' => rw [z2] at q2; exact q2.elim
        | err c p ρ' O' => rw [z2] at q2; exact q2.elim
        | bad => rw [z2] at q2; exact q2.elim
      · have hi : ds.length ≤ i := by omega
        rw [List.drop_eq_nil_of_le hi] at q2
        exact .inl ⟨w2 hi, q2 ι2 B2 H accV r2 i2 b2 hDv hDB hDi hacc⟩
section
variable {elt : Expr} {ifs : List Expr} {scope : Scope} {own : List (Str × Nat)} {mi : ME (List D)} {f : D → MS} {mt : ME Bool} {me : ME D} {g : TG}
theorem en_blk (hc : X.calm = true) {s : Shared} {H : Hp} {sc : Scope} {ev : Env} {fp : List Addr} (e : Ent) : en (X.blk s H sc ev fp) e = en X e := by
  show Ent.mk _ _ _ (cond X.calm _ _) = Ent.mk _ _ _ (cond X.calm _ _)
  rw [hc]
  rfl
theorem EvP.blk (hc : X.calm = true) {β α : Type} {R : RV β α} {s : Shared} {H : Hp} {sc : Scope} {ev : Env} {fp : List Addr} {e : Ent} {ι : List Addr} {B : Hp} {ρ : Rho} {σ : St} {Q : β → Hp → Prop} {r : RE α} (h : EvP X WF R e ι B ρ σ Q r) : EvP (X.blk s H sc ev fp) WF R e ι B ρ σ Q r := by
  cases r with
  | ok d O' => exact fun ι' B' H' v r' => h ι' B' H' v (by rw [en_blk hc] at r'; exact r')
  | err c p O' => exact fun ι' B' H' C dx r' => h ι' B' H' C dx (by rw [en_blk hc] at r'; exact r')
  | bad => exact h
theorem EX.peB (hc : X.calm = true) {a : Expr} {s : Shared} {H : Hp} {sc : Scope} {ev : Env} {fp : List Addr} {m : ME D} (h : EX (X.blk s H sc ev fp) WF a m) : PE (X.blk s H sc ev fp) a (canon X WF (rD X) m) := by
  obtain ⟨t, pt, et⟩ := h
  exact ⟨fun pins s σ H Q I ⟨e, ι, B, ρ, O, r, q⟩ => pt.run pins s σ H Q I (et e ι B H ρ O σ Q (by rw [en_blk hc]; exact r) (EvP.blk hc q))⟩
theorem ETs.ptsB (hc : X.calm = true) {es : List Expr} {s : Shared} {H : Hp} {sc : Scope} {ev : Env} {fp : List Addr} {m : ME Bool} (h : ETs (X.blk s H sc ev fp) WF es m) : PTs (X.blk s H sc ev fp) es (canon X WF (rQ Bool) m) := by
  obtain ⟨t, pt, et⟩ := h
  exact ⟨fun pins s σ H Q I ⟨e, ι, B, ρ, O, r, q⟩ => pt.run pins s σ H Q I (et e ι B H ρ O σ Q (by rw [en_blk hc]; exact r) (EvP.blk hc q))⟩
theorem en_comp (hc : X.calm = true) (hN : X.N.Nodup) (hi : EI X Wx tg it mi) (ok : BlkOk X.N X.env.scope scope own)
    (hg : ∀ (s : Shared) (H : Hp) (C : Addr) (cl : List (Str × Addr)) (fp : List Addr), PG (X.blk s H scope (compEnvC scope cl C X.env) fp) tg g) (eg : EvGW X g (own.map (·.2)) f)
    (ht : ∀ (s : Shared) (H : Hp) (C : Addr) (cl : List (Str × Addr)) (fp : List Addr), ETs (X.blk s H scope (compEnvC scope cl C X.env) fp) WF ifs mt)
    (he : ∀ (s : Shared) (H : Hp) (C : Addr) (cl : List (Str × Addr)) (fp : List Addr), EX (X.blk s H scope (compEnvC scope cl C X.env) fp) WF elt me) (hs : ∀ x, foldedSetIterable it X.env x = pure x := by intro _; rfl) :
    EN X Wx (.ListComp elt [⟨tg, it, ifs, 0⟩] scope pos) (compM (own.map (·.2)) mi f mt me) := by
  obtain ⟨wi, pi, ei⟩ := hi
  refine ⟨_, pe_lc (g := g) (tt := canon X WF (rQ Bool) mt) (te := canon X WF (rD X) me) hc hN pi ok hg (fun s H C cl fp => (ht s H C cl fp).ptsB hc) (fun s H C cl fp => (he s H C cl fp).peB hc) hs, EvN.comp ei eg canon_ev canon_ev⟩
theorem es_newLc {y : Str} {py spos : Pos} (i : Nat) (hc : X.calm = true) (hN : X.N.Nodup) (hi : EI X Wx tg it mi) (ok : BlkOk X.N X.env.scope scope own)
    (hg : ∀ (s : Shared) (H : Hp) (C : Addr) (cl : List (Str × Addr)) (fp : List Addr), PG (X.blk s H scope (compEnvC scope cl C X.env) fp) tg g) (eg : EvGW X g (own.map (·.2)) f)
    (ht : ∀ (s : Shared) (H : Hp) (C : Addr) (cl : List (Str × Addr)) (fp : List Addr), ETs (X.blk s H scope (compEnvC scope cl C X.env) fp) WF ifs mt)
    (he : ∀ (s : Shared) (H : Hp) (C : Addr) (cl : List (Str × Addr)) (fp : List Addr), EX (X.blk s H scope (compEnvC scope cl C X.env) fp) WF elt me)
    (hy : X.N[i]? = some y := by rfl) (hyl : X.env.scope.names.lookup y = some .local := by rfl)
    (hsw : swapsWith (.ListComp elt [⟨tg, it, ifs, 0⟩] scope pos) (some (.Name y py)) spos.line X.env = pure true := by exact sw_true rfl rfl rfl (by decide +kernel)) (hs : ∀ x, foldedSetIterable it X.env x = pure x := by intro _; rfl) :
    ES X Wx (.Assign [.Name y py] (.ListComp elt [⟨tg, it, ifs, 0⟩] scope pos) spos) (newS i (compM (own.map (·.2)) mi f mt me)) := by
  obtain ⟨wi, pi, ei⟩ := hi
  exact ⟨_, ps_setLc (g := g) (tt := canon X WF (rQ Bool) mt) (te := canon X WF (rD X) me) hc hN hy hyl hsw pi ok hg (fun s H C cl fp => (ht s H C cl fp).ptsB hc) (fun s H C cl fp => (he s H C cl fp).peB hc) hs, EvS.new (EvN.comp ei eg canon_ev canon_ev)⟩
end
/-- a new list, frozen -/
def thawM (m : ME Cell) : ME D := bindE m fun c => match c with
  | .lst xs => pureE (.lst xs)
  | _ => badE
theorem EN.frz {m : ME Cell} (h : EN X Wx a m) : EX X Wx a (thawM m) := by
  obtain ⟨t, pt, et⟩ := h
  refine ⟨t, pt, fun e ι B H ρ O σ Q r q => et e ι B H ρ O σ Q r ?_⟩
  simp only [thawM, bindE] at q
  cases z : m ρ O with
  | bad => rw [z] at q; exact q
  | err c p O' => rw [z] at q; exact q
  | ok c O' =>
    rw [z] at q
    dsimp only at q
    intro ι' B' H' a r' i' b' h1 h2 h3 h4 h5
    cases c with
    | lst xs =>
      obtain ⟨vs, h1, h6⟩ := h1
      obtain ⟨r3, b3⟩ := r'.freezeAt h1 h2 h3 h4 h5
      exact q ι' _ H' _ r3 i' (b'.trans b3) (.lst upd_same (DA.monos b3 (Pre.refl _) _ _ h6))
    | _ => exact q.elim
end
end DL

set_option Elab.async false
set_option linter.all false
set_option maxRecDepth 100000
namespace DL
open PySem L2
variable [Tabs]

/-! ### a def of the text, callable -/
/-- the def st stands under the name x -/
def Df (K : PySem.W.Frag) (mg : Mg) (x qual : Str) (st : Stmt) (ps : List Str) : Prop := ∃ (a : Addr) (fd : FuncData), mg x = some (.ref a) ∧ Fun K x qual st a fd ∧ ∀ (s : Shared) (us : List Value), us.length = ps.length → BindsTo s fd ⟨us, []⟩ (ps.zip us)
/-- under the name x stands a def that does what f says -/
def Cal (P : Program) (w : World) (K : PySem.W.Frag) (mg : Mg) (base : Heap) (k : Nat) (x : Str) (n : Nat) (f : MF) : Prop :=
  ∃ (a : Addr) (fd : FuncData) (ps : List Str), mg x = some (.ref a) ∧ PySem.W.keepIn K (.ref a) = true ∧ Binds K fd ps [] ∧ FnOk P w K mg base (L2.CX P w) k a fd ps (spF K mg n f)
theorem df_mk {K : PySem.W.Frag} {h : Heap} {mg : Mg} {x qual : Str} {st : Stmt} {ps : List Str} {f : Addr} (X : K.In h) (G : h.Ns mainGlobals mg)
    {od an : Option Addr} {sl : Array (Option Value)} {oc kV dc pm cd ct : Value}
    (a : PySem.W.nsIn K mainGlobals x = some (some (.ref f))) (l : K.lookup f = some ⟨oc, od, .func (PySem.W.fnOf x qual (defArgs st) (defBody st) (defScope st) .none kV dc pm an cd ct), sl⟩) (c : PySem.W.codeIn K cd qual = true) (k : PySem.W.keepIn K (.ref f) = true)
    (b : ∀ (kV doc pm : Value) (an : Option Addr) (cdv ct : Value) (us : List Value), us.length = ps.length → bindArgs (PySem.W.fnOf x qual (defArgs st) (defBody st) (defScope st) .none kV doc pm an cdv ct) ⟨us, []⟩ = pure (ps.zip us)) : Df K mg x qual st ps := by
  have F := fun_mk (st := st) l c k
  exact ⟨f, _, PySem.W.mg_of X G a, F, fun s us h => .of_eq (b _ _ _ _ _ _ us h)⟩
section
variable {P : Program} {w : World} {K : PySem.W.Frag} {mg : Mg} {base : Heap} {x qual : Str} {st : Stmt} {N ps : List Str} {k : Nat} {m : MS}
/-- the body's derivation, at every entry -/
def Bod (P : Program) (w : World) (K : PySem.W.Frag) (mg : Mg) (base : Heap) (qual : Str) (st : Stmt) (N : List Str) (k : Nat) (m : MS) : Prop :=
  ∀ (f : Addr) (cdv : Value) (A : Around) (outer : List Env) (s : Shared) (H : Hp) (E : XK), Room k (A.deeper (PyProof.Rows.envOfC qual (defScope st) s.heap.objs.size f cdv)) →
      EB (cxOf (L2.CX P w) P w K mg base N qual (defScope st) f cdv A outer s H E) (fun cls d _ H => E cls d H) (defBody st) m
theorem cal_of (D : Df K mg x qual st ps) (S : FnScope N ps (defScope st)) (b : Bod P w K mg base qual st N k m) : Cal P w K mg base (k + 1) x ps.length (runF N.length m) := by
  obtain ⟨a, fd, hm, F, hb⟩ := D
  exact ⟨a, fd, ps, hm, F.kp, fun s us _ h => by rw [List.append_nil] at h ⊢; exact hb s us h, fn_ok F S (b a)⟩
end
section
variable {X : Cx} {Wx : WX} {pos : Pos} {n k k' : Nat} {f : MF} {x : Str} {p : Pos} {e : Expr} {es : List Expr} {m : ME (List D)}
theorem ex_cal (tk : Takes X Wx) (C : Cal X.prog X.w X.K X.mg X.base k x n f) (hr : Room k' X.A) (ha : EA X Wx (e :: es) m) (hl : LenA m n) (hk : k ≤ k' := by decide) (hg : Gl X x := by rfl) (hdb : (x == ("__debug__" : Str)) = false := by decide)
    (he : starEach (e :: es) X.env = (false, eval e X.env) :: starEach es X.env := by rfl) (hpl : (backTo pos (starEach es X.env)).any (·.1) = false := by rfl) : EX X Wx (.Call (.Name x p) (e :: es) [] pos) (callF f [] m) := by
  obtain ⟨a, fd, ps, hm, hkp, hb, F⟩ := C
  exact ex_call tk F (hr.mono hk) hm hkp hb .nil (fun _ _ => .nil) ha hl rfl hg hdb he hpl
theorem en_cal (tk : Takes X Wx) (C : Cal X.prog X.w X.K X.mg X.base k x n f) (hr : Room k' X.A) (ha : EA X Wx (e :: es) m) (hl : LenA m n) (hk : k ≤ k' := by decide) (hg : Gl X x := by rfl) (hdb : (x == ("__debug__" : Str)) = false := by decide)
    (he : starEach (e :: es) X.env = (false, eval e X.env) :: starEach es X.env := by rfl) (hpl : (backTo pos (starEach es X.env)).any (·.1) = false := by rfl) : EN X Wx (.Call (.Name x p) (e :: es) [] pos) (callN f [] m) := by
  obtain ⟨a, fd, ps, hm, hkp, hb, F⟩ := C
  exact en_call tk F (hr.mono hk) hm hkp hb .nil (fun _ _ => .nil) ha hl rfl hg hdb he hpl
end

/-! ### the end -/
/-- the law's own promise -/
def spLaw (K : PySem.W.Frag) : Sp := fun vs H Q _ => ∃ (a : Addr) (ns : List Int), vs = [.ref a] ∧ SqL K H a (ns.map V.int) ∧ ns.length ≤ 63 ∧ (∀ P ∈ Tabs.ts, H P = some (.tbl #[])) ∧ ∀ H', Q (.bl true) H'
/-- what is to be shown of the law's function -/
def LawTrue (f : MF) : Prop := ∀ ns : List Int, ns.length ≤ 63 → ∃ O', f [.sea (ns.map .int)] [] = .ok (.shr (.bl true)) O'
theorem paired_ints {K : PySem.W.Frag} {ι : List Addr} {B : Hp} : ∀ ns : List Int, Paired (DA K ι B) (ns.map V.int) (ns.map D.int)
  | [] => .nil
  | n :: ns => .cons (.int n) (paired_ints ns)
theorem spLaw_of {K : PySem.W.Frag} {mg : Mg} {f : MF} (h : LawTrue f) (vs : List V) (H : Hp) (Q : VK) (E : XK) (q : spLaw K vs H Q E) : spF K mg 1 f vs H Q E := by
  obtain ⟨a, ns, rfl, hs, hl, ht, k⟩ := q
  obtain ⟨O', e⟩ := h ns hl
  have hsub : Same (fun b => if b ∈ Tabs.ts then none else H b) H := fun b o q => by
    dsimp only at q
    split at q
    · cases q
    · exact q
  have hs' : SqL K (fun b => if b ∈ Tabs.ts then none else H b) a (ns.map V.int) := by
    rcases hs with hs | hs
    · refine .inl ?_
      have na : a ∉ Tabs.ts := fun m => by
        have q := ht a m
        rcases hs with hs | ⟨o, hs⟩
        · rw [q] at hs; cases hs
        · rw [q] at hs; cases hs
      rcases hs with hs | ⟨o, hs⟩
      · exact .inl ((if_neg na).trans hs)
      · exact .inr ⟨o, (if_neg na).trans hs⟩
    · exact .inr hs
  refine ⟨[.sea (ns.map .int)], [], fun b => if b ∈ Tabs.ts then none else H b, [], ⟨hsub, Same.refl _, Pre.refl _, fun a o h => .inl h, fun a o h m _ => h, fun a h => .inl h, rfl, fun i x h => by simp at h, fun i j a c c' h => by simp at h, rfl, fun n c a h => by simp at h, .nil, fun P m => ⟨if_pos m, #[], ht P m, True.intro⟩⟩, .cons (.sea hs' (paired_ints ns)) .nil, rfl, ?_⟩
  rw [e]
  intro ι' B' H' v r hv
  cases hv
  exact k H'
theorem law_end {l : PySem.W.OpenLaw} {q : Program} {loose : List Str} {XP : (Str → Option Value) → Heap → Prop} {YP : World → Heap → Prop} {d : DefRec} {K : Params → PySem.W.Frag} {qual : Str} {st : Stmt} {N : List Str} {x : Str} {k : Nat} {m : MS} (hn : l.most = some 63) (hdf : d.params.defaults = [])
    (S : FnScope N [x] (defScope st)) (hr : Room (k + 1) callerA)
    (hY : ∀ (w : World) (h : Heap), YP w h → (K w.params).In h)
    (hD : ∀ (w : World) (mg : Mg) (h : Heap), (K w.params).In h → h.Ns mainGlobals mg → Df (K w.params) mg d.name qual st [x])
    (hb : ∀ (w : World) (mg : Mg) (h : Heap), (K w.params).In h → h.Ns mainGlobals mg → ∀ base : Heap, Bod l.prog w (K w.params) mg base qual st N k m)
    (true_ : LawTrue (runF N.length m)) (h0 : Tabs.ts = [] := by rfl) :
    PySem.W.WalkO q loose XP YP l.row.toRowW d [] (fun f vs => PySem.call f vs) := by
  refine L2.walk_of (n := 63) (k := k + 1) (x := x) (CX := fun w => L2.CX l.prog w) (sp := fun w => spLaw (K w.params)) hn (by decide) hdf hr hY (fun w mg fa h KX G hmg => ?_) (fun w H a ns hl _ hS => ⟨a, ns, rfl, hS, hl, fun P m => (by rw [h0] at m; cases m), fun _ => rfl⟩) fun w H s e s' z => ?_
  · obtain ⟨a, fd, hm, F, hbi⟩ := hD w mg h KX G
    rw [hmg] at hm
    cases hm
    exact ⟨fd, fun s u => hbi s [u] rfl, fun base _ _ => (fn_ok F S (hb w mg h KX G base fa)).imp (spLaw_of true_)⟩
  · obtain ⟨_, _, _, _, _, _, _, _, _, _, _, _, z⟩ := z
    exact z.elim
end DL

set_option Elab.async false
set_option linter.all false
set_option maxRecDepth 100000
namespace DL
open PySem L2
variable [Tabs]
section
variable {X : Cx} {Wx : WX} {a b c tg : Expr} {pos : Pos} {ma mb mc : ME D}
theorem ex_gint' {x : Str} {i : Int} {pos : Pos} (hm : ∃ t, X.mg x = some (.int i t)) (hg : Gl X x := by rfl) (hd : (x == ("__debug__" : Str)) = false := by decide) : EX X Wx (.Name x pos) (cM (.int i)) := by
  obtain ⟨t, h⟩ := hm
  exact ex_gint h hg hd
theorem ex_gstr' {x : Str} {i : Str} {pos : Pos} (hm : ∃ t, X.mg x = some (.str i t)) (hg : Gl X x := by rfl) (hd : (x == ("__debug__" : Str)) = false := by decide) : EX X Wx (.Name x pos) (cM (.str i)) := by
  obtain ⟨t, h⟩ := hm
  exact ex_gstr h hg hd
theorem gint_mk {K : PySem.W.Frag} {h : Heap} {mg : Mg} {x : Str} {i : Int} {t : Tok} (KX : K.In h) (G : h.Ns mainGlobals mg) (z : PySem.W.nsIn K mainGlobals x = some (some (.int i t))) : ∃ t, mg x = some (.int i t) := ⟨t, PySem.W.mg_of KX G z⟩
theorem gstr_mk {K : PySem.W.Frag} {h : Heap} {mg : Mg} {x : Str} {i : Str} {t : Tok} (KX : K.In h) (G : h.Ns mainGlobals mg) (z : PySem.W.nsIn K mainGlobals x = some (some (.str i t))) : ∃ t, mg x = some (.str i t) := ⟨t, PySem.W.mg_of KX G z⟩
theorem sl_all : SlR X (rSlAll X.K) := (sl_list.or sl_str).or sl_tupA
abbrev rngM (m : ME (List D)) : ME (List D) := bindE m fun ds => optE (rangeD ds)
/-- what is walked: a list, a tuple, a text's signs -/
def walkD : D → Option (List D)
  | .lst xs => some xs
  | .sea xs => some xs
  | .tup xs => some xs
  | .str y => some (y.cps.toList.map fun c => .str ⟨#[c]⟩)
  | _ => none
abbrev itM (m : ME D) : ME (List D) := bindE m fun d => optE (walkD d)
theorem ei_any (h : EX X Wx a ma) : EI X Wx tg a (itM ma) := by
  have h0 := h
  obtain ⟨wl, pl, el⟩ := ei_list (tg := tg) h
  obtain ⟨wt, pt, et⟩ := ei_tup (tg := tg) h
  obtain ⟨ws, ps, es⟩ := ei_str (tg := tg) h.z
  refine ⟨fun σ H R => wl σ H R ∨ wt σ H R ∨ ws σ H R, ⟨fun pins s σ H R I h => ?_⟩, fun e ι B H ρ O σ R r q => ?_⟩
  · rcases h with h | h | h
    · exact pl.run pins s σ H R I h
    · exact pt.run pins s σ H R I h
    · exact ps.run pins s σ H R I h
  · simp only [itM, bindE] at q
    cases z : ma ρ O with
    | bad => rw [z] at q; exact q.elim
    | err c p O' =>
      rw [z] at q
      exact .inl (el e ι B H ρ O σ R r (by simp only [bindE]; rw [z]; exact q))
    | ok d O' =>
      rw [z] at q
      dsimp only at q
      cases d with
      | lst xs => exact .inl (el e ι B H ρ O σ R r (by simp only [bindE]; rw [z]; exact q))
      | sea xs => exact .inl (el e ι B H ρ O σ R r (by simp only [bindE]; rw [z]; exact q))
      | tup xs => exact .inr (.inl (et e ι B H ρ O σ R r (by simp only [bindE]; rw [z]; exact q)))
      | str y => exact .inr (.inr (es e ι B H ρ O σ R r (by simp only [bindE]; rw [z]; exact q)))
      | _ => exact q.elim
end
end DL

set_option Elab.async false
set_option linter.all false
set_option maxRecDepth 100000
/-! DLEval: how the functions run: equations at a state. -/
namespace DL
open PySem L2
variable [Tabs]
section
variable {α β : Type} {ρ ρ' : Rho} {O O' : Sto} {a b m n : MS} {ma mb mc : ME D} {t u : ME Bool} {d : D}
theorem seqS_nx (h : a ρ O = .nx ρ' O') : seqS a b ρ O = b ρ' O' := by unfold seqS; rw [h]
theorem seqS_ret {x : SD} (h : a ρ O = .ret x O') : seqS a b ρ O = .ret x O' := by unfold seqS; rw [h]
theorem bindS_ok {m : ME α} {f : α → MS} {x : α} (h : m ρ O = .ok x O') : bindS m f ρ O = f x ρ O' := by unfold bindS; rw [h]
theorem bindE_ok {m : ME α} {f : α → ME β} {x : α} (h : m ρ O = .ok x O') : bindE m f ρ O = f x ρ O' := by unfold bindE; rw [h]
theorem ifS_ap (t : ME Bool) (m n : MS) (ρ : Rho) (O : Sto) : ifS t m n ρ O = match t ρ O with
  | .ok true O' => m ρ O'
  | .ok false O' => n ρ O'
  | .err c p O' => .err c p ρ O'
  | .bad => .bad := by
  unfold ifS bindS
  cases t ρ O with
  | ok b O' => cases b <;> rfl
  | err c p O' => rfl
  | bad => rfl
theorem ifM_ap {α : Type} (t : ME Bool) (m n : ME α) (ρ : Rho) (O : Sto) : ifM t m n ρ O = match t ρ O with
  | .ok true O' => m ρ O'
  | .ok false O' => n ρ O'
  | .err c p O' => .err c p O'
  | .bad => .bad := by
  unfold ifM bindE
  cases t ρ O with
  | ok b O' => cases b <;> rfl
  | err c p O' => rfl
  | bad => rfl
theorem andT_ap (t u : ME Bool) (ρ : Rho) (O : Sto) : andT t u ρ O = match t ρ O with
  | .ok true O' => u ρ O'
  | .ok false O' => .ok false O'
  | .err c p O' => .err c p O'
  | .bad => .bad := by
  unfold andT bindE
  cases t ρ O with
  | ok b O' => cases b <;> rfl
  | err c p O' => rfl
  | bad => rfl
theorem orT_ap (t u : ME Bool) (ρ : Rho) (O : Sto) : orT t u ρ O = match t ρ O with
  | .ok true O' => .ok true O'
  | .ok false O' => u ρ O'
  | .err c p O' => .err c p O'
  | .bad => .bad := by
  unfold orT bindE
  cases t ρ O with
  | ok b O' => cases b <;> rfl
  | err c p O' => rfl
  | bad => rfl
theorem andV_ap (m n : ME D) (ρ : Rho) (O : Sto) : andV m n ρ O = match m ρ O with
  | .ok (.bl true) O' => n ρ O'
  | .ok (.bl false) O' => .ok (.bl false) O'
  | .ok _ _ => .bad
  | .err c p O' => .err c p O'
  | .bad => .bad := by
  unfold andV bindE
  cases m ρ O with
  | ok d O' =>
    cases d with
    | bl b => cases b <;> rfl
    | _ => rfl
  | err c p O' => rfl
  | bad => rfl
theorem orV_ap (m n : ME D) (ρ : Rho) (O : Sto) : orV m n ρ O = match m ρ O with
  | .ok (.bl false) O' => n ρ O'
  | .ok (.bl true) O' => .ok (.bl true) O'
  | .ok _ _ => .bad
  | .err c p O' => .err c p O'
  | .bad => .bad := by
  unfold orV bindE
  cases m ρ O with
  | ok d O' =>
    cases d with
    | bl b => cases b <;> rfl
    | _ => rfl
  | err c p O' => rfl
  | bad => rfl
theorem chainM_ap (f g : D → D → Option D) (ma mb mc : ME D) (ρ : Rho) (O : Sto) : chainM f g ma mb mc ρ O = match ma ρ O with
  | .ok x O1 => match mb ρ O1 with
    | .ok y O2 => match f x y with
      | some (.bl true) => (match mc ρ O2 with
        | .ok z O3 => (match g y z with
          | some w => .ok w O3
          | none => .bad)
        | .err c p O' => .err c p O'
        | .bad => .bad)
      | some (.bl false) => .ok (.bl false) O2
      | _ => .bad
    | .err c p O' => .err c p O'
    | .bad => .bad
  | .err c p O' => .err c p O'
  | .bad => .bad := by
  unfold chainM bindE
  cases ma ρ O with
  | ok x O1 =>
    dsimp only
    cases mb ρ O1 with
    | ok y O2 =>
      dsimp only
      cases f x y with
      | none => rfl
      | some d =>
        cases d with
        | bl b =>
          cases b with
          | true =>
            simp only [optE, pureE, boolOnly, if_true]
            cases mc ρ O2 with
            | ok z O3 =>
              dsimp only
              cases g y z <;> rfl
            | err c p O' => rfl
            | bad => rfl
          | false => rfl
        | _ => rfl
    | err c p O' => rfl
    | bad => rfl
  | err c p O' => rfl
  | bad => rfl

/-! ### loops -/
/-- one turn: .nx goes on -/
def turnS (g : D → MS) (m : MS) (d : D) : MS := fun ρ O => match g d ρ O with
  | .nx ρ1 O1 => match m ρ1 O1 with
    | .ct ρ2 O2 => .nx ρ2 O2
    | r => r
  | _ => .bad
theorem loopS_nil {g : D → MS} : loopS g m [] ρ O = .nx ρ O := rfl
theorem loopS_cons {g : D → MS} {ds : List D} : loopS g m (d :: ds) ρ O = match turnS g m d ρ O with
  | .nx ρ' O' => loopS g m ds ρ' O'
  | .bk ρ' O' => .nx ρ' O'
  | r => r := by
  rw [loopS]
  unfold turnS
  cases g d ρ O with
  | nx ρ1 O1 =>
    dsimp only
    cases m ρ1 O1 <;> rfl
  | _ => rfl
/-- a loop by what holds at each rest -/
theorem loopS_by {g : D → MS} (P : List D → Rho → Sto → Prop) (Q : RS → Prop) (hn : ∀ ρ O, P [] ρ O → Q (.nx ρ O))
    (hc : ∀ d ds ρ O, P (d :: ds) ρ O → match turnS g m d ρ O with
      | .nx ρ' O' => P ds ρ' O'
      | .bk ρ' O' => Q (.nx ρ' O')
      | r => Q r) : ∀ (ds : List D) (ρ : Rho) (O : Sto), P ds ρ O → Q (loopS g m ds ρ O)
  | [], ρ, O, h => hn ρ O h
  | d :: ds, ρ, O, h => by
    rw [loopS_cons]
    have q := hc d ds ρ O h
    cases z : turnS g m d ρ O with
    | nx ρ' O' => rw [z] at q; exact loopS_by P Q hn hc ds ρ' O' q
    | bk ρ' O' => rw [z] at q; exact q
    | ct ρ' O' => rw [z] at q; exact q
    | ret x O' => rw [z] at q; exact q
    | err c p ρ' O' => rw [z] at q; exact q
    | bad => rw [z] at q; exact q
/-- a loop that only goes on: the state is R of what is folded -/
theorem loopS_fold {σ : Type} {g : D → MS} (R : σ → Rho) (f : σ → D → σ) (ds : List D) (h : ∀ s d, d ∈ ds → turnS g m d (R s) O = .nx (R (f s d)) O) (s : σ) : loopS g m ds (R s) O = .nx (R (ds.foldl f s)) O := by
  induction ds generalizing s with
  | nil => rfl
  | cons d ds ih =>
    rw [loopS_cons, h s d List.mem_cons_self]
    exact ih (fun s x hx => h s x (List.mem_cons_of_mem _ hx)) (f s d)
/-- .. with something that holds throughout -/
theorem loopS_foldI {σ : Type} {g : D → MS} (R : σ → Rho) (f : σ → D → σ) (I : σ → Prop) : ∀ (ds : List D) (s : σ), (∀ s d, d ∈ ds → I s → turnS g m d (R s) O = .nx (R (f s d)) O ∧ I (f s d)) → I s → loopS g m ds (R s) O = .nx (R (ds.foldl f s)) O ∧ I (ds.foldl f s)
  | [], s, _, h => ⟨rfl, h⟩
  | d :: ds, s, h, hs => by
    obtain ⟨h1, h2⟩ := h s d List.mem_cons_self hs
    rw [loopS_cons, h1]
    exact loopS_foldI R f I ds (f s d) (fun s x hx => h s x (List.mem_cons_of_mem _ hx)) h2
/-- a comprehension without a test whose element is f of the item -/
theorem compL_map {vs : List Nat} {g : D → MS} {me : ME D} {ρ : Rho} (f : D → D) (ds : List D) : ∀ (acc : List D), (∀ d, d ∈ ds → ∃ ρ1, g d (bareR vs ρ) O = .nx ρ1 O ∧ me ρ1 O = .ok (f d) O) → acc.length + ds.length ≤ sizeLine → compL vs g (pureE true) me ds acc ρ O = .ok (acc ++ ds.map f) O := by
  induction ds with
  | nil => intro acc _ _; rw [List.map_nil, List.append_nil]; rfl
  | cons d ds ih =>
    intro acc h hl
    obtain ⟨ρ1, h1, h2⟩ := h d List.mem_cons_self
    rw [List.length_cons] at hl
    unfold compL
    rw [h1]
    show (match me ρ1 O with | .ok y O3 => if acc.length < sizeLine then compL vs g (pureE true) me ds (acc ++ [y]) ρ O3 else .bad | _ => .bad) = _
    rw [h2]
    dsimp only
    rw [if_pos (by omega), ih (acc ++ [f d]) (fun x hx => h x (List.mem_cons_of_mem _ hx)) (by rw [List.length_append, List.length_singleton]; omega), List.map_cons, List.append_assoc]
    rfl
end

/-! ### ints -/
abbrev dI (ns : List Int) : List D := ns.map .int
abbrev dN (ns : List Nat) : List D := ns.map fun (n : Nat) => D.int (n : Int)
theorem pys_ints : ∀ ns : List Int, D.pys (dI ns) = some (ns.map .int)
  | [] => rfl
  | n :: ns => by
    show (match D.py (.int n), D.pys (dI ns) with
      | some a, some r => some (a :: r)
      | _, _ => none) = _
    rw [pys_ints ns]
    rfl
theorem canLay_ints : ∀ ns : List Int, PyData.canLayAll0 (ns.map .int) = true
  | [] => by simp [PyData.canLayAll0]
  | n :: ns => by simp [PyData.canLayAll0, PyData.canLay0, canLay_ints ns]
theorem depth_ints : ∀ ns : List Int, PyData.depthAll (ns.map .int) = 0
  | [] => by simp [PyData.depthAll]
  | n :: ns => by simp [PyData.depthAll, PyData.depth, depth_ints ns]
theorem shaped_ints (ns : List Int) : SeqAt.shaped (.list (ns.map .int)) = true := by
  simp [SeqAt.shaped, PyData.canLay0, canLay_ints, PyData.depth, depth_ints]
theorem eqv_ints : ∀ ns ms : List Int, PyData.eqvAll (ns.map .int) (ms.map .int) = decide (ns = ms)
  | [], [] => by simp [PyData.eqvAll]
  | [], _ :: _ => by simp [PyData.eqvAll]
  | _ :: _, [] => by simp [PyData.eqvAll]
  | n :: ns, m :: ms => by
    simp only [List.map_cons, PyData.eqvAll, PyData.eqv, eqv_ints ns ms, List.cons.injEq]
    by_cases h : n = m <;> by_cases h2 : ns = ms <;> simp [h, h2]
/-- == of two lists of ints -/
theorem eqB_ints (ns ms : List Int) : eqB (.lst (dI ns)) (.lst (dI ms)) = some (decide (ns = ms)) := by
  unfold eqB
  simp only [D.py, pys_ints, Option.map_some]
  rw [if_pos ⟨shaped_ints ns, shaped_ints ms⟩]
  simp [PyData.eqv, eqv_ints]

theorem eqB_ii (i j : Int) : eqB (.int i) (.int j) = some (decide (i = j)) := rfl
theorem eqB_bb (i j : Bool) : eqB (.bl i) (.bl j) = some (decide (i = j)) := rfl
theorem eqB_ss (i j : Str) : eqB (.str i) (.str j) = some (decide (i = j)) := rfl
theorem eqB_nn : eqB .non .non = some true := rfl
/-- a loop that only goes on, by what holds behind i turns -/
theorem loopS_inv {m : MS} {g : D → MS} {O : Sto} (I : Nat → Rho → Prop) (ds : List D) (step : ∀ (i : Nat) (d : D) (ρ : Rho), ds[i]? = some d → I i ρ → ∃ ρ', turnS g m d ρ O = .nx ρ' O ∧ I (i + 1) ρ') {ρ : Rho} (h0 : I 0 ρ) : ∃ ρ', loopS g m ds ρ O = .nx ρ' O ∧ I ds.length ρ' := by
  induction ds generalizing I ρ with
  | nil => exact ⟨ρ, rfl, h0⟩
  | cons d ds ih =>
    obtain ⟨ρ1, h1, h2⟩ := step 0 d ρ rfl h0
    rw [loopS_cons, h1]
    exact ih (fun i => I (i + 1)) (fun i x ρ hx hi => step (i + 1) x ρ (by simpa using hx) hi) h2
/-- .. where a turn may hand back x or go on; x is given back only if A -/
theorem loopS_ret {m : MS} {g : D → MS} {O : Sto} (I : Nat → Rho → Prop) (x : SD) (A : Prop) (ds : List D) (step : ∀ (i : Nat) (d : D) (ρ : Rho), ds[i]? = some d → I i ρ → (∃ ρ', turnS g m d ρ O = .nx ρ' O ∧ I (i + 1) ρ') ∨ (turnS g m d ρ O = .ret x O ∧ A)) {ρ : Rho} (h0 : I 0 ρ) :
    (∃ ρ', loopS g m ds ρ O = .nx ρ' O ∧ I ds.length ρ') ∨ (loopS g m ds ρ O = .ret x O ∧ A) := by
  induction ds generalizing I ρ with
  | nil => exact .inl ⟨ρ, rfl, h0⟩
  | cons d ds ih =>
    rcases step 0 d ρ rfl h0 with ⟨ρ1, h1, h2⟩ | ⟨h1, h2⟩
    · rw [loopS_cons, h1]
      exact ih (fun i => I (i + 1)) (fun i x ρ hx hi => step (i + 1) x ρ (by simpa using hx) hi) h2
    · rw [loopS_cons, h1]
      exact .inr ⟨rfl, h2⟩
theorem range_get {n : Nat} {lo : Int} {i : Nat} {d : D} (h : ((List.range n).map fun (k : Nat) => D.int (lo + (k : Nat)))[i]? = some d) : i < n ∧ d = .int (lo + i) := by
  rw [List.getElem?_map] at h
  simp only [Option.map_eq_some_iff] at h
  obtain ⟨k, h1, rfl⟩ := h
  obtain ⟨h2, h3⟩ := List.getElem?_eq_some_iff.mp h1
  simp at h2 h3
  subst h3
  exact ⟨h2, rfl⟩
theorem ints_get {ns : List Int} {i : Nat} {d : D} (h : (dI ns)[i]? = some d) : ∃ (hi : i < ns.length), d = .int ns[i] := by
  rw [List.getElem?_map] at h
  simp only [Option.map_eq_some_iff] at h
  obtain ⟨k, h1, rfl⟩ := h
  obtain ⟨h2, h3⟩ := List.getElem?_eq_some_iff.mp h1
  exact ⟨h2, by rw [h3]⟩
theorem nats_get {ns : List Nat} {i : Nat} {d : D} (h : (dN ns)[i]? = some d) : ∃ (hi : i < ns.length), d = .int (ns[i] : Nat) := by
  rw [List.getElem?_map] at h
  simp only [Option.map_eq_some_iff] at h
  obtain ⟨k, h1, rfl⟩ := h
  obtain ⟨h2, h3⟩ := List.getElem?_eq_some_iff.mp h1
  exact ⟨h2, by rw [h3]⟩
theorem dN_dI (ns : List Nat) : dN ns = dI (ns.map Int.ofNat) := by
  unfold dN dI
  rw [List.map_map]
  rfl
theorem at_ints {ns : List Int} {k : Nat} (h : k < ns.length) : atI (dI ns) (k : Int) = some (.int ns[k]) := atI_nat (by rw [List.getElem?_map, List.getElem?_eq_getElem h]; rfl)
theorem cDivW_lit (i : Int) {j : Nat} (h : 0 < j) (h2 : j < 2 ^ 64 := by decide) : cDivW i (j : Int) = true := by
  unfold cDivW
  rw [decide_eq_true_eq]
  refine ⟨by omega, ?_⟩
  have e : ((j : Int)).natAbs = j := by omega
  rw [e]
  exact (Nat.log2_lt (by omega)).mpr (Nat.lt_of_lt_of_le h2 (Nat.pow_le_pow_right (by decide) (by decide)))
theorem cMod_pos (i : Int) {j : Int} (h : 0 < j) : cMod i j = true := decide_eq_true h
theorem cMul_right (i : Int) {j : Int} (h : j.natAbs < 2 ^ 64) : cMul i j = true := by
  unfold cMul
  rw [decide_eq_true h, Bool.or_true]
theorem cMul_left {i : Int} (j : Int) (h : i.natAbs < 2 ^ 64) : cMul i j = true := by
  unfold cMul
  rw [decide_eq_true h, Bool.true_or]
theorem cPow_ok' {i j : Int} (h0 : 0 ≤ j) (h1 : j ≤ 1000000) (h2 : i.natAbs < 2 ^ 64) : cPow i j = true := decide_eq_true ⟨h0, h1, h2⟩
theorem cShr_ok {i j : Int} (h : 0 ≤ j) : cShr i j = true := decide_eq_true h

/-! ### at a state -/
section
variable {α β : Type} (ρ : Rho) (O : Sto) (a b : MS) (i : Nat)
theorem augS_ap (f : D → D → Option D) (m : ME D) : augS i f m ρ O = match ρ[i]? with
  | some (some (.shr d)) => (match m ρ O with
    | .ok y O' => (match f d y with
      | some z => .nx (ρ.set i (some (.shr z))) O'
      | none => .bad)
    | .err c p O' => .err c p ρ O'
    | .bad => .bad)
  | _ => .bad := by
  unfold augS bindS
  split
  · rename_i d h
    simp only [h]
    cases m ρ O <;> rfl
  · rename_i h
    first
      | rfl
      | (split
         · rename_i d h2
           exact absurd h2 (h d)
         · rfl)
theorem appS_ap (m : ME D) : appS' i m ρ O = if isLst ρ[i]? = true then (match m ρ O with
    | .ok d O' => (match ρ[i]? with
      | some (some (.own (.lst xs))) => if xs.length < sizeLine then .nx (ρ.set i (some (.own (.lst (xs ++ [d]))))) O' else .bad
      | _ => .bad)
    | .err c p O' => .err c p ρ O'
    | .bad => .bad) else .bad := by
  unfold appS' appS bindS
  split
  · cases m ρ O <;> rfl
  · rfl
end
theorem sizeLine_v : sizeLine = 16777216 := sizeLine_eq
end DL

set_option Elab.async false
set_option linter.all false
set_option maxRecDepth 100000
set_option maxHeartbeats 2000000
/-! DLExc: own exceptions whose __init__ goes up by super(), two levels: what is made. -/
namespace DLX
open PySem PySem.W PySem.Calls PyProof.Rows
/-- the ground: what stands since the law's start -/
structure Gnd (K : Frag) (mg : Str → Option Value) (base h : Heap) : Prop where
  mod : L2.Mod K mg base
  bk : ∀ b o, base.get? b = some o → h.get? b = some o
theorem Gnd.kin {K : Frag} {mg : Str → Option Value} {base h : Heap} (G : Gnd K mg base h) : K.In h := G.mod.kin.keeps G.bk
theorem Gnd.off {K : Frag} {mg : Str → Option Value} {base h h' : Heap} {e : Addr} (G : Gnd K mg base h) (he : base.get? e = none) (k : ∀ b o, b ≠ e → h.get? b = some o → h'.get? b = some o) : Gnd K mg base h' :=
  ⟨G.mod, fun b o z => k b o (fun y => by rw [y, he] at z; cases z) (G.bk b o z)⟩
theorem Gnd.on {K : Frag} {mg : Str → Option Value} {base h h' : Heap} (G : Gnd K mg base h) (k : ∀ b o, h.get? b = some o → h'.get? b = some o) : Gnd K mg base h' := ⟨G.mod, fun b o z => k b o (G.bk b o z)⟩
/-- a def at f within the class at D, its scope closes over __class__ -/
structure SFn (K : Frag) (f D : Addr) (params : Arguments) (body : List Stmt) (scope : Scope) (ps : List Str) (file : Str) : Prop where
  ex : ∃ (cda cc : Addr) (oc : Value) (od : Option Addr) (osl : Array (Option Value)) (name qual : Str) (dV kV doc pm ct : Value) (an : Option Addr) (ccl : Value) (cdd : Option Addr) (vs : Array Value) (ccs : Array (Option Value)) (tf : Tok) (cl : Value) (cld : Option Addr) (csl : Array (Option Value)),
    K.lookup f = some ⟨oc, od, .func (ksFn name qual params body scope dV kV doc pm an (.ref cda) ct cc), osl⟩ ∧ codeIn K (.ref cda) qual = true ∧ K.lookup cda = some ⟨ccl, cdd, .fields vs, ccs⟩ ∧ vs[2]? = some (.str file tf) ∧
    K.lookup cc = some ⟨cl, cld, .cell (some (.ref D)), csl⟩ ∧ ∀ (s : Shared) (us : List Value), K.In s.heap → us.length = ps.length → BindsTo s (ksFn name qual params body scope dV kV doc pm an (.ref cda) ct cc) ⟨us, []⟩ (ps.zip us)
  head : ∃ ar : Arg, (params.posonlyargs ++ params.args).head? = some ar ∧ ar.arg = ("self" : Str)
  sc : scope.names.lookup ("super" : Str) = some .globalImplicit ∧ scope.names.lookup ("__class__" : Str) = some .free ∧ (∀ x ∈ scope.names, x.2 ≠ .cell) ∧ (∀ x ∈ ps, scope.names.lookup x = some .local) ∧ scope.kind = .function ∧ scope.isCoroutine = false ∧ scope.isGenerator = false
  self : ("self" : Str) ∈ ps
section
variable {P : Program} {w : World} {A : Around} {E : Value → Shared → Prop} {K : Frag} {mg : Str → Option Value} {base h : Heap} {g : Array GenState} {d : Drawn} {t : Nat} {os : OsState} {f D x C L : Addr} {m : Str → Option Value}
/-- super(), in such a def -/
theorem super_base {params : Arguments} {fb body : List Stmt} {scope : Scope} {q : Str} {cda cc : Addr} {oc : Value} {od : Option Addr} {osl : Array (Option Value)} {name qual : Str} {dV kV doc pm ct : Value} {an : Option Addr} {ccl : Value} {cdd : Option Addr} {vs : Array Value} {ccs : Array (Option Value)} {file : Str} {tf : Tok} {cl : Value} {cld : Option Addr} {csl : Array (Option Value)}
    {p0 p1 : Pos} {whole : Sem Value} {ox : Obj} {ar : Arg} {Q : Value → Shared → Prop} {cdD : ClassData}
    (G : Gnd K mg base h) (lf : K.lookup f = some ⟨oc, od, .func (ksFn name qual params fb scope dV kV doc pm an (.ref cda) ct cc), osl⟩) (lc : K.lookup cda = some ⟨ccl, cdd, .fields vs, ccs⟩) (hv2 : vs[2]? = some (.str file tf))
    (lcc : K.lookup cc = some ⟨cl, cld, .cell (some (.ref D)), csl⟩) (hfile : ((P.main.file : Str) == file) = true) (htop : (P.main.scope.names.lookup ("super" : Str)).isSome = false) (hm : mg "super" = none)
    (hh : (params.posonlyargs ++ params.args).head? = some ar) (hks : scope.names.lookup ("super" : Str) = some .globalImplicit) (hkc : scope.names.lookup ("__class__" : Str) = some .free) (hka : scope.names.lookup ar.arg = some .local) (hk : scope.kind = .function)
    (hN : h.Ns L m) (hv : m ar.arg = some (.ref x)) (hx : h.get? x = some ox) (hxc : ox.cls = .ref C) (hnc : ∀ c, ox.data ≠ .cls c) (hD : clsIn K D = some cdD) (hsub : mroIn K C (.ref D) = some true)
    (k : ∀ h', (∀ b o, h.get? b = some o → h'.get? b = some o) → h'.get? h.objs.size = some (ks_superObj D x C) → Q (.ref h.objs.size) ⟨h', g, d, t, os⟩) :
    _root_.PySem.wpAt (model P w) A (.func body (ksEnv q scope L f (.ref cda) cc)) (attributeBase (.Call (.Name "super" p0) [] [] p1) "__init__" (ksEnv q scope L f (.ref cda) cc) whole) Q E ⟨h, g, d, t, os⟩ := by
  have KX := G.kin
  obtain ⟨oD, hD1, hD2⟩ : ∃ oD, h.get? D = some oD ∧ oD.data = .cls cdD := by
    unfold clsIn at hD
    split at hD
    · rename_i z
      cases hD
      exact ⟨_, KX _ _ z, rfl⟩
    · cases hD
  obtain ⟨mb, hb1, hb2⟩ := G.mod.blt
  refine ks_wpAt_super_base (env := ksEnv q scope L f (.ref cda) cc) hks hkc (by decide) rfl (KX _ _ lf) rfl hh rfl (KX _ _ lc) rfl hv2 hfile htop ?_
  refine ks_loadName_global hk hks (loadGlobal_builtin (env := ksEnv q scope L f (.ref cda) cc) (G.mod.glob.keeps G.bk) hm (hb1.keeps G.bk) ((hb2 _ (by decide)).trans ?_) ⟨rfl, ?_⟩)
  · first | boot_by_name | rfl | kernel_rfl
  refine wpAny_loadName_free hk hkc rfl ⟨_, KX _ _ lcc, rfl⟩ ?_
  refine wpAny_loadName_local hk hka hN hv ?_
  refine ks_wpAny_isType_cls hD1 hD2 ⟨rfl, ?_⟩
  exact ks_wpAny_call_super hD1 hD2 hx hxc hnc (looks_mroIn KX hsub) fun h' e u => k h' u e

/-- ValueError.__init__ bound to an own exception, called: its args are laid anew -/
theorem call_ve {nm q : Str} {N u e t0 : Addr} {bs bm : List Value} {hdct : Bool} {sn : List Str} {sub : List Value} {ab : Bool} {col : Option Bool} {dd : Option Addr} {k0 k1 k2 k3 k5 : Option Value} {rest : List Value} {Q : Value → Shared → Prop}
    (hC : h.get? C = some (excClassObj nm q C N bs bm hdct sn sub ab col dd k0 k1 k2 k3 k5 "ValueError.__new__")) (he : h.get? e = some (HandSPX.excO C t0)) (hu : h.get? u = some (kxs_mw "ValueError.__init__" e)) (hr : rest.length ≤ sizeLine)
    (k : ∀ h' t1, (∀ b o, b ≠ e → h.get? b = some o → h'.get? b = some o) → h'.get? e = some (HandSPX.excO C t1) → Q .none ⟨h', g, d, t, os⟩) : wpAny (model P w) A (call (.ref u) rest) Q E ⟨h, g, d, t, os⟩ := by
  have FB := F.excBase_ValueError
  refine wpAny_call (codeAny_of_tree ?_)
  show wpAny (model P w) A.in1 (callAny (.ref u) _) _ _ _
  unfold callAny
  refine wpAny_bind (wpAny_load hu ?_)
  refine KFB.if_so rfl ?_
  refine wpAny_bind (ESX.check_bound FB hC he rfl ?_)
  refine wpAny_bind (wpAny_pure (wpAny_pure ?_))
  refine ⟨Code.quiet_builtin _ (by decide +kernel), codeAny_builtin FB.initEntry ?_⟩
  rw [Around.under_plainId FB.init.plain]
  exact exc_init_tree he hr fun h' kp e' _ => k h' _ kp e'

theorem ns_off {h h' : Heap} {L e : Addr} {m : Str → Option Value} (hN : h.Ns L m) (hne : L ≠ e) (k : ∀ b o, b ≠ e → h.get? b = some o → h'.get? b = some o) : h'.Ns L m := by
  obtain ⟨o, es, ep, hL, r⟩ := hN
  exact ⟨o, es, ep, k _ _ hne hL, r⟩
/-- what stands of the class C of the exception, and of the class D whose __init__ is f -/
structure Own (K : Frag) (mg : Str → Option Value) (P : Program) (C D : Addr) (file : Str) : Prop where
  oex : L2.OexC K C
  sub : mroIn K C (.ref D) = some true
  cls : ∃ cd, clsIn K D = some cd
  any : nsIn K cStatics "thirdparty.any" = some none
  sup : mg "super" = none
  file : ((P.main.file : Str) == file) = true
  top : (P.main.scope.names.lookup ("super" : Str)).isSome = false
theorem OexC_cd {K : Frag} {C : Addr} (T : L2.OexC K C) : ∃ cd, clsIn K C = some cd ∧ cd.hasDict = true ∧ HandSPX.refsVE cd.mro = true := by
  obtain ⟨nm, q, N, bs, bm, sn, sub, ab, col, dd, k0, k1, k2, k3, k5, hC, hbm⟩ := T.cls
  refine ⟨{ name := nm, bases := bs, mro := .ref C :: bm, ns := N, qualname := q, hasDict := true, slotNames := sn, subclasses := sub, abstract := ab, collection := col, hasDel := false }, ?_, rfl, hbm⟩
  unfold clsIn
  rw [hC]
/-- super().__init__(args) as a call of a method -/
def SupCall (a : List Expr) (p0 p1 p2 p4 : Pos) : Prop := ∀ env : Env, ∃ pl : Sem Bool, eval (.Call (.Attribute (.Call (.Name "super" p0) [] [] p1) "__init__" p2) a [] p4) env = (do
  let ov ← attributeBase (.Call (.Name "super" p0) [] [] p1) "__init__" env (eval (.Call (.Name "super" p0) [] [] p1) env)
  standAt p2.atName
  let (f, first) ← holding [ov] (getMethod ov "__init__" pl)
  callWith p4 f first (backTo p4 (starEach a env)) [])
/-- the lower __init__: up to ValueError, then place and name are stored -/
theorem init_low {f D C e t0 : Addr} {params : Arguments} {scope : Scope} {file : Str} {R : Result → Shared → Prop} {u n : Value} {p0 p1 p2 p3 p4 p5 p6 p7 p8 p9 q1 q2 q3 q4 : Pos}
    (S : SFn K f D params [.Expr (.Call (.Attribute (.Call (.Name "super" p0) [] [] p1) "__init__" p2) [.Name "place" p3] [] p4) p5, .Assign [.Attribute (.Name "self" p6) "place" p7] (.Name "place" p8) p9, .Assign [.Attribute (.Name "self" q1) "name" q2] (.Name "name" q3) q4] scope ["self", "place", "name"] file)
    (hsc : SupCall [.Name "place" p3] p0 p1 p2 p4) (G : Gnd K mg base h) (W : Own K mg P C D file) (hup : ks_superIn K C D "__init__" = some (some (.builtin "ValueError.__init__"))) (hVE : subIn K (.ref C) (.type "ValueError") = some true) (hpl : findIn K (.ref C) "place" = some none) (hnm : findIn K (.ref C) "name" = some none) (hd : A.depth < recursionLimit)
    (he : h.get? e = some (HandSPX.excO C t0)) (hbe : base.get? e = none)
    (k : ∀ h' tk' dx t1, (∀ b o, b ≠ e → h.get? b = some o → h'.get? b = some o) → h.objs.size ≤ dx → h'.get? e = some ({ cls := .ref C, dict := some dx, data := .fields #[.ref t1, .none, .none, .none, .bool false, .none] } : Obj) → h'.Ns1 dx (fun y => if y = "name" then some n else if y = "place" then some u else none) → R (.ok (.ret .none)) ⟨h', g, d, tk', os⟩) :
    codeAny (model P w) A (.call (.ref f) ⟨[.ref e, u, n], []⟩) R ⟨h, g, d, t, os⟩ := by
  obtain ⟨cda, cc, oc, od, osl, name, qual, dV, kV, doc, pm, ct, an, ccl, cdd, vs, ccs, tf, cl, cld, csl, lf, hcd, lc, hv2, lcc, bt⟩ := S.ex
  obtain ⟨ar, hh, har⟩ := S.head
  obtain ⟨ks, kc, hcell, hloc, hk, hco, hgen⟩ := S.sc
  obtain ⟨cdD, hD⟩ := W.cls
  have KX := G.kin
  have l1 : scope.names.lookup ("self" : Str) = some .local := hloc _ (by simp)
  have l2 : scope.names.lookup ("place" : Str) = some .local := hloc _ (by simp)
  have l3 : scope.names.lookup ("name" : Str) = some .local := hloc _ (by simp)
  refine ks_codeAny_call_defAt hd (KX _ _ lf) rfl (G.mod.nolimit.keeps G.bk) (codeRec_of KX hcd) rfl (bt _ _ KX rfl) hcell (fun x hx => hloc _ (List.of_mem_zip hx).1) (fun h₁ hns hk₁ => ?_) hco hgen hk
  have G1 := G.on hk₁
  have e1 := hk₁ _ _ he
  change _root_.PySem.wpAt (model P w) (A.deeper (ksEnv qual scope h.objs.size f (.ref cda) cc)) (.func _ (ksEnv qual scope h.objs.size f (.ref cda) cc)) (execs _ (ksEnv qual scope h.objs.size f (.ref cda) cc)) (fun fl s' => R (.ok (.ret (match fl with | .ret v => v | _ => .none))) s') _ ⟨h₁, g, d, t + 3, os⟩
  obtain ⟨pl, hcE⟩ := hsc (ksEnv qual scope h.objs.size f (.ref cda) cc)
  have hin : interactive (ksEnv qual scope h.objs.size f (.ref cda) cc) = false := by
    unfold interactive
    simp [hk]
  refine ks_wpAt_execs_cons (ks_wpAt_Expr_any (ks_wpAt_MethodCall ?_ hcE) hin)
  refine super_base G1 lf lc hv2 lcc W.file W.top W.sup hh ks kc (by rw [har]; exact l1) hk hns (by rw [har]; rfl) e1 rfl (fun c z => by cases z) hD W.sub fun h2 k2 so => ?_
  have G2 := G1.on k2
  have e2 := k2 _ _ e1
  obtain ⟨cdC, hcC, hdC, hrC⟩ := OexC_cd W.oex
  have hup' := hup
  unfold ks_superIn at hup'
  rw [hcC] at hup'
  have I2 : InstAt h2 e (HandSPX.excO C t0) C none := ⟨e2, rfl, rfl, trivial⟩
  refine kxs_getMethod kxs_ValueError so (looks_opaque G2.kin W.any) (l₀ := cdC.mro) ?_ rfl G2.kin hup' (I2.type.andThen (looks_subIn G2.kin hVE)) (ks_ne G2.kin I2 hcC) (by decide) ?_
  · exact fun A Q E s k q => wpAny_bind ((looks_clsIn G2.kin hcC) A _ E s k (wpAny_pure q))
  have k3 : ∀ b o, h2.get? b = some o → (h2.push (kxs_mw "ValueError.__init__" e)).get? b = some o := fun b o z => Heap.get?_push_of_some _ z
  have wm : (h2.push (kxs_mw "ValueError.__init__" e)).get? h2.objs.size = some (kxs_mw "ValueError.__init__" e) := Heap.get?_push_at rfl rfl
  have ns3 := (hns.keeps k2).keeps k3
  have G3 := G2.on k3
  have e3 := k3 _ _ e2
  have kk : ∀ b o, h.get? b = some o → (h2.push (kxs_mw "ValueError.__init__" e)).get? b = some o := fun b o z => k3 _ _ (k2 _ _ (hk₁ _ _ z))
  generalize h2.push (kxs_mw "ValueError.__init__" e) = h3 at *
  have hLe : h.objs.size ≠ e := Nat.ne_of_gt (Heap.lt_size he)
  change wpAny _ _ (callWith p4 (.ref h2.objs.size) [] ((false, eval (.Name "place" p3) (ksEnv qual scope h.objs.size f (.ref cda) cc)) :: backTo p4 (starEach [] (ksEnv qual scope h.objs.size f (.ref cda) cc))) []) _ _ _
  refine kxs_callWith (i := "ValueError.__init__") (x := e) rfl (evalArgs_plain (spliced_cons (wpAny_Name (wpAny_loadName_local hk l2 ns3 rfl (spliced_nil ⟨wm, ?_⟩)))))
  obtain ⟨nm, q, N, bs, bm, sn, sub, ab, col, dd, c0, c1, c2, c3, c5, hC, hbm⟩ := W.oex.cls
  refine call_ve (G3.kin _ _ hC) e3 wm (by rw [sizeLine_eq]; show 1 ≤ 16777216; omega) fun h4 t1 k4 e4 => ?_
  have G4 := G3.off hbe k4
  have ns4 := ns_off ns3 hLe k4
  have I4 : InstAt h4 e (HandSPX.excO C t1) C none := ⟨e4, rfl, rfl, trivial⟩
  refine ks_wpAt_execs_cons (ks_wpAt_Assign_Attr (wpAt_of_wpAny (wpAny_Name (wpAny_loadName_local hk l2 ns4 rfl (wpAny_Name (wpAny_loadName_local hk l1 ns4 rfl ?_))))) ?_)
  · refine set_plain G4.kin I4 W.oex.sa (HandSPX.exc_osa G4.kin e4 hcC hrC hdC hpl fun h5 tk5 dx k5 dn dne e5 n5 => ?_)
    have G5 := G4.off hbe k5
    have ns5 := ns_off ns4 hLe k5
    obtain ⟨oD, eD, pD, hoD, hdD, hcD⟩ := n5.count (Within.cons _ _ Within.nil)
    refine ks_wpAt_execs_cons (ks_wpAt_Assign_Attr (wpAt_of_wpAny (wpAny_Name (wpAny_loadName_local hk l3 ns5 rfl (wpAny_Name (wpAny_loadName_local hk l1 ns5 rfl ?_))))) ?_)
    · have I5 : InstAt h5 e { cls := .ref C, dict := some dx, data := .fields #[.ref t1, .none, .none, .none, .bool false, .none] } C (some oD) := ⟨e5, rfl, rfl, hoD⟩
      refine set_plain G5.kin I5 W.oex.sa (OEX.osa_old G5.kin e5 n5 (Within.cons _ _ Within.nil) (by decide) hcC hrC hdC hnm fun h6 tk6 k6 n6 => ?_)
      obtain ⟨oL, _, _, hL, _⟩ := ns4
      have lL : h.objs.size < h4.objs.size := Heap.lt_size hL
      have dn' : h4.objs.size ≤ dx := dn
      refine wpAt_of_wpAny (wpAny_execs_nil (k h6 tk6 dx t1 (fun b o hb hz => ?_) (by omega) (k6 _ _ (Ne.symm dne) e5) n6))
      have z4 := k4 _ _ hb (kk _ _ hz)
      have z5 : b < h4.objs.size := Heap.lt_size z4
      exact k6 _ _ (Nat.ne_of_lt (Nat.lt_of_lt_of_le z5 dn')) (k5 _ _ hb z4)
    · rfl
  · rfl
/-- the upper __init__: up to the lower one with the class's own name -/
theorem init_high {f f2 D D2 C e t0 : Addr} {params params2 : Arguments} {scope scope2 : Scope} {file : Str} {R : Result → Shared → Prop} {u : Value} {n : Str} {j : Nat} {p0 p1 p2 p3 p4 p5 c0 : Pos} {a0 a1 a2 a3 a4 a5 a6 a7 a8 a9 b1 b2 b3 b4 : Pos}
    (S : SFn K f D params [.Expr (.Call (.Attribute (.Call (.Name "super" p0) [] [] p1) "__init__" p2) [.Name "place" p3, .Constant (.str n) j c0] [] p4) p5] scope ["self", "place"] file)
    (S2 : SFn K f2 D2 params2 [.Expr (.Call (.Attribute (.Call (.Name "super" a0) [] [] a1) "__init__" a2) [.Name "place" a3] [] a4) a5, .Assign [.Attribute (.Name "self" a6) "place" a7] (.Name "place" a8) a9, .Assign [.Attribute (.Name "self" b1) "name" b2] (.Name "name" b3) b4] scope2 ["self", "place", "name"] file)
    (hsc : SupCall [.Name "place" p3, .Constant (.str n) j c0] p0 p1 p2 p4) (hsc2 : SupCall [.Name "place" a3] a0 a1 a2 a4)
    (G : Gnd K mg base h) (W : Own K mg P C D file) (W2 : Own K mg P C D2 file) (hup : ks_superIn K C D "__init__" = some (some (.ref f2))) (hfn : fnIn K f2 = true) (hty : typeIn K (.ref f2) = some (.type "function"))
    (hup2 : ks_superIn K C D2 "__init__" = some (some (.builtin "ValueError.__init__"))) (hVE : subIn K (.ref C) (.type "ValueError") = some true) (hpl : findIn K (.ref C) "place" = some none) (hnm : findIn K (.ref C) "name" = some none) (hd : A.depth + 1 < recursionLimit)
    (he : h.get? e = some (HandSPX.excO C t0)) (hbe : base.get? e = none)
    (k : ∀ h' tk' tn dx t1, (∀ b o, b ≠ e → h.get? b = some o → h'.get? b = some o) → h.objs.size ≤ dx → h'.get? e = some ({ cls := .ref C, dict := some dx, data := .fields #[.ref t1, .none, .none, .none, .bool false, .none] } : Obj) → h'.Ns1 dx (fun y => if y = "name" then some (.str n tn) else if y = "place" then some u else none) → R (.ok (.ret .none)) ⟨h', g, d, tk', os⟩) :
    codeAny (model P w) A (.call (.ref f) ⟨[.ref e, u], []⟩) R ⟨h, g, d, t, os⟩ := by
  obtain ⟨cda, cc, oc, od, osl, name, qual, dV, kV, doc, pm, ct, an, ccl, cdd, vs, ccs, tf, cl, cld, csl, lf, hcd, lc, hv2, lcc, bt⟩ := S.ex
  obtain ⟨ar, hh, har⟩ := S.head
  obtain ⟨ks, kc, hcell, hloc, hk, hco, hgen⟩ := S.sc
  obtain ⟨cdD, hD⟩ := W.cls
  have KX := G.kin
  have l1 : scope.names.lookup ("self" : Str) = some .local := hloc _ (by simp)
  have l2 : scope.names.lookup ("place" : Str) = some .local := hloc _ (by simp)
  refine ks_codeAny_call_defAt (by omega) (KX _ _ lf) rfl (G.mod.nolimit.keeps G.bk) (codeRec_of KX hcd) rfl (bt _ _ KX rfl) hcell (fun x hx => hloc _ (List.of_mem_zip hx).1) (fun h₁ hns hk₁ => ?_) hco hgen hk
  have G1 := G.on hk₁
  have e1 := hk₁ _ _ he
  change _root_.PySem.wpAt (model P w) (A.deeper (ksEnv qual scope h.objs.size f (.ref cda) cc)) (.func _ (ksEnv qual scope h.objs.size f (.ref cda) cc)) (execs _ (ksEnv qual scope h.objs.size f (.ref cda) cc)) (fun fl s' => R (.ok (.ret (match fl with | .ret v => v | _ => .none))) s') _ ⟨h₁, g, d, t + 2, os⟩
  obtain ⟨pl, hcE⟩ := hsc (ksEnv qual scope h.objs.size f (.ref cda) cc)
  have hin : interactive (ksEnv qual scope h.objs.size f (.ref cda) cc) = false := by
    unfold interactive
    simp [hk]
  refine ks_wpAt_execs_cons (ks_wpAt_Expr_any (ks_wpAt_MethodCall ?_ hcE) hin)
  refine super_base G1 lf lc hv2 lcc W.file W.top W.sup hh ks kc (by rw [har]; exact l1) hk hns (by rw [har]; rfl) e1 rfl (fun c z => by cases z) hD W.sub fun h2 k2 so => ?_
  have G2 := G1.on k2
  have e2 := k2 _ _ e1
  obtain ⟨cdC, hcC, hdC, hrC⟩ := OexC_cd W.oex
  have hup' := hup
  unfold ks_superIn at hup'
  rw [hcC] at hup'
  have I2 : InstAt h2 e (HandSPX.excO C t0) C none := ⟨e2, rfl, rfl, trivial⟩
  obtain ⟨of, hof, hofc⟩ : ∃ of, h2.get? f2 = some of ∧ of.cls = .type "function" := by
    have hty : (K.lookup f2).map (fun o => o.cls) = some (.type "function") := hty
    cases z : K.lookup f2 with
    | none => rw [z] at hty; cases hty
    | some of => rw [z] at hty; exact ⟨of, G2.kin _ _ z, Option.some.inj hty⟩
  refine ks_wpAny_getMethod_super so (looks_opaque G2.kin W.any) (l₀ := cdC.mro) ?_ rfl G2.kin hup' hof hofc (ks_ne G2.kin I2 hcC) (by decide) ?_
  · exact fun A Q E s k q => wpAny_bind ((looks_clsIn G2.kin hcC) A _ E s k (wpAny_pure q))
  have k3 : ∀ b o, h2.get? b = some o → (h2.push (methodObj (.ref f2) (.ref e))).get? b = some o := fun b o z => Heap.get?_push_of_some _ z
  have wm : (h2.push (methodObj (.ref f2) (.ref e))).get? h2.objs.size = some (methodObj (.ref f2) (.ref e)) := Heap.get?_push_at rfl rfl
  have ns3 := (hns.keeps k2).keeps k3
  have G3 := G2.on k3
  have e3 := k3 _ _ e2
  have kk : ∀ b o, h.get? b = some o → (h2.push (methodObj (.ref f2) (.ref e))).get? b = some o := fun b o z => k3 _ _ (k2 _ _ (hk₁ _ _ z))
  change wpAny _ _ _ _ _ ⟨h2.push (methodObj (.ref f2) (.ref e)), g, d, _, os⟩
  generalize h2.push (methodObj (.ref f2) (.ref e)) = h3 at *
  change wpAny _ _ (callWith p4 (.ref h2.objs.size) [] ((false, eval (.Name "place" p3) (ksEnv qual scope h.objs.size f (.ref cda) cc)) :: (false, eval (.Constant (.str n) j c0) (ksEnv qual scope h.objs.size f (.ref cda) cc)) :: backTo p4 (starEach [] (ksEnv qual scope h.objs.size f (.ref cda) cc))) []) _ _ _
  refine callWith_of (P := MethP K h2.objs.size f2 (.ref e)) rfl (keeps_M hfn) (evalArgs_plain (spliced_cons (wpAny_Name (wpAny_loadName_local hk l2 ns3 rfl (spliced_cons (Constant_str (spliced_nil ⟨⟨wm, G3.kin⟩, ?_⟩)))))))
  refine wpAny_call (method_call wm (init_low S2 hsc2 G3 W2 hup2 hVE hpl hnm (by show A.depth + 1 < _; exact hd) e3 hbe fun h' tk' dx t1 k4 dn e4 n4 => ?_))
  refine wpAt_of_wpAny (wpAny_execs_nil (k h' tk' _ dx t1 (fun b o hb hz => k4 _ _ hb (kk _ _ hz)) ?_ e4 n4))
  obtain ⟨oL, _, _, hL, _⟩ := ns3
  exact Nat.le_trans (Nat.le_of_lt (Heap.lt_size hL)) dn
end
end DLX

set_option Elab.async false
set_option linter.all false
set_option maxRecDepth 100000
set_option maxHeartbeats 1000000
/-! DLExc2: raise, try. -/
namespace DL
open PySem L2
variable [Tabs]
/-- x: an own exception, its __init__ goes up by super() to one that stores place and name -/
def OwnX (P : Program) (K : PySem.W.Frag) (mg : Mg) (x : Str) : Prop := ∃ (C f f2 D2 : Addr) (params params2 : Arguments) (scope scope2 : Scope) (file : Str) (j : Nat) (p0 p1 p2 p3 p4 p5 c0 a0 a1 a2 a3 a4 a5 a6 a7 a8 a9 b1 b2 b3 b4 : Pos),
  mg x = some (.ref C) ∧
  DLX.SFn K f C params [.Expr (.Call (.Attribute (.Call (.Name "super" p0) [] [] p1) "__init__" p2) [.Name "place" p3, .Constant (.str x) j c0] [] p4) p5] scope ["self", "place"] file ∧
  DLX.SFn K f2 D2 params2 [.Expr (.Call (.Attribute (.Call (.Name "super" a0) [] [] a1) "__init__" a2) [.Name "place" a3] [] a4) a5, .Assign [.Attribute (.Name "self" a6) "place" a7] (.Name "place" a8) a9, .Assign [.Attribute (.Name "self" b1) "name" b2] (.Name "name" b3) b4] scope2 ["self", "place", "name"] file ∧
  DLX.SupCall [.Name "place" p3, .Constant (.str x) j c0] p0 p1 p2 p4 ∧ DLX.SupCall [.Name "place" a3] a0 a1 a2 a4 ∧
  DLX.Own K mg P C C file ∧ DLX.Own K mg P C D2 file ∧ PySem.W.ks_superIn K C C "__init__" = some (some (.ref f2)) ∧ PySem.W.fnIn K f2 = true ∧ PySem.W.typeIn K (.ref f2) = some (.type "function") ∧
  PySem.W.ks_superIn K C D2 "__init__" = some (some (.builtin "ValueError.__init__")) ∧ PySem.W.subIn K (.ref C) (.type "ValueError") = some true ∧ PySem.W.findIn K (.ref C) "place" = some none ∧ PySem.W.findIn K (.ref C) "name" = some none ∧
  PySem.W.findIn K (.ref C) "__init__" = some (some (.ref f)) ∧ PySem.W.typeIn K (.ref f) = some (.type "function")
section
variable {X : Cx} {Wx : WX} {x : Str} {e : Expr} {p pos : Pos} {te : TE}
theorem pmk_own (W : OwnX X.prog X.K X.mg x) (hr : Room 3 X.A) (he : PE X e te) (hg : Gl X x := by rfl) (hdb : (x == ("__debug__" : Str)) = false := by decide) (hs : starEach [e] X.env = (false, eval e X.env) :: starEach [] X.env := by rfl) (hpl : (backTo pos (starEach [] X.env)).any (·.1) = false := by rfl) :
    PMk X (.Call (.Name x p) [e] [] pos) (fun σ H Q => te σ H fun v H1 => ∀ C dx, X.mg x = some (.ref C) → H1 dx = none → Q (.ref C) (some dx) (upd H1 dx (.xd [("name", .str x), ("place", v)]))) := by
  intro pins s σ H Q I h
  obtain ⟨C, f, f2, D2, params, params2, scope, scope2, file, j, p0, p1, p2, p3, p4, p5, c0, a0, a1, a2, a3, a4, a5, a6, a7, a8, a9, b1, b2, b3, b4, hm, S, S2, sc1, sc2, W1, W2, up1, fn2, ty2, up2, hVE, hpl2, hnm, iC, tI⟩ := W
  have T := W1.oex
  obtain ⟨nm, q, N, bs, bm, sn, sub, ab, col, dd, k0, k1, k2, k3, k5, hC, hbm⟩ := T.cls
  refine wpAny_Call_Name_kw (ld_glob I hg hm ?_ hdb)
  refine PySem.W.callWith_K (h₀ := X.base) I.ok.mod.kin T.kC (thn ((pa_cons he pa_nil hs).run pos pins s σ H (fun vs H1 => match vs with
    | [v] => ∀ C dx, X.mg x = some (.ref C) → H1 dx = none → Q (.ref C) (some dx) (upd H1 dx (.xd [("name", .str x), ("place", v)]))
    | _ => False) I h) fun us s1 hu => ?_) hs hpl
  obtain ⟨vs, H1, I1, r1, q1⟩ := hu
  match vs, r1, q1 with
  | [v], .cons (b := u) rv .nil, q1 =>
    refine ⟨I1.kIn, ?_⟩
    show wpAny _ _ (call (.ref C) [u]) _ _ _
    obtain ⟨hp, g, dr, tk, os⟩ := s1
    have hsz : hp.objs.size ≤ hp.objs.size + 1 := Nat.le_succ _
    have kk : ∀ b o, hp.get? b = some o → ((hp.push (PySem.W.kdv_tup [u])).push (PySem.HandSPX.excO C hp.objs.size)).get? b = some o := fun b o e => Heap.get?_push_of_some _ (Heap.get?_push_of_some _ e)
    have hget : ((hp.push (PySem.W.kdv_tup [u])).push (PySem.HandSPX.excO C hp.objs.size)).get? (hp.objs.size + 1) = some (PySem.HandSPX.excO C hp.objs.size) := by heap_get
    have G1 : DLX.Gnd X.K X.mg X.base hp := ⟨I1.mod, I1.bk⟩
    have hbe : X.base.get? (hp.objs.size + 1) = none := by
      cases z : X.base.get? (hp.objs.size + 1) with
      | none => rfl
      | some o => exact absurd (Heap.lt_size (I1.bk _ _ z)) (by show ¬ (hp.objs.size + 1 < hp.objs.size); omega)
    have hd : (X.A.under (.builtin "type.__call__" ⟨.ref C :: [u], []⟩)).depth + 1 < recursionLimit := ((hr.make C [u] []).deeper X.env).depth
    refine wpAny_call (PySem.HandSPX.call_own F.excBase_ValueError (fun Y => PySem.HandSPX.refsVE_contains Y bm hbm) (I1.kIn _ _ hC) (PySem.W.looks_findIn I1.kIn iC) (fun self => PySem.W.bind_fn I1.kIn self tI) (by rw [sizeLine_eq]; show 1 ≤ 16777216; omega) ?_)
    refine DLX.init_high S S2 sc1 sc2 (G1.on kk) W1 W2 up1 fn2 ty2 up2 hVE hpl2 hnm hd hget hbe fun h' tk' tn dx t1 k' dn e' n' => ?_
    have dn2 : hp.objs.size + 2 ≤ dx := by
      have := dn
      rw [Heap.size_push, Heap.size_push] at this
      exact this
    have hne : dx ≠ hp.objs.size + 1 := Nat.ne_of_gt (Nat.lt_of_lt_of_le (Nat.lt_succ_self _) dn2)
    refine ⟨rfl, ?_⟩
    obtain ⟨G, g1, g2⟩ := restrict h' fun b => decide (b ≠ hp.objs.size + 1)
    have gk : ∀ b, b ≠ hp.objs.size + 1 → G.get? b = h'.get? b := fun b hb => g1 b (decide_eq_true hb)
    have ge : G.get? (hp.objs.size + 1) = none := g2 _ (by simp)
    have hn : H1 (hp.objs.size + 1) = none := I1.hok.fresh hsz
    have hdx : H1 dx = none := I1.hok.fresh (Nat.le_trans (Nat.le_add_right _ 2) dn2)
    have kG : ∀ b o, hp.get? b = some o → G.get? b = some o := fun b o z => by
      have lb : b < hp.objs.size := Heap.lt_size z
      have hb : b ≠ hp.objs.size + 1 := Nat.ne_of_lt (Nat.lt_succ_of_lt lb)
      rw [gk b hb]
      exact k' _ _ hb (kk _ _ z)
    have nG : G.Ns1 dx (fun y => if y = "name" then some (.str x tn) else if y = "place" then some u else none) := n'.at fun o z => (gk dx hne).trans z
    have J : L2.Inv X pins σ (upd H1 dx (.xd [("name", .str x), ("place", v)])) ⟨G, g, dr, tk', os⟩ := I1.laid (t' := tk') (a := dx) (h' := G) kG (Nat.le_trans (Nat.le_add_right _ 2) dn2) ⟨_, nG, relO_put (fs := [("place", v)]) (y := .str x) ⟨tn, rfl⟩ (relO_put (fs := []) rv fun g => True.intro)⟩
    refine ⟨hp.objs.size + 1, _, _, ⟨G, g, dr, tk', os⟩, _, .ref C, some dx, rfl, J, fun b o z => ?_, ge, e', ⟨rfl, rfl⟩, rfl, rfl, ?_, rfl, I1.bare, raises_own T.exC T.tyC, q1 C dx hm hdx⟩
    · by_cases hb : b = hp.objs.size + 1
      · rw [hb, ge] at z
        cases z
      · exact (gk b hb).symm.trans z
    · rw [upd_ne (Ne.symm hne)]
      exact hn

/-! ### raise -/
def raiseS (x : Str) (m : ME D) : MS := bindS m fun d ρ O => .err x d ρ O
theorem es_raise {pos2 : Pos} {m : ME D} (hc : X.calm = true) (tk : Takes X Wx) (W : OwnX X.prog X.K X.mg x) (hr : Room 3 X.A) (he : EX X Wx e m) (hg : Gl X x := by rfl) (hdb : (x == ("__debug__" : Str)) = false := by decide) (hs : starEach [e] X.env = (false, eval e X.env) :: starEach [] X.env := by rfl) (hpl : (backTo pos (starEach [] X.env)).any (·.1) = false := by rfl) :
    ES X Wx (.Raise (some (.Call (.Name x p) [e] [] pos)) none pos2) (raiseS x m) := by
  obtain ⟨t, pt, et⟩ := he
  refine ⟨_, ps_raise hc tk (pmk_own W hr pt hg hdb hs hpl), EvS.bind (R := rD X) (u := fun v D' σ H1 => ∀ C dx, X.mg x = some (.ref C) → H1 dx = none → Wx (.ref C) (some dx) σ (upd H1 dx (.xd [("name", .str x), ("place", v)]))) et fun v d en ι B H ρ O σ D' r hd q => ?_⟩
  intro C dx hm hn
  obtain ⟨r2, b2⟩ := r.alloc hn (.xd [("name", .str x), ("place", v)])
  exact q ι _ _ σ C dx r2 (Pre.refl _) b2 ⟨hm, _, v, upd_same, rfl, DA.mono b2 (Pre.refl _) _ _ hd, rfl⟩
end

/-! ### what is caught, read -/
/-- the class x of a caught exception -/
def ExF (K : PySem.W.Frag) (mg : Mg) (x : Str) : Prop := ∃ C, mg x = some (.ref C) ∧ XfC K C ∧ (PySem.W.clsIn K C).isSome = true ∧ PySem.W.findIn K (.ref C) "place" = some none ∧ PySem.W.findIn K (.ref C) "name" = some none ∧
  PySem.W.findIn K (.ref C) "__class__" = some (some (.builtin "object.__class__")) ∧ PySem.W.specialIn K (.builtin "object.__class__") "__get__" = some (some (.builtin "getset_descriptor.__get__")) ∧ PySem.W.takesIn K (.builtin "object.__class__") = some true ∧ PySem.W.mroIn K C (.type "object") = some true
/-- the class x of an exception beside the class that cv is -/
def Sub (K : PySem.W.Frag) (mg : Mg) (cv : Value) (ks : List (Str × Bool)) : Prop := ∀ x b, ks.lookup x = some b → ∃ C, mg x = some (.ref C) ∧ PySem.W.kitOne K (.ref C) cv = some b
def Exm (K : PySem.W.Frag) (mg : Mg) (cv : Value) (ks : List (Str × Bool)) : Prop := ∀ x b, ks.lookup x = some b → ∃ C, mg x = some (.ref C) ∧ PySem.W.exmOne K (.ref C) cv = some b
def hotP (i : Nat) (cs : List Str) : ME D := fun ρ O => match ρ[i]? with
  | some (some (.hot c p)) => if cs.contains c = true then .ok p O else .bad
  | _ => .bad
def hotN (i : Nat) (cs : List Str) : ME D := fun ρ O => match ρ[i]? with
  | some (some (.hot c _)) => if cs.contains c = true then .ok (.str c) O else .bad
  | _ => .bad
def hotI (i : Nat) (ks : List (Str × Bool)) : ME D := fun ρ O => match ρ[i]? with
  | some (some (.hot c _)) => (match ks.lookup c with
    | some b => .ok (.bl b) O
    | none => .bad)
  | _ => .bad
section
variable {X : Cx} {Wx : WX} {x : Str} {p pos : Pos} {a : Addr} {oe : Obj} {cls : Value} {d : Option Addr} {pn : List (Addr × Obj)} {cs : List Str}
/-- what a hot slot tells -/
theorem hot_get {e : Ent} {ι : List Addr} {B H : Hp} {ρ : Rho} {O : Sto} {σ : St} {i : Nat} {c : Str} {pl : D} (hz : Zc cls d oe) (r : Rel X.K X.mg (en (X.suite a ((a, oe) :: pn)) e) ι B H ρ O σ) (h : ρ[i]? = some (some (.hot c pl))) :
    σ[i]? = some (some (.ref a)) ∧ ∃ C dx, cls = .ref C ∧ d = some dx ∧ Exc X.K X.mg ι B C dx c pl := by
  obtain ⟨v, h1, a', C, dx, h2, h3, h6⟩ := r.sl i _ h
  have h2 : some (a, oe.cls, oe.dict) = some (a', .ref C, some dx) := h2
  rw [hz.1, hz.2] at h2
  simp only [Option.some.injEq, Prod.mk.injEq] at h2
  obtain ⟨rfl, h4, h5⟩ := h2
  subst h3
  exact ⟨h1, C, dx, h4, h5, h6⟩
theorem hot_ask {K : PySem.W.Frag} {mg : Mg} {c : Str} {C : Addr} (F : ExF K mg c) (h : mg c = some (.ref C)) : XfC K C ∧ (PySem.W.clsIn K C).isSome = true ∧ PySem.W.findIn K (.ref C) "place" = some none ∧ PySem.W.findIn K (.ref C) "name" = some none ∧
    PySem.W.findIn K (.ref C) "__class__" = some (some (.builtin "object.__class__")) ∧ PySem.W.specialIn K (.builtin "object.__class__") "__get__" = some (some (.builtin "getset_descriptor.__get__")) ∧ PySem.W.takesIn K (.builtin "object.__class__") = some true ∧ PySem.W.mroIn K C (.type "object") = some true := by
  obtain ⟨C', h1, h2⟩ := F
  rw [h] at h1
  cases h1
  exact h2
theorem mem_contains {cs : List Str} {c : Str} (h : cs.contains c = true) : c ∈ cs := by simpa using h
theorem pe_no {X : Cx} {e : Expr} : PE X e (fun _ _ _ => False) := ⟨fun _ _ _ _ _ _ h => h.elim⟩
theorem ex_hotP (i : Nat) {p2 : Pos} (hz : Zc cls d oe) (hf : ∃ vs, oe.data = .fields vs) (F : ∀ c ∈ cs, ExF X.K X.mg c) (hN : X.N[i]? = some x := by rfl) (hv : Vis X.env.scope x := by first | exact Or.inl rfl | exact Or.inr (Or.inl rfl) | exact Or.inr (Or.inr rfl)) (hd : (x == ("__debug__" : Str)) = false := by decide)
    (hcd : (x == ("__classdict__" : Str)) = false := by decide) (hb : attributeBase (.Name x p) "place" X.env (eval (.Name x p) X.env) = eval (.Name x p) X.env := by rfl) : EX (X.suite a ((a, oe) :: pn)) Wx (.Attribute (.Name x p) "place" p2) (hotP i cs) := by
  have pv : PE (X.suite a ((a, oe) :: pn)) (.Name x p) (tVar i) := pe_var (X := X.suite a ((a, oe) :: pn)) hN hv hd hcd
  by_cases hC : ∃ c ∈ cs, ∃ C, X.mg c = some (.ref C) ∧ cls = .ref C
  · obtain ⟨c, hc, C, hm, rfl⟩ := hC
    obtain ⟨T, _, hp, _⟩ := hot_ask (F c hc) hm
    refine ⟨_, pe_xf T hp hz hf pv hb, fun e ι B H ρ O σ Q r q => ?_⟩
    unfold hotP at q
    split at q
    · rename_i c2 pl hs
      split at q
      · obtain ⟨h1, C', dx, h2, h3, h4, fs, v, h5, h6, h7, h8⟩ := hot_get hz r hs
        exact ⟨_, h1, rfl, rfl, dx, fs, v, h3, r.sub _ _ h5, h6, q ι B H v r (Pre.refl _) (Same.refl _) h7⟩
      · exact q.elim
    · exact q.elim
  · refine ⟨_, pe_no, fun e ι B H ρ O σ Q r q => ?_⟩
    unfold hotP at q
    split at q
    · rename_i c2 pl hs
      split at q
      · rename_i hc2
        obtain ⟨h1, C', dx, h2, h3, h4, _⟩ := hot_get hz r hs
        exact hC ⟨c2, mem_contains hc2, C', h4, h2⟩
      · exact q.elim
    · exact q.elim
theorem ex_hotN (i : Nat) {p2 : Pos} (hz : Zc cls d oe) (hf : ∃ vs, oe.data = .fields vs) (F : ∀ c ∈ cs, ExF X.K X.mg c) (hN : X.N[i]? = some x := by rfl) (hv : Vis X.env.scope x := by first | exact Or.inl rfl | exact Or.inr (Or.inl rfl) | exact Or.inr (Or.inr rfl)) (hd : (x == ("__debug__" : Str)) = false := by decide)
    (hcd : (x == ("__classdict__" : Str)) = false := by decide) (hb : attributeBase (.Name x p) "name" X.env (eval (.Name x p) X.env) = eval (.Name x p) X.env := by rfl) : EX (X.suite a ((a, oe) :: pn)) Wx (.Attribute (.Name x p) "name" p2) (hotN i cs) := by
  have pv : PE (X.suite a ((a, oe) :: pn)) (.Name x p) (tVar i) := pe_var (X := X.suite a ((a, oe) :: pn)) hN hv hd hcd
  by_cases hC : ∃ c ∈ cs, ∃ C, X.mg c = some (.ref C) ∧ cls = .ref C
  · obtain ⟨c, hc, C, hm, rfl⟩ := hC
    obtain ⟨T, _, _, hp, _⟩ := hot_ask (F c hc) hm
    refine ⟨_, pe_xf T hp hz hf pv hb, fun e ι B H ρ O σ Q r q => ?_⟩
    unfold hotN at q
    split at q
    · rename_i c2 pl hs
      split at q
      · obtain ⟨h1, C', dx, h2, h3, h4, fs, v, h5, h6, h7, h8⟩ := hot_get hz r hs
        exact ⟨_, h1, rfl, rfl, dx, fs, _, h3, r.sub _ _ h5, h8, q ι B H _ r (Pre.refl _) (Same.refl _) (.str c2)⟩
      · exact q.elim
    · exact q.elim
  · refine ⟨_, pe_no, fun e ι B H ρ O σ Q r q => ?_⟩
    unfold hotN at q
    split at q
    · rename_i c2 pl hs
      split at q
      · rename_i hc2
        obtain ⟨h1, C', dx, h2, h3, h4, _⟩ := hot_get hz r hs
        exact hC ⟨c2, mem_contains hc2, C', h4, h2⟩
      · exact q.elim
    · exact q.elim
/-- isinstance(err, T) -/
def rIsX (K : PySem.W.Frag) (C a : Addr) (d : Option Addr) : List V → Hp → VK → Prop := fun xs H Q => ∃ (c : V) (cv : Value) (b : Bool) (dd : Addr) (fs : List (Str × V)), xs = [.ref a, c] ∧ (∀ u, RelV c u → u = cv) ∧ PySem.W.kitOne K (.ref C) cv = some b ∧ d = some dd ∧ H dd = some (.xd fs) ∧ Q (.bl b) H
theorem call_isX {C : Addr} {c0 : Str} (F : ExF X.K X.mg c0) (hm : X.mg c0 = some (.ref C)) (hz : Zc (.ref C) d oe) (hf : ∃ vs, oe.data = .fields vs) : CallR (X.suite a ((a, oe) :: pn)) (.builtin "isinstance") (rIsX X.K C a d) := by
  intro pins s σ H xs us Q I r h
  obtain ⟨c, cv, b, dd, fs, rfl, hcv, e, ed, ea, q⟩ := h
  obtain ⟨T, hcl, _, _, ha, hn, ht, hmr⟩ := hot_ask F hm
  obtain ⟨u1, u2, rfl, r1, r2⟩ := vals2 r
  cases (show u1 = Value.ref a from r1)
  have ec := hcv _ r2
  subst ec
  obtain ⟨hp, _⟩ := I.pin (a, oe) (List.mem_append_left _ List.mem_cons_self)
  obtain ⟨vs, hd⟩ := hf
  have hx : ObjOk X.prog X.w H s.heap dd (.xd fs) := I.hok dd _ ea
  obtain ⟨mA, hns, hr⟩ := hx
  obtain ⟨od, ho, hl⟩ := lookIn_ns hns
  have J : PySem.W.InstAt s.heap a oe C (some od) := ⟨hp, hz.1, by unfold PySem.W.notCls; rw [hd], by rw [hz.2, ed]; exact ho⟩
  exact PySem.W.kia_one (PySem.W.kitx_exc hcl T.ga T.gg T.exC ha hn ht hmr) I.kIn J e (fun z => nomatch z) fun tk => ⟨.bl b, H, I.tok tk, rfl, q⟩
theorem ex_hotI (i : Nat) {T : Str} {pc pT : Pos} {ks : List (Str × Bool)} {c : V} {cv : Value} (hm : X.mg "isinstance" = none) (hz : Zc cls d oe) (hf : ∃ vs, oe.data = .fields vs) (F : ∀ k ∈ ks, ExF X.K X.mg k.1) (hT : PE (X.suite a ((a, oe) :: pn)) (.Name T pT) (tC c)) (hcv : ∀ u, RelV c u → u = cv) (hS : Sub X.K X.mg cv ks)
    (hg : Gl X "isinstance" := by rfl) (hN : X.N[i]? = some x := by rfl) (hv : Vis X.env.scope x := by first | exact Or.inl rfl | exact Or.inr (Or.inl rfl) | exact Or.inr (Or.inr rfl)) (hd : (x == ("__debug__" : Str)) = false := by decide)
    (hcd : (x == ("__classdict__" : Str)) = false := by decide) (he : starEach [.Name x p, .Name T pT] X.env = (false, eval (.Name x p) X.env) :: starEach [.Name T pT] X.env := by rfl) (he2 : starEach [.Name T pT] X.env = (false, eval (.Name T pT) X.env) :: starEach [] X.env := by rfl) (hpl : (backTo pos (starEach [.Name T pT] X.env)).any (·.1) = false := by rfl) :
    EX (X.suite a ((a, oe) :: pn)) Wx (.Call (.Name "isinstance" pc) [.Name x p, .Name T pT] [] pos) (hotI i ks) := by
  have pv : PE (X.suite a ((a, oe) :: pn)) (.Name x p) (tVar i) := pe_var (X := X.suite a ((a, oe) :: pn)) hN hv hd hcd
  by_cases hC : ∃ k ∈ ks, ∃ C, X.mg k.1 = some (.ref C) ∧ cls = .ref C
  · obtain ⟨k, hk, C, hmC, rfl⟩ := hC
    refine ⟨_, pe_callB (X := X.suite a ((a, oe) :: pn)) (call_isX (F k hk) hmC hz hf) hg hm (by first | boot_by_name | rfl) (pa_cons pv (pa_cons hT pa_nil he2) he) (by decide) (by decide) he hpl, fun e ι B H ρ O σ Q r q => ?_⟩
    unfold hotI at q
    split at q
    · rename_i c2 pl hs
      split at q
      · rename_i b hb
        obtain ⟨h1, C', dx, h2, h3, h4, fs, v, h5, h6, h7, h8⟩ := hot_get hz r hs
        cases h2
        obtain ⟨C2, hm2, hk2⟩ := hS _ _ hb
        rw [h4] at hm2
        cases hm2
        exact ⟨_, h1, c, cv, b, dx, fs, rfl, hcv, hk2, h3, r.sub _ _ h5, q ι B H _ r (Pre.refl _) (Same.refl _) (.bl b)⟩
      · exact q.elim
    · exact q.elim
  · refine ⟨_, pe_no, fun e ι B H ρ O σ Q r q => ?_⟩
    unfold hotI at q
    split at q
    · rename_i c2 pl hs
      split at q
      · rename_i b hb
        obtain ⟨h1, C', dx, h2, h3, h4, _⟩ := hot_get hz r hs
        have := mem_of_lookup hb
        exact hC ⟨_, this, C', h4, h2⟩
      · exact q.elim
    · exact q.elim
end

/-! ### try -/
theorem Rel.heat {K : PySem.W.Frag} {mg : Mg} {e : Ent} {ι : List Addr} {B H : Hp} {ρ : Rho} {O : Sto} {σ : St} {h : Option (Addr × Value × Option Addr)} (r : Rel K mg e ι B H ρ O σ) (he : e.hot = none) : Rel K mg { e with hot := h } ι B H ρ O σ := by
  refine ⟨r.sub, r.eB, r.ei, r.fB, r.fH, r.fi, r.len, fun i x q => ?_, r.sep, r.lo, r.ob, r.nd, r.tb⟩
  obtain ⟨v, h1, h2⟩ := r.sl i x q
  refine ⟨v, h1, ?_⟩
  cases x with
  | shr d => exact h2
  | own c => exact h2
  | hot c p =>
    obtain ⟨a, C, dx, h3, _⟩ := h2
    rw [he] at h3
    cases h3
def coolO : Option SD → Option SD
  | some (.hot _ _) => none
  | x => x
def coolR (ρ : Rho) : Rho := ρ.map coolO
theorem Rel.cool {K : PySem.W.Frag} {mg : Mg} {e : Ent} {ι : List Addr} {B H : Hp} {ρ : Rho} {O : Sto} {σ : St} {h : Option (Addr × Value × Option Addr)} (r : Rel K mg e ι B H ρ O σ) : Rel K mg { e with hot := h } ι B H (coolR ρ) O σ := by
  have get : ∀ (i : Nat) (x : SD), (coolR ρ)[i]? = some (some x) → ρ[i]? = some (some x) ∧ ∀ c p, x ≠ .hot c p := fun i x q => by
    unfold coolR at q
    rw [List.getElem?_map] at q
    cases z : ρ[i]? with
    | none => rw [z] at q; cases q
    | some o =>
      rw [z] at q
      simp only [Option.map_some, Option.some.injEq] at q
      cases o with
      | none => cases q
      | some y =>
        cases y with
        | shr d => cases q; exact ⟨rfl, fun _ _ z => nomatch z⟩
        | own c => cases q; exact ⟨rfl, fun _ _ z => nomatch z⟩
        | hot c p => cases q
  refine ⟨r.sub, r.eB, r.ei, r.fB, r.fH, r.fi, by unfold coolR; rw [List.length_map]; exact r.len, fun i x q => ?_, fun i j a c c' h1 h2 => r.sep i j a c c' (get i _ h1).1 (get j _ h2).1, r.lo, r.ob, r.nd, r.tb⟩
  obtain ⟨q1, q2⟩ := get i x q
  obtain ⟨v, h1, h2⟩ := r.sl i x q1
  refine ⟨v, h1, ?_⟩
  cases x with
  | shr d => exact h2
  | own c => exact h2
  | hot c p => exact absurd rfl (q2 c p)
def canonS (X : Cx) (Wx : WX) (m : MS) : TS := fun D' σ H => ∃ e ι B ρ O, Rel X.K X.mg (en X e) ι B H ρ O σ ∧ EvSP X Wx e ι B D' (m ρ O)
/-- the slot behind the suite -/
def offS (o : Option Nat) : RS → RS
  | .nx ρ O => .nx (match o with | some i => (coolR ρ).set i none | none => coolR ρ) O
  | .bk ρ O => .bk (match o with | some i => (coolR ρ).set i none | none => coolR ρ) O
  | .ct ρ O => .ct (match o with | some i => (coolR ρ).set i none | none => coolR ρ) O
  | .ret (.shr d) O => .ret (.shr d) O
  | .ret (.own c) O => .ret (.own c) O
  | _ => .bad
/-- try: mb, except the classes that ks says: ms; the exception in slot o -/
def tryS (ks : List (Str × Bool)) (o : Option Nat) (mb ms : MS) : MS := fun ρ O => match mb ρ O with
  | .err c p ρ' O' => (match ks.lookup c with
    | some true => offS o (ms (match o with | some i => ρ'.set i (some (.hot c p)) | none => ρ') O')
    | some false => .err c p ρ' O'
    | none => .bad)
  | r => r
section
variable {X : Cx} {Wx : WX}
theorem en_tr {pn : List (Addr × Obj)} {xe : Value → Shared → Prop} (hc : X.calm = true) (e : Ent) : en (X.tr pn xe) e = en X e := by
  show Ent.mk _ _ _ (cond X.calm _ _) = Ent.mk _ _ _ (cond X.calm _ _)
  rw [hc]
  rfl
theorem en_calm (hc : X.calm = true) (e : Ent) : en X e = { e with hot := none } := by
  show Ent.mk _ _ _ (cond X.calm _ _) = _
  rw [hc]
  rfl
theorem EvSP.tr {pn : List (Addr × Obj)} {xe : Value → Shared → Prop} {e : Ent} {ι : List Addr} {B : Hp} {D' : Ends} {r : RS} (hc : X.calm = true) (h : EvSP X Wx e ι B D' r) : EvSP (X.tr pn xe) Wx e ι B D' r := by
  cases r with
  | nx ρ' O' => exact fun ι' B' H' σ' r' => h ι' B' H' σ' (by rw [en_tr hc] at r'; exact r')
  | bk ρ' O' => exact fun ι' B' H' σ' r' => h ι' B' H' σ' (by rw [en_tr hc] at r'; exact r')
  | ct ρ' O' => exact fun ι' B' H' σ' r' => h ι' B' H' σ' (by rw [en_tr hc] at r'; exact r')
  | ret x O' => exact fun ι' B' H' v r' i' b' s => h ι' B' H' v (by rw [en_tr hc] at r'; exact r') i' b' (by rw [en_tr hc] at s; exact s)
  | err c p ρ' O' => exact fun ι' B' H' σ' C dx r' => h ι' B' H' σ' C dx (by rw [en_tr hc] at r'; exact r')
  | bad => exact h
theorem EB.tr {pn : List (Addr × Obj)} {xe : Value → Shared → Prop} {sts : List Stmt} {m : MS} (hc : X.calm = true) (h : EB (X.tr pn xe) Wx sts m) : PSs (X.tr pn xe) sts (canonS X Wx m) := by
  obtain ⟨t, pt, et⟩ := h
  exact ⟨fun pins s σ H D' I ⟨e, ι, B, ρ, O, r, q⟩ => pt.run pins s σ H D' I (et e ι B H ρ O σ D' (by rw [en_tr hc]; exact r) (EvSP.tr hc q))⟩
def oe0 (cls : Value) (d : Option Addr) : Obj := { cls := cls, dict := d, data := .fields #[] }
theorem en_suite {a : Addr} {oe : Obj} {cls : Value} {d : Option Addr} {pn : List (Addr × Obj)} (hz : Zc cls d oe) (e : Ent) : en (X.suite a ((a, oe) :: pn)) e = en (X.suite a [(a, oe0 cls d)]) e := by
  show Ent.mk _ _ _ (some (a, oe.cls, oe.dict)) = Ent.mk _ _ _ (some (a, cls, d))
  rw [hz.1, hz.2]
theorem EvSP.suite {a : Addr} {oe : Obj} {cls : Value} {d : Option Addr} {pn : List (Addr × Obj)} (hz : Zc cls d oe) {e : Ent} {ι : List Addr} {B : Hp} {D' : Ends} {r : RS} {W : WX} (h : EvSP (X.suite a [(a, oe0 cls d)]) W e ι B D' r) : EvSP (X.suite a ((a, oe) :: pn)) W e ι B D' r := by
  cases r with
  | nx ρ' O' => exact fun ι' B' H' σ' r' => h ι' B' H' σ' (by rw [en_suite hz] at r'; exact r')
  | bk ρ' O' => exact fun ι' B' H' σ' r' => h ι' B' H' σ' (by rw [en_suite hz] at r'; exact r')
  | ct ρ' O' => exact fun ι' B' H' σ' r' => h ι' B' H' σ' (by rw [en_suite hz] at r'; exact r')
  | ret x O' => exact fun ι' B' H' v r' i' b' s => h ι' B' H' v (by rw [en_suite hz] at r'; exact r') i' b' (by rw [en_suite hz] at s; exact s)
  | err c p ρ' O' => exact fun ι' B' H' σ' C dx r' => h ι' B' H' σ' C dx (by rw [en_suite hz] at r'; exact r')
  | bad => exact h
theorem EB.suite {a : Addr} {oe : Obj} {cls : Value} {d : Option Addr} {pn : List (Addr × Obj)} {sts : List Stmt} {m : MS} {W : WX} (hz : Zc cls d oe) (h : EB (X.suite a ((a, oe) :: pn)) W sts m) : PSs (X.suite a ((a, oe) :: pn)) sts (canonS (X.suite a [(a, oe0 cls d)]) W m) := by
  obtain ⟨t, pt, et⟩ := h
  exact ⟨fun pins s σ H D' I ⟨e, ι, B, ρ, O, r, q⟩ => pt.run pins s σ H D' I (et e ι B H ρ O σ D' (by rw [en_suite hz]; exact r) (EvSP.suite hz q))⟩
/-- the suite's end as the try's -/
theorem off_suite {a : Addr} {C dx : Addr} {e : Ent} {ι ι' : List Addr} {B B' : Hp} {D' : Ends} {r : RS} {i : Nat} (hc : X.calm = true) (hi : Pre ι ι') (hB : Same B B') (h : EvSP X Wx e ι B D' (offS (some i) r)) :
    EvSP (X.suite a [(a, oe0 (.ref C) (some dx))]) WF e ι' B' { nx := fun σ' H' => D'.nx (σ'.set i none) H', rt := D'.rt, bk := fun σ' H' => D'.bk (σ'.set i none) H', ct := fun σ' H' => D'.ct (σ'.set i none) H' } r := by
  have out : ∀ {ι3 : List Addr} {B3 H3 : Hp} {ρ3 : Rho} {O3 : Sto} {σ3 : St}, Rel X.K X.mg (en (X.suite a [(a, oe0 (.ref C) (some dx))]) e) ι3 B3 H3 ρ3 O3 σ3 → Rel X.K X.mg (en X e) ι3 B3 H3 (coolR ρ3) O3 σ3 := fun r => by rw [en_calm hc]; exact r.cool
  cases r with
  | nx ρ' O' => exact fun ι3 B3 H3 σ3 r3 i3 b3 => h ι3 B3 H3 _ (out r3).unset (hi.trans i3) (hB.trans b3)
  | bk ρ' O' => exact fun ι3 B3 H3 σ3 r3 i3 b3 => h ι3 B3 H3 _ (out r3).unset (hi.trans i3) (hB.trans b3)
  | ct ρ' O' => exact fun ι3 B3 H3 σ3 r3 i3 b3 => h ι3 B3 H3 _ (out r3).unset (hi.trans i3) (hB.trans b3)
  | ret x O' =>
    cases x with
    | shr d => exact fun ι3 B3 H3 v r3 i3 b3 s => h ι3 B3 H3 v (out r3) (hi.trans i3) (hB.trans b3) s
    | own c => exact fun ι3 B3 H3 v r3 i3 b3 s => h ι3 B3 H3 v (out r3) (hi.trans i3) (hB.trans b3) s
    | hot c p => exact h.elim
  | err c p ρ' O' => exact h.elim
  | bad => exact h.elim
theorem off_only {a : Addr} {C dx : Addr} {e : Ent} {ι ι' : List Addr} {B B' : Hp} {D' : Ends} {r : RS} (hc : X.calm = true) (hi : Pre ι ι') (hB : Same B B') (h : EvSP X Wx e ι B D' (offS none r)) :
    EvSP (X.suite a [(a, oe0 (.ref C) (some dx))]) WF e ι' B' D' r := by
  have out : ∀ {ι3 : List Addr} {B3 H3 : Hp} {ρ3 : Rho} {O3 : Sto} {σ3 : St}, Rel X.K X.mg (en (X.suite a [(a, oe0 (.ref C) (some dx))]) e) ι3 B3 H3 ρ3 O3 σ3 → Rel X.K X.mg (en X e) ι3 B3 H3 (coolR ρ3) O3 σ3 := fun r => by rw [en_calm hc]; exact r.cool
  cases r with
  | nx ρ' O' => exact fun ι3 B3 H3 σ3 r3 i3 b3 => h ι3 B3 H3 _ (out r3) (hi.trans i3) (hB.trans b3)
  | bk ρ' O' => exact fun ι3 B3 H3 σ3 r3 i3 b3 => h ι3 B3 H3 _ (out r3) (hi.trans i3) (hB.trans b3)
  | ct ρ' O' => exact fun ι3 B3 H3 σ3 r3 i3 b3 => h ι3 B3 H3 _ (out r3) (hi.trans i3) (hB.trans b3)
  | ret x O' =>
    cases x with
    | shr d => exact fun ι3 B3 H3 v r3 i3 b3 s => h ι3 B3 H3 v (out r3) (hi.trans i3) (hB.trans b3) s
    | own c => exact fun ι3 B3 H3 v r3 i3 b3 s => h ι3 B3 H3 v (out r3) (hi.trans i3) (hB.trans b3) s
    | hot c p => exact h.elim
  | err c p ρ' O' => exact h.elim
  | bad => exact h.elim
variable {x n : Str} {c : Value} {body suite : List Stmt} {b₀ : Stmt} {np pos pos' : Pos} {ks : List (Str × Bool)} {mb ms : MS}
theorem es_tryAs (i : Nat) (hc0 : X.calm = true) (tk : Takes X Wx) (hc : Names X x c) (hE : Exm X.K X.mg c ks)
    (hb : ∀ (W : WX) (pn : List (Addr × Obj)) (xe : Value → Shared → Prop), Takes (X.tr pn xe) W → PassesOwn (model X.prog X.w) X.A X.env xe → EB (X.tr pn xe) W body mb)
    (hsu : ∀ (a : Addr) (oe : Obj) (cls : Value) (d : Option Addr) (pn : List (Addr × Obj)), Zc cls d oe → (∃ vs, oe.data = .fields vs) → EB (X.suite a ((a, oe) :: pn)) WF (b₀ :: suite) ms)
    (hs : X.stack = X.env :: X.outer := by rfl) (hf : X.env.frame = some X.env.locals := by rfl) (hN : X.N.Nodup) (hi : X.N[i]? = some n := by rfl) (hln : X.env.kindOf n = some .local := by rfl) :
    ES X Wx (.Try body [.ExceptHandler (some (.Name x np)) (some n) (b₀ :: suite) pos'] [] [] pos) (tryS ks (some i) mb ms) := by
  refine ⟨_, ps_try_as (tb := fun W => canonS X W mb) (ts := fun a cls d => canonS (X.suite a [(a, oe0 cls d)]) WF ms) hs hf hN hi hln hc tk (fun W pn xe t hp => (hb W pn xe t hp).tr hc0) (fun a oe cls d pn hz hd => (hsu a oe cls d pn hz hd).suite hz), fun e ι B H ρ O σ D' r q => ?_⟩
  refine ⟨e, ι, B, ρ, O, r, ?_⟩
  unfold tryS at q
  cases z : mb ρ O with
  | nx ρ' O' => rw [z] at q; exact q
  | bk ρ' O' => rw [z] at q; exact q
  | ct ρ' O' => rw [z] at q; exact q
  | ret x O' => rw [z] at q; exact q
  | bad => rw [z] at q; exact q
  | err c' p ρ' O' =>
    rw [z] at q
    dsimp only at q
    intro ι' B' H' σ' C dx r' i' b' hx
    cases hk : ks.lookup c' with
    | none => rw [hk] at q; exact q.elim
    | some b =>
      rw [hk] at q
      obtain ⟨C', hm, he⟩ := hE _ _ hk
      rw [hx.1] at hm
      cases hm
      refine ⟨b, he, fun hb1 a ha => ?_, fun hb0 => ?_⟩
      · subst hb1
        have r2 : Rel X.K X.mg (en (X.suite a [(a, oe0 (.ref C) (some dx))]) e) ι' B' H' ρ' O' σ' := by
          rw [en_calm hc0] at r'
          exact r'.heat rfl
        by_cases hl : i < ρ'.length
        · exact ⟨e, ι', B', _, O', r2.setHot ⟨a, C, dx, rfl, rfl, hx⟩ hl, off_suite hc0 i' b' q⟩
        · have e1 : ρ'.set i (some (.hot c' p)) = ρ' := List.set_eq_of_length_le (by omega)
          have e2 : σ'.set i (some (.ref a)) = σ' := List.set_eq_of_length_le (by rw [r'.len]; omega)
          rw [e1] at q
          rw [e2]
          exact ⟨e, ι', B', _, O', r2, off_suite hc0 i' b' q⟩
      · subst hb0
        exact q ι' B' H' σ' C dx r' i' b' hx
theorem es_tryOnly (hc0 : X.calm = true) (tk : Takes X Wx) (hc : Names X x c) (hE : Exm X.K X.mg c ks)
    (hb : ∀ (W : WX) (pn : List (Addr × Obj)) (xe : Value → Shared → Prop), Takes (X.tr pn xe) W → PassesOwn (model X.prog X.w) X.A X.env xe → EB (X.tr pn xe) W body mb)
    (hsu : ∀ (a : Addr) (oe : Obj) (cls : Value) (d : Option Addr) (pn : List (Addr × Obj)), Zc cls d oe → (∃ vs, oe.data = .fields vs) → EB (X.suite a ((a, oe) :: pn)) WF (b₀ :: suite) ms)
    (hs : X.stack = X.env :: X.outer := by rfl) (hf : X.env.frame = some X.env.locals := by rfl) :
    ES X Wx (.Try body [.ExceptHandler (some (.Name x np)) none (b₀ :: suite) pos'] [] [] pos) (tryS ks none mb ms) := by
  refine ⟨_, ps_try_only (tb := fun W => canonS X W mb) (ts := fun a cls d => canonS (X.suite a [(a, oe0 cls d)]) WF ms) hs hf hc tk (fun W pn xe t hp => (hb W pn xe t hp).tr hc0) (fun a oe cls d pn hz hd => (hsu a oe cls d pn hz hd).suite hz), fun e ι B H ρ O σ D' r q => ?_⟩
  refine ⟨e, ι, B, ρ, O, r, ?_⟩
  unfold tryS at q
  cases z : mb ρ O with
  | nx ρ' O' => rw [z] at q; exact q
  | bk ρ' O' => rw [z] at q; exact q
  | ct ρ' O' => rw [z] at q; exact q
  | ret x O' => rw [z] at q; exact q
  | bad => rw [z] at q; exact q
  | err c' p ρ' O' =>
    rw [z] at q
    dsimp only at q
    intro ι' B' H' σ' C dx r' i' b' hx
    cases hk : ks.lookup c' with
    | none => rw [hk] at q; exact q.elim
    | some b =>
      rw [hk] at q
      obtain ⟨C', hm, he⟩ := hE _ _ hk
      rw [hx.1] at hm
      cases hm
      refine ⟨b, he, fun hb1 a ha => ?_, fun hb0 => ?_⟩
      · subst hb1
        have r2 : Rel X.K X.mg (en (X.suite a [(a, oe0 (.ref C) (some dx))]) e) ι' B' H' ρ' O' σ' := by
          rw [en_calm hc0] at r'
          exact r'.heat rfl
        exact ⟨e, ι', B', _, O', r2, off_only hc0 i' b' q⟩
      · subst hb0
        exact q ι' B' H' σ' C dx r' i' b' hx
theorem names_own {D : Addr} (h : X.mg x = some (.ref D)) (hg : Gl X x) (hdb : (x == ("__debug__" : Str)) = false) : Names X x (.ref D) := ⟨hg, hdb, .inl h⟩
/-- what stands of the class x in a clause: which of the raised classes are below it -/
def ClsE (K : PySem.W.Frag) (mg : Mg) (x : Str) (ks : List (Str × Bool)) : Prop := ∃ D, mg x = some (.ref D) ∧ Exm K mg (.ref D) ks
def ClsS (K : PySem.W.Frag) (mg : Mg) (x : Str) (ks : List (Str × Bool)) : Prop := ∃ D, mg x = some (.ref D) ∧ Sub K mg (.ref D) ks
theorem es_tryAs' (i : Nat) (hc0 : X.calm = true) (tk : Takes X Wx) (hE : ClsE X.K X.mg x ks)
    (hb : ∀ (W : WX) (pn : List (Addr × Obj)) (xe : Value → Shared → Prop), Takes (X.tr pn xe) W → PassesOwn (model X.prog X.w) X.A X.env xe → EB (X.tr pn xe) W body mb)
    (hsu : ∀ (a : Addr) (oe : Obj) (cls : Value) (d : Option Addr) (pn : List (Addr × Obj)), Zc cls d oe → (∃ vs, oe.data = .fields vs) → EB (X.suite a ((a, oe) :: pn)) WF (b₀ :: suite) ms)
    (hN : X.N.Nodup) (hg : Gl X x := by rfl) (hdb : (x == ("__debug__" : Str)) = false := by decide) (hs : X.stack = X.env :: X.outer := by rfl) (hf : X.env.frame = some X.env.locals := by rfl) (hi : X.N[i]? = some n := by rfl) (hln : X.env.kindOf n = some .local := by rfl) :
    ES X Wx (.Try body [.ExceptHandler (some (.Name x np)) (some n) (b₀ :: suite) pos'] [] [] pos) (tryS ks (some i) mb ms) := by
  obtain ⟨D, h1, h2⟩ := hE
  exact es_tryAs i hc0 tk (names_own h1 hg hdb) h2 hb hsu hs hf hN hi hln
theorem es_tryOnly' (hc0 : X.calm = true) (tk : Takes X Wx) (hE : ClsE X.K X.mg x ks)
    (hb : ∀ (W : WX) (pn : List (Addr × Obj)) (xe : Value → Shared → Prop), Takes (X.tr pn xe) W → PassesOwn (model X.prog X.w) X.A X.env xe → EB (X.tr pn xe) W body mb)
    (hsu : ∀ (a : Addr) (oe : Obj) (cls : Value) (d : Option Addr) (pn : List (Addr × Obj)), Zc cls d oe → (∃ vs, oe.data = .fields vs) → EB (X.suite a ((a, oe) :: pn)) WF (b₀ :: suite) ms)
    (hg : Gl X x := by rfl) (hdb : (x == ("__debug__" : Str)) = false := by decide) (hs : X.stack = X.env :: X.outer := by rfl) (hf : X.env.frame = some X.env.locals := by rfl) :
    ES X Wx (.Try body [.ExceptHandler (some (.Name x np)) none (b₀ :: suite) pos'] [] [] pos) (tryS ks none mb ms) := by
  obtain ⟨D, h1, h2⟩ := hE
  exact es_tryOnly hc0 tk (names_own h1 hg hdb) h2 hb hsu hs hf
end
section
variable {X : Cx} {Wx : WX} {x : Str} {p pos : Pos} {a : Addr} {oe : Obj} {cls : Value} {d : Option Addr} {pn : List (Addr × Obj)}
theorem ex_hotIo (i : Nat) {T : Str} {pc pT : Pos} {ks : List (Str × Bool)} (hm : X.mg "isinstance" = none) (hz : Zc cls d oe) (hf : ∃ vs, oe.data = .fields vs) (F : ∀ k ∈ ks, ExF X.K X.mg k.1) (hS : ClsS X.K X.mg T ks) (hgT : Gl X T := by rfl) (hdT : (T == ("__debug__" : Str)) = false := by decide)
    (hg : Gl X "isinstance" := by rfl) (hN : X.N[i]? = some x := by rfl) (hv : Vis X.env.scope x := by first | exact Or.inl rfl | exact Or.inr (Or.inl rfl) | exact Or.inr (Or.inr rfl)) (hd : (x == ("__debug__" : Str)) = false := by decide)
    (hcd : (x == ("__classdict__" : Str)) = false := by decide) (he : starEach [.Name x p, .Name T pT] X.env = (false, eval (.Name x p) X.env) :: starEach [.Name T pT] X.env := by rfl) (he2 : starEach [.Name T pT] X.env = (false, eval (.Name T pT) X.env) :: starEach [] X.env := by rfl) (hpl : (backTo pos (starEach [.Name T pT] X.env)).any (·.1) = false := by rfl) :
    EX (X.suite a ((a, oe) :: pn)) Wx (.Call (.Name "isinstance" pc) [.Name x p, .Name T pT] [] pos) (hotI i ks) := by
  obtain ⟨D, h1, h2⟩ := hS
  exact ex_hotI i hm hz hf F (pe_glob (X := X.suite a ((a, oe) :: pn)) (v := .ref D) hgT h1 rfl hdT) (fun u h => h) h2 hg hN hv hd hcd he he2 hpl
theorem ex_hotIt (i : Nat) {T : String} {pc pT : Pos} {ks : List (Str × Bool)} (hm : X.mg "isinstance" = none) (hz : Zc cls d oe) (hf : ∃ vs, oe.data = .fields vs) (F : ∀ k ∈ ks, ExF X.K X.mg k.1) (hmT : X.mg T = none) (hS : Sub X.K X.mg (.type T) ks) (hbT : bootBuiltins T = some (.type T) := by first | boot_by_name | rfl) (hnT : (T : Str) ≠ "__name__" := by decide) (hgT : Gl X T := by rfl) (hdT : ((T : Str) == ("__debug__" : Str)) = false := by decide)
    (hg : Gl X "isinstance" := by rfl) (hN : X.N[i]? = some x := by rfl) (hv : Vis X.env.scope x := by first | exact Or.inl rfl | exact Or.inr (Or.inl rfl) | exact Or.inr (Or.inr rfl)) (hd : (x == ("__debug__" : Str)) = false := by decide)
    (hcd : (x == ("__classdict__" : Str)) = false := by decide) (he : starEach [.Name x p, .Name T pT] X.env = (false, eval (.Name x p) X.env) :: starEach [.Name T pT] X.env := by rfl) (he2 : starEach [.Name T pT] X.env = (false, eval (.Name T pT) X.env) :: starEach [] X.env := by rfl) (hpl : (backTo pos (starEach [.Name T pT] X.env)).any (·.1) = false := by rfl) :
    EX (X.suite a ((a, oe) :: pn)) Wx (.Call (.Name "isinstance" pc) [.Name x p, .Name T pT] [] pos) (hotI i ks) :=
  ex_hotI i hm hz hf F (pe_bltn (X := X.suite a ((a, oe) :: pn)) (v := .ty T) hgT hmT hbT rfl hnT hdT) (fun u h => h) hS hg hN hv hd hcd he he2 hpl
end

/-! ### the facts, from the written part -/
section
variable {K : PySem.W.Frag} {h : Heap} {mg : Mg} {P : Program} {x : Str}
theorem sfn_mk {f D cda cc : Addr} {params : Arguments} {body : List Stmt} {scope : Scope} {ps : List Str} {file : Str} {oc : Value} {od : Option Addr} {osl : Array (Option Value)} {name qual : Str} {dV kV doc pm ct : Value} {an : Option Addr} {ccl : Value} {cdd : Option Addr} {vs : Array Value} {ccs : Array (Option Value)} {tf : Tok} {cl : Value} {cld : Option Addr} {csl : Array (Option Value)} {ar : Arg}
    (lf : K.lookup f = some ⟨oc, od, .func (PySem.W.ksFn name qual params body scope dV kV doc pm an (.ref cda) ct cc), osl⟩) (hcd : PySem.W.codeIn K (.ref cda) qual = true) (lc : K.lookup cda = some ⟨ccl, cdd, .fields vs, ccs⟩) (hv : vs[2]? = some (.str file tf)) (lcc : K.lookup cc = some ⟨cl, cld, .cell (some (.ref D)), csl⟩)
    (bt : ∀ (s : Shared) (us : List Value), K.In s.heap → us.length = ps.length → BindsTo s (PySem.W.ksFn name qual params body scope dV kV doc pm an (.ref cda) ct cc) ⟨us, []⟩ (ps.zip us)) (hh : (params.posonlyargs ++ params.args).head? = some ar) (ha : ar.arg = ("self" : Str))
    (s1 : scope.names.lookup ("super" : Str) = some .globalImplicit) (s2 : scope.names.lookup ("__class__" : Str) = some .free) (s3 : ∀ x ∈ scope.names, x.2 ≠ .cell) (s4 : ∀ x ∈ ps, scope.names.lookup x = some .local) (s5 : scope.kind = .function) (s6 : scope.isCoroutine = false) (s7 : scope.isGenerator = false) (s8 : ("self" : Str) ∈ ps) : DLX.SFn K f D params body scope ps file :=
  ⟨⟨cda, cc, oc, od, osl, name, qual, dV, kV, doc, pm, ct, an, ccl, cdd, vs, ccs, tf, cl, cld, csl, lf, hcd, lc, hv, lcc, bt⟩, ⟨ar, hh, ha⟩, ⟨s1, s2, s3, s4, s5, s6, s7⟩, s8⟩
theorem oex_mk {C : Addr} {nm q : Str} {N : Addr} {bs bm : List Value} {sn : List Str} {sub : List Value} {ab : Bool} {col : Option Bool} {dd : Option Addr} {k0 k1 k2 k3 k5 : Option Value} (l : K.lookup C = some (excClassObj nm q C N bs bm true sn sub ab col dd k0 k1 k2 k3 k5 "ValueError.__new__")) (r : PySem.HandSPX.refsVE bm = true)
    (h1 : PySem.W.findIn K (.ref C) "__setattr__" = some (some (.builtin "object.__setattr__"))) (h2 : PySem.W.subIn K (.ref C) (.type "BaseException") = some true) (h3 : PySem.W.typeIn K (.ref C) = some (.type "type")) (h4 : PySem.W.keepIn K (.ref C) = true) : OexC K C :=
  ⟨⟨nm, q, N, bs, bm, sn, sub, ab, col, dd, k0, k1, k2, k3, k5, l, r⟩, h1, h2, h3, h4⟩
theorem exf_mk {C : Addr} (KX : K.In h) (G : h.Ns mainGlobals mg) (a : PySem.W.nsIn K mainGlobals x = some (some (.ref C))) (g1 : PySem.W.findIn K (.ref C) "__getattribute__" = some (some (.builtin "BaseException.__getattribute__"))) (g2 : PySem.W.findIn K (.ref C) "__getattr__" = some none) (g3 : PySem.W.subIn K (.ref C) (.type "BaseException") = some true)
    (g4 : PySem.W.hasDictIn K C = true) (g5 : (PySem.W.clsIn K C).isSome = true) (g6 : PySem.W.findIn K (.ref C) "place" = some none) (g7 : PySem.W.findIn K (.ref C) "name" = some none) (g8 : PySem.W.findIn K (.ref C) "__class__" = some (some (.builtin "object.__class__")))
    (g9 : PySem.W.specialIn K (.builtin "object.__class__") "__get__" = some (some (.builtin "getset_descriptor.__get__"))) (g10 : PySem.W.takesIn K (.builtin "object.__class__") = some true) (g11 : PySem.W.mroIn K C (.type "object") = some true) : ExF K mg x :=
  ⟨C, PySem.W.mg_of KX G a, ⟨g1, g2, g3, g4⟩, g5, g6, g7, g8, g9, g10, g11⟩
theorem exm_nil {cv : Value} : Exm K mg cv [] := fun x b z => by cases z
theorem exm_cons {cv : Value} {C : Addr} {b : Bool} {ks : List (Str × Bool)} (h1 : mg x = some (.ref C)) (h2 : PySem.W.exmOne K (.ref C) cv = some b) (t : Exm K mg cv ks) : Exm K mg cv ((x, b) :: ks) := fun y c z => by
  rw [List.lookup_cons] at z
  split at z
  · rename_i hy
    cases z
    have : y = x := by simpa using hy
    subst this
    exact ⟨C, h1, h2⟩
  · exact t y c z
theorem sub_nil {cv : Value} : Sub K mg cv [] := fun x b z => by cases z
theorem sub_cons {cv : Value} {C : Addr} {b : Bool} {ks : List (Str × Bool)} (h1 : mg x = some (.ref C)) (h2 : PySem.W.kitOne K (.ref C) cv = some b) (t : Sub K mg cv ks) : Sub K mg cv ((x, b) :: ks) := fun y c z => by
  rw [List.lookup_cons] at z
  split at z
  · rename_i hy
    cases z
    have : y = x := by simpa using hy
    subst this
    exact ⟨C, h1, h2⟩
  · exact t y c z
theorem clsE_mk {D : Addr} {ks : List (Str × Bool)} (KX : K.In h) (G : h.Ns mainGlobals mg) (a : PySem.W.nsIn K mainGlobals x = some (some (.ref D))) (l : Exm K mg (.ref D) ks) : ClsE K mg x ks := ⟨D, PySem.W.mg_of KX G a, l⟩
theorem clsS_mk {D : Addr} {ks : List (Str × Bool)} (KX : K.In h) (G : h.Ns mainGlobals mg) (a : PySem.W.nsIn K mainGlobals x = some (some (.ref D))) (l : Sub K mg (.ref D) ks) : ClsS K mg x ks := ⟨D, PySem.W.mg_of KX G a, l⟩
theorem exm_mk {cv : Value} {C : Addr} {b : Bool} {ks : List (Str × Bool)} (KX : K.In h) (G : h.Ns mainGlobals mg) (a : PySem.W.nsIn K mainGlobals x = some (some (.ref C))) (h2 : PySem.W.exmOne K (.ref C) cv = some b) (t : Exm K mg cv ks) : Exm K mg cv ((x, b) :: ks) := exm_cons (PySem.W.mg_of KX G a) h2 t
theorem sub_mk {cv : Value} {C : Addr} {b : Bool} {ks : List (Str × Bool)} (KX : K.In h) (G : h.Ns mainGlobals mg) (a : PySem.W.nsIn K mainGlobals x = some (some (.ref C))) (h2 : PySem.W.kitOne K (.ref C) cv = some b) (t : Sub K mg cv ks) : Sub K mg cv ((x, b) :: ks) := sub_cons (PySem.W.mg_of KX G a) h2 t
theorem exfs_nil : ∀ k ∈ ([] : List (Str × Bool)), ExF K mg k.1 := fun k h => by cases h
theorem own_mk {C f f2 D2 : Addr} {params params2 : Arguments} {scope scope2 : Scope} {file : Str} {j : Nat} {p0 p1 p2 p3 p4 p5 c0 a0 a1 a2 a3 a4 a5 a6 a7 a8 a9 b1 b2 b3 b4 : Pos} {cd cd2 : ClassData} (KX : K.In h) (G : h.Ns mainGlobals mg)
    (a : PySem.W.nsIn K mainGlobals x = some (some (.ref C))) (iC : PySem.W.findIn K (.ref C) "__init__" = some (some (.ref f))) (tI : PySem.W.typeIn K (.ref f) = some (.type "function")) (up1 : PySem.W.ks_superIn K C C "__init__" = some (some (.ref f2))) (fn2 : PySem.W.fnIn K f2 = true) (ty2 : PySem.W.typeIn K (.ref f2) = some (.type "function"))
    (S : DLX.SFn K f C params [.Expr (.Call (.Attribute (.Call (.Name "super" p0) [] [] p1) "__init__" p2) [.Name "place" p3, .Constant (.str x) j c0] [] p4) p5] scope ["self", "place"] file)
    (S2 : DLX.SFn K f2 D2 params2 [.Expr (.Call (.Attribute (.Call (.Name "super" a0) [] [] a1) "__init__" a2) [.Name "place" a3] [] a4) a5, .Assign [.Attribute (.Name "self" a6) "place" a7] (.Name "place" a8) a9, .Assign [.Attribute (.Name "self" b1) "name" b2] (.Name "name" b3) b4] scope2 ["self", "place", "name"] file)
    (sc1 : DLX.SupCall [.Name "place" p3, .Constant (.str x) j c0] p0 p1 p2 p4) (sc2 : DLX.SupCall [.Name "place" a3] a0 a1 a2 a4)
    (T : OexC K C) (m1 : PySem.W.mroIn K C (.ref C) = some true) (m2 : PySem.W.mroIn K C (.ref D2) = some true) (c1 : PySem.W.clsIn K C = some cd) (c2 : PySem.W.clsIn K D2 = some cd2) (an : PySem.W.nsIn K cStatics "thirdparty.any" = some none) (su : PySem.W.nsIn K mainGlobals "super" = some none)
    (fl : ((P.main.file : Str) == file) = true) (tp : (P.main.scope.names.lookup ("super" : Str)).isSome = false) (up2 : PySem.W.ks_superIn K C D2 "__init__" = some (some (.builtin "ValueError.__init__"))) (ve : PySem.W.subIn K (.ref C) (.type "ValueError") = some true)
    (h1 : PySem.W.findIn K (.ref C) "place" = some none) (h2 : PySem.W.findIn K (.ref C) "name" = some none) : OwnX P K mg x := by
  have sup : mg "super" = none := PySem.W.mg_none_of KX G su
  exact ⟨C, f, f2, D2, params, params2, scope, scope2, file, j, p0, p1, p2, p3, p4, p5, c0, a0, a1, a2, a3, a4, a5, a6, a7, a8, a9, b1, b2, b3, b4, PySem.W.mg_of KX G a, S, S2, sc1, sc2, ⟨T, m1, ⟨cd, c1⟩, an, sup, fl, tp⟩, ⟨T, m2, ⟨cd2, c2⟩, an, sup, fl, tp⟩, up1, fn2, ty2, up2, ve, h1, h2, iC, tI⟩
end
/-! ### at a state -/
theorem raiseS_ap (x : Str) (m : ME D) (ρ : Rho) (O : Sto) : raiseS x m ρ O = match m ρ O with
  | .ok d O' => .err x d ρ O'
  | .err c p O' => .err c p ρ O'
  | .bad => .bad := by unfold raiseS bindS; cases m ρ O <;> rfl
theorem tryS_ap (ks : List (Str × Bool)) (o : Option Nat) (mb ms : MS) (ρ : Rho) (O : Sto) : tryS ks o mb ms ρ O = match mb ρ O with
  | .err c p ρ' O' => (match ks.lookup c with
    | some true => offS o (ms (match o with | some i => ρ'.set i (some (.hot c p)) | none => ρ') O')
    | some false => .err c p ρ' O'
    | none => .bad)
  | r => r := rfl
theorem hotP_ap (i : Nat) (cs : List Str) (ρ : Rho) (O : Sto) : hotP i cs ρ O = match ρ[i]? with
  | some (some (.hot c p)) => if cs.contains c = true then .ok p O else .bad
  | _ => .bad := rfl
theorem hotN_ap (i : Nat) (cs : List Str) (ρ : Rho) (O : Sto) : hotN i cs ρ O = match ρ[i]? with
  | some (some (.hot c _)) => if cs.contains c = true then .ok (.str c) O else .bad
  | _ => .bad := rfl
theorem hotI_ap (i : Nat) (ks : List (Str × Bool)) (ρ : Rho) (O : Sto) : hotI i ks ρ O = match ρ[i]? with
  | some (some (.hot c _)) => (match ks.lookup c with
    | some b => .ok (.bl b) O
    | none => .bad)
  | _ => .bad := rfl
end DL

set_option Elab.async false
set_option linter.all false
set_option maxRecDepth 100000
/-! DLRules8: what the store holds: made, read, changed. -/
namespace DL
open PySem L2
variable [Tabs]
section
variable {K : PySem.W.Frag} {mg : Mg} {e : Ent} {ι : List Addr} {B H : Hp} {ρ : Rho} {O : Sto} {σ : St} {a : Addr} {c : Cell}
/-- a cell that belongs to nobody comes into the store -/
theorem Rel.addAt (r : Rel K mg e ι B H ρ O σ) (ca : CA K mg ι B H a c) (hb : B a = none) (he : e.H a = none) (hn : a ∉ ι)
    (ne : ∀ (j : Nat) (c' : Cell), ρ[j]? = some (some (.own c')) → σ[j]? ≠ some (some (.ref a))) : Rel K mg e (ι ++ [a]) B H ρ (O ++ [c]) σ ∧ Pre ι (ι ++ [a]) ∧ (ι ++ [a])[O.length]? = some a := by
  have pi : Pre ι (ι ++ [a]) := fun n b h => by
    have hl : n < ι.length := (List.getElem?_eq_some_iff.mp h).1
    rw [List.getElem?_append_left hl]; exact h
  have at_ : (ι ++ [a])[O.length]? = some a := by rw [r.lo, List.getElem?_append_right (Nat.le_refl _), Nat.sub_self]; rfl
  refine ⟨⟨r.sub, r.eB, r.ei.trans pi, r.fB, r.fH, fun b hb' => ?_, r.len, fun i x h => ?_, r.sep, ?_, fun n c2 b h1 h2 => ?_, ?_, r.tb⟩, pi, at_⟩
  · rcases List.mem_append.mp hb' with h | h
    · exact r.fi b h
    · rw [List.mem_singleton.mp h]; exact .inr he
  · obtain ⟨v, k1, k2⟩ := r.sl i x h
    refine ⟨v, k1, ?_⟩
    cases x with
    | shr d => exact DA.mono (Same.refl _) pi d v k2
    | hot c p => exact SA.hot_mono (Same.refl _) pi k2
    | own c2 =>
      obtain ⟨b, e1, e2, e3, e4, e5⟩ := k2
      refine ⟨b, e1, e2.mono (Same.refl _) pi rfl, e3, e4, fun m => ?_⟩
      rcases List.mem_append.mp m with m | m
      · exact e5 m
      · rw [List.mem_singleton.mp m] at e1
        subst e1
        exact ne i c2 h k1
  · rw [List.length_append, List.length_append, r.lo]
    rfl
  · by_cases hl : n < O.length
    · rw [List.getElem?_append_left hl] at h1
      rw [List.getElem?_append_left (by rw [← r.lo]; exact hl)] at h2
      obtain ⟨k1, k2⟩ := r.ob n c2 b h1 h2
      exact ⟨k1.mono (Same.refl _) pi rfl, k2⟩
    · have hn2 : n = O.length := by
        have := (List.getElem?_eq_some_iff.mp h1).1
        rw [List.length_append, List.length_singleton] at this
        omega
      subst hn2
      rw [List.getElem?_append_right (Nat.le_refl _), Nat.sub_self] at h1
      rw [at_] at h2
      cases h1
      cases h2
      exact ⟨ca.mono (Same.refl _) pi rfl, hb⟩
  · rw [List.nodup_append]
    refine ⟨r.nd, by simp, fun x hx y hy => ?_⟩
    rw [List.mem_singleton.mp hy]
    rintro rfl
    exact hn hx
/-- a cell of the store is changed -/
theorem Rel.putObj (r : Rel K mg e ι B H ρ O σ) {n : Nat} {c' : Cell} {o : HO} (h : O[n]? = some c) (hi : ι[n]? = some a) (ca : CA K mg ι B (upd H a o) a c') :
    Rel K mg e ι B (upd H a o) ρ (O.set n c') σ := by
  obtain ⟨hca, hb⟩ := r.ob n c a h hi
  have hta := CA.nt r hca
  have hm : a ∈ ι := List.mem_of_getElem? hi
  refine ⟨fun b x q => ?_, r.eB, r.ei, r.fB, fun b x q m mt => ?_, r.fi, r.len, fun i x q => ?_, r.sep, by rw [List.length_set]; exact r.lo, fun j c2 b h1 h2 => ?_, r.nd, fun P m => (let ⟨n, ps, q, k⟩ := r.tb P m; ⟨n, ps, (upd_ne fun z => hta (by rw [← z]; exact m)).trans q, k⟩)⟩
  · rw [upd_ne (ne_of_none q hb)]; exact r.sub _ _ q
  · have : b ≠ a := by
      rintro rfl
      rcases r.fi b hm with y | y
      · exact m y
      · rw [q] at y; cases y
    rw [upd_ne this]; exact r.fH b x q m mt
  · obtain ⟨v, k1, k2⟩ := r.sl i x q
    refine ⟨v, k1, ?_⟩
    cases x with
    | shr d => exact k2
    | hot c p => exact SA.hot_mono (Same.refl _) (Pre.refl _) k2
    | own c2 =>
      obtain ⟨b, e1, e2, e3, e4, e5⟩ := k2
      have : b ≠ a := by
        rintro rfl
        exact e5 hm
      exact ⟨b, e1, e2.mono (Same.refl _) (Pre.refl _) (upd_ne this), e3, e4, e5⟩
  · by_cases e1 : n = j
    · subst e1
      have hn := (List.getElem?_eq_some_iff.mp h).1
      rw [List.getElem?_set_self hn] at h1
      cases h1
      rw [hi] at h2
      cases h2
      exact ⟨ca, hb⟩
    · rw [List.getElem?_set_ne e1] at h1
      have : b ≠ a := by
        rintro rfl
        have hn := (List.getElem?_eq_some_iff.mp hi).1
        exact e1 ((List.getElem?_inj hn r.nd).mp (hi.trans h2.symm))
      obtain ⟨k1, k2⟩ := r.ob j c2 b h1 h2
      exact ⟨k1.mono (Same.refl _) (Pre.refl _) (upd_ne this), k2⟩
/-- what belongs to nobody is frozen, with what is known of it then -/
theorem Rel.freezeTo (r : Rel K mg e ι B H ρ O σ) {o : HO} (hb : B a = none) (he : e.H a = none) (hn : a ∉ ι)
    (ne : ∀ (j : Nat) (c' : Cell), ρ[j]? = some (some (.own c')) → σ[j]? ≠ some (some (.ref a))) (hta : a ∉ Tabs.ts) : Rel K mg e ι (upd B a o) (upd H a o) ρ O σ ∧ Same B (upd B a o) := by
  have sb : Same B (upd B a o) := fun b x h => by rw [upd_ne (ne_of_none h hb)]; exact h
  have q := r.poke (o := o) hb (.inl he) ne hn hta
  refine ⟨⟨fun b x h => ?_, q.eB.trans sb, q.ei, fun b x h => ?_, q.fH, q.fi, q.len, fun j x h2 => ?_, q.sep, q.lo, fun n c b h2 h3 => ?_, q.nd, fun P m => ⟨(upd_ne fun z => hta (by rw [← z]; exact m)).trans (q.tb P m).1, (q.tb P m).2⟩⟩, sb⟩
  · by_cases e6 : b = a
    · subst e6; rw [upd_same] at h ⊢; exact h
    · rw [upd_ne e6] at h ⊢; exact r.sub _ _ h
  · by_cases e6 : b = a
    · subst e6; exact .inr he
    · rw [upd_ne e6] at h; exact q.fB b x h
  · obtain ⟨w, k1, k2⟩ := q.sl j x h2
    refine ⟨w, k1, ?_⟩
    cases x with
    | shr d => exact DA.mono sb (Pre.refl _) d w k2
    | hot c p => exact SA.hot_mono sb (Pre.refl _) k2
    | own c =>
      obtain ⟨b, m1, m2, m3, m4, m5⟩ := k2
      subst m1
      have hne : b ≠ a := by
        rintro rfl
        exact ne j c h2 k1
      exact ⟨b, rfl, m2.mono sb (Pre.refl _) rfl, by rw [upd_ne hne]; exact m3, m4, m5⟩
  · have hne : b ≠ a := by
      rintro rfl
      exact hn (List.mem_of_getElem? h3)
    obtain ⟨k1, k2⟩ := q.ob n c b h2 h3
    exact ⟨k1.mono sb (Pre.refl _) rfl, by rw [upd_ne hne]; exact k2⟩
end

section
variable {X : Cx} {Wx : WX} {a b c eo ei ev : Expr} {pos : Pos} {ma mb mc mo mi mv : ME D}
/-- a new cell of the store -/
def cellO (m : ME Cell) : ME D := bindE m fun c _ O => .ok (.obj O.length) (O ++ [c])
theorem EN.o {m : ME Cell} (h : EN X Wx a m) : EX X Wx a (cellO m) := by
  obtain ⟨t, pt, et⟩ := h
  refine ⟨t, pt, fun e ι B H ρ O σ Q r q => et e ι B H ρ O σ Q r ?_⟩
  simp only [cellO, bindE] at q
  cases z : m ρ O with
  | bad => rw [z] at q; exact q.elim
  | err c p O' => rw [z] at q; exact q
  | ok c O' =>
    rw [z] at q
    dsimp only at q ⊢
    intro ι' B' H' a' r' i' b' ca hb he hn hne
    obtain ⟨r2, p2, at2⟩ := r'.addAt ca hb he hn hne
    exact q _ _ _ _ r2 (i'.trans p2) b' (.obj at2)
/-- a dict display without entries -/
theorem en_dct0 : EN X Wx (.Dict [] [] pos) (pureE (.dct [])) := by
  refine ⟨_, pe_dnewK, fun e ι B H ρ O σ Q r q => ?_⟩
  simp only [pureE] at q
  intro p hp
  obtain ⟨r2, h1, h2, h3⟩ := r.fresh hp (.dK [])
  exact q ι B _ p r2 (Pre.refl _) (Same.refl _) ⟨[], upd_same, .nil⟩ h1 h2 h3 (r.notOwn hp)

/-! ### x[i] = v -/
/-- an item put into a cell -/
def putC : Cell → D → D → Option Cell
  | .lst xs, .int k, d => (ixN xs.length k).map fun j => .lst (xs.set j d)
  | .dct es, y, d => (keyD y).bind fun k => if es.length < sizeLine then some (.dct (putD es k d)) else none
  | _, _, _ => none
theorem PSet.or {t t' : TSet} (h : PSet X t) (h' : PSet X t') : PSet X (fun o i v H Q => t o i v H Q ∨ t' o i v H Q) := by
  intro pins s σ H o i v ov iv u Q I ro ri rv q
  rcases q with q | q
  · exact h pins s σ H o i v ov iv u Q I ro ri rv q
  · exact h' pins s σ H o i v ov iv u Q I ro ri rv q
abbrev rSetAll : TSet := fun o i v H Q => rSetL o i v H Q ∨ rSetD o i v H Q
/-- the heap behind it -/
theorem putC_ok {K : PySem.W.Frag} {mg : Mg} {ι : List Addr} {B H : Hp} {a : Addr} {c c' : Cell} {y : V} {yd : D} {v : V} {d : D} (hb : Same B H) (nb : B a = none) (ca : CA K mg ι B H a c) (hy : DH K ι B H y yd) (hv : DA K ι B v d) (h : putC c yd d = some c') :
    ∃ o, CA K mg ι B (upd H a o) a c' ∧ ∀ Q : Hp → Prop, Q (upd H a o) → rSetAll (.ref a) y v H Q := by
  unfold putC at h
  split at h
  · simp only [Option.map_eq_some_iff] at h
    obtain ⟨j, h1, rfl⟩ := h
    obtain ⟨vs, h2, h3⟩ := ca
    cases hy
    exact ⟨.lst (vs.set j v), ⟨_, upd_same, paired_set hv j h3⟩, fun Q q => .inl ⟨a, vs, _, j, rfl, rfl, h2, by rw [paired_len h3]; exact h1, q⟩⟩
  · cases hk : keyD yd with
    | none => rw [hk] at h; cases h
    | some k =>
      rw [hk] at h
      simp only [Option.bind_some] at h
      split at h
      · rename_i hl
        cases h
        obtain ⟨kvs, h2, h3⟩ := ca
        refine ⟨.dK (putK kvs k v), ⟨_, upd_same, paired_put hv h3⟩, fun Q q => .inr ⟨a, _, rfl, ?_, q⟩⟩
        rw [keyD_v hy hk]
        exact .k h2 (by rw [paired_len h3]; exact hl)
      · cases h
  · cases h
def isOwnC : Option (Option SD) → Bool
  | some (some (.own _)) => true
  | _ => false
def putOwnS (j : Nat) (mi mv : ME D) : MS := fun ρ O => if isOwnC ρ[j]? = true then bindS mv (fun d => bindS mi fun y ρ O => match ρ[j]? with
  | some (some (.own c)) => (match putC c (derefD O y) d with
    | some c' => .nx (ρ.set j (some (.own c'))) O
    | none => .bad)
  | _ => .bad) ρ O else .bad
theorem es_putOwn (hu : X.A.units + 64 < cLine) (j : Nat) {x : Str} {p p2 : Pos} (hN : X.N[j]? = some x := by rfl) (hv : Vis X.env.scope x := by first | exact Or.inl rfl | exact Or.inr (Or.inl rfl) | exact Or.inr (Or.inr rfl)) (hd : (x == ("__debug__" : Str)) = false := by decide)
    (hcd : (x == ("__classdict__" : Str)) = false := by decide) (hi : EZ X Wx ei mi) (he : EX X Wx ev mv) (hss : swapsWithSole [.Subscript (.Name x p) ei p2] ev pos.line X.env = pure false := by rfl) (hw : swappedStores [.Subscript (.Name x p) ei p2] ev X.env = pure none := by rfl)
    (ha : ∀ v, assign (.Subscript (.Name x p) ei p2) X.env v = (do
      let ov ← holding [v] (eval (.Name x p) X.env)
      let iv ← holding [v, ov] (eval ei X.env)
      standAt p2
      holding [v, ov, iv] (setItem ov iv v)
      release [v, ov, iv] []) := by intro _; rfl) :
    ES X Wx (.Assign [.Subscript (.Name x p) ei p2] ev pos) (putOwnS j mi mv) := by
  obtain ⟨ti, pi, eti⟩ := hi
  obtain ⟨tv, pv, etv⟩ := he
  refine ⟨_, ps_asg pv (pg_sub (pe_var (i := j) hN hv hd hcd) pi (PSet.or set_list (set_dict (u1_ hu))) ha) hss hw, fun e ι B H ρ O σ D' r q => ?_⟩
  unfold putOwnS at q
  split at q
  · rename_i z0
    refine etv e ι B H ρ O σ _ r ?_
    unfold isOwnC at z0
    split at z0
    · rename_i c0 zs
      unfold bindS at q
      cases z : mv ρ O with
      | bad => rw [z] at q; exact q
      | err c p O' =>
        rw [z] at q
        exact fun ι' B' H' C dx r' i' b' h => q ι' B' H' σ C dx r' i' b' h
      | ok d O1 =>
        rw [z] at q
        dsimp only at q
        intro ι1 B1 H1 dv r1 i1 b1 hdv
        obtain ⟨w, k1, a1, k2, k3, k4, k5, k6⟩ := r1.sl j _ zs
        subst k2
        refine ⟨_, k1, eti e ι1 B1 H1 ρ O1 σ _ r1 ?_⟩
        cases z2 : mi ρ O1 with
        | bad => rw [z2] at q; exact q
        | err c p O' =>
          rw [z2] at q
          exact fun ι' B' H' C dx r' i' b' h => q ι' B' H' σ C dx r' (i1.trans i') (b1.trans b') h
        | ok y O2 =>
          rw [z2] at q
          dsimp only at q
          intro ι2 B2 H2 yv r2 i2 b2 hy
          rw [zs] at q
          dsimp only at q
          obtain ⟨w2, m1, a2, m2, m3, m4, m5, m6⟩ := r2.sl j _ zs
          rw [k1] at m1
          cases m1
          cases m2
          cases z3 : putC c0 (derefD O2 y) d with
          | none => rw [z3] at q; exact q.elim
          | some c' =>
            rw [z3] at q
            obtain ⟨o, ca, rs⟩ := putC_ok r2.sub m4 m3 (hy.dhO r2) (DA.mono b2 i2 _ _ hdv) z3
            refine rs _ ?_
            exact q ι2 B2 _ σ (r2.putOwn zs k1 ca) (i1.trans i2) (b1.trans b2)
    · cases z0
  · exact q.elim
/-- .. of what the store holds -/
def putObjS (mo mi mv : ME D) : MS := bindS mv fun d => bindS mo fun o => bindS mi fun y ρ O => match o with
  | .obj n => (match O[n]? with
    | some c => (match putC c (derefD O y) d with
      | some c' => .nx ρ (O.set n c')
      | none => .bad)
    | none => .bad)
  | _ => .bad
theorem es_putObj (hu : X.A.units + 64 < cLine) {eo : Expr} {p2 : Pos} (ho : EX X Wx eo mo) (hi : EZ X Wx ei mi) (he : EX X Wx ev mv) (hss : swapsWithSole [.Subscript eo ei p2] ev pos.line X.env = pure false := by rfl) (hw : swappedStores [.Subscript eo ei p2] ev X.env = pure none := by rfl)
    (ha : ∀ v, assign (.Subscript eo ei p2) X.env v = (do
      let ov ← holding [v] (eval eo X.env)
      let iv ← holding [v, ov] (eval ei X.env)
      standAt p2
      holding [v, ov, iv] (setItem ov iv v)
      release [v, ov, iv] []) := by intro _; rfl) :
    ES X Wx (.Assign [.Subscript eo ei p2] ev pos) (putObjS mo mi mv) := by
  obtain ⟨to, po, eto⟩ := ho
  obtain ⟨ti, pi, eti⟩ := hi
  obtain ⟨tv, pv, etv⟩ := he
  refine ⟨_, ps_asg pv (pg_sub po pi (PSet.or set_list (set_dict (u1_ hu))) ha) hss hw, fun e ι B H ρ O σ D' r q => ?_⟩
  refine etv e ι B H ρ O σ _ r ?_
  unfold putObjS bindS at q
  cases z : mv ρ O with
  | bad => rw [z] at q; exact q
  | err c p O' =>
    rw [z] at q
    exact fun ι' B' H' C dx r' i' b' h => q ι' B' H' σ C dx r' i' b' h
  | ok d O1 =>
    rw [z] at q
    dsimp only at q
    intro ι1 B1 H1 dv r1 i1 b1 hdv
    refine eto e ι1 B1 H1 ρ O1 σ _ r1 ?_
    cases z2 : mo ρ O1 with
    | bad => rw [z2] at q; exact q
    | err c p O' =>
      rw [z2] at q
      exact fun ι' B' H' C dx r' i' b' h => q ι' B' H' σ C dx r' (i1.trans i') (b1.trans b') h
    | ok o O2 =>
      rw [z2] at q
      dsimp only at q
      intro ι2 B2 H2 ov r2 i2 b2 hov
      refine eti e ι2 B2 H2 ρ O2 σ _ r2 ?_
      cases z3 : mi ρ O2 with
      | bad => rw [z3] at q; exact q
      | err c p O' =>
        rw [z3] at q
        exact fun ι' B' H' C dx r' i' b' h => q ι' B' H' σ C dx r' ((i1.trans i2).trans i') ((b1.trans b2).trans b') h
      | ok y O3 =>
        rw [z3] at q
        dsimp only at q
        intro ι3 B3 H3 yv r3 i3 b3 hy
        cases o with
        | obj n =>
          dsimp only at q
          cases zc : O3[n]? with
          | none => rw [zc] at q; exact q.elim
          | some c =>
            rw [zc] at q
            dsimp only at q
            cases hov with
            | obj hia =>
              have hia := i3 _ _ hia
              obtain ⟨m3, m4⟩ := r3.ob n c _ zc hia
              cases z4 : putC c (derefD O3 y) d with
              | none => rw [z4] at q; exact q.elim
              | some c' =>
                rw [z4] at q
                obtain ⟨o, ca, rs⟩ := putC_ok r3.sub m4 m3 (hy.dhO r3) (DA.mono (b2.trans b3) (i2.trans i3) _ _ hdv) z4
                refine rs _ ?_
                exact q ι3 B3 _ σ (r3.putObj zc hia ca) ((i1.trans i2).trans i3) ((b1.trans b2).trans b3)
        | _ => exact q.elim

/-! ### methods that change a list of the store -/
def isLst1 : D → Bool
  | .lst _ => true
  | _ => false
/-- o.append(v) -/
def appO (mo mv : ME D) : MS := bindS mo fun o => fun ρ O => if isLst1 (derefD O o) = true then bindS mv (fun d ρ O => match o with
  | .obj n => (match O[n]? with
    | some (.lst xs) => if xs.length < sizeLine then .nx ρ (O.set n (.lst (xs ++ [d]))) else .bad
    | _ => .bad)
  | _ => .bad) ρ O else .bad
end
end DL

set_option Elab.async false
set_option linter.all false
set_option maxRecDepth 100000
/-! DLRules9: texts and their methods; in, not in. -/
namespace DL
open PySem L2
variable [Tabs]
section
variable {X : Cx} {Wx : WX} {a b c eo ee ei ev : Expr} {pos apos : Pos} {ma mb mc mo mi mv : ME D}
/-- a text's method without an argument -/
def str0 (f : Str → Option D) : D → Option D
  | .str s => f s
  | _ => none
/-- .. with one -/
def str1M (f : Str → D → Option D) (mo mv : ME D) : ME D := bindE mo fun o ρ O => match derefD O o with
  | .str s => bindE mv (fun y => optO fun O => f s (derefD O y)) ρ O
  | _ => .bad
/-- what a method's rule and its function have to do with one another -/
def Op1S (X : Cx) (r : V → List V → Hp → VK → Prop) (f : Str → D → Option D) : Prop := ∀ s y d z e ι B H ρ O σ (Q : VK), Rel X.K X.mg (en X e) ι B H ρ O σ → DH X.K ι B H y d → f s d = some z →
  (∀ B' H' v, Rel X.K X.mg (en X e) ι B' H' ρ O σ → Same B B' → DA X.K ι B' v z → Q v H') → r (.str s) [y] H Q
def Op0S (X : Cx) (r : V → List V → Hp → VK → Prop) (f : Str → Option D) : Prop := ∀ s z e ι B H ρ O σ (Q : VK), Rel X.K X.mg (en X e) ι B H ρ O σ → f s = some z →
  (∀ B' H' v, Rel X.K X.mg (en X e) ι B' H' ρ O σ → Same B B' → DA X.K ι B' v z → Q v H') → r (.str s) [] H Q
theorem ex_str1 {id : String} {name : Str} {r : V → List V → Hp → VK → Prop} {f : Str → D → Option D} (slot : Slot "str" name id) (ty : typeOf (.builtin id) = pure (.type "method_descriptor")) (rule : MtR X id r) (op : Op1S X r f) (ho : EZ X Wx eo mo) (he : EZ X Wx ee mv)
    (hs : starEach [ee] X.env = [(false, eval ee X.env)] := by rfl) (hbase : attributeBase eo name X.env (eval eo X.env) = eval eo X.env := by rfl) (hline : (apos.endLine == pos.line) = true := by rfl) :
    EX X Wx (.Call (.Attribute eo name apos) [ee] [] pos) (str1M f mo mv) := by
  obtain ⟨to, po, eto⟩ := ho
  obtain ⟨te, pe, ete⟩ := he
  refine ⟨_, pe_m1 slot ty rule po pe hs hbase hline, fun e ι B H ρ O σ Q r0 q => eto e ι B H ρ O σ _ r0 ?_⟩
  unfold str1M bindE at q
  cases z : mo ρ O with
  | bad => rw [z] at q; exact q
  | err c p O' => rw [z] at q; exact q
  | ok o O1 =>
    rw [z] at q
    dsimp only at q
    intro ι1 B1 H1 ov r1 i1 b1 hov
    have hd := hov.dhO r1
    cases zd : derefD O1 o with
    | str s =>
      rw [zd] at q hd
      cases hd
      dsimp only at q
      refine ⟨⟨s, rfl⟩, ete e ι1 B1 H1 ρ O1 σ _ r1 ?_⟩
      cases z2 : mv ρ O1 with
      | bad => rw [z2] at q; exact q
      | err c p O' =>
        rw [z2] at q
        exact fun ι' B' H' C dx r' i' b' h => q ι' B' H' C dx r' (i1.trans i') (b1.trans b') h
      | ok y O2 =>
        rw [z2] at q
        simp only [optO] at q
        intro ι2 B2 H2 yv r2 i2 b2 hy
        cases z3 : f s (derefD O2 y) with
        | none => rw [z3] at q; exact q.elim
        | some w =>
          rw [z3] at q
          exact op s yv _ w e ι2 B2 H2 ρ O2 σ Q r2 (hy.dhO r2) z3 fun B' H' v r' b' hv => q ι2 B' H' v r' (i1.trans i2) ((b1.trans b2).trans b') hv
    | _ => rw [zd] at q; exact q.elim
theorem ex_str0 {id : String} {name : Str} {r : V → List V → Hp → VK → Prop} {f : Str → Option D} (slot : Slot "str" name id) (ty : typeOf (.builtin id) = pure (.type "method_descriptor")) (rule : MtR X id r) (op : Op0S X r f) (ho : EZ X Wx eo mo)
    (hbase : attributeBase eo name X.env (eval eo X.env) = eval eo X.env := by rfl) (hline : (apos.endLine == pos.line) = true := by rfl) :
    EX X Wx (.Call (.Attribute eo name apos) [] [] pos) (un1 (str0 f) mo) := by
  obtain ⟨to, po, eto⟩ := ho
  refine ⟨_, pe_m0 slot ty rule po hbase hline, fun e ι B H ρ O σ Q r0 q => eto e ι B H ρ O σ _ r0 ?_⟩
  unfold un1 bindE at q
  cases z : mo ρ O with
  | bad => rw [z] at q; exact q
  | err c p O' => rw [z] at q; exact q
  | ok o O1 =>
    rw [z] at q
    simp only [optO] at q
    intro ι1 B1 H1 ov r1 i1 b1 hov
    have hd := hov.dhO r1
    cases zd : derefD O1 o with
    | str s =>
      rw [zd] at q hd
      cases hd
      refine ⟨⟨s, rfl⟩, ?_⟩
      simp only [str0] at q
      cases z3 : f s with
      | none => rw [z3] at q; exact q.elim
      | some w =>
        rw [z3] at q
        exact op s w e ι1 B1 H1 ρ O1 σ Q r1 z3 fun B' H' v r' b' hv => q ι1 B' H' v r' i1 (b1.trans b') hv
    | _ => rw [zd] at q; simp only [str0] at q; exact q.elim
/-! join -/
def strsD : List D → Option (List Str)
  | [] => some []
  | .str s :: ds => (strsD ds).map (s :: ·)
  | _ => none
theorem strsD_map : ∀ ss : List Str, strsD (ss.map .str) = some ss
  | [] => rfl
  | s :: ss => by rw [List.map_cons, strsD, strsD_map ss]; rfl
theorem strsD_v {K : PySem.W.Frag} {ι : List Addr} {B : Hp} : ∀ {vs : List V} {ds : List D} {ys : List Str}, Paired (DA K ι B) vs ds → strsD ds = some ys → vs = ys.map V.str
  | _, _, _, .nil, e => by cases e; rfl
  | _, d :: _, _, .cons h t, e => by
    cases d with
    | str s =>
      simp only [strsD, Option.map_eq_some_iff] at e
      obtain ⟨r, e1, rfl⟩ := e
      cases h
      rw [strsD_v t e1]
      rfl
    | _ => cases e
def joinF (s : Str) (d : D) : Option D := (match d with
  | .lst ds => strsD ds
  | .sea ds => strsD ds
  | .tup ds => strsD ds
  | _ => none).bind fun (ys : List Str) => if (ys.map fun (y : Str) => y.length).sum + ys.length * s.length ≤ 16777216 then some (.str (Txt.join s ys)) else none
theorem op_join : Op1S X (fun x xs H Q => ∃ a p, ∃ ys : List Str, x = .str a ∧ xs = [.ref p] ∧ (SqL X.K H p (ys.map V.str) ∨ SqT X.K H p (ys.map V.str)) ∧ (ys.map (·.length)).sum + ys.length * a.length ≤ 16777216 ∧ Q (.str (Txt.join a ys)) H) joinF := by
  intro s y d z e ι B H ρ O σ Q r hy hz q
  unfold joinF at hz
  cases d with
  | lst ds =>
    dsimp only at hz
    cases hk : strsD ds with
    | none => rw [hk] at hz; cases hz
    | some ys =>
      rw [hk] at hz
      simp only [Option.bind_some] at hz
      split at hz
      · rename_i hl
        cases hz
        obtain ⟨p, vs, rfl, h1, h2⟩ := hy
        have e1 := strsD_v h2 hk
        subst e1
        exact ⟨s, p, ys, rfl, rfl, .inl (SqL.of h1), hl, atomI r q (.str _)⟩
      · cases hz
  | sea ds =>
    dsimp only at hz
    cases hk : strsD ds with
    | none => rw [hk] at hz; cases hz
    | some ys =>
      rw [hk] at hz
      simp only [Option.bind_some] at hz
      split at hz
      · rename_i hl
        cases hz
        obtain ⟨p, vs, rfl, h1, h2⟩ := hy
        have e1 := strsD_v h2 hk
        subst e1
        exact ⟨s, p, ys, rfl, rfl, .inl h1, hl, atomI r q (.str _)⟩
      · cases hz
  | tup ds =>
    dsimp only at hz
    cases hk : strsD ds with
    | none => rw [hk] at hz; cases hz
    | some ys =>
      rw [hk] at hz
      simp only [Option.bind_some] at hz
      split at hz
      · rename_i hl
        cases hz
        obtain ⟨p, vs, rfl, h1, h2⟩ := hy
        have e1 := strsD_v h2 hk
        subst e1
        exact ⟨s, p, ys, rfl, rfl, .inr h1, hl, atomI r q (.str _)⟩
      · cases hz
  | _ => cases hz
theorem ex_join (ho : EZ X Wx eo mo) (he : EZ X Wx ee mv)
    (hs : starEach [ee] X.env = [(false, eval ee X.env)] := by rfl) (hbase : attributeBase eo "join" X.env (eval eo X.env) = eval eo X.env := by rfl) (hline : (apos.endLine == pos.line) = true := by rfl) :
    EX X Wx (.Call (.Attribute eo "join" apos) [ee] [] pos) (str1M joinF mo mv) := ex_str1 PySem.F.slot_str_join PySem.F.type_str_join mt_join op_join ho he hs hbase hline
/-! index: where it is -/
def indexF (s : Str) (d : D) : Option D := match d with
  | .str t => (match Builtin.Str.occurrences s t 0 s.length 1 with
    | i :: _ => some (.int (i : Nat))
    | [] => none)
  | _ => none
theorem op_index : Op1S X (fun x xs H Q => ∃ a b i rest, x = .str a ∧ xs = [.str b] ∧ Builtin.Str.occurrences a b 0 a.length 1 = i :: rest ∧ Q (.int (i : Nat)) H) indexF := by
  intro s y d z e ι B H ρ O σ Q r hy hz q
  unfold indexF at hz
  split at hz
  · rename_i t
    cases hy
    split at hz
    · rename_i i rest hi
      cases hz
      exact ⟨s, t, i, rest, rfl, rfl, hi, atomI r q (.int _)⟩
    · cases hz
  · cases hz
theorem ex_sindex (ho : EZ X Wx eo mo) (he : EZ X Wx ee mv)
    (hs : starEach [ee] X.env = [(false, eval ee X.env)] := by rfl) (hbase : attributeBase eo "index" X.env (eval eo X.env) = eval eo X.env := by rfl) (hline : (apos.endLine == pos.line) = true := by rfl) :
    EX X Wx (.Call (.Attribute eo "index" apos) [ee] [] pos) (str1M indexF mo mv) := ex_str1 PySem.F.slot_str_index PySem.F.type_str_index mt_sindex op_index ho he hs hbase hline
/-! startswith, endswith -/
def startsF (s : Str) (d : D) : Option D := match d with
  | .str t => some (.bl (Txt.startswith s t))
  | _ => none
def endsF (s : Str) (d : D) : Option D := match d with
  | .str t => some (.bl (Txt.endswith s t))
  | _ => none
/-- ord -/
def ordF : List D → Option D
  | [.str x] => if x.length = 1 then some (.int (x.cps.getD 0 0 : Nat)) else none
  | _ => none
theorem opN_ord : OpN X (fun xs H Q => ∃ x, xs = [.str x] ∧ x.length = 1 ∧ Q (.int (x.cps.getD 0 0 : Nat)) H) ordF := by
  intro xs ds z e ι B H ρ O σ Q r hx hz q
  unfold ordF at hz
  split at hz
  · rename_i x
    split at hz
    · rename_i hl
      cases hz
      obtain ⟨v, rfl, h⟩ := paired1 hx
      cases h
      exact ⟨x, rfl, hl, atomI r q (.int _)⟩
    · cases hz
  · cases hz
theorem ex_ord {p : Pos} {e : Expr} {m : ME (List D)} (hm : X.mg "ord" = none) (ha : EAZ X Wx [e] m) (hg : Gl X "ord" := by rfl) (he : starEach [e] X.env = (false, eval e X.env) :: starEach [] X.env := by rfl) : EX X Wx (.Call (.Name "ord" p) [e] [] pos) (callM ordF m) :=
  ex_callB call_ord opN_ord hm ha hg (by decide +kernel) (by decide) (by decide) he rfl

/-! ### in, not in -/
def flatD : D → Bool
  | .non | .bl _ | .int _ | .str _ => true
  | _ => false
/-- == of flat data -/
def eqF : D → D → Bool
  | .non, .non => true
  | .bl a, .bl b => a == b
  | .bl a, .int b => (if a then 1 else 0) == b
  | .int a, .bl b => a == (if b then 1 else 0)
  | .int a, .int b => a == b
  | .str a, .str b => a == b
  | _, _ => false
theorem flat_v {K : PySem.W.Frag} {ι : List Addr} {B : Hp} {v : V} {d : D} (h : DA K ι B v d) (f : flatD d = true) : flatV v = true := by
  cases d with
  | non => cases h; rfl
  | bl b => cases h; rfl
  | int b => cases h; rfl
  | str b => cases h; rfl
  | _ => cases f
theorem eqF_v {K : PySem.W.Frag} {ι : List Addr} {B : Hp} {v w : V} {d c : D} (h : DA K ι B v d) (k : DA K ι B w c) (f : flatD d = true) (g : flatD c = true) : eqV v w = eqF d c := by
  cases d with
  | non => cases h; cases c <;> first | (cases g; done) | (cases k; rfl)
  | bl b => cases h; cases c <;> first | (cases g; done) | (cases k; rfl)
  | int b => cases h; cases c <;> first | (cases g; done) | (cases k; rfl)
  | str b => cases h; cases c <;> first | (cases g; done) | (cases k; rfl)
  | _ => cases f
theorem inF_v {K : PySem.W.Frag} {ι : List Addr} {B : Hp} {x : V} {d : D} (h : DA K ι B x d) (f : flatD d = true) : ∀ {vs : List V} {ds : List D}, Paired (DA K ι B) vs ds → ds.all flatD = true → vs.all flatV = true ∧ inV x vs = ds.any fun y => eqF y d
  | _, _, .nil, _ => ⟨rfl, rfl⟩
  | _, y :: ys, .cons k t, g => by
    rw [List.all_cons, Bool.and_eq_true] at g
    obtain ⟨h1, h2⟩ := inF_v h f t g.2
    unfold inV at h2 ⊢
    rw [List.all_cons, List.any_cons, List.any_cons, h1, h2, flat_v k g.1, eqF_v k h g.1 f]
    exact ⟨rfl, rfl⟩
def inD : D → D → Option Bool
  | .str c, .str z => some (!(Builtin.Str.occurrences z c 0 z.length 1).isEmpty)
  | x, .lst ys => if flatD x = true ∧ ys.all flatD = true then some (ys.any fun y => eqF y x) else none
  | x, .sea ys => if flatD x = true ∧ ys.all flatD = true then some (ys.any fun y => eqF y x) else none
  | x, .tup ys => if flatD x = true ∧ ys.all flatD = true then some (ys.any fun y => eqF y x) else none
  | x, .dct es => (keyD x).map fun k => (valD es k).isSome
  | _, _ => none
def rInDct (neg : Bool) : R2 := fun x y H Q => ∃ a o, y = .ref a ∧ DGet H a x o ∧ Q (.bl (if neg then !o.isSome else o.isSome)) H
theorem op_in_dct (hu : X.A.units + 1 < cLine) : OpR X (compareOp .In) (rInDct false) := by
  intro pins s σ H x y v u Q I rx ry h
  obtain ⟨a, o, rfl, g, q⟩ := h
  cases ry
  exact d_in hu I g rx fun s3 I3 => ⟨.bl o.isSome, H, I3, rfl, q⟩
theorem op_notin_dct (hu : X.A.units + 1 < cLine) : OpR X (compareOp .NotIn) (rInDct true) := by
  intro pins s σ H x y v u Q I rx ry h
  obtain ⟨a, o, rfl, g, q⟩ := h
  cases ry
  exact d_notIn hu I g rx fun s3 I3 => ⟨.bl (!o.isSome), H, I3, rfl, q⟩
abbrev rStrIn (neg : Bool) : R2 := fun x y H Q => ∃ i j, x = .str i ∧ y = .str j ∧ Q (.bl (if neg then !(!(Builtin.Str.occurrences j i 0 j.length 1).isEmpty) else !(Builtin.Str.occurrences j i 0 j.length 1).isEmpty)) H
abbrev rInAll (K : PySem.W.Frag) (neg : Bool) : R2 := fun x y H Q => rStrIn neg x y H Q ∨ rIn K neg x y H Q ∨ rInDct neg x y H Q
def inDb (neg : Bool) (x y : D) : Option D := (inD x y).map fun k => .bl (if neg then !k else k)
theorem seq_in {neg : Bool} {x : V} {a : D} {ys : List D} {z : D} {e : Ent} {ι : List Addr} {B H : Hp} {ρ : Rho} {O : Sto} {σ : St} {Q : VK} {p : Addr} {vs : List V} (r : Rel X.K X.mg (en X e) ι B H ρ O σ) (hx : DH X.K ι B H x a) (hs : SqL X.K H p vs ∨ SqT X.K H p vs) (hv : Paired (DA X.K ι B) vs ys)
    (hz : (if flatD a = true ∧ ys.all flatD = true then some (ys.any fun y => eqF y a) else none).map (fun k => D.bl (if neg then !k else k)) = some z)
    (q : ∀ B' H' v, Rel X.K X.mg (en X e) ι B' H' ρ O σ → Same B B' → DA X.K ι B' v z → Q v H') : rIn X.K neg x (.ref p) H Q := by
  by_cases hf : flatD a = true ∧ ys.all flatD = true
  · rw [if_pos hf] at hz
    cases hz
    have hx' : DA X.K ι B x a := by
      cases a with
      | non => exact hx
      | bl b => exact hx
      | int b => exact hx
      | str b => exact hx
      | _ => cases hf.1
    obtain ⟨h1, h2⟩ := inF_v hx' hf.1 hv hf.2
    refine ⟨p, vs, rfl, hs, flat_v hx' hf.1, h1, ?_⟩
    rw [h2]
    exact atomI r q (.bl _)
  · rw [if_neg hf] at hz
    cases hz
theorem op2_in (neg : Bool) : Op2 X (rInAll X.K neg) (inDb neg) := by
  intro x y a b z e ι B H ρ O σ Q r hx hy hz q
  unfold inDb at hz
  cases b with
  | str t =>
    cases a with
    | str c =>
      cases hx
      cases hy
      cases hz
      exact .inl ⟨_, _, rfl, rfl, atomI r q (.bl _)⟩
    | _ => cases hz
  | lst ys =>
    have hz : (if flatD a = true ∧ ys.all flatD = true then some (ys.any fun y => eqF y a) else none).map (fun k => D.bl (if neg then !k else k)) = some z := by cases a <;> exact hz
    obtain ⟨p, vs, rfl, h1, h2⟩ := hy
    exact .inr (.inl (seq_in r hx (.inl (SqL.of h1)) h2 hz q))
  | sea ys =>
    have hz : (if flatD a = true ∧ ys.all flatD = true then some (ys.any fun y => eqF y a) else none).map (fun k => D.bl (if neg then !k else k)) = some z := by cases a <;> exact hz
    obtain ⟨p, vs, rfl, h1, h2⟩ := hy
    exact .inr (.inl (seq_in r hx (.inl h1) h2 hz q))
  | tup ys =>
    have hz : (if flatD a = true ∧ ys.all flatD = true then some (ys.any fun y => eqF y a) else none).map (fun k => D.bl (if neg then !k else k)) = some z := by cases a <;> exact hz
    obtain ⟨p, vs, rfl, h1, h2⟩ := hy
    exact .inr (.inl (seq_in r hx (.inr h1) h2 hz q))
  | dct es =>
    have hz : ((keyD a).map fun k => (valD es k).isSome).map (fun k => D.bl (if neg then !k else k)) = some z := by cases a <;> exact hz
    obtain ⟨p, kvs, rfl, h1, h2⟩ := hy
    cases hk : keyD a with
    | none => rw [hk] at hz; cases hz
    | some k =>
      rw [hk] at hz
      simp only [Option.map_some, Option.some.injEq] at hz
      subst hz
      refine .inr (.inr ⟨p, valV kvs k, rfl, .inl ⟨kvs, k, h1, keyD_v hx hk, rfl⟩, ?_⟩)
      rcases paired_val k h2 with ⟨h3, h4⟩ | ⟨v, d, h3, h4, h5⟩
      · rw [h3]
        rw [h4] at q
        exact atomI r q (.bl _)
      · rw [h3]
        rw [h4] at q
        exact atomI r q (.bl _)
  | _ => cases a <;> cases hz
theorem op_in_all (hu : X.A.units + 1 < cLine) : OpR X (compareOp .In) (rInAll X.K false) := op_in_str.or (op_in_seq.or (op_in_dct hu))
theorem op_notin_all (hu : X.A.units + 1 < cLine) : OpR X (compareOp .NotIn) (rInAll X.K true) := op_notIn_str.or (op_notIn_seq.or (op_notin_dct hu))
theorem ex_in (hu : X.A.units + 64 < cLine) (ha : EZ X Wx a ma) (hb : EZ X Wx b mb) (hm : behindInMarks .In b = false := by rfl) : EX X Wx (.Compare a [.In] [b] pos) (binM (inDb false) ma mb) := ex_cmp (op_in_all (u1_ hu)) (op2_in false) ha hb hm
theorem ex_notin (hu : X.A.units + 64 < cLine) (ha : EZ X Wx a ma) (hb : EZ X Wx b mb) (hm : behindInMarks .NotIn b = false := by rfl) : EX X Wx (.Compare a [.NotIn] [b] pos) (binM (inDb true) ma mb) := ex_cmp (op_notin_all (u1_ hu)) (op2_in true) ha hb hm
theorem et_in (hu : X.A.units + 64 < cLine) (ha : EZ X Wx a ma) (hb : EZ X Wx b mb) (hm : behindInMarks .In b = false := by rfl) : ET X Wx (.Compare a [.In] [b] pos) (boolM (binM (inDb false) ma mb)) := et_cmp (op_in_all (u1_ hu)) (op2_in false) ha hb hm
theorem et_notin (hu : X.A.units + 64 < cLine) (ha : EZ X Wx a ma) (hb : EZ X Wx b mb) (hm : behindInMarks .NotIn b = false := by rfl) : ET X Wx (.Compare a [.NotIn] [b] pos) (boolM (binM (inDb true) ma mb)) := et_cmp (op_notin_all (u1_ hu)) (op2_in true) ha hb hm
end
end DL

set_option Elab.async false
set_option linter.all false
set_option maxRecDepth 100000
/-! DLRules10: calls without arguments. -/
namespace L2
open PySem PySem.Spec PyProof.Rows
section
variable {X : Cx} {CX : CXT} {k : Nat} {f : Addr} {fd : FuncData} {ps : List Str} {sp : Sp} {x : Str} {p pos : Pos} {ds : List Value} {dvs : List V} {E : St → XK}
theorem pe_callSD0 (F : FnOk X.prog X.w X.K X.mg X.base CX k f fd ps sp) (hr : Room k X.A) (hg : Gl X x) (hm : X.mg x = some (.ref f)) (hk : PySem.W.keepIn X.K (.ref f) = true) (hb : Binds X.K fd ps ds) (hd : Vals dvs ds) (hx : ∀ σ, PassesAt CX X σ (E σ))
    (hdb : (x == ("__debug__" : Str)) = false := by decide) : PE X (.Call (.Name x p) [] [] pos) (tCallSD sp dvs E tNil) := by
  refine ⟨fun pins s σ H Q I h => ?_⟩
  refine wpAny_Call_Name_kw (ld_glob I hg hm ?_ hdb)
  exact PySem.W.callWith_K0 I.kIn hk (run_fnSD (us := []) F hr hb hd (hx σ) I .nil h)
end
end L2
namespace DL
open PySem L2
variable [Tabs]
section
variable {X : Cx} {Wx : WX} {pos : Pos} {k k' : Nat} {f : MF} {x : Str} {p : Pos}
theorem ev_nilA : Ev X Wx (rDs X) tNil nilA := fun e ι B H ρ O σ Q r q => EvP.ok (v := []) r q .nil
theorem ex_cal0 (tk : Takes X Wx) (C : Cal X.prog X.w X.K X.mg X.base k x 0 f) (hr : Room k' X.A) (hk : k ≤ k' := by decide) (hg : Gl X x := by rfl) (hdb : (x == ("__debug__" : Str)) = false := by decide) : EX X Wx (.Call (.Name x p) [] [] pos) (callF f [] nilA) := by
  obtain ⟨a, fd, ps, hm, hkp, hb, F⟩ := C
  exact ⟨_, pe_callSD0 F (hr.mono hk) hg hm hkp hb .nil (fun σ => passAt tk σ) hdb, ev_callF (fun _ _ => .nil) (fun ρ O ds O' q => by cases q; rfl) ev_nilA⟩
theorem en_cal0 (tk : Takes X Wx) (C : Cal X.prog X.w X.K X.mg X.base k x 0 f) (hr : Room k' X.A) (hk : k ≤ k' := by decide) (hg : Gl X x := by rfl) (hdb : (x == ("__debug__" : Str)) = false := by decide) : EN X Wx (.Call (.Name x p) [] [] pos) (callN f [] nilA) := by
  obtain ⟨a, fd, ps, hm, hkp, hb, F⟩ := C
  exact ⟨_, pe_callSD0 F (hr.mono hk) hg hm hkp hb .nil (fun σ => passAt tk σ) hdb, ev_callN (fun _ _ => .nil) (fun ρ O ds O' q => by cases q; rfl) ev_nilA⟩
end
end DL

set_option Elab.async false
set_option linter.all false
set_option maxRecDepth 100000
/-! DLWp: wishes: what a function must give, walked from the outside. What follows is a name without a lambda, so that rewriting does not run ahead. -/
namespace DL
open PySem L2
variable [Tabs]
section
variable {α β γ : Type}
abbrev KE := Str → D → Sto → Prop
theorem q_ {p : Prop} (h : p) : p := h
def wE (m : ME α) (ρ : Rho) (O : Sto) (k : α → Sto → Prop) (E : KE) : Prop := match m ρ O with
  | .ok a O' => k a O'
  | .err c p O' => E c p O'
  | .bad => False
def wS (m : MS) (ρ : Rho) (O : Sto) (Q : RS → Prop) : Prop := match m ρ O with
  | .bad => False
  | r => Q r
def wO (o : Option α) (k : α → Prop) : Prop := match o with
  | some a => k a
  | none => False
/-- a call's result, as data -/
def wC (r : RE SD) (k : D → Sto → Prop) (E : KE) : Prop := match r with
  | .ok (.shr d) O' => k d O'
  | .ok (.own (.lst xs)) O' => k (.lst xs) O'
  | .err c p O' => E c p O'
  | _ => False
/-- .. as a cell -/
def wN (r : RE SD) (k : Cell → Sto → Prop) (E : KE) : Prop := match r with
  | .ok (.own c) O' => k c O'
  | .err c p O' => E c p O'
  | _ => False
def wIf (b : Bool) (p q : Prop) : Prop := if b = true then p else q
def wB (d : D) (k : Bool → Prop) : Prop := match d with
  | .bl b => k b
  | _ => False
def wI (d : D) (k : Int → Prop) : Prop := match d with
  | .int b => k b
  | _ => False
def wCL (d : Cell) (k : List D → Prop) : Prop := match d with
  | .lst b => k b
  | _ => False
def wL (r : RE (List D)) (k : List D → Sto → Prop) : Prop := match r with
  | .ok ys O' => k ys O'
  | _ => False
theorem wO_some (a : α) (k : α → Prop) : wO (some a) k = k a := q_ rfl
theorem wO_none (k : α → Prop) : wO none k = False := q_ rfl
theorem wO_if (c : Prop) [Decidable c] (o : Option α) (k : α → Prop) : wO (if c then o else none) k = (c ∧ wO o k) := by
  by_cases h : c
  · rw [if_pos h]; exact propext ⟨fun q => ⟨h, q⟩, fun q => q.2⟩
  · rw [if_neg h]; exact propext ⟨fun q => q.elim, fun q => absurd q.1 h⟩
section
variable (k : D → Sto → Prop) (E : KE) (O : Sto)
theorem wC_shr (d : D) : wC (.ok (.shr d) O) k E = k d O := q_ rfl
theorem wC_own (xs : List D) : wC (.ok (.own (.lst xs)) O) k E = k (.lst xs) O := q_ rfl
theorem wC_err (c : Str) (p : D) : wC (.err c p O) k E = E c p O := q_ rfl
theorem wN_own (k : Cell → Sto → Prop) (c : Cell) : wN (.ok (.own c) O) k E = k c O := q_ rfl
theorem wN_err (k : Cell → Sto → Prop) (c : Str) (p : D) : wN (.err c p O) k E = E c p O := q_ rfl
theorem wL_ok (k : List D → Sto → Prop) (ys : List D) : wL (.ok ys O) k = k ys O := q_ rfl
end
theorem wIf_true (p q : Prop) : wIf true p q = p := q_ rfl
theorem wIf_false (p q : Prop) : wIf false p q = q := q_ rfl
theorem wIf_dec (c : Prop) [Decidable c] (p q : Prop) : wIf (decide c) p q = if c then p else q := by
  unfold wIf
  by_cases h : c
  · rw [if_pos (decide_eq_true h), if_pos h]
  · rw [if_neg (fun y => h (of_decide_eq_true y)), if_neg h]
theorem wIf_not (b : Bool) (p q : Prop) : wIf (!b) p q = wIf b q p := by cases b <;> rfl
theorem wIf_and (a b : Bool) (p q : Prop) : wIf (a && b) p q = wIf a (wIf b p q) q := by cases a <;> rfl
theorem wIf_or (a b : Bool) (p q : Prop) : wIf (a || b) p q = wIf a p (wIf b p q) := by cases a <;> rfl
theorem wIf_bne (i j : Int) (p q : Prop) : wIf (i != j) p q = if i = j then q else p := by
  unfold wIf
  by_cases h : i = j <;> simp [h]
theorem wIf_emp {τ : Type} (xs : List τ) (p q : Prop) : wIf xs.isEmpty p q = if xs = [] then p else q := by
  unfold wIf
  cases xs <;> simp
theorem wB_bl (b : Bool) (k : Bool → Prop) : wB (.bl b) k = k b := q_ rfl
theorem wI_int (b : Int) (k : Int → Prop) : wI (.int b) k = k b := q_ rfl
theorem wCL_lst (b : List D) (k : List D → Prop) : wCL (.lst b) k = k b := q_ rfl

/-- the slot i holds data, a list .. -/
def wD (o : Option (Option SD)) (k : D → Prop) : Prop := match o with
  | some (some (.shr d)) => k d
  | _ => False
def wW (o : Option (Option SD)) (k : Cell → Prop) : Prop := match o with
  | some (some (.own d)) => k d
  | _ => False
def wDi (i : Nat) (ρ : Rho) (k : D → Prop) : Prop := wD ρ[i]? k
def wWi (i : Nat) (ρ : Rho) (k : Cell → Prop) : Prop := wW ρ[i]? k
theorem wD_0 (ρ : Rho) (d : D) (k : D → Prop) : wDi 0 (some (.shr d) :: ρ) k = k d := q_ rfl
theorem wD_S (ρ : Rho) (i : Nat) (x : Option SD) (k : D → Prop) : wDi (i + 1) (x :: ρ) k = wDi i ρ k := q_ rfl
theorem wW_0 (ρ : Rho) (d : Cell) (k : Cell → Prop) : wWi 0 (some (.own d) :: ρ) k = k d := q_ rfl
theorem wW_S (ρ : Rho) (i : Nat) (x : Option SD) (k : Cell → Prop) : wWi (i + 1) (x :: ρ) k = wWi i ρ k := q_ rfl
def wSt (d : D) (k : Str → Prop) : Prop := match d with
  | .str s => k s
  | _ => False
theorem wSt_str (s : Str) (k : Str → Prop) : wSt (.str s) k = k s := q_ rfl
def wCe (o : Option Cell) (k : Cell → Prop) : Prop := match o with
  | some c => k c
  | none => False
theorem wCe_some (c : Cell) (k : Cell → Prop) : wCe (some c) k = k c := q_ rfl
def wObj (o : D) (O : Sto) (k : Nat → Cell → Prop) : Prop := match o with
  | .obj n => wCe O[n]? (k n)
  | _ => False
theorem wObj_obj (n : Nat) (O : Sto) (k : Nat → Cell → Prop) : wObj (.obj n) O k = wCe O[n]? (k n) := q_ rfl
def drO (n : Nat) : Option Cell → D
  | some (.lst xs) => .lst xs
  | some (.dct es) => .dct es
  | _ => .obj n
theorem drO_lst (n : Nat) (xs : List D) : drO n (some (.lst xs)) = .lst xs := q_ rfl
theorem drO_dct (n : Nat) (xs : List (Key × D)) : drO n (some (.dct xs)) = .dct xs := q_ rfl
theorem drO_ins (n : Nat) (c : Str) (fs : List (Str × D)) : drO n (some (.ins c fs)) = .obj n := q_ rfl
theorem dr_non (O : Sto) : derefD O .non = .non := q_ rfl
theorem dr_bl (O : Sto) (b : Bool) : derefD O (.bl b) = .bl b := q_ rfl
theorem dr_int (O : Sto) (b : Int) : derefD O (.int b) = .int b := q_ rfl
theorem dr_str (O : Sto) (b : Str) : derefD O (.str b) = .str b := q_ rfl
theorem dr_lst (O : Sto) (b : List D) : derefD O (.lst b) = .lst b := q_ rfl
theorem dr_sea (O : Sto) (b : List D) : derefD O (.sea b) = .sea b := q_ rfl
theorem dr_tup (O : Sto) (b : List D) : derefD O (.tup b) = .tup b := q_ rfl
theorem dr_dct (O : Sto) (b : List (Key × D)) : derefD O (.dct b) = .dct b := q_ rfl
theorem dr_obj (O : Sto) (n : Nat) : derefD O (.obj n) = drO n O[n]? := by
  cases h : O[n]? with
  | none => simp only [derefD, drO, h]
  | some c => cases c <;> simp only [derefD, drO, h]
/-! ### what follows -/
section
variable (ρ : Rho) (O : Sto) (k : α → Sto → Prop) (kd : D → Sto → Prop) (kb : Bool → Sto → Prop) (kl : List D → Sto → Prop) (kc : Cell → Sto → Prop) (ko : Option Int → Sto → Prop) (E : KE) (Q : RS → Prop) (m n : MS) (e : ME D) (f g : D → D → Option D)
def cO  (z : α) : Prop := k z O
def cBind (f : β → ME α) (x : β) (O1 : Sto) : Prop := wE (f x) ρ O1 k E
def cBin2 (x : D) (y : D) (O2 : Sto) : Prop := wO (f (derefD O2 x) (derefD O2 y)) (cO O2 kd)
def cBin  (x : D) (O1 : Sto) : Prop := wE e ρ O1 (cBin2 kd f x) E
def cUn (h : β → Option α) (x : β) (O1 : Sto) : Prop := wO (h x) (cO O1 k)
def cBool  (x : D) (O1 : Sto) : Prop := wB x (cO O1 kb)
def cNotT  (x : Bool) (O1 : Sto) : Prop := kb (!x) O1
def cNb  (x : Bool) : Prop := kd (.bl (!x)) O
def cNotV  (x : D) (O1 : Sto) : Prop := wB x (cNb O1 kd)
def cAndT (t : ME Bool) (b : Bool) (O1 : Sto) : Prop := wIf b (wE t ρ O1 kb E) (kb false O1)
def cOrT (t : ME Bool) (b : Bool) (O1 : Sto) : Prop := wIf b (kb true O1) (wE t ρ O1 kb E)
def cAndB  (b : Bool) : Prop := wIf b (wE e ρ O kd E) (kd (.bl false) O)
def cOrB  (b : Bool) : Prop := wIf b (kd (.bl true) O) (wE e ρ O kd E)
def cAndV  (x : D) (O1 : Sto) : Prop := wB x (cAndB ρ O1 kd E e)
def cOrV  (x : D) (O1 : Sto) : Prop := wB x (cOrB ρ O1 kd E e)
def cCh5 (y : D) (w : D) (O2 : Sto) : Prop := wO (g y w) (cO O2 kd)
def cCh4 (y : D) (b : Bool) : Prop := wIf b (wE e ρ O (cCh5 kd g y) E) (kd (.bl false) O)
def cCh3 (y : D) (z : D) : Prop := wB z (cCh4 ρ O kd E e g y)
def cCh2 (x : D) (y : D) (O2 : Sto) : Prop := wO (f x y) (cCh3 ρ O2 kd E e g y)
def cCh (e' : ME D) (x : D) (O1 : Sto) : Prop := wE e' ρ O1 (cCh2 ρ kd E e f g x) E
def cIfM (a b : ME α) (t : Bool) (O1 : Sto) : Prop := wIf t (wE a ρ O1 k E) (wE b ρ O1 k E)
def cCons2 (x : D) (xs : List D) (O2 : Sto) : Prop := kl (x :: xs) O2
def cCons (r : ME (List D)) (x : D) (O1 : Sto) : Prop := wE r ρ O1 (cCons2 kl x) E
def cLst  (ds : List D) (O1 : Sto) : Prop := ds.length ≤ sizeLine ∧ kd (.lst ds) O1
def cTup  (ds : List D) (O1 : Sto) : Prop := ds.length ≤ sizeLine ∧ kd (.tup ds) O1
def cCall (f : MF) (dd : List D) (ds : List D) (O1 : Sto) : Prop := wC (f (ds ++ dd) O1) kd E
def cCallN (f : MF) (dd : List D) (ds : List D) (O1 : Sto) : Prop := wN (f (ds ++ dd) O1) kc E
def cMap (f : β → α) (x : β) (O1 : Sto) : Prop := k (f x) O1
def cLs  (xs : List D) : Prop := kd (.lst xs) O
def cThaw  (c : Cell) (O1 : Sto) : Prop := wCL c (cLs O1 kd)
def cSm  (i : Int) : Prop := ko (some i) O
def cPart  (x : D) (O1 : Sto) : Prop := wI x (cSm O1 ko)
def cSl3 (d : D) (l : Option Int) (u : Option Int) (O3 : Sto) : Prop := wO (slD l u (derefD O3 d)) (cO O3 kd)
def cSl2 (hi : ME (Option Int)) (d : D) (l : Option Int) (O2 : Sto) : Prop := wE hi ρ O2 (cSl3 kd d l) E
def cSl (lo hi : ME (Option Int)) (d : D) (O1 : Sto) : Prop := wE lo ρ O1 (cSl2 ρ kd E hi d) E
def cYs  (ys : List D) (O2 : Sto) : Prop := kc (.lst ys) O2
def cComp (vs : List Nat) (f : D → MS) (mt : ME Bool) (me : ME D) (ds : List D) (O1 : Sto) : Prop := wL (compL vs f mt me ds [] ρ O1) (cYs kc)
def cBl  (b : Bool) : Prop := kd (.bl b) O
def cEq (k : D → Prop) (b : Bool) : Prop := k (.bl b)
def cNe (k : D → Prop) (b : Bool) : Prop := k (.bl (!b))
def cSet (i : Nat) (d : D) (O1 : Sto) : Prop := Q (.nx (ρ.set i (some (.shr d))) O1)
def cNew (i : Nat) (d : Cell) (O1 : Sto) : Prop := Q (.nx (ρ.set i (some (.own d))) O1)
def cExpr  (_ : D) (O1 : Sto) : Prop := Q (.nx ρ O1)
def cRet  (d : D) (O1 : Sto) : Prop := Q (.ret (.shr d) O1)
def cRetN  (d : Cell) (O1 : Sto) : Prop := Q (.ret (.own d) O1)
def cErr  (c : Str) (p : D) (O1 : Sto) : Prop := Q (.err c p ρ O1)
def cRaise (x : Str) (d : D) (O1 : Sto) : Prop := Q (.err x d ρ O1)
def cIf  (b : Bool) (O1 : Sto) : Prop := wIf b (wS m ρ O1 Q) (wS n ρ O1 Q)
def cFor (g : D → MS) (ds : List D) (O1 : Sto) : Prop := wS (loopS g m ds) ρ O1 Q
def cRo  (c : Cell) : Prop := Q (.ret (.own c) O)
def cFrL (i : Nat) (xs : List D) : Prop := Q (.nx (ρ.set i (some (.shr (.lst xs)))) O)
def cFr (i : Nat) (c : Cell) : Prop := wCL c (cFrL ρ O Q i)
def cAuZ (i : Nat) (z : D) : Prop := Q (.nx (ρ.set i (some (.shr z))) O)
def cAu2 (i : Nat) (x : D) (y : D) (O1 : Sto) : Prop := wO (f x y) (cAuZ ρ O1 Q i)
def cAu (i : Nat) (x : D) : Prop := wE e ρ O (cAu2 ρ Q f i x) (cErr ρ Q)
def cAp3 (i : Nat) (xs : List D) (y : D) (O1 : Sto) : Prop := xs.length < sizeLine ∧ Q (.nx (ρ.set i (some (.own (.lst (xs ++ [y]))))) O1)
def cAp2 (i : Nat) (xs : List D) : Prop := wE e ρ O (cAp3 ρ Q i xs) (cErr ρ Q)
def cAp (i : Nat) (c : Cell) : Prop := wCL c (cAp2 ρ O Q e i)
def cUn1 (h : D → Option D) (x : D) (O1 : Sto) : Prop := wO (h (derefD O1 x)) (cO O1 kd)
def cTru (x : D) (O1 : Sto) : Prop := wO (truD (derefD O1 x)) (cO O1 kb)
def cCallM (h : List D → Option D) (ds : List D) (O1 : Sto) : Prop := wO (h (ds.map (derefD O1))) (cO O1 kd)
def cListM (ds : List D) (O1 : Sto) : Prop := wO (listL (ds.map (derefD O1))) (cO O1 kl)
def cBinL2 (h : D → D → Option (List D)) (x : D) (y : D) (O2 : Sto) : Prop := wO (h (derefD O2 x) (derefD O2 y)) (cO O2 kl)
def cBinL (h : D → D → Option (List D)) (x : D) (O1 : Sto) : Prop := wE e ρ O1 (cBinL2 kl h x) E
def cStr3 (h : Str → D → Option D) (s : Str) (y : D) (O2 : Sto) : Prop := wO (h s (derefD O2 y)) (cO O2 kd)
def cStr2 (h : Str → D → Option D) (s : Str) : Prop := wE e ρ O (cStr3 kd h s) E
def cStr1 (h : Str → D → Option D) (x : D) (O1 : Sto) : Prop := wSt (derefD O1 x) (cStr2 ρ O1 kd E e h)
def cCell (c : Cell) (O1 : Sto) : Prop := kd (.obj O1.length) (O1 ++ [c])
def cPoZ (j : Nat) (c : Cell) : Prop := Q (.nx (ρ.set j (some (.own c))) O)
def cPoC (j : Nat) (d : D) (y : D) (c : Cell) : Prop := wO (putC c (derefD O y) d) (cPoZ ρ O Q j)
def cPoI (j : Nat) (d : D) (y : D) (O2 : Sto) : Prop := wWi j ρ (cPoC ρ O2 Q j d y)
def cPoV (j : Nat) (d : D) (O1 : Sto) : Prop := wE e ρ O1 (cPoI ρ Q j d) (cErr ρ Q)
def cPo0 (j : Nat) (e' : ME D) (c : Cell) : Prop := wE e' ρ O (cPoV ρ Q e j) (cErr ρ Q)
def cQoZ (n : Nat) (c : Cell) : Prop := Q (.nx ρ (O.set n c))
def cQoC (d : D) (y : D) (n : Nat) (c : Cell) : Prop := wO (putC c (derefD O y) d) (cQoZ ρ O Q n)
def cQoI (d : D) (o : D) (y : D) (O3 : Sto) : Prop := wObj o O3 (cQoC ρ O3 Q d y)
def cQoO (d : D) (o : D) (O2 : Sto) : Prop := wE e ρ O2 (cQoI ρ Q d o) (cErr ρ Q)
def cQoV (mo : ME D) (d : D) (O1 : Sto) : Prop := wE mo ρ O1 (cQoO ρ Q e d) (cErr ρ Q)
def cWh (c : ME Bool) (b : Bool) (O1 : Sto) : Prop := wIf b (wS m ρ O1 Q) (wS n ρ O1 Q)
theorem cO_ap  (z : α) : cO O k z = (k z O) := q_ rfl
theorem cBind_ap (f : β → ME α) (x : β) (O1 : Sto) : cBind ρ k E f x O1 = (wE (f x) ρ O1 k E) := q_ rfl
theorem cBin2_ap (x : D) (y : D) (O2 : Sto) : cBin2 kd f x y O2 = (wO (f (derefD O2 x) (derefD O2 y)) (cO O2 kd)) := q_ rfl
theorem cBin_ap  (x : D) (O1 : Sto) : cBin ρ kd E e f x O1 = (wE e ρ O1 (cBin2 kd f x) E) := q_ rfl
theorem cUn_ap (h : β → Option α) (x : β) (O1 : Sto) : cUn k h x O1 = (wO (h x) (cO O1 k)) := q_ rfl
theorem cBool_ap  (x : D) (O1 : Sto) : cBool kb x O1 = (wB x (cO O1 kb)) := q_ rfl
theorem cNotT_ap  (x : Bool) (O1 : Sto) : cNotT kb x O1 = (kb (!x) O1) := q_ rfl
theorem cNb_ap  (x : Bool) : cNb O kd x = (kd (.bl (!x)) O) := q_ rfl
theorem cNotV_ap  (x : D) (O1 : Sto) : cNotV kd x O1 = (wB x (cNb O1 kd)) := q_ rfl
theorem cAndT_ap (t : ME Bool) (b : Bool) (O1 : Sto) : cAndT ρ kb E t b O1 = (wIf b (wE t ρ O1 kb E) (kb false O1)) := q_ rfl
theorem cOrT_ap (t : ME Bool) (b : Bool) (O1 : Sto) : cOrT ρ kb E t b O1 = (wIf b (kb true O1) (wE t ρ O1 kb E)) := q_ rfl
theorem cAndB_ap  (b : Bool) : cAndB ρ O kd E e b = (wIf b (wE e ρ O kd E) (kd (.bl false) O)) := q_ rfl
theorem cOrB_ap  (b : Bool) : cOrB ρ O kd E e b = (wIf b (kd (.bl true) O) (wE e ρ O kd E)) := q_ rfl
theorem cAndV_ap  (x : D) (O1 : Sto) : cAndV ρ kd E e x O1 = (wB x (cAndB ρ O1 kd E e)) := q_ rfl
theorem cOrV_ap  (x : D) (O1 : Sto) : cOrV ρ kd E e x O1 = (wB x (cOrB ρ O1 kd E e)) := q_ rfl
theorem cCh5_ap (y : D) (w : D) (O2 : Sto) : cCh5 kd g y w O2 = (wO (g y w) (cO O2 kd)) := q_ rfl
theorem cCh4_ap (y : D) (b : Bool) : cCh4 ρ O kd E e g y b = (wIf b (wE e ρ O (cCh5 kd g y) E) (kd (.bl false) O)) := q_ rfl
theorem cCh3_ap (y : D) (z : D) : cCh3 ρ O kd E e g y z = (wB z (cCh4 ρ O kd E e g y)) := q_ rfl
theorem cCh2_ap (x : D) (y : D) (O2 : Sto) : cCh2 ρ kd E e f g x y O2 = (wO (f x y) (cCh3 ρ O2 kd E e g y)) := q_ rfl
theorem cCh_ap (e' : ME D) (x : D) (O1 : Sto) : cCh ρ kd E e f g e' x O1 = (wE e' ρ O1 (cCh2 ρ kd E e f g x) E) := q_ rfl
theorem cIfM_ap (a b : ME α) (t : Bool) (O1 : Sto) : cIfM ρ k E a b t O1 = (wIf t (wE a ρ O1 k E) (wE b ρ O1 k E)) := q_ rfl
theorem cCons2_ap (x : D) (xs : List D) (O2 : Sto) : cCons2 kl x xs O2 = (kl (x :: xs) O2) := q_ rfl
theorem cCons_ap (r : ME (List D)) (x : D) (O1 : Sto) : cCons ρ kl E r x O1 = (wE r ρ O1 (cCons2 kl x) E) := q_ rfl
theorem cLst_ap  (ds : List D) (O1 : Sto) : cLst kd ds O1 = (ds.length ≤ sizeLine ∧ kd (.lst ds) O1) := q_ rfl
theorem cTup_ap  (ds : List D) (O1 : Sto) : cTup kd ds O1 = (ds.length ≤ sizeLine ∧ kd (.tup ds) O1) := q_ rfl
theorem cCall_ap (f : MF) (dd : List D) (ds : List D) (O1 : Sto) : cCall kd E f dd ds O1 = (wC (f (ds ++ dd) O1) kd E) := q_ rfl
theorem cCallN_ap (f : MF) (dd : List D) (ds : List D) (O1 : Sto) : cCallN kc E f dd ds O1 = (wN (f (ds ++ dd) O1) kc E) := q_ rfl
theorem cMap_ap (f : β → α) (x : β) (O1 : Sto) : cMap k f x O1 = (k (f x) O1) := q_ rfl
theorem cLs_ap  (xs : List D) : cLs O kd xs = (kd (.lst xs) O) := q_ rfl
theorem cThaw_ap  (c : Cell) (O1 : Sto) : cThaw kd c O1 = (wCL c (cLs O1 kd)) := q_ rfl
theorem cSm_ap  (i : Int) : cSm O ko i = (ko (some i) O) := q_ rfl
theorem cPart_ap  (x : D) (O1 : Sto) : cPart ko x O1 = (wI x (cSm O1 ko)) := q_ rfl
theorem cSl3_ap (d : D) (l : Option Int) (u : Option Int) (O3 : Sto) : cSl3 kd d l u O3 = (wO (slD l u (derefD O3 d)) (cO O3 kd)) := q_ rfl
theorem cSl2_ap (hi : ME (Option Int)) (d : D) (l : Option Int) (O2 : Sto) : cSl2 ρ kd E hi d l O2 = (wE hi ρ O2 (cSl3 kd d l) E) := q_ rfl
theorem cSl_ap (lo hi : ME (Option Int)) (d : D) (O1 : Sto) : cSl ρ kd E lo hi d O1 = (wE lo ρ O1 (cSl2 ρ kd E hi d) E) := q_ rfl
theorem cYs_ap  (ys : List D) (O2 : Sto) : cYs kc ys O2 = (kc (.lst ys) O2) := q_ rfl
theorem cComp_ap (vs : List Nat) (f : D → MS) (mt : ME Bool) (me : ME D) (ds : List D) (O1 : Sto) : cComp ρ kc vs f mt me ds O1 = (wL (compL vs f mt me ds [] ρ O1) (cYs kc)) := q_ rfl
theorem cBl_ap  (b : Bool) : cBl O kd b = (kd (.bl b) O) := q_ rfl
theorem cEq_ap (k : D → Prop) (b : Bool) : cEq k b = (k (.bl b)) := q_ rfl
theorem cNe_ap (k : D → Prop) (b : Bool) : cNe k b = (k (.bl (!b))) := q_ rfl
theorem cSet_ap (i : Nat) (d : D) (O1 : Sto) : cSet ρ Q i d O1 = (Q (.nx (ρ.set i (some (.shr d))) O1)) := q_ rfl
theorem cNew_ap (i : Nat) (d : Cell) (O1 : Sto) : cNew ρ Q i d O1 = (Q (.nx (ρ.set i (some (.own d))) O1)) := q_ rfl
theorem cExpr_ap  (x_ : D) (O1 : Sto) : cExpr ρ Q x_ O1 = (Q (.nx ρ O1)) := q_ rfl
theorem cRet_ap  (d : D) (O1 : Sto) : cRet Q d O1 = (Q (.ret (.shr d) O1)) := q_ rfl
theorem cRetN_ap  (d : Cell) (O1 : Sto) : cRetN Q d O1 = (Q (.ret (.own d) O1)) := q_ rfl
theorem cErr_ap  (c : Str) (p : D) (O1 : Sto) : cErr ρ Q c p O1 = (Q (.err c p ρ O1)) := q_ rfl
theorem cRaise_ap (x : Str) (d : D) (O1 : Sto) : cRaise ρ Q x d O1 = (Q (.err x d ρ O1)) := q_ rfl
theorem cIf_ap  (b : Bool) (O1 : Sto) : cIf ρ Q m n b O1 = (wIf b (wS m ρ O1 Q) (wS n ρ O1 Q)) := q_ rfl
theorem cFor_ap (g : D → MS) (ds : List D) (O1 : Sto) : cFor ρ Q m g ds O1 = (wS (loopS g m ds) ρ O1 Q) := q_ rfl
theorem cRo_ap  (c : Cell) : cRo O Q c = (Q (.ret (.own c) O)) := q_ rfl
theorem cFrL_ap (i : Nat) (xs : List D) : cFrL ρ O Q i xs = (Q (.nx (ρ.set i (some (.shr (.lst xs)))) O)) := q_ rfl
theorem cFr_ap (i : Nat) (c : Cell) : cFr ρ O Q i c = (wCL c (cFrL ρ O Q i)) := q_ rfl
theorem cAuZ_ap (i : Nat) (z : D) : cAuZ ρ O Q i z = (Q (.nx (ρ.set i (some (.shr z))) O)) := q_ rfl
theorem cAu2_ap (i : Nat) (x : D) (y : D) (O1 : Sto) : cAu2 ρ Q f i x y O1 = (wO (f x y) (cAuZ ρ O1 Q i)) := q_ rfl
theorem cAu_ap (i : Nat) (x : D) : cAu ρ O Q e f i x = (wE e ρ O (cAu2 ρ Q f i x) (cErr ρ Q)) := q_ rfl
theorem cAp3_ap (i : Nat) (xs : List D) (y : D) (O1 : Sto) : cAp3 ρ Q i xs y O1 = (xs.length < sizeLine ∧ Q (.nx (ρ.set i (some (.own (.lst (xs ++ [y]))))) O1)) := q_ rfl
theorem cAp2_ap (i : Nat) (xs : List D) : cAp2 ρ O Q e i xs = (wE e ρ O (cAp3 ρ Q i xs) (cErr ρ Q)) := q_ rfl
theorem cAp_ap (i : Nat) (c : Cell) : cAp ρ O Q e i c = (wCL c (cAp2 ρ O Q e i)) := q_ rfl
theorem cUn1_ap (h : D → Option D) (x : D) (O1 : Sto) : cUn1 kd h x O1 = (wO (h (derefD O1 x)) (cO O1 kd)) := q_ rfl
theorem cTru_ap (x : D) (O1 : Sto) : cTru kb x O1 = (wO (truD (derefD O1 x)) (cO O1 kb)) := q_ rfl
theorem cCallM_ap (h : List D → Option D) (ds : List D) (O1 : Sto) : cCallM kd h ds O1 = (wO (h (ds.map (derefD O1))) (cO O1 kd)) := q_ rfl
theorem cListM_ap (ds : List D) (O1 : Sto) : cListM kl ds O1 = (wO (listL (ds.map (derefD O1))) (cO O1 kl)) := q_ rfl
theorem cBinL2_ap (h : D → D → Option (List D)) (x : D) (y : D) (O2 : Sto) : cBinL2 kl h x y O2 = (wO (h (derefD O2 x) (derefD O2 y)) (cO O2 kl)) := q_ rfl
theorem cBinL_ap (h : D → D → Option (List D)) (x : D) (O1 : Sto) : cBinL ρ kl E e h x O1 = (wE e ρ O1 (cBinL2 kl h x) E) := q_ rfl
theorem cStr3_ap (h : Str → D → Option D) (s : Str) (y : D) (O2 : Sto) : cStr3 kd h s y O2 = (wO (h s (derefD O2 y)) (cO O2 kd)) := q_ rfl
theorem cStr2_ap (h : Str → D → Option D) (s : Str) : cStr2 ρ O kd E e h s = (wE e ρ O (cStr3 kd h s) E) := q_ rfl
theorem cStr1_ap (h : Str → D → Option D) (x : D) (O1 : Sto) : cStr1 ρ kd E e h x O1 = (wSt (derefD O1 x) (cStr2 ρ O1 kd E e h)) := q_ rfl
theorem cCell_ap (c : Cell) (O1 : Sto) : cCell kd c O1 = (kd (.obj O1.length) (O1 ++ [c])) := q_ rfl
theorem cPoZ_ap (j : Nat) (c : Cell) : cPoZ ρ O Q j c = (Q (.nx (ρ.set j (some (.own c))) O)) := q_ rfl
theorem cPoC_ap (j : Nat) (d : D) (y : D) (c : Cell) : cPoC ρ O Q j d y c = (wO (putC c (derefD O y) d) (cPoZ ρ O Q j)) := q_ rfl
theorem cPoI_ap (j : Nat) (d : D) (y : D) (O2 : Sto) : cPoI ρ Q j d y O2 = (wWi j ρ (cPoC ρ O2 Q j d y)) := q_ rfl
theorem cPoV_ap (j : Nat) (d : D) (O1 : Sto) : cPoV ρ Q e j d O1 = (wE e ρ O1 (cPoI ρ Q j d) (cErr ρ Q)) := q_ rfl
theorem cPo0_ap (j : Nat) (e' : ME D) (c : Cell) : cPo0 ρ O Q e j e' c = (wE e' ρ O (cPoV ρ Q e j) (cErr ρ Q)) := q_ rfl
theorem cQoZ_ap (n : Nat) (c : Cell) : cQoZ ρ O Q n c = (Q (.nx ρ (O.set n c))) := q_ rfl
theorem cQoC_ap (d : D) (y : D) (n : Nat) (c : Cell) : cQoC ρ O Q d y n c = (wO (putC c (derefD O y) d) (cQoZ ρ O Q n)) := q_ rfl
theorem cQoI_ap (d : D) (o : D) (y : D) (O3 : Sto) : cQoI ρ Q d o y O3 = (wObj o O3 (cQoC ρ O3 Q d y)) := q_ rfl
theorem cQoO_ap (d : D) (o : D) (O2 : Sto) : cQoO ρ Q e d o O2 = (wE e ρ O2 (cQoI ρ Q d o) (cErr ρ Q)) := q_ rfl
theorem cQoV_ap (mo : ME D) (d : D) (O1 : Sto) : cQoV ρ Q e mo d O1 = (wE mo ρ O1 (cQoO ρ Q e d) (cErr ρ Q)) := q_ rfl
theorem cWh_ap (c : ME Bool) (b : Bool) (O1 : Sto) : cWh ρ Q m n c b O1 = (wIf b (wS m ρ O1 Q) (wS n ρ O1 Q)) := q_ rfl
end

/-! ### expressions -/
section
variable (ρ : Rho) (O : Sto) (k : α → Sto → Prop) (kd : D → Sto → Prop) (kb : Bool → Sto → Prop) (kl : List D → Sto → Prop) (kc : Cell → Sto → Prop) (ko : Option Int → Sto → Prop) (E : KE)
theorem wE_pure (a : α) : wE (pureE a) ρ O k E = k a O := q_ rfl
theorem wE_bad : wE badE ρ O k E = False := q_ rfl
theorem wE_opt (o : Option α) : wE (optE o) ρ O k E = wO o (cO O k) := by cases o <;> rfl
theorem wE_optO (o : Sto → Option α) : wE (optO o) ρ O k E = wO (o O) (cO O k) := by unfold wE optO; cases o O <;> rfl
theorem wE_bind (m : ME β) (f : β → ME α) : wE (bindE m f) ρ O k E = wE m ρ O (cBind ρ k E f) E := by
  unfold wE bindE
  cases m ρ O <;> rfl
theorem wE_bindF (m : ME β) (f : β → ME α) (k' : β → Sto → Prop) (h : ∀ x O1, wE (f x) ρ O1 k E = k' x O1) : wE (bindE m f) ρ O k E = wE m ρ O k' E := by
  have e : cBind ρ k E f = k' := by funext x O1; exact h x O1
  rw [wE_bind, e]
theorem wE_ite (c : Prop) [Decidable c] (m : ME α) : wE (if c then m else badE) ρ O k E = (c ∧ wE m ρ O k E) := by
  by_cases h : c
  · rw [if_pos h]; exact propext ⟨fun q => ⟨h, q⟩, fun q => q.2⟩
  · rw [if_neg h]; exact propext ⟨fun q => q.elim, fun q => absurd q.1 h⟩
theorem wE_rd0 (d : D) : wE (rdM 0) (some (.shr d) :: ρ) O kd E = kd d O := q_ rfl
theorem wE_rdS (i : Nat) (x : Option SD) : wE (rdM (i + 1)) (x :: ρ) O kd E = wE (rdM i) ρ O kd E := q_ rfl
theorem wE_rz0 (d : D) : wE (rdZ 0) (some (.shr d) :: ρ) O kd E = kd d O := q_ rfl
theorem wE_rz0l (xs : List D) : wE (rdZ 0) (some (.own (.lst xs)) :: ρ) O kd E = kd (.lst xs) O := q_ rfl
theorem wE_rz0d (xs : List (Key × D)) : wE (rdZ 0) (some (.own (.dct xs)) :: ρ) O kd E = kd (.dct xs) O := q_ rfl
theorem wE_rzS (i : Nat) (x : Option SD) : wE (rdZ (i + 1)) (x :: ρ) O kd E = wE (rdZ i) ρ O kd E := q_ rfl
theorem wE_bin (f : D → D → Option D) (m n : ME D) : wE (binM f m n) ρ O kd E = wE m ρ O (cBin ρ kd E n f) E :=
  wE_bindF ρ O kd E m _ _ fun x O1 => wE_bindF ρ O1 kd E n _ _ fun y O2 => wE_optO ρ O2 kd E _
theorem wE_un1 (f : D → Option D) (m : ME D) : wE (un1 f m) ρ O kd E = wE m ρ O (cUn1 kd f) E := wE_bindF ρ O kd E m _ _ fun x O1 => wE_optO ρ O1 kd E _
theorem wE_bool (m : ME D) : wE (boolM m) ρ O kb E = wE m ρ O (cBool kb) E := wE_bindF ρ O kb E m _ _ fun x O1 => by cases x <;> rfl
theorem wE_tru (m : ME D) : wE (truM m) ρ O kb E = wE m ρ O (cTru kb) E := wE_bindF ρ O kb E m _ _ fun x O1 => wE_optO ρ O1 kb E _
theorem wE_notT (m : ME Bool) : wE (notT m) ρ O kb E = wE m ρ O (cNotT kb) E := wE_bindF ρ O kb E m _ _ fun x O1 => rfl
theorem wE_notV (m : ME D) : wE (notV m) ρ O kd E = wE m ρ O (cNotV kd) E := wE_bindF ρ O kd E m _ _ fun x O1 => by cases x <;> rfl
theorem wE_andT (m n : ME Bool) : wE (andT m n) ρ O kb E = wE m ρ O (cAndT ρ kb E n) E := wE_bindF ρ O kb E m _ _ fun x O1 => by cases x <;> rfl
theorem wE_orT (m n : ME Bool) : wE (orT m n) ρ O kb E = wE m ρ O (cOrT ρ kb E n) E := wE_bindF ρ O kb E m _ _ fun x O1 => by cases x <;> rfl
theorem wE_andV (m n : ME D) : wE (andV m n) ρ O kd E = wE m ρ O (cAndV ρ kd E n) E := wE_bindF ρ O kd E m _ _ fun x O1 => by
  cases x with
  | bl b => cases b <;> rfl
  | _ => rfl
theorem wE_orV (m n : ME D) : wE (orV m n) ρ O kd E = wE m ρ O (cOrV ρ kd E n) E := wE_bindF ρ O kd E m _ _ fun x O1 => by
  cases x with
  | bl b => cases b <;> rfl
  | _ => rfl
theorem wE_chain (f g : D → D → Option D) (ma mb mc : ME D) : wE (chainM f g ma mb mc) ρ O kd E = wE ma ρ O (cCh ρ kd E mc f g mb) E := by
  refine wE_bindF ρ O kd E ma _ _ fun x O1 => wE_bindF ρ O1 kd E mb _ _ fun y O2 => ?_
  refine (wE_bindF ρ O2 kd E (optE (f x y)) _ (fun z O3 => cCh3 ρ O3 kd E mc g y z) fun z O3 => ?_).trans ?_
  · cases z with
    | bl b =>
      cases b with
      | false => rfl
      | true => exact wE_bindF ρ O3 kd E mc _ _ fun w O4 => wE_opt ρ O4 kd E _
    | _ => rfl
  · rw [wE_opt]
    rfl
theorem wE_ifM (t : ME Bool) (m n : ME α) : wE (ifM t m n) ρ O k E = wE t ρ O (cIfM ρ k E m n) E := wE_bindF ρ O k E t _ _ fun x O1 => by cases x <;> rfl
theorem wE_nil : wE nilA ρ O kl E = kl [] O := q_ rfl
theorem wE_cons (m : ME D) (n : ME (List D)) : wE (consA m n) ρ O kl E = wE m ρ O (cCons ρ kl E n) E :=
  wE_bindF ρ O kl E m _ _ fun x O1 => wE_bindF ρ O1 kl E n _ _ fun y O2 => rfl
theorem wE_lst (m : ME (List D)) : wE (lstM m) ρ O kd E = wE m ρ O (cLst kd) E := wE_bindF ρ O kd E m _ _ fun x O1 => wE_ite ρ O1 kd E _ _
theorem wE_tup (m : ME (List D)) : wE (tupM m) ρ O kd E = wE m ρ O (cTup kd) E := wE_bindF ρ O kd E m _ _ fun x O1 => wE_ite ρ O1 kd E _ _
theorem wE_callM (f : List D → Option D) (m : ME (List D)) : wE (callM f m) ρ O kd E = wE m ρ O (cCallM kd f) E := wE_bindF ρ O kd E m _ _ fun x O1 => wE_optO ρ O1 kd E _
theorem wE_callF (f : MF) (dd : List D) (m : ME (List D)) : wE (callF f dd m) ρ O kd E = wE m ρ O (cCall kd E f dd) E := wE_bindF ρ O kd E m _ _ fun x O1 => by
  unfold wE cCall wC
  dsimp only
  cases f (x ++ dd) O1 with
  | ok s O' =>
    cases s with
    | shr d => rfl
    | own c => cases c <;> rfl
    | hot c p => rfl
  | err c p O' => rfl
  | bad => rfl
theorem wE_callN (f : MF) (dd : List D) (m : ME (List D)) : wE (callN f dd m) ρ O kc E = wE m ρ O (cCallN kc E f dd) E := wE_bindF ρ O kc E m _ _ fun x O1 => by
  unfold wE cCallN wN
  dsimp only
  cases f (x ++ dd) O1 with
  | ok s O' =>
    cases s with
    | shr d => rfl
    | own c => cases c <;> rfl
    | hot c p => rfl
  | err c p O' => rfl
  | bad => rfl
theorem wE_map (f : β → α) (m : ME β) : wE (mapE f m) ρ O k E = wE m ρ O (cMap k f) E := wE_bindF ρ O k E m _ _ fun x O1 => rfl
theorem wE_thaw (m : ME Cell) : wE (thawM m) ρ O kd E = wE m ρ O (cThaw kd) E := wE_bindF ρ O kd E m _ _ fun x O1 => by cases x <;> rfl
theorem wE_part (m : ME D) : wE (partM m) ρ O ko E = wE m ρ O (cPart ko) E := wE_bindF ρ O ko E m _ _ fun x O1 => by cases x <;> rfl
theorem wE_noPart : wE noPart ρ O ko E = ko none O := q_ rfl
theorem wE_sl (m : ME D) (lo hi : ME (Option Int)) : wE (slM m lo hi) ρ O kd E = wE m ρ O (cSl ρ kd E lo hi) E :=
  wE_bindF ρ O kd E m _ _ fun x O1 => wE_bindF ρ O1 kd E lo _ _ fun y O2 => wE_bindF ρ O2 kd E hi _ _ fun z O3 => wE_optO ρ O3 kd E _
theorem wE_comp (vs : List Nat) (mi : ME (List D)) (f : D → MS) (mt : ME Bool) (me : ME D) : wE (compM vs mi f mt me) ρ O kc E = wE mi ρ O (cComp ρ kc vs f mt me) E := wE_bindF ρ O kc E mi _ _ fun ds O1 => by
  rw [wE_bind]
  unfold wE cComp wL
  cases z : compL vs f mt me ds [] ρ O1 with
  | ok ys O2 => rfl
  | err c p O' => exact absurd z compL_noerr
  | bad => rfl
theorem wE_binL (f : D → D → Option (List D)) (m n : ME D) : wE (binL f m n) ρ O kl E = wE m ρ O (cBinL ρ kl E n f) E :=
  wE_bindF ρ O kl E m _ _ fun x O1 => wE_bindF ρ O1 kl E n _ _ fun y O2 => wE_optO ρ O2 kl E _
theorem wE_listM (m : ME (List D)) : wE (listM m) ρ O kl E = wE m ρ O (cListM kl) E := wE_bindF ρ O kl E m _ _ fun x O1 => wE_optO ρ O1 kl E _
theorem wE_str1 (f : Str → D → Option D) (m n : ME D) : wE (str1M f m n) ρ O kd E = wE m ρ O (cStr1 ρ kd E n f) E := wE_bindF ρ O kd E m _ _ fun x O1 => by
  unfold cStr1 wSt
  cases z : derefD O1 x with
  | str s =>
    refine Eq.trans ?_ (wE_bindF ρ O1 kd E n (fun y => optO fun O => f s (derefD O y)) (cStr3 kd f s) fun y O2 => wE_optO ρ O2 kd E _)
    unfold wE
    simp only [z]
  | _ => unfold wE; simp only [z]
theorem wE_cell (m : ME Cell) : wE (cellO m) ρ O kd E = wE m ρ O (cCell kd) E := wE_bindF ρ O kd E m _ _ fun x O1 => rfl
theorem wE_hp0 (c : Str) (p : D) (cs : List Str) : wE (hotP 0 cs) (some (.hot c p) :: ρ) O kd E = (cs.contains c = true ∧ kd p O) := by
  unfold wE hotP
  simp only [List.getElem?_cons_zero]
  by_cases h : cs.contains c = true
  · simp only [h, if_true, true_and]
  · rw [if_neg h]
    exact propext ⟨fun q => q.elim, fun q => h q.1⟩
theorem wE_hpS (i : Nat) (x : Option SD) (cs : List Str) : wE (hotP (i + 1) cs) (x :: ρ) O kd E = wE (hotP i cs) ρ O kd E := q_ rfl
theorem wE_hn0 (c : Str) (p : D) (cs : List Str) : wE (hotN 0 cs) (some (.hot c p) :: ρ) O kd E = (cs.contains c = true ∧ kd (.str c) O) := by
  unfold wE hotN
  simp only [List.getElem?_cons_zero]
  by_cases h : cs.contains c = true
  · simp only [h, if_true, true_and]
  · rw [if_neg h]
    exact propext ⟨fun q => q.elim, fun q => h q.1⟩
theorem wE_hnS (i : Nat) (x : Option SD) (cs : List Str) : wE (hotN (i + 1) cs) (x :: ρ) O kd E = wE (hotN i cs) ρ O kd E := q_ rfl
theorem wE_hi0 (c : Str) (p : D) (ks : List (Str × Bool)) : wE (hotI 0 ks) (some (.hot c p) :: ρ) O kd E = wO (ks.lookup c) (cBl O kd) := by
  unfold wE hotI wO cBl
  simp only [List.getElem?_cons_zero]
  cases ks.lookup c <;> rfl
theorem wE_hiS (i : Nat) (x : Option SD) (ks : List (Str × Bool)) : wE (hotI (i + 1) ks) (x :: ρ) O kd E = wE (hotI i ks) ρ O kd E := q_ rfl
end

/-! ### statements -/
def seqK (b : MS) (Q : RS → Prop) : RS → Prop
  | .nx ρ O => wS b ρ O Q
  | r => Q r
def ctK (Q : RS → Prop) : RS → Prop
  | .ct ρ O => Q (.nx ρ O)
  | r => Q r
def turnK (m : MS) (Q : RS → Prop) : RS → Prop
  | .nx ρ O => wS m ρ O (ctK Q)
  | _ => False
def offK (o : Option Nat) (Q : RS → Prop) (r : RS) : Prop := match offS o r with
  | .bad => False
  | r => Q r
def lkK (o : Option Bool) (p q : Prop) : Prop := match o with
  | some true => p
  | some false => q
  | none => False
theorem lkK_t (p q : Prop) : lkK (some true) p q = p := q_ rfl
theorem lkK_f (p q : Prop) : lkK (some false) p q = q := q_ rfl
def hotS (o : Option Nat) (c : Str) (p : D) (ρ : Rho) : Rho := match o with
  | some i => ρ.set i (some (.hot c p))
  | none => ρ
def tryK (ks : List (Str × Bool)) (o : Option Nat) (ms : MS) (Q : RS → Prop) : RS → Prop
  | .err c p ρ O => lkK (ks.lookup c) (wS ms (hotS o c p ρ) O (offK o Q)) (Q (.err c p ρ O))
  | r => Q r
section
variable (ρ : Rho) (O : Sto) (Q : RS → Prop) (m n : MS) (c : Str) (p : D) (x : SD)
theorem seqK_nx : seqK m Q (.nx ρ O) = wS m ρ O Q := q_ rfl
theorem seqK_bk : seqK m Q (.bk ρ O) = Q (.bk ρ O) := q_ rfl
theorem seqK_ct : seqK m Q (.ct ρ O) = Q (.ct ρ O) := q_ rfl
theorem seqK_ret : seqK m Q (.ret x O) = Q (.ret x O) := q_ rfl
theorem seqK_err : seqK m Q (.err c p ρ O) = Q (.err c p ρ O) := q_ rfl
theorem ctK_nx : ctK Q (.nx ρ O) = Q (.nx ρ O) := q_ rfl
theorem ctK_bk : ctK Q (.bk ρ O) = Q (.bk ρ O) := q_ rfl
theorem ctK_ct : ctK Q (.ct ρ O) = Q (.nx ρ O) := q_ rfl
theorem ctK_ret : ctK Q (.ret x O) = Q (.ret x O) := q_ rfl
theorem ctK_err : ctK Q (.err c p ρ O) = Q (.err c p ρ O) := q_ rfl
theorem turnK_nx : turnK m Q (.nx ρ O) = wS m ρ O (ctK Q) := q_ rfl
theorem tryK_nx (ks : List (Str × Bool)) (o : Option Nat) : tryK ks o m Q (.nx ρ O) = Q (.nx ρ O) := q_ rfl
theorem tryK_bk (ks : List (Str × Bool)) (o : Option Nat) : tryK ks o m Q (.bk ρ O) = Q (.bk ρ O) := q_ rfl
theorem tryK_ct (ks : List (Str × Bool)) (o : Option Nat) : tryK ks o m Q (.ct ρ O) = Q (.ct ρ O) := q_ rfl
theorem tryK_ret (ks : List (Str × Bool)) (o : Option Nat) : tryK ks o m Q (.ret x O) = Q (.ret x O) := q_ rfl
theorem tryK_err (ks : List (Str × Bool)) (o : Option Nat) : tryK ks o m Q (.err c p ρ O) = lkK (ks.lookup c) (wS m (hotS o c p ρ) O (offK o Q)) (Q (.err c p ρ O)) := q_ rfl
theorem hotS_some (i : Nat) : hotS (some i) c p ρ = ρ.set i (some (.hot c p)) := q_ rfl
theorem hotS_none : hotS none c p ρ = ρ := q_ rfl
theorem offK_nx (i : Nat) : offK (some i) Q (.nx ρ O) = Q (.nx ((coolR ρ).set i none) O) := q_ rfl
theorem offK_nx' : offK none Q (.nx ρ O) = Q (.nx (coolR ρ) O) := q_ rfl
theorem offK_bk (i : Nat) : offK (some i) Q (.bk ρ O) = Q (.bk ((coolR ρ).set i none) O) := q_ rfl
theorem offK_bk' : offK none Q (.bk ρ O) = Q (.bk (coolR ρ) O) := q_ rfl
theorem offK_ct (i : Nat) : offK (some i) Q (.ct ρ O) = Q (.ct ((coolR ρ).set i none) O) := q_ rfl
theorem offK_ct' : offK none Q (.ct ρ O) = Q (.ct (coolR ρ) O) := q_ rfl
theorem offK_ret (o : Option Nat) (d : D) : offK o Q (.ret (.shr d) O) = Q (.ret (.shr d) O) := q_ rfl
theorem offK_own (o : Option Nat) (d : Cell) : offK o Q (.ret (.own d) O) = Q (.ret (.own d) O) := q_ rfl
theorem coolR_nil : coolR [] = [] := q_ rfl
theorem coolR_no : coolR (none :: ρ) = none :: coolR ρ := q_ rfl
theorem coolR_shr (d : D) : coolR (some (.shr d) :: ρ) = some (.shr d) :: coolR ρ := q_ rfl
theorem coolR_own (d : Cell) : coolR (some (.own d) :: ρ) = some (.own d) :: coolR ρ := q_ rfl
theorem coolR_hot : coolR (some (.hot c p) :: ρ) = none :: coolR ρ := q_ rfl
theorem wS_seq : wS (seqS m n) ρ O Q = wS m ρ O (seqK n Q) := by
  unfold wS seqS
  cases m ρ O <;> rfl
theorem wS_bindS (f : α → MS) (e : ME α) (k : α → Sto → Prop) (h : ∀ a O1, wS (f a) ρ O1 Q = k a O1) : wS (bindS e f) ρ O Q = wE e ρ O k (cErr ρ Q) := by
  have z : (fun a O1 => wS (f a) ρ O1 Q) = k := by funext a O1; exact h a O1
  rw [← z]
  unfold wS bindS wE
  cases e ρ O <;> rfl
theorem wS_set (i : Nat) (e : ME D) : wS (setS i e) ρ O Q = wE e ρ O (cSet ρ Q i) (cErr ρ Q) := wS_bindS ρ O Q _ e _ fun a O1 => rfl
theorem wS_new (i : Nat) (e : ME Cell) : wS (newS i e) ρ O Q = wE e ρ O (cNew ρ Q i) (cErr ρ Q) := wS_bindS ρ O Q _ e _ fun a O1 => rfl
theorem wS_expr (e : ME D) : wS (exprS e) ρ O Q = wE e ρ O (cExpr ρ Q) (cErr ρ Q) := wS_bindS ρ O Q _ e _ fun a O1 => rfl
theorem wS_retS (e : ME D) : wS (retS e) ρ O Q = wE e ρ O (cRet Q) (cErr ρ Q) := wS_bindS ρ O Q _ e _ fun a O1 => rfl
theorem wS_retN (e : ME Cell) : wS (retN e) ρ O Q = wE e ρ O (cRetN Q) (cErr ρ Q) := wS_bindS ρ O Q _ e _ fun a O1 => rfl
theorem wS_raise (x : Str) (e : ME D) : wS (raiseS x e) ρ O Q = wE e ρ O (cRaise ρ Q x) (cErr ρ Q) := wS_bindS ρ O Q _ e _ fun a O1 => rfl
theorem wS_if (t : ME Bool) : wS (ifS t m n) ρ O Q = wE t ρ O (cIf ρ Q m n) (cErr ρ Q) := wS_bindS ρ O Q _ t _ fun b O1 => by cases b <;> rfl
theorem wS_for (it : ME (List D)) (g : D → MS) : wS (forS it g m) ρ O Q = wE it ρ O (cFor ρ Q m g) (cErr ρ Q) := wS_bindS ρ O Q _ it _ fun b O1 => rfl
theorem wS_skip : wS skipS ρ O Q = Q (.nx ρ O) := q_ rfl
theorem wS_bad : wS badS ρ O Q = False := q_ rfl
theorem wS_brk : wS brkS ρ O Q = Q (.bk ρ O) := q_ rfl
theorem wS_retNon : wS retNon ρ O Q = Q (.ret (.shr .non) O) := q_ rfl
theorem wS_name (i : Nat) (d : D) : wS (nameG i d) ρ O Q = Q (.nx (ρ.set i (some (.shr d))) O) := q_ rfl
theorem wS_turn (g : D → MS) (d : D) : wS (turnS g m d) ρ O Q = wS (g d) ρ O (turnK m Q) := by
  unfold wS turnS
  cases g d ρ O with
  | nx ρ1 O1 =>
    dsimp only [turnK, wS]
    cases m ρ1 O1 <;> rfl
  | _ => rfl
theorem wS_try (ks : List (Str × Bool)) (o : Option Nat) : wS (tryS ks o m n) ρ O Q = wS m ρ O (tryK ks o n Q) := by
  unfold wS tryS
  cases m ρ O with
  | err c p ρ' O' =>
    dsimp only [tryK]
    cases ks.lookup c with
    | none => rfl
    | some b =>
      cases b with
      | false => rfl
      | true =>
        dsimp only [lkK, offK]
        unfold wS offK hotS
        cases o with
        | none =>
          dsimp only
          cases n ρ' O' with
          | ret x O => cases x <;> rfl
          | _ => rfl
        | some i =>
          dsimp only
          cases n (ρ'.set i (some (.hot c p))) O' with
          | ret x O => cases x <;> rfl
          | _ => rfl
  | _ => rfl
theorem wS_retO (i : Nat) : wS (retO i) ρ O Q = wWi i ρ (cRo O Q) := by
  unfold wS retO wWi wW
  cases ρ[i]? with
  | none => rfl
  | some o =>
    cases o with
    | none => rfl
    | some s => cases s <;> rfl
theorem wS_frz (i : Nat) : wS (frzS i) ρ O Q = wWi i ρ (cFr ρ O Q i) := by
  unfold wS frzS wWi wW
  cases ρ[i]? with
  | none => rfl
  | some o =>
    cases o with
    | none => rfl
    | some s =>
      cases s with
      | own c => cases c <;> rfl
      | _ => rfl
theorem wS_aug (i : Nat) (f : D → D → Option D) (e : ME D) : wS (augS i f e) ρ O Q = wDi i ρ (cAu ρ O Q e f i) := by
  unfold wS wDi wD
  rw [augS_ap]
  cases ρ[i]? with
  | none => rfl
  | some o =>
    cases o with
    | none => rfl
    | some s =>
      cases s with
      | shr d =>
        show _ = wE e ρ O (cAu2 ρ Q f i d) (cErr ρ Q)
        unfold wE
        dsimp only
        cases e ρ O with
        | ok y O1 =>
          dsimp only [cAu2]
          cases f d y <;> rfl
        | _ => rfl
      | _ => rfl
theorem wS_app (i : Nat) (e : ME D) : wS (appS' i e) ρ O Q = wWi i ρ (cAp ρ O Q e i) := by
  unfold wS wWi wW
  rw [appS_ap]
  cases z : ρ[i]? with
  | none => rfl
  | some o =>
    cases o with
    | none => rfl
    | some s =>
      cases s with
      | own c =>
        cases c with
        | lst xs =>
          rw [if_pos (show isLst (some (some (SD.own (Cell.lst xs)))) = true from rfl)]
          show _ = wE e ρ O (cAp3 ρ Q i xs) (cErr ρ Q)
          unfold wE
          cases e ρ O with
          | ok y O1 =>
            dsimp only [cAp3]
            by_cases h : xs.length < sizeLine
            · rw [if_pos h]; exact propext ⟨fun q => ⟨h, q⟩, fun q => q.2⟩
            · rw [if_neg h]; exact propext ⟨fun q => q.elim, fun q => absurd q.1 h⟩
          | _ => rfl
        | _ => rfl
      | _ => rfl
theorem wS_putOwn (j : Nat) (mi mv : ME D) : wS (putOwnS j mi mv) ρ O Q = wWi j ρ (cPo0 ρ O Q mi j mv) := by
  unfold wWi wW
  cases z : ρ[j]? with
  | none => unfold wS putOwnS; rw [z]; rfl
  | some o =>
    cases o with
    | none => unfold wS putOwnS; rw [z]; rfl
    | some s =>
      cases s with
      | own c =>
        show _ = wE mv ρ O (cPoV ρ Q mi j) (cErr ρ Q)
        refine Eq.trans ?_ (wS_bindS ρ O Q (fun d => bindS mi fun y ρ O => match ρ[j]? with
          | some (some (.own c)) => (match putC c (derefD O y) d with
            | some c' => .nx (ρ.set j (some (.own c'))) O
            | none => .bad)
          | _ => .bad) mv (cPoV ρ Q mi j) fun d O1 => wS_bindS ρ O1 Q _ mi (cPoI ρ Q j d) fun y O2 => ?_)
        · unfold wS putOwnS
          rw [z, if_pos (show isOwnC (some (some (SD.own c))) = true from rfl)]
          all_goals rfl
        · unfold wS cPoI wWi wW
          simp only [z]
          show _ = wO (putC c (derefD O2 y) d) (cPoZ ρ O2 Q j)
          cases putC c (derefD O2 y) d <;> rfl
      | _ => unfold wS putOwnS; rw [z]; rfl
theorem wS_putObj (mo mi mv : ME D) : wS (putObjS mo mi mv) ρ O Q = wE mv ρ O (cQoV ρ Q mi mo) (cErr ρ Q) := by
  refine wS_bindS ρ O Q _ mv _ fun d O1 => wS_bindS ρ O1 Q _ mo _ fun o O2 => wS_bindS ρ O2 Q _ mi _ fun y O3 => ?_
  unfold wS cQoI wObj wCe
  cases o with
  | obj n =>
    dsimp only
    cases O3[n]? with
    | none => rfl
    | some c =>
      show _ = wO (putC c (derefD O3 y) d) (cQoZ ρ O3 Q n)
      dsimp only
      cases putC c (derefD O3 y) d <;> rfl
  | _ => rfl
end

/-! ### defs -/
/-- what a body's end is worth -/
def retK (K : RE SD → Prop) : RS → Prop
  | .nx _ O => K (.ok (.shr .non) O)
  | .ret x O => K (.ok x O)
  | .err c p _ O => K (.err c p O)
  | _ => False
section
variable (ρ : Rho) (O : Sto) (K : RE SD → Prop) (c : Str) (p : D) (x : SD)
theorem retK_nx : retK K (.nx ρ O) = K (.ok (.shr .non) O) := q_ rfl
theorem retK_ret : retK K (.ret x O) = K (.ok x O) := q_ rfl
theorem retK_err : retK K (.err c p ρ O) = K (.err c p O) := q_ rfl
/-- THE WAY IN: a def's result, by its body's wish -/
theorem run_by {n : Nat} {m : MS} {ds : List D} {O : Sto} {K : RE SD → Prop} (h : wS m (ds.map (fun d => some (.shr d)) ++ List.replicate (n - ds.length) none) O (retK K)) : K (runF n m ds O) := by
  unfold wS at h
  unfold runF
  split at h
  · exact h.elim
  · rename_i r hr
    revert h hr
    generalize m (ds.map (fun d => some (.shr d)) ++ List.replicate (n - ds.length) none) O = r
    cases r <;> intro h hr <;> first | exact hr | exact hr.elim | exact absurd rfl h
end
/-- .. back to an equation -/
theorem wS_eq {m : MS} {ρ : Rho} {O : Sto} {r : RS} (h : wS m ρ O (fun x => x = r)) : m ρ O = r := by
  unfold wS at h
  split at h
  · exact h.elim
  · exact h
theorem wS_of {m : MS} {ρ : Rho} {O : Sto} {Q : RS → Prop} {r : RS} (h : m ρ O = r) (hb : r ≠ .bad) (q : Q r) : wS m ρ O Q := by
  unfold wS
  rw [h]
  cases r with
  | bad => exact absurd rfl hb
  | _ => exact q
theorem wS_mono {m : MS} {ρ : Rho} {O : Sto} {Q Q' : RS → Prop} (h : wS m ρ O Q) (q : ∀ r, Q r → Q' r) : wS m ρ O Q' := by
  unfold wS at h ⊢
  split at h
  · exact h.elim
  · exact q _ h
theorem wS_nx_eq {m : MS} {ρ ρ' : Rho} {O O' : Sto} {Q : RS → Prop} (h : m ρ O = .nx ρ' O') (q : Q (.nx ρ' O')) : wS m ρ O Q := wS_of h (fun h => nomatch h) q

/-! ### loops -/
section
variable {g : D → MS} {m : MS} {Q : RS → Prop}
theorem wS_loop_nil (ρ : Rho) (O : Sto) : wS (loopS g m []) ρ O Q = Q (.nx ρ O) := q_ rfl
/-- behind a turn -/
def lpK (P : Rho → Sto → Prop) (Q : RS → Prop) : RS → Prop
  | .nx ρ O => P ρ O
  | .bk ρ O => Q (.nx ρ O)
  | r => Q r
theorem lpK_nx (P : Rho → Sto → Prop) (ρ : Rho) (O : Sto) : lpK P Q (.nx ρ O) = P ρ O := q_ rfl
theorem lpK_bk (P : Rho → Sto → Prop) (ρ : Rho) (O : Sto) : lpK P Q (.bk ρ O) = Q (.nx ρ O) := q_ rfl
theorem lpK_ret (P : Rho → Sto → Prop) (x : SD) (O : Sto) : lpK P Q (.ret x O) = Q (.ret x O) := q_ rfl
theorem lpK_err (P : Rho → Sto → Prop) (c : Str) (p : D) (ρ : Rho) (O : Sto) : lpK P Q (.err c p ρ O) = Q (.err c p ρ O) := q_ rfl
theorem wS_loop_cons (d : D) (ds : List D) (ρ : Rho) (O : Sto) : wS (loopS g m (d :: ds)) ρ O Q = wS (turnS g m d) ρ O (lpK (fun ρ' O' => wS (loopS g m ds) ρ' O' Q) Q) := by
  unfold wS
  rw [loopS_cons]
  cases turnS g m d ρ O with
  | nx ρ' O' => rfl
  | _ => rfl
/-- by what holds behind the part that is walked -/
theorem wS_loop {τ : Type} (enc : τ → D) (xs : List τ) (I : List τ → Rho → Sto → Prop) {ρ : Rho} {O : Sto}
    (step : ∀ pre x post ρ O, xs = pre ++ x :: post → I pre ρ O → wS (turnS g m (enc x)) ρ O (lpK (I (pre ++ [x])) Q)) (h0 : I [] ρ O) (fin : ∀ ρ O, I xs ρ O → Q (.nx ρ O)) : wS (loopS g m (xs.map enc)) ρ O Q := by
  have gen : ∀ (post pre : List τ) (ρ : Rho) (O : Sto), xs = pre ++ post → I pre ρ O → wS (loopS g m (post.map enc)) ρ O Q := by
    intro post
    induction post with
    | nil =>
      intro pre ρ O e h
      rw [List.append_nil] at e
      subst e
      exact fin ρ O h
    | cons x post ih =>
      intro pre ρ O e h
      rw [List.map_cons, wS_loop_cons]
      refine wS_mono (step pre x post ρ O e h) fun r hr => ?_
      cases r with
      | nx ρ' O' => exact ih (pre ++ [x]) ρ' O' (by rw [e, List.append_assoc]; rfl) hr
      | _ => exact hr
  exact gen xs [] ρ O rfl h0
/-- .. over a range -/
theorem wS_range {lo : Int} {n : Nat} (I : Nat → Rho → Sto → Prop) {ρ : Rho} {O : Sto}
    (step : ∀ i ρ O, i < n → I i ρ O → wS (turnS g m (.int (lo + (i : Nat)))) ρ O (lpK (I (i + 1)) Q)) (h0 : I 0 ρ O) (fin : ∀ ρ O, I n ρ O → Q (.nx ρ O)) : wS (loopS g m ((List.range n).map fun (k : Nat) => D.int (lo + (k : Nat)))) ρ O Q := by
  refine wS_loop (fun (k : Nat) => D.int (lo + (k : Nat))) (List.range n) (fun pre ρ O => I pre.length ρ O) (fun pre x post ρ O e h => ?_) h0 fun ρ O h => fin ρ O (by rw [List.length_range] at h; exact h)
  have hl : pre.length + 1 + post.length = n := by
    have := congrArg List.length e
    rw [List.length_range, List.length_append, List.length_cons] at this
    omega
  have hx : x = pre.length := by
    have h1 : (List.range n)[pre.length]? = some x := by rw [e]; simp
    rw [List.getElem?_range (by omega)] at h1
    exact (Option.some.inj h1).symm
  subst hx
  rw [List.length_append, List.length_singleton]
  exact step _ ρ O (by omega) h
def cWhl (ρ : Rho) (Q : RS → Prop) (m : MS) (P : Rho → Sto → Prop) (b : Bool) (O1 : Sto) : Prop := wIf b (wS m ρ O1 (ctK (lpK P Q))) (Q (.nx ρ O1))
theorem cWhl_ap (ρ : Rho) (Q : RS → Prop) (m : MS) (P : Rho → Sto → Prop) (b : Bool) (O1 : Sto) : cWhl ρ Q m P b O1 = wIf b (wS m ρ O1 (ctK (lpK P Q))) (Q (.nx ρ O1)) := q_ rfl
/-- while: I at every test, n falls -/
theorem wS_while {c : ME Bool} {m : MS} {Q : RS → Prop} (I : Nat → Rho → Sto → Prop)
    (step : ∀ n ρ O, I n ρ O → wE c ρ O (cWhl ρ Q m (fun ρ' O' => ∃ n', n' < n ∧ I n' ρ' O')) (cErr ρ Q))
    {n : Nat} {ρ : Rho} {O : Sto} (h : I n ρ O) : wS (whileS c m) ρ O Q := by
  have key : ∀ (n : Nat) (ρ : Rho) (O : Sto), I n ρ O → ∃ j r, r ≠ .bad ∧ whileF c m j ρ O = r ∧ Q r := by
    intro n
    induction n using Nat.strongRecOn with
    | _ n ih =>
      intro ρ O h
      have s := step n ρ O h
      unfold wE at s
      cases z : c ρ O with
      | bad => rw [z] at s; exact s.elim
      | err cc p O1 =>
        rw [z] at s
        exact ⟨1, .err cc p ρ O1, (fun h => nomatch h), by rw [whileF]; unfold bindS; rw [z], s⟩
      | ok b O1 =>
        rw [z] at s
        dsimp only [cWhl] at s
        cases b with
        | false =>
          rw [wIf_false] at s
          exact ⟨1, .nx ρ O1, (fun h => nomatch h), by rw [whileF]; unfold bindS; rw [z]; rfl, s⟩
        | true =>
          rw [wIf_true] at s
          unfold wS at s
          cases z2 : m ρ O1 with
          | bad => rw [z2] at s; exact s.elim
          | nx ρ2 O2 =>
            rw [z2] at s
            obtain ⟨n', hn, hI⟩ := s
            obtain ⟨j, r, h1, h2, h3⟩ := ih n' hn ρ2 O2 hI
            exact ⟨j + 1, r, h1, by rw [whileF]; unfold bindS; rw [z]; dsimp only; rw [if_pos rfl, z2]; exact h2, h3⟩
          | ct ρ2 O2 =>
            rw [z2] at s
            obtain ⟨n', hn, hI⟩ := s
            obtain ⟨j, r, h1, h2, h3⟩ := ih n' hn ρ2 O2 hI
            exact ⟨j + 1, r, h1, by rw [whileF]; unfold bindS; rw [z]; dsimp only; rw [if_pos rfl, z2]; exact h2, h3⟩
          | bk ρ2 O2 =>
            rw [z2] at s
            exact ⟨1, .nx ρ2 O2, (fun h => nomatch h), by rw [whileF]; unfold bindS; rw [z]; dsimp only; rw [if_pos rfl, z2], s⟩
          | ret x O2 =>
            rw [z2] at s
            exact ⟨1, .ret x O2, (fun h => nomatch h), by rw [whileF]; unfold bindS; rw [z]; dsimp only; rw [if_pos rfl, z2], s⟩
          | err cc p ρ2 O2 =>
            rw [z2] at s
            exact ⟨1, .err cc p ρ2 O2, (fun h => nomatch h), by rw [whileF]; unfold bindS; rw [z]; dsimp only; rw [if_pos rfl, z2], s⟩
  obtain ⟨j, r, h1, h2, h3⟩ := key n ρ O h
  have hw : whileS c m ρ O = r := whileS_eq h2 h1
  exact wS_of hw h1 h3
end

/-! ### comprehensions -/
theorem comp_map {τ : Type} {vs : List Nat} {g : D → MS} {me : ME D} {ρ : Rho} {O : Sto} (enc : τ → D) (f : τ → D) (xs : List τ) (hl : xs.length ≤ sizeLine)
    (h : ∀ x, x ∈ xs → wS (g (enc x)) (bareR vs ρ) O (fun r => match r with | .nx ρ1 O1 => O1 = O ∧ wE me ρ1 O (fun d O2 => d = f x ∧ O2 = O) (fun _ _ _ => False) | _ => False)) :
    compL vs g (pureE true) me (xs.map enc) [] ρ O = .ok (xs.map f) O := by
  have gen : ∀ (ys : List τ) (acc : List D), (∀ x, x ∈ ys → x ∈ xs) → acc.length + ys.length ≤ sizeLine → compL vs g (pureE true) me (ys.map enc) acc ρ O = .ok (acc ++ ys.map f) O := by
    intro ys
    induction ys with
    | nil => intro acc _ _; rw [List.map_nil, List.map_nil, List.append_nil]; rfl
    | cons y ys ih =>
      intro acc hs hl
      rw [List.length_cons] at hl
      rw [List.map_cons, List.map_cons]
      have hy := h y (hs y List.mem_cons_self)
      unfold wS at hy
      unfold compL
      cases z : g (enc y) (bareR vs ρ) O with
      | nx ρ1 O1 =>
        rw [z] at hy
        obtain ⟨rfl, hy⟩ := hy
        unfold wE at hy
        dsimp only [pureE]
        cases z2 : me ρ1 O1 with
        | ok d O2 =>
          rw [z2] at hy
          obtain ⟨rfl, rfl⟩ := hy
          dsimp only
          rw [if_pos (by omega), ih _ (fun x hx => hs x (List.mem_cons_of_mem _ hx)) (by rw [List.length_append, List.length_singleton]; omega), List.append_assoc]
          rfl
        | _ => rw [z2] at hy; exact hy.elim
      | _ => rw [z] at hy; exact hy.elim
  rw [gen xs [] (fun _ h => h) (by rw [List.length_nil]; omega), List.nil_append]

/-! ### operations on numbers -/
section
variable (i j : Int) (k : D → Prop)
theorem wO_add : wO (addD (.int i) (.int j)) k = k (.int (i + j)) := q_ rfl
theorem wO_addA : wO (addA (.int i) (.int j)) k = k (.int (i + j)) := q_ rfl
theorem wO_sub : wO (subD (.int i) (.int j)) k = k (.int (i - j)) := q_ rfl
theorem wO_neg : wO (negD (.int i)) k = k (.int (-i)) := q_ rfl
theorem wO_rel (g : Int → Int → Bool) : wO (relD g (.int i) (.int j)) k = k (.bl (g i j)) := q_ rfl
theorem wO_int (C : Int → Int → Bool) (g : Int → Int → Int) : wO (intD C g (.int i) (.int j)) k = (C i j = true ∧ k (.int (g i j))) := wO_if _ _ k
theorem wO_mul : wO (mulD (.int i) (.int j)) k = (cMul i j = true ∧ k (.int (i * j))) := wO_if _ _ k
theorem wO_eq (x y : D) : wO (eqD x y) k = wO (eqB x y) (cEq k) := by unfold eqD; cases eqB x y <;> rfl
theorem wO_ne (x y : D) : wO (neD x y) k = wO (eqB x y) (cNe k) := by unfold neD; cases eqB x y <;> rfl
theorem wO_addS (x y : Str) : wO (addD (.str x) (.str y)) k = (x.length + y.length ≤ sizeLine ∧ k (.str (x ++ y))) := wO_if _ _ k
theorem wO_addAS (x y : Str) : wO (addA (.str x) (.str y)) k = (x.length + y.length ≤ sizeLine ∧ k (.str (x ++ y))) := wO_if _ _ k
theorem wO_cat (x y : List D) : wO (addD (.lst x) (.lst y)) k = (x.length + y.length ≤ sizeLine ∧ k (.lst (x ++ y))) := wO_if _ _ k
theorem wO_catL (x y : List D) (k : List D → Prop) : wO (catL (.lst x) (.lst y)) k = (x.length + y.length ≤ sizeLine ∧ k (x ++ y)) := wO_if _ _ k
theorem wO_repL (x : List D) (k : List D → Prop) : wO (repL (.lst x) (.int j)) k = ((-9223372036854775808 ≤ j ∧ j < 9223372036854775808 ∧ x.length * j.toNat ≤ sizeLine) ∧ k (List.replicate j.toNat x).flatten) := by
  refine (wO_if _ _ k).trans (propext ⟨fun h => ⟨⟨?_, ?_, h.1.2.2⟩, h.2⟩, fun h => ⟨⟨?_, ?_, h.1.2.2⟩, h.2⟩⟩)
  · have := h.1.1; omega
  · have := h.1.2.1; omega
  · have := h.1.1; omega
  · have := h.1.2.1; omega
theorem wO_lenL (xs : List D) : wO (lenD [.lst xs]) k = k (.int xs.length) := q_ rfl
theorem wO_lenA (xs : List D) : wO (lenD [.sea xs]) k = k (.int xs.length) := q_ rfl
theorem wO_lenT (xs : List D) : wO (lenD [.tup xs]) k = k (.int xs.length) := q_ rfl
theorem wO_lenS (y : Str) : wO (lenD [.str y]) k = (y.length ≤ sizeLine ∧ k (.int y.length)) := wO_if _ _ k
theorem wO_intF : wO (intF [.int i]) k = k (.int i) := q_ rfl
theorem wO_intB (b : Bool) : wO (intF [.bl b]) k = k (.int (if b then 1 else 0)) := q_ rfl
theorem wO_absF : wO (absF [.int i]) k = k (.int (if i < 0 then -i else i)) := q_ rfl
theorem wO_max : wO (max2F [.int i, .int j]) k = k (.int (if j > i then j else i)) := q_ rfl
theorem wO_min : wO (min2F [.int i, .int j]) k = k (.int (if j < i then j else i)) := q_ rfl
theorem wO_listL (xs : List D) (k : List D → Prop) : wO (listL [.lst xs]) k = k xs := q_ rfl
theorem wO_listA (xs : List D) (k : List D → Prop) : wO (listL [.sea xs]) k = k xs := q_ rfl
theorem wO_listT (xs : List D) (k : List D → Prop) : wO (listL [.tup xs]) k = k xs := q_ rfl
theorem wO_range1 (k : List D → Prop) : wO (rangeD [.int j]) k = (cRng j = true ∧ k ((List.range j.toNat).map fun k => .int ((0 : Int) + (k : Nat)))) := wO_if _ _ k
theorem wO_range2 (k : List D → Prop) : wO (rangeD [.int i, .int j]) k = (cRng i = true ∧ cRng j = true ∧ k ((List.range (j - i).toNat).map fun k => .int (i + (k : Nat)))) := by
  refine (wO_if _ _ k).trans ?_
  rw [wO_if]
  rfl
theorem wO_walkL (xs : List D) (k : List D → Prop) : wO (walkD (.lst xs)) k = k xs := q_ rfl
theorem wO_walkA (xs : List D) (k : List D → Prop) : wO (walkD (.sea xs)) k = k xs := q_ rfl
theorem wO_walkT (xs : List D) (k : List D → Prop) : wO (walkD (.tup xs)) k = k xs := q_ rfl
theorem wO_walkS (y : Str) (k : List D → Prop) : wO (walkD (.str y)) k = k (y.cps.toList.map fun c => .str ⟨#[c]⟩) := q_ rfl
theorem wO_truI (k : Bool → Prop) : wO (truD (.int i)) k = k (i != 0) := q_ rfl
theorem wO_truB (b : Bool) (k : Bool → Prop) : wO (truD (.bl b)) k = k b := q_ rfl
theorem wO_truN (k : Bool → Prop) : wO (truD .non) k = k false := q_ rfl
theorem wO_truS (y : Str) (k : Bool → Prop) : wO (truD (.str y)) k = (y.length ≤ sizeLine ∧ k ((y.length : Int) != 0)) := wO_if _ _ k
theorem wO_truL (xs : List D) (k : Bool → Prop) : wO (truD (.lst xs)) k = k (!xs.isEmpty) := q_ rfl
theorem wO_truA (xs : List D) (k : Bool → Prop) : wO (truD (.sea xs)) k = k (!xs.isEmpty) := q_ rfl
theorem wO_truT (xs : List D) (k : Bool → Prop) : wO (truD (.tup xs)) k = k (!xs.isEmpty) := q_ rfl
theorem wO_slL (lo hi : Option Int) (xs : List D) : wO (slD lo hi (.lst xs)) k = k (.lst (cutD xs lo hi)) := q_ rfl
theorem wO_slA (lo hi : Option Int) (xs : List D) : wO (slD lo hi (.sea xs)) k = k (.lst (cutD xs lo hi)) := q_ rfl
theorem wO_slT (lo hi : Option Int) (xs : List D) : wO (slD lo hi (.tup xs)) k = k (.tup (cutD xs lo hi)) := q_ rfl
theorem wO_slS (lo hi : Option Int) (z : Str) : wO (slD lo hi (.str z)) k = (z.length ≤ sizeLine ∧ k (.str (cutS z lo hi))) := wO_if _ _ k
/-- x[i] of what a list stands for: the item is a letter -/
theorem wO_ixE {τ : Type} (enc : τ → D) (xs : List τ) (h : 0 ≤ i) : wO (ixD (.lst (xs.map enc)) (.int i)) k = (i < xs.length ∧ ∀ v, xs[i.toNat]? = some v → k (enc v)) := by
  obtain ⟨n, rfl⟩ : ∃ n : Nat, i = (n : Nat) := ⟨i.toNat, by omega⟩
  show wO (atI (xs.map enc) ((n : Nat) : Int)) k = _
  rw [Int.toNat_natCast]
  by_cases hn : n < xs.length
  · rw [atI_nat (v := enc xs[n]) (by rw [List.getElem?_map, List.getElem?_eq_getElem hn]; rfl), List.getElem?_eq_getElem hn]
    refine propext ⟨fun q => ⟨by omega, fun v hv => ?_⟩, fun q => q.2 _ rfl⟩
    cases hv
    exact q
  · have : atI (xs.map enc) ((n : Nat) : Int) = none := by
      unfold atI ixN
      rw [List.length_map, if_pos (by omega), if_neg (by omega)]
      rfl
    rw [this]
    exact propext ⟨fun q => q.elim, fun q => absurd q.1 (by omega)⟩
theorem atI_c0 (x : D) (xs : List D) : atI (x :: xs) 0 = some x := atI_nat (j := 0) rfl
theorem atI_cn (xs : List D) (n : Nat) (h : n < xs.length) : atI xs (n : Nat) = some xs[n] := atI_nat (List.getElem?_eq_getElem h)
theorem wO_ixT0 (x0 : D) (r : List D) : wO (ixD (.tup (x0 :: r)) (.int 0)) k = k x0 := by
  show wO (atI (x0 :: r) 0) k = _
  rw [show atI (x0 :: r) (0 : Int) = some x0 from atI_nat (j := 0) rfl]
  rfl
theorem wO_ixT1 (x0 x1 : D) (r : List D) : wO (ixD (.tup (x0 :: x1 :: r)) (.int 1)) k = k x1 := by
  show wO (atI (x0 :: x1 :: r) 1) k = _
  rw [show atI (x0 :: x1 :: r) (1 : Int) = some x1 from atI_nat (j := 1) rfl]
  rfl
theorem wO_ixT2 (x0 x1 x2 : D) (r : List D) : wO (ixD (.tup (x0 :: x1 :: x2 :: r)) (.int 2)) k = k x2 := by
  show wO (atI (x0 :: x1 :: x2 :: r) 2) k = _
  rw [show atI (x0 :: x1 :: x2 :: r) (2 : Int) = some x2 from atI_nat (j := 2) rfl]
  rfl
theorem wO_ixT3 (x0 x1 x2 x3 : D) (r : List D) : wO (ixD (.tup (x0 :: x1 :: x2 :: x3 :: r)) (.int 3)) k = k x3 := by
  show wO (atI (x0 :: x1 :: x2 :: x3 :: r) 3) k = _
  rw [show atI (x0 :: x1 :: x2 :: x3 :: r) (3 : Int) = some x3 from atI_nat (j := 3) rfl]
  rfl
theorem wO_ixT4 (x0 x1 x2 x3 x4 : D) (r : List D) : wO (ixD (.tup (x0 :: x1 :: x2 :: x3 :: x4 :: r)) (.int 4)) k = k x4 := by
  show wO (atI (x0 :: x1 :: x2 :: x3 :: x4 :: r) 4) k = _
  rw [show atI (x0 :: x1 :: x2 :: x3 :: x4 :: r) (4 : Int) = some x4 from atI_nat (j := 4) rfl]
  rfl
theorem wO_ixT5 (x0 x1 x2 x3 x4 x5 : D) (r : List D) : wO (ixD (.tup (x0 :: x1 :: x2 :: x3 :: x4 :: x5 :: r)) (.int 5)) k = k x5 := by
  show wO (atI (x0 :: x1 :: x2 :: x3 :: x4 :: x5 :: r) 5) k = _
  rw [show atI (x0 :: x1 :: x2 :: x3 :: x4 :: x5 :: r) (5 : Int) = some x5 from atI_nat (j := 5) rfl]
  rfl
theorem wO_ixT6 (x0 x1 x2 x3 x4 x5 x6 : D) (r : List D) : wO (ixD (.tup (x0 :: x1 :: x2 :: x3 :: x4 :: x5 :: x6 :: r)) (.int 6)) k = k x6 := by
  show wO (atI (x0 :: x1 :: x2 :: x3 :: x4 :: x5 :: x6 :: r) 6) k = _
  rw [show atI (x0 :: x1 :: x2 :: x3 :: x4 :: x5 :: x6 :: r) (6 : Int) = some x6 from atI_nat (j := 6) rfl]
  rfl
theorem wO_ixT7 (x0 x1 x2 x3 x4 x5 x6 x7 : D) (r : List D) : wO (ixD (.tup (x0 :: x1 :: x2 :: x3 :: x4 :: x5 :: x6 :: x7 :: r)) (.int 7)) k = k x7 := by
  show wO (atI (x0 :: x1 :: x2 :: x3 :: x4 :: x5 :: x6 :: x7 :: r) 7) k = _
  rw [show atI (x0 :: x1 :: x2 :: x3 :: x4 :: x5 :: x6 :: x7 :: r) (7 : Int) = some x7 from atI_nat (j := 7) rfl]
  rfl
theorem wO_ixL0 (x0 : D) (r : List D) : wO (ixD (.lst (x0 :: r)) (.int 0)) k = k x0 := by
  show wO (atI (x0 :: r) 0) k = _
  rw [show atI (x0 :: r) (0 : Int) = some x0 from atI_nat (j := 0) rfl]
  rfl
theorem wO_ixL1 (x0 x1 : D) (r : List D) : wO (ixD (.lst (x0 :: x1 :: r)) (.int 1)) k = k x1 := by
  show wO (atI (x0 :: x1 :: r) 1) k = _
  rw [show atI (x0 :: x1 :: r) (1 : Int) = some x1 from atI_nat (j := 1) rfl]
  rfl
theorem wO_ixL2 (x0 x1 x2 : D) (r : List D) : wO (ixD (.lst (x0 :: x1 :: x2 :: r)) (.int 2)) k = k x2 := by
  show wO (atI (x0 :: x1 :: x2 :: r) 2) k = _
  rw [show atI (x0 :: x1 :: x2 :: r) (2 : Int) = some x2 from atI_nat (j := 2) rfl]
  rfl
theorem wO_ixL3 (x0 x1 x2 x3 : D) (r : List D) : wO (ixD (.lst (x0 :: x1 :: x2 :: x3 :: r)) (.int 3)) k = k x3 := by
  show wO (atI (x0 :: x1 :: x2 :: x3 :: r) 3) k = _
  rw [show atI (x0 :: x1 :: x2 :: x3 :: r) (3 : Int) = some x3 from atI_nat (j := 3) rfl]
  rfl
theorem wO_ixL4 (x0 x1 x2 x3 x4 : D) (r : List D) : wO (ixD (.lst (x0 :: x1 :: x2 :: x3 :: x4 :: r)) (.int 4)) k = k x4 := by
  show wO (atI (x0 :: x1 :: x2 :: x3 :: x4 :: r) 4) k = _
  rw [show atI (x0 :: x1 :: x2 :: x3 :: x4 :: r) (4 : Int) = some x4 from atI_nat (j := 4) rfl]
  rfl
theorem wO_ixL5 (x0 x1 x2 x3 x4 x5 : D) (r : List D) : wO (ixD (.lst (x0 :: x1 :: x2 :: x3 :: x4 :: x5 :: r)) (.int 5)) k = k x5 := by
  show wO (atI (x0 :: x1 :: x2 :: x3 :: x4 :: x5 :: r) 5) k = _
  rw [show atI (x0 :: x1 :: x2 :: x3 :: x4 :: x5 :: r) (5 : Int) = some x5 from atI_nat (j := 5) rfl]
  rfl
theorem wO_ixL6 (x0 x1 x2 x3 x4 x5 x6 : D) (r : List D) : wO (ixD (.lst (x0 :: x1 :: x2 :: x3 :: x4 :: x5 :: x6 :: r)) (.int 6)) k = k x6 := by
  show wO (atI (x0 :: x1 :: x2 :: x3 :: x4 :: x5 :: x6 :: r) 6) k = _
  rw [show atI (x0 :: x1 :: x2 :: x3 :: x4 :: x5 :: x6 :: r) (6 : Int) = some x6 from atI_nat (j := 6) rfl]
  rfl
theorem wO_ixL7 (x0 x1 x2 x3 x4 x5 x6 x7 : D) (r : List D) : wO (ixD (.lst (x0 :: x1 :: x2 :: x3 :: x4 :: x5 :: x6 :: x7 :: r)) (.int 7)) k = k x7 := by
  show wO (atI (x0 :: x1 :: x2 :: x3 :: x4 :: x5 :: x6 :: x7 :: r) 7) k = _
  rw [show atI (x0 :: x1 :: x2 :: x3 :: x4 :: x5 :: x6 :: x7 :: r) (7 : Int) = some x7 from atI_nat (j := 7) rfl]
  rfl
theorem wO_putL (xs : List D) (d : D) (k : Cell → Prop) (h : 0 ≤ j) : wO (putC (.lst xs) (.int j) d) k = (j < xs.length ∧ k (.lst (xs.set j.toNat d))) := by
  show wO ((ixN xs.length j).map _) k = _
  unfold ixN
  rw [if_pos h]
  by_cases hj : j < xs.length
  · rw [if_pos hj]
    exact propext ⟨fun q => ⟨hj, q⟩, fun q => q.2⟩
  · rw [if_neg hj]
    exact propext ⟨fun q => q.elim, fun q => absurd q.1 hj⟩
theorem wO_putS (es : List (Key × D)) (s : Str) (d : D) (k : Cell → Prop) : wO (putC (.dct es) (.str s) d) k = (es.length < sizeLine ∧ k (.dct (putD es (.inr s) d))) := wO_if _ _ k
theorem wO_putI (es : List (Key × D)) (d : D) (k : Cell → Prop) : wO (putC (.dct es) (.int i) d) k = (es.length < sizeLine ∧ k (.dct (putD es (.inl i) d))) := wO_if _ _ k
theorem wO_ixS (es : List (Key × D)) (s : Str) : wO (ixD (.dct es) (.str s)) k = wO (valD es (.inr s)) k := q_ rfl
theorem wO_ixI (es : List (Key × D)) : wO (ixD (.dct es) (.int i)) k = wO (valD es (.inl i)) k := q_ rfl
theorem wO_ixStr (z : Str) (h : 0 ≤ i) : wO (ixD (.str z) (.int i)) k = (z.length ≤ sizeLine ∧ i < z.length ∧ ∀ c, z.cps.toList[i.toNat]? = some c → k (.str ⟨#[c]⟩)) := by
  refine (wO_if _ _ k).trans ?_
  congr 1
  obtain ⟨n, rfl⟩ : ∃ n : Nat, i = (n : Nat) := ⟨i.toNat, by omega⟩
  rw [Int.toNat_natCast]
  have hl : z.cps.toList.length = z.length := by simp [Str.length]
  by_cases hn : n < z.length
  · have hn' : n < z.cps.toList.length := by rw [hl]; exact hn
    rw [atI_nat (v := z.cps.toList[n]) (List.getElem?_eq_getElem hn'), List.getElem?_eq_getElem hn']
    exact propext ⟨fun q => ⟨by omega, fun c hc => by cases hc; exact q⟩, fun q => q.2 _ rfl⟩
  · have : atI z.cps.toList ((n : Nat) : Int) = none := by
      unfold atI ixN
      rw [hl, if_pos (by omega), if_neg (by omega)]
      rfl
    rw [this]
    exact propext ⟨fun q => q.elim, fun q => absurd q.1 (by omega)⟩
/-- one text in another -/
def inS (c z : Str) : Bool := !(Builtin.Str.occurrences z c 0 z.length 1).isEmpty
theorem inS_one (c : Nat) (z : Str) : inS ⟨#[c]⟩ z = decide (c ∈ z.cps.toList) := PySem.StrLaws.found_one z c
theorem wO_inS (c z : Str) : wO (inDb false (.str c) (.str z)) k = k (.bl (inS c z)) := q_ rfl
theorem wO_notinS (c z : Str) : wO (inDb true (.str c) (.str z)) k = k (.bl (!inS c z)) := q_ rfl
theorem wO_str0 (s : Str) (f : Str → Option D) : wO (str0 f (.str s)) k = wO (f s) k := q_ rfl
theorem wO_join (s : Str) (ss : List Str) : wO (joinF s (.lst (ss.map .str))) k = ((ss.map (·.length)).sum + ss.length * s.length ≤ 16777216 ∧ k (.str (Txt.join s ss))) := by
  unfold joinF
  simp only [strsD_map, Option.bind_some]
  exact wO_if _ _ k
theorem wO_ord (x : Str) : wO (ordF [.str x]) k = (x.length = 1 ∧ k (.int (x.cps.getD 0 0 : Nat))) := wO_if _ _ k
theorem cMod_iff : (cMod i j = true) = (0 < j) := by unfold cMod; rw [decide_eq_true_eq]
theorem cShr_iff : (cShr i j = true) = (0 ≤ j) := by unfold cShr; rw [decide_eq_true_eq]
theorem cMul_iff : (cMul i j = true) = ((-18446744073709551616 < i ∧ i < 18446744073709551616) ∨ (-18446744073709551616 < j ∧ j < 18446744073709551616)) := by
  unfold cMul
  rw [Bool.or_eq_true, decide_eq_true_eq, decide_eq_true_eq]
  apply propext
  omega
theorem cPow_iff : (cPow i j = true) = ((0 ≤ j ∧ j ≤ 1000000) ∧ -18446744073709551616 < i ∧ i < 18446744073709551616) := by
  unfold cPow
  rw [decide_eq_true_eq]
  apply propext
  omega
theorem cRng_iff : (cRng j = true) = (-4611686018427387904 < j ∧ j < 4611686018427387904) := by
  unfold cRng
  rw [decide_eq_true_eq]
  apply propext
  omega
theorem wO_eqI (k : Bool → Prop) : wO (eqB (.int i) (.int j)) k = k (decide (i = j)) := q_ rfl
theorem wO_eqS (x y : Str) (k : Bool → Prop) : wO (eqB (.str x) (.str y)) k = k (decide (x = y)) := q_ rfl
theorem wO_eqBb (x y : Bool) (k : Bool → Prop) : wO (eqB (.bl x) (.bl y)) k = k (decide (x = y)) := q_ rfl
theorem wO_eqNs (xs ys : List Int) (k : Bool → Prop) : wO (eqB (.lst (dI xs)) (.lst (dI ys))) k = k (decide (xs = ys)) := by rw [eqB_ints]; rfl
theorem cDivW_mk {i j : Int} (h : 0 < j) (h2 : j < 18446744073709551616) : cDivW i j = true := by
  obtain ⟨n, rfl⟩ : ∃ n : Nat, j = (n : Nat) := ⟨j.toNat, by omega⟩
  exact cDivW_lit i (by omega) (by omega)
theorem bne_dec : (i != j) = !decide (i = j) := by
  by_cases h : i = j <;> simp [h]
end
end
end DL

set_option Elab.async false
set_option linter.all false
set_option maxRecDepth 100000
/-! DLStr: texts by their signs; slices; comprehensions with effects. -/
namespace DL
open PySem L2
open SX (S)
variable [Tabs]
/-- a text of one sign -/
abbrev chD (c : Nat) : D := .str ⟨#[c]⟩
theorem ch_S (c : Nat) : (⟨#[c]⟩ : Str) = S [c] := q_ rfl
theorem S_tl (l : List Nat) : (S l).cps.toList = l := by simp [S]
theorem S_len (l : List Nat) : (S l).length = l.length := SX.S_len l
theorem S_cat (a b : List Nat) : S a ++ S b = S (a ++ b) := SX.S_cat a b
theorem S_eq (a b : List Nat) : (S a = S b) = (a = b) := propext ⟨SX.S_inj, fun h => by rw [h]⟩
/-- a slice -/
def cutL {τ : Type} (l : List τ) (lo hi : Option Int) : List τ := (l.drop (HT.sIx l.length 0 lo)).take (HT.sIx l.length l.length hi - HT.sIx l.length 0 lo)
theorem cut_map {τ : Type} (enc : τ → D) (l : List τ) (lo hi : Option Int) : cutD (l.map enc) lo hi = (cutL l lo hi).map enc := by
  unfold cutD cutL
  rw [List.length_map, List.map_take, List.map_drop]
theorem cut_S (l : List Nat) (lo hi : Option Int) : cutS (S l) lo hi = S (cutL l lo hi) := by
  unfold cutS cutL
  rw [S_len, S_tl]
theorem cutL_len {τ : Type} (l : List τ) (lo hi : Option Int) : (cutL l lo hi).length ≤ l.length := by
  unfold cutL
  rw [List.length_take, List.length_drop]
  omega
theorem cutL_mem {τ : Type} {l : List τ} {lo hi : Option Int} {x : τ} (h : x ∈ cutL l lo hi) : x ∈ l := List.mem_of_mem_drop (List.mem_of_mem_take h)
theorem sIx_pos {n d : Nat} {i : Int} (h : 0 ≤ i) : HT.sIx n d (some i) = min i.toNat n := by
  obtain ⟨k, rfl⟩ : ∃ k : Nat, i = (k : Nat) := ⟨i.toNat, by omega⟩
  rw [HT.sIx_nat, Int.toNat_natCast]
theorem cutL_mid {τ : Type} (l : List τ) {i j : Int} (hi : 0 ≤ i) (hj : 0 ≤ j) : cutL l (some i) (some j) = (l.drop i.toNat).take (j.toNat - i.toNat) := by
  unfold cutL
  rw [sIx_pos hi, sIx_pos hj]
  by_cases h : i.toNat ≤ l.length
  · rw [Nat.min_eq_left h]
    by_cases h2 : j.toNat ≤ l.length
    · rw [Nat.min_eq_left h2]
    · rw [Nat.min_eq_right (by omega), List.take_of_length_le (by rw [List.length_drop]; omega), List.take_of_length_le (by rw [List.length_drop]; omega)]
  · rw [List.drop_eq_nil_of_le (i := i.toNat) (by omega), List.drop_eq_nil_of_le (i := min i.toNat l.length) (by omega), List.take_nil, List.take_nil]
theorem cutL_to {τ : Type} (l : List τ) {j : Int} (hj : 0 ≤ j) : cutL l none (some j) = l.take j.toNat := by
  unfold cutL
  rw [sIx_pos hj, HT.sIx_none, List.drop_zero, Nat.sub_zero]
  by_cases h2 : j.toNat ≤ l.length
  · rw [Nat.min_eq_left h2]
  · rw [Nat.min_eq_right (by omega), List.take_of_length_le (Nat.le_refl _), List.take_of_length_le (by omega)]
theorem cutL_from {τ : Type} (l : List τ) {i : Int} (hi : 0 ≤ i) : cutL l (some i) none = l.drop i.toNat := by
  unfold cutL
  rw [sIx_pos hi, HT.sIx_none]
  by_cases h : i.toNat ≤ l.length
  · rw [Nat.min_eq_left h, List.take_of_length_le (by rw [List.length_drop]; omega)]
  · rw [List.drop_eq_nil_of_le (i := i.toNat) (by omega), Nat.min_eq_right (by omega), List.drop_eq_nil_of_le (Nat.le_refl _), List.take_nil]
theorem cutL_neg {τ : Type} (l : List τ) {k : Nat} (hk : 0 < k) : cutL l none (some (-(k : Int))) = l.take (l.length - k) := by
  unfold cutL
  rw [HT.sIx_none, List.drop_zero, Nat.sub_zero]
  show l.take (if (-(k : Int)) < 0 then ((-(k : Int)) + (l.length : Int)).toNat else min (-(k : Int)).toNat l.length) = _
  rw [if_pos (by omega)]
  congr 1
  omega
theorem joinL_nil : ∀ ls : List (List Nat), TL.joinL [] ls = ls.flatten
  | [] => rfl
  | [a] => by simp [TL.joinL]
  | a :: b :: ls => by
    have := joinL_nil (b :: ls)
    simp [TL.joinL] at this ⊢
    exact this
theorem join_S (ls : List (List Nat)) : Txt.join (S []) (ls.map S) = S ls.flatten := by
  rw [SX.join_S, joinL_nil]
theorem flat_one : ∀ cs : List Nat, (cs.map fun c => [c]).flatten = cs
  | [] => rfl
  | c :: cs => by rw [List.map_cons, List.flatten_cons, flat_one cs]; rfl
theorem join_ch (cs : List Nat) : Txt.join (S []) (cs.map fun c => (⟨#[c]⟩ : Str)) = S cs := by
  have e : (cs.map fun c => (⟨#[c]⟩ : Str)) = (cs.map fun c => [c]).map S := by rw [List.map_map]; rfl
  rw [e, join_S, flat_one]
theorem ord_S (c : Nat) : (S [c]).cps.getD 0 0 = c := rfl
theorem inS_S (c : Nat) (l : List Nat) : inS (S [c]) (S l) = decide (c ∈ l) := SX.in_one l c
theorem index_one (l : List Nat) (c : Nat) (h : c ∈ l) : ∃ i : Nat, indexF (S l) (.str (S [c])) = some (.int (i : Nat)) ∧ l[i]? = some c := by
  have h1 := SX.in_one l c
  rw [decide_eq_true h] at h1
  unfold indexF
  dsimp only
  cases z : Builtin.Str.occurrences (S l) (S [c]) 0 (S l).length 1 with
  | nil => rw [z] at h1; cases h1
  | cons i r =>
    refine ⟨i, rfl, ?_⟩
    have hm := PySem.StrLaws.occ_spec (S l) (S [c]) 0 (S l).length 1 i (by rw [z]; exact List.mem_cons_self)
    have := (PySem.StrLaws.subAt_one (S l) c i).mp hm
    rw [S_tl] at this
    exact this
/-- the place of a sign, a letter -/
theorem wO_indexS (l : List Nat) (c : Nat) (k : D → Prop) (h : c ∈ l ∧ ∀ i : Nat, l[i]? = some c → k (.int (i : Nat))) : wO (indexF (S l) (.str (S [c]))) k := by
  obtain ⟨i, h1, h2⟩ := index_one l c h.1
  rw [h1]
  exact h.2 i h2
theorem wO_ixSt (l : List Nat) (i : Int) (k : D → Prop) (h : 0 ≤ i) : wO (ixD (.str (S l)) (.int i)) k = (l.length ≤ sizeLine ∧ i < l.length ∧ ∀ c, l[i.toNat]? = some c → k (chD c)) := by
  rw [wO_ixStr i k _ h, S_len, S_tl]
theorem walk_S (l : List Nat) (k : List D → Prop) : wO (walkD (.str (S l))) k = k (l.map chD) := by
  rw [wO_walkS, S_tl]

/-! ### comprehensions with effects -/
def cpE (K : Option D → Sto → Prop) (y : D) (O : Sto) : Prop := K (some y) O
def cpT (me : ME D) (ρ1 : Rho) (K : Option D → Sto → Prop) (b : Bool) (O : Sto) : Prop := wIf b (wE me ρ1 O (cpE K) (fun _ _ _ => False)) (K none O)
def cpK (mt : ME Bool) (me : ME D) (K : Option D → Sto → Prop) : RS → Prop
  | .nx ρ1 O1 => wE mt ρ1 O1 (cpT me ρ1 K) (fun _ _ _ => False)
  | _ => False
theorem cpE_ap (K : Option D → Sto → Prop) (y : D) (O : Sto) : cpE K y O = K (some y) O := q_ rfl
theorem cpT_ap (me : ME D) (ρ1 : Rho) (K : Option D → Sto → Prop) (b : Bool) (O : Sto) : cpT me ρ1 K b O = wIf b (wE me ρ1 O (cpE K) (fun _ _ _ => False)) (K none O) := q_ rfl
theorem cpK_nx (mt : ME Bool) (me : ME D) (K : Option D → Sto → Prop) (ρ1 : Rho) (O1 : Sto) : cpK mt me K (.nx ρ1 O1) = wE mt ρ1 O1 (cpT me ρ1 K) (fun _ _ _ => False) := q_ rfl
theorem bareR_nil : bareR [] [] = [] := q_ rfl
theorem wL_comp {τ : Type} {vs : List Nat} {g : D → MS} {mt : ME Bool} {me : ME D} {ρ : Rho} {k : List D → Sto → Prop} (enc : τ → D) (xs : List τ) (I : List τ → List D → Sto → Prop) {O : Sto}
    (step : ∀ pre x post acc O, xs = pre ++ x :: post → I pre acc O → wS (g (enc x)) (bareR vs ρ) O (cpK mt me (fun r O' => match r with
      | some y => acc.length < sizeLine ∧ I (pre ++ [x]) (acc ++ [y]) O'
      | none => I (pre ++ [x]) acc O')))
    (h0 : I [] [] O) (fin : ∀ acc O, I xs acc O → k acc O) : wL (compL vs g mt me (xs.map enc) [] ρ O) k := by
  have gen : ∀ (post pre : List τ) (acc : List D) (O : Sto), xs = pre ++ post → I pre acc O → wL (compL vs g mt me (post.map enc) acc ρ O) k := by
    intro post
    induction post with
    | nil =>
      intro pre acc O e h
      rw [List.append_nil] at e
      subst e
      exact fin acc O h
    | cons x post ih =>
      intro pre acc O e h
      have s := step pre x post acc O e h
      rw [List.map_cons]
      unfold compL
      unfold wS at s
      cases z : g (enc x) (bareR vs ρ) O with
      | nx ρ1 O1 =>
        rw [z] at s
        simp only [cpK] at s
        unfold wE at s
        dsimp only
        cases z2 : mt ρ1 O1 with
        | ok b O2 =>
          rw [z2] at s
          cases b with
          | false => exact ih (pre ++ [x]) acc O2 (by rw [e, List.append_assoc]; rfl) s
          | true =>
            simp only [cpT, wIf_true] at s
            unfold wE at s
            dsimp only
            cases z3 : me ρ1 O2 with
            | ok y O3 =>
              rw [z3] at s
              simp only [cpE] at s
              dsimp only
              rw [if_pos s.1]
              exact ih (pre ++ [x]) (acc ++ [y]) O3 (by rw [e, List.append_assoc]; rfl) s.2
            | _ => rw [z3] at s; exact s.elim
        | _ => rw [z2] at s; exact s.elim
      | _ => rw [z] at s; exact s.elim
  exact gen xs [] [] O rfl h0
section
variable {τ : Type} (enc : τ → D) (xs : List τ) (i j : Int) (k : D → Prop)
theorem wO_ixEs (h : 0 ≤ i) : wO (ixD (.sea (xs.map enc)) (.int i)) k = (i < xs.length ∧ ∀ v, xs[i.toNat]? = some v → k (enc v)) := wO_ixE i k enc xs h
theorem wO_ixEt (h : 0 ≤ i) : wO (ixD (.tup (xs.map enc)) (.int i)) k = (i < xs.length ∧ ∀ v, xs[i.toNat]? = some v → k (enc v)) := wO_ixE i k enc xs h
theorem wO_ixM : wO (ixD (.lst (xs.map enc)) (.int (i % xs.length))) k = (0 < xs.length ∧ ∀ v, xs[(i % xs.length).toNat]? = some v → k (enc v)) := by
  by_cases h : 0 < xs.length
  · rw [wO_ixE _ k enc xs (Int.emod_nonneg _ (by omega))]
    have := Int.emod_lt_of_pos i (b := xs.length) (by omega)
    exact propext ⟨fun q => ⟨h, q.2⟩, fun q => ⟨this, q.2⟩⟩
  · have e : xs = [] := List.length_eq_zero_iff.mp (by omega)
    subst e
    refine propext ⟨fun q => ?_, fun q => absurd q.1 (by simp)⟩
    have : atI ([] : List D) (i % (0 : Int)) = none := by unfold atI; cases ixN ([] : List D).length (i % 0) <;> rfl
    have q' : wO (atI ([] : List D) (i % (0 : Int))) k := q
    rw [this] at q'
    exact q'.elim
theorem wO_ixMs : wO (ixD (.sea (xs.map enc)) (.int (i % xs.length))) k = (0 < xs.length ∧ ∀ v, xs[(i % xs.length).toNat]? = some v → k (enc v)) := wO_ixM enc xs i k
theorem wO_ixMt : wO (ixD (.tup (xs.map enc)) (.int (i % xs.length))) k = (0 < xs.length ∧ ∀ v, xs[(i % xs.length).toNat]? = some v → k (enc v)) := wO_ixM enc xs i k
theorem wO_ixMS (l : List Nat) : wO (ixD (.str (S l)) (.int (i % l.length))) k = (l.length ≤ sizeLine ∧ 0 < l.length ∧ ∀ v, l[(i % l.length).toNat]? = some v → k (chD v)) := by
  by_cases h : 0 < l.length
  · rw [wO_ixSt l _ k (Int.emod_nonneg _ (by omega))]
    have := Int.emod_lt_of_pos i (b := l.length) (by omega)
    exact propext ⟨fun q => ⟨q.1, h, q.2.2⟩, fun q => ⟨q.1, this, q.2.2⟩⟩
  · have e : l = [] := List.length_eq_zero_iff.mp (by omega)
    subst e
    refine propext ⟨fun q => ?_, fun q => absurd q.2.1 (by simp)⟩
    have hz : atI (S []).cps.toList (i % (0 : Int)) = none := by unfold atI; cases ixN (S []).cps.toList.length (i % 0) <;> rfl
    have q2 : wO (if (S []).length ≤ sizeLine then (atI (S []).cps.toList (i % (0 : Int))).map fun c => D.str ⟨#[c]⟩ else none) k := q
    rw [hz] at q2
    simp only [Option.map_none, ite_self] at q2
    exact q2.elim
end
theorem comp_filter {τ : Type} {vs : List Nat} {g : D → MS} {mt : ME Bool} {me : ME D} {ρ : Rho} {O : Sto} (enc : τ → D) (p : τ → Bool) (f : τ → D) (xs : List τ) (hl : xs.length ≤ sizeLine)
    (h : ∀ x, x ∈ xs → wS (g (enc x)) (bareR vs ρ) O (cpK mt me (fun r O' => O' = O ∧ r = if p x then some (f x) else none))) :
    compL vs g mt me (xs.map enc) [] ρ O = .ok ((xs.filter p).map f) O := by
  have key : wL (compL vs g mt me (xs.map enc) [] ρ O) (fun ys O' => O' = O ∧ ys = (xs.filter p).map f) := by
    refine wL_comp enc xs (fun pre acc O' => O' = O ∧ acc = (pre.filter p).map f) (fun pre x post acc O' e hI => ?_) ⟨rfl, rfl⟩ fun acc O' hI => hI
    obtain ⟨rfl, rfl⟩ := hI
    have hx := h x (by rw [e]; simp)
    have hlen : ((pre.filter p).map f).length < sizeLine := by
      have h1 := congrArg List.length e
      have h2 := List.length_filter_le p pre
      rw [List.length_append, List.length_cons] at h1
      rw [List.length_map]
      omega
    refine wS_mono hx fun r hr => ?_
    cases r with
    | nx ρ1 O1 =>
      simp only [cpK] at hr ⊢
      unfold wE at hr ⊢
      cases z : mt ρ1 O1 with
      | ok b O2 =>
        rw [z] at hr
        cases b with
        | false =>
          simp only [cpT, wIf_false] at hr ⊢
          obtain ⟨rfl, hr⟩ := hr
          refine ⟨rfl, ?_⟩
          split at hr
          · cases hr
          · rename_i hp
            rw [List.filter_append, List.filter_cons, if_neg hp, List.filter_nil, List.append_nil]
        | true =>
          simp only [cpT, wIf_true] at hr ⊢
          unfold wE at hr ⊢
          cases z2 : me ρ1 O2 with
          | ok y O3 =>
            rw [z2] at hr
            simp only [cpE] at hr ⊢
            obtain ⟨rfl, hr⟩ := hr
            split at hr
            · rename_i hp
              cases hr
              exact ⟨hlen, rfl, by rw [List.filter_append, List.filter_cons, if_pos hp, List.filter_nil, List.map_append]; rfl⟩
            · cases hr
          | err c p O' => rw [z2] at hr; exact hr.elim
          | bad => rw [z2] at hr; exact hr.elim
      | err c p O' => rw [z] at hr; exact hr.elim
      | bad => rw [z] at hr; exact hr.elim
    | _ => exact hr.elim
  unfold wL at key
  cases z : compL vs g mt me (xs.map enc) [] ρ O with
  | ok ys O' => rw [z] at key; obtain ⟨rfl, rfl⟩ := key; rfl
  | err c p O' => rw [z] at key; exact key.elim
  | bad => rw [z] at key; exact key.elim
theorem take_one {τ : Type} (l : List τ) (i : Nat) (h : i < l.length) : (l.drop i).take 1 = [l[i]] := by
  rw [List.drop_eq_getElem_cons h]
  rfl
theorem wO_joinC (cs : List Nat) (k : D → Prop) : wO (joinF (S []) (.lst (cs.map chD))) k = (cs.length ≤ 16777216 ∧ k (.str (S cs))) := by
  have e : cs.map chD = (cs.map fun c => (⟨#[c]⟩ : Str)).map D.str := by rw [List.map_map]; rfl
  rw [e, wO_join, join_ch]
  have e2 : ((cs.map fun c => (⟨#[c]⟩ : Str)).map fun (x : Str) => x.length).sum = cs.length := by
    rw [List.map_map]
    induction cs with
    | nil => rfl
    | cons c cs ih =>
      rw [List.map_cons, List.sum_cons, ih (by rw [List.map_map]; rfl), List.length_cons]
      show 1 + cs.length = _
      omega
  rw [e2, S_len, List.length_nil, Nat.mul_zero, Nat.add_zero]
theorem iN_non : isNon .non = true := q_ rfl
theorem iN_bl (b : Bool) : isNon (.bl b) = false := q_ rfl
theorem iN_int (b : Int) : isNon (.int b) = false := q_ rfl
theorem iN_str (b : Str) : isNon (.str b) = false := q_ rfl
theorem iN_lst (b : List D) : isNon (.lst b) = false := q_ rfl
theorem iN_tup (b : List D) : isNon (.tup b) = false := q_ rfl
theorem iN_dct (b : List (Key × D)) : isNon (.dct b) = false := q_ rfl
theorem iN_obj (b : Nat) : isNon (.obj b) = false := q_ rfl
theorem wS_range0 {g : D → MS} {m : MS} {Q : RS → Prop} {n : Nat} (I : Nat → Rho → Sto → Prop) {ρ : Rho} {O : Sto}
    (step : ∀ i ρ O, i < n → I i ρ O → wS (turnS g m (.int (i : Nat))) ρ O (lpK (I (i + 1)) Q)) (h0 : I 0 ρ O) (fin : ∀ ρ O, I n ρ O → Q (.nx ρ O)) : wS (loopS g m ((List.range n).map fun (k : Nat) => D.int (k : Nat))) ρ O Q := by
  have e : (fun (k : Nat) => D.int (k : Nat)) = fun (k : Nat) => D.int (0 + (k : Nat)) := by funext k; rw [Int.zero_add]
  rw [e]
  exact wS_range I (fun i ρ O hi h => by rw [Int.zero_add]; exact step i ρ O hi h) h0 fin
theorem rep_noS (n : Nat) : List.replicate (n + 1) (none : Option SD) = none :: List.replicate n none := q_ rfl
theorem rep_no0 : List.replicate 0 (none : Option SD) = [] := q_ rfl
theorem dI_nil (xs : List Int) : (dI xs = []) = (xs = []) := by cases xs <;> simp
end DL

set_option Elab.async false
set_option linter.all false
set_option maxRecDepth 100000
/-! DLRules11: results of calls, owned or not; objects: fields, methods, making. -/
namespace L2
open PySem PySem.Spec PyProof.Rows
section
variable {X : Cx} {o e : Expr} {es : List Expr} {ta : TE} {t : TA} {m x : Str} {p pos apos : Pos}
/-- a new thing may be frozen, behind the expression that made it -/
def tFrz (t : TE) : TE := fun σ H Q => t σ H fun v H1 => Q v H1 ∨ ∃ a u, v = .ref a ∧ H1 a = some u ∧ Mut (some u) ∧ ∀ od, Q v (upd H1 a (.frz od u))
theorem pe_frz {t : TE} (h : PE X e t) : PE X e (tFrz t) := by
  refine ⟨fun pins s σ H Q I q => ?_⟩
  refine thn (h.run pins s σ H _ I q) fun v s1 ⟨x, H1, I1, r1, q1⟩ => ?_
  rcases q1 with q1 | ⟨a, u, rfl, hu, mu, q1⟩
  · exact ⟨x, H1, I1, r1, q1⟩
  · obtain ⟨od, I2⟩ := I1.lock hu mu
    exact ⟨_, _, I2, r1, q1 od⟩
/-- o.m(..): the class and the def are the reading's choice -/
def tMethX (X : Cx) (CX : CXT) (m : Str) (E : St → XK) (ta : TE) (t : TA) : TE := fun σ H Q => ta σ H fun x H1 => ∃ (a C dx : Addr) (fs : List (Str × V)) (k : Nat) (f : Addr) (fd : FuncData) (ps : List Str) (sp : Sp) (ds : List Value) (dvs : List V),
  x = .ref a ∧ H1 a = some (.ins C dx fs) ∧ fs.lookup m = none ∧ Cls X.K C ∧ Meth X.K C m f ∧ FnOk X.prog X.w X.K X.mg X.base CX k f fd ps sp ∧ Room k X.A ∧ Binds X.K fd ps ds ∧ Vals dvs ds ∧
  t σ H1 fun vs H2 => sp (x :: (vs ++ dvs)) H2 Q (E σ)
theorem pe_methX {CX : CXT} {E : St → XK} {pl : Sem Bool} (he : PE X o ta) (hx : ∀ σ, PassesAt CX X σ (E σ)) (ha : PA X (e :: es) t)
    (hst : starEach (e :: es) X.env = (false, eval e X.env) :: starEach es X.env := by rfl) (hpl : (backTo pos (starEach es X.env)).any (·.1) = false := by rfl)
    (ht : eval (.Call (.Attribute o m apos) (e :: es) [] pos) X.env = (do
      let ov ← eval o X.env
      standAt apos.atName
      let (f, first) ← holding [ov] (getMethod ov m pl)
      callWith pos f first (backTo pos (starEach (e :: es) X.env)) (backToKw pos (keywordEach [] X.env))) := by rfl) :
    PE X (.Call (.Attribute o m apos) (e :: es) [] pos) (tMethX X CX m E ta t) := by
  refine ⟨fun pins s σ H Q I h => ?_⟩
  refine PySem.W.methodCall_KW (pl := pl) (thn (he.run pins s σ H _ I h) fun u s1 ⟨x, H1, I1, rx, a, C, dx, fs, k, f, fd, ps, sp, ds, dvs, ex, ea, l, c, hm, F, hr, hb, hd, q⟩ => ?_) ht
  subst ex
  obtain rfl : u = Value.ref a := rx
  refine getmeth_ok I1 ea c hm l ?_
  refine PySem.W.callWith_K (first := [.ref a]) (h₀ := X.base) I.ok.mod.kin hm.kp (thn (ha.run pos pins s1 σ H1 _ I1 q) fun us s2 ⟨vs, H2, I2, r, q2⟩ => ⟨I2.kIn, ?_⟩) hst hpl
  exact run_fnSD (us := .ref a :: us) (vs := .ref a :: vs) F hr hb hd (hx σ) I2 (.cons rfl r) q2
theorem pe_methX0 {CX : CXT} {E : St → XK} {pl : Sem Bool} (he : PE X o ta) (hx : ∀ σ, PassesAt CX X σ (E σ))
    (ht : eval (.Call (.Attribute o m apos) [] [] pos) X.env = (do
      let ov ← eval o X.env
      standAt apos.atName
      let (f, first) ← holding [ov] (getMethod ov m pl)
      callWith pos f first (backTo pos (starEach [] X.env)) (backToKw pos (keywordEach [] X.env))) := by rfl) :
    PE X (.Call (.Attribute o m apos) [] [] pos) (tMethX X CX m E ta tNil) := by
  refine ⟨fun pins s σ H Q I h => ?_⟩
  refine PySem.W.methodCall_KW (pl := pl) (thn (he.run pins s σ H _ I h) fun u s1 ⟨x, H1, I1, rx, a, C, dx, fs, k, f, fd, ps, sp, ds, dvs, ex, ea, l, c, hm, F, hr, hb, hd, q⟩ => ?_) ht
  subst ex
  obtain rfl : u = Value.ref a := rx
  refine getmeth_ok I1 ea c hm l ?_
  exact PySem.W.callWith_K0 (first := [.ref a]) I1.kIn hm.kp (run_fnSD (us := [.ref a]) (vs := [.ref a]) F hr hb hd (hx σ) I1 (.cons rfl .nil) q)
/-- C(..) where __init__ may raise: wished for at the slots -/
def tMakeSD (C : Addr) (sp : Sp) (dvs : List V) (E : St → XK) (t : TA) : TE := fun σ H Q => t σ H fun vs H1 => ∀ x dx, H1 x = none → H1 dx = none → dx ≠ x →
  sp (.ref x :: (vs ++ dvs)) (upd (upd H1 dx (.own x)) x (.ins C dx [])) (fun v H2 => v = .non ∧ Q (.ref x) H2) (E σ)
end
end L2
namespace DL
open PySem L2
variable [Tabs]
section
variable {X : Cx} {Wx : WX} {a b c eo ee ei ev : Expr} {e : Expr} {es : List Expr} {pos apos p : Pos} {ma mb mc mo mi mv : ME D} {m : ME (List D)} {k k' ln : Nat} {f : MF} {fx : Str}
/-! ### results -/
/-- what a result is in the caller's hands -/
def SR (X : Cx) (e : Ent) (ι : List Addr) (B H : Hp) (ρ : Rho) (σ : St) (v : V) : SD → Prop
  | .shr d => DA X.K ι B v d
  | .own c => ∃ a, v = .ref a ∧ CA X.K X.mg ι B H a c ∧ B a = none ∧ e.H a = none ∧ a ∉ ι ∧ ∀ (j : Nat) (c' : Cell), ρ[j]? = some (some (.own c')) → σ[j]? ≠ some (some (.ref a))
  | .hot _ _ => False
def EvR (X : Cx) (Wx : WX) (t : TE) (m : ME SD) : Prop := ∀ e ι B H ρ O σ (Q : VK), Rel X.K X.mg (en X e) ι B H ρ O σ →
    (match m ρ O with
    | .ok x O' => ∀ ι' B' H' v, Rel X.K X.mg (en X e) ι' B' H' ρ O' σ → Pre ι ι' → Same B B' → SR X e ι' B' H' ρ σ v x → Q v H'
    | .err c p O' => ∀ ι' B' H' C dx, Rel X.K X.mg (en X e) ι' B' H' ρ O' σ → Pre ι ι' → Same B B' → Exc X.K X.mg ι' B' C dx c p → Wx (.ref C) (some dx) σ H'
    | .bad => False) → t σ H Q
def ER (X : Cx) (Wx : WX) (e : Expr) (m : ME SD) : Prop := ∃ t, PE X e t ∧ EvR X Wx t m
/-- as data: frozen -/
def frzSD (m : ME SD) : ME D := bindE m fun x => match x with
  | .shr d => pureE d
  | .own (.lst xs) => pureE (.lst xs)
  | .own (.dct es) => pureE (.dct es)
  | _ => badE
theorem ER.x {m : ME SD} (h : ER X Wx a m) : EX X Wx a (frzSD m) := by
  obtain ⟨t, pt, et⟩ := h
  refine ⟨_, pe_frz pt, fun e ι B H ρ O σ Q r q => et e ι B H ρ O σ _ r ?_⟩
  simp only [frzSD, bindE] at q
  cases z : m ρ O with
  | bad => rw [z] at q; exact q
  | err c p O' => rw [z] at q; exact q
  | ok x O' =>
    rw [z] at q
    dsimp only at q
    intro ι' B' H' v r' i' b' hv
    cases x with
    | shr d => exact .inl (q ι' B' H' v r' i' b' hv)
    | hot c p => exact hv.elim
    | own c =>
      obtain ⟨ad, rfl, ca, hb, he, hn, hne⟩ := hv
      cases c with
      | lst xs =>
        obtain ⟨vs, k1, k2⟩ := ca
        obtain ⟨r3, b3⟩ := r'.freezeAt k1 hb he hn hne
        exact .inl (q ι' _ H' (.ref ad) r3 i' (b'.trans b3) (.lst upd_same (DA.monos b3 (Pre.refl _) _ _ k2)))
      | dct es =>
        obtain ⟨kvs, k1, k2⟩ := ca
        refine .inr ⟨ad, _, rfl, k1, True.intro, fun od => ?_⟩
        obtain ⟨r3, b3⟩ := r'.freezeTo (o := .frz od (.dK kvs)) hb he hn hne (r'.nt k1 fun ps z => by cases z)
        have k3 := KD.mono b3 (Pre.refl _) _ _ k2
        exact q ι' _ _ (.ref ad) r3 i' (b'.trans b3) (.dct upd_same (KD.split k3).1 (KD.split k3).2)
      | ins c fs => exact q.elim
/-- as a new cell -/
def cellSD (m : ME SD) : ME Cell := bindE m fun x => match x with
  | .own c => pureE c
  | _ => badE
theorem ER.n {m : ME SD} (h : ER X Wx a m) : EN X Wx a (cellSD m) := by
  obtain ⟨t, pt, et⟩ := h
  refine ⟨t, pt, fun e ι B H ρ O σ Q r q => et e ι B H ρ O σ Q r ?_⟩
  simp only [cellSD, bindE] at q
  cases z : m ρ O with
  | bad => rw [z] at q; exact q
  | err c p O' => rw [z] at q; exact q
  | ok x O' =>
    rw [z] at q
    dsimp only at q
    intro ι' B' H' v r' i' b' hv
    cases x with
    | own c =>
      obtain ⟨ad, rfl, ca, hb, he, hn, hne⟩ := hv
      exact q ι' B' H' ad r' i' b' ca hb he hn hne
    | _ => exact q.elim
/-- a new cell is a result -/
def ownSD (m : ME Cell) : ME SD := bindE m fun c => pureE (.own c)
theorem EN.r {m : ME Cell} (h : EN X Wx a m) : ER X Wx a (ownSD m) := by
  obtain ⟨t, pt, et⟩ := h
  refine ⟨t, pt, fun e ι B H ρ O σ Q r q => et e ι B H ρ O σ Q r ?_⟩
  simp only [ownSD, bindE] at q
  cases z : m ρ O with
  | bad => rw [z] at q; exact q
  | err c p O' => rw [z] at q; exact q
  | ok x O' =>
    rw [z] at q
    exact fun ι' B' H' ad r' i' b' ca hb he hn hne => q ι' B' H' (.ref ad) r' i' b' ⟨ad, rfl, ca, hb, he, hn, hne⟩
/-- a slot takes a result -/
def setR (i : Nat) (m : ME SD) : MS := bindS m fun x ρ O => .nx (ρ.set i (some x)) O
theorem es_setR {pos' : Pos} {m : ME SD} (i : Nat) (he : ER X Wx a m) (hN : X.N.Nodup) (hi : X.N[i]? = some fx := by rfl) (hx : Loc X.env.scope fx := by first | exact Or.inl rfl | exact Or.inr rfl) (hs : swapsWith a (some (.Name fx pos')) pos.line X.env = pure false := by rfl)
    (hf : X.fn fx = true ∨ X.env.scope.names.lookup fx = some .local := by first | exact .inl rfl | exact .inr rfl) : ES X Wx (.Assign [.Name fx pos'] a pos) (setR i m) := by
  obtain ⟨t, pt, et⟩ := he
  refine ⟨_, ps_set hN hi hx pt hs hf, fun e ι B H ρ O σ D' r q => et e ι B H ρ O σ _ r ?_⟩
  unfold setR bindS at q
  cases z : m ρ O with
  | bad => rw [z] at q; exact q
  | err c p O' => rw [z] at q; exact fun ι' B' H' C dx r' i' b' h => q ι' B' H' σ C dx r' i' b' h
  | ok y O' =>
    rw [z] at q
    intro ι' B' H' v r' i' b' hv
    cases y with
    | shr d => exact q ι' B' H' _ (r'.set' hv) i' b'
    | hot c p => exact hv.elim
    | own c =>
      obtain ⟨ad, rfl, ca, hb, he, hn, hne⟩ := hv
      exact q ι' B' H' _ (r'.setOwn' ca hb he hn hne) i' b'
/-- a result is handed back -/
def retR (m : ME SD) : MS := bindS m fun x _ O => .ret x O
theorem es_retR {m : ME SD} (he : ER X Wx a m) : ES X Wx (.Return (some a) pos) (retR m) := by
  obtain ⟨t, pt, et⟩ := he
  refine ⟨_, ps_ret pt, fun e ι B H ρ O σ D' r q => et e ι B H ρ O σ _ r ?_⟩
  unfold retR bindS at q
  cases z : m ρ O with
  | bad => rw [z] at q; exact q
  | err c p O' => rw [z] at q; exact fun ι' B' H' C dx r' i' b' h => q ι' B' H' σ C dx r' i' b' h
  | ok y O' =>
    rw [z] at q
    intro ι' B' H' v r' i' b' hv
    refine q ι' B' H' v r'.bare i' b' ?_
    cases y with
    | shr d => exact hv
    | hot c p => exact hv.elim
    | own c =>
      obtain ⟨ad, rfl, ca, hb, he, hn, hne⟩ := hv
      exact ⟨ad, rfl, ca, hb, he, hn⟩

/-! ### calls -/
def callR (f : MF) (m : ME (List D)) : ME SD := bindE m fun ds => fun _ O => f ds O
/-- a callee's promise, in the caller's hands -/
theorem fp_after {e : Ent} {ι ι' : List Addr} {B B' H' : Hp} {ρ : Rho} {O' : Sto} {σ : St} {Q : VK} {R : RE SD} (r' : Rel X.K X.mg (en X e) ι' B' H' ρ O' σ) (i' : Pre ι ι') (b' : Same B B')
    (q : match R with
    | .ok x O2 => ∀ ι2 B2 H2 v, Rel X.K X.mg (en X e) ι2 B2 H2 ρ O2 σ → Pre ι ι2 → Same B B2 → SR X e ι2 B2 H2 ρ σ v x → Q v H2
    | .err c p O2 => ∀ ι2 B2 H2 C dx, Rel X.K X.mg (en X e) ι2 B2 H2 ρ O2 σ → Pre ι ι2 → Same B B2 → Exc X.K X.mg ι2 B2 C dx c p → Wx (.ref C) (some dx) σ H2
    | .bad => False) : FP X.K X.mg ι' B' H' Q (WE Wx σ) R := by
  cases R with
  | bad => exact q
  | err c p O2 => exact fun ι2 B2 H2 C dx r2 h2 => q ι2 B2 H2 C dx (r'.after r2) (i'.trans r2.ei) (b'.trans r2.eB) h2
  | ok x O2 =>
    intro ι2 B2 H2 v r2 hv2
    refine q ι2 B2 H2 v (r'.after r2) (i'.trans r2.ei) (b'.trans r2.eB) ?_
    cases x with
    | shr d => exact hv2
    | hot c p =>
      obtain ⟨_, _, _, h, _⟩ := hv2
      cases h
    | own c =>
      obtain ⟨a, rfl, k1, k3, k4, k5⟩ := hv2
      have k4 : H' a = none := k4
      obtain ⟨k6, k7⟩ := own_after (ι' := ι') (B' := B') (H' := H') (O' := O') (r' : Rel X.K X.mg (en X e) ι' B' H' ρ O' σ) k4
      exact ⟨a, rfl, k1, k3, k6, k5, k7⟩
theorem ev_callR {t : TA} (hn : ∀ ρ O ds O', m ρ O = .ok ds O' → ds.length = ln) (h : Ev X Wx (rDs X) t m) : EvR X Wx (tCallSD (spF X.K X.mg ln f) [] (WE Wx) t) (callR f m) := by
  intro e ι B H ρ O σ Q r q
  refine h e ι B H ρ O σ _ r ?_
  simp only [callR, bindE] at q
  cases z : m ρ O with
  | err c p O' => rw [z] at q; exact q
  | bad => rw [z] at q; exact q
  | ok ds O' =>
    rw [z] at q
    dsimp only at q
    intro ι' B' H' vs r' i' b' hv
    exact ⟨ds, ι', B', O', r'.enter, by rw [List.append_nil]; exact hv, hn _ _ _ _ z, fp_after r' i' b' q⟩
theorem er_cal (tk : Takes X Wx) (C : Cal X.prog X.w X.K X.mg X.base k fx ln f) (hr : Room k' X.A) (ha : EA X Wx (e :: es) m) (hl : LenA m ln) (hk : k ≤ k' := by decide) (hg : Gl X fx := by rfl) (hdb : (fx == ("__debug__" : Str)) = false := by decide)
    (he : starEach (e :: es) X.env = (false, eval e X.env) :: starEach es X.env := by rfl) (hpl : (backTo pos (starEach es X.env)).any (·.1) = false := by rfl) : ER X Wx (.Call (.Name fx p) (e :: es) [] pos) (callR f m) := by
  obtain ⟨a, fd, ps, hm, hkp, hb, F⟩ := C
  obtain ⟨t, pt, et⟩ := ha
  exact ⟨_, pe_callSD F (hr.mono hk) hg hm hkp hb .nil (fun σ => passAt tk σ) pt hdb he hpl, ev_callR hl et⟩
theorem er_cal0 (tk : Takes X Wx) (C : Cal X.prog X.w X.K X.mg X.base k fx 0 f) (hr : Room k' X.A) (hk : k ≤ k' := by decide) (hg : Gl X fx := by rfl) (hdb : (fx == ("__debug__" : Str)) = false := by decide) : ER X Wx (.Call (.Name fx p) [] [] pos) (callR f nilA) := by
  obtain ⟨a, fd, ps, hm, hkp, hb, F⟩ := C
  exact ⟨_, pe_callSD0 F (hr.mono hk) hg hm hkp hb .nil (fun σ => passAt tk σ) hdb, ev_callR (fun ρ O ds O' q => by cases q; rfl) ev_nilA⟩
end
end DL

set_option Elab.async false
set_option linter.all false
set_option maxRecDepth 100000
/-! DLRules12: objects of the text's own classes. -/
namespace L2
open PySem PySem.Spec PyProof.Rows
section
variable {X : Cx} {CX : CXT} {C f : Addr} {fd : FuncData} {ps : List Str} {sp : Sp} {k : Nat} {dvs : List V} {ds : List Value} {E : St → XK} {x : Str} {p pos : Pos} {e : Expr} {es : List Expr} {t : TA}
theorem run_makeSD {pins : List (Addr × Obj)} {σ : St} {H : Hp} {s : Shared} {Q : VK} {us : List Value} {vs : List V} (M : Mk X.K C f) (F : FnOk X.prog X.w X.K X.mg X.base CX k f fd ps sp) (hr : Room (k + 1) X.A) (hb : Binds X.K fd ps ds) (hd : Vals dvs ds)
    (hx : PassesAt CX X σ (E σ)) (I : Inv X pins σ H s) (r : Vals vs us)
    (h : ∀ x dx, H x = none → H dx = none → dx ≠ x → sp (.ref x :: (vs ++ dvs)) (upd (upd H dx (.own x)) x (.ins C dx [])) (fun v H2 => v = .non ∧ Q (.ref x) H2) (E σ)) :
    wpAny (model X.prog X.w) X.A (call (.ref C) us) (EP X pins σ Q) X.xe s := by
  have hq := h (s.heap.objs.size + 1) s.heap.objs.size (I.hok.fresh (Nat.le_succ _)) (I.hok.fresh (Nat.le_refl _)) (Nat.ne_of_lt (Nat.lt_succ_self _))
  have I2 := Inv.made (C := C) I
  have r2 : Vals (V.ref (s.heap.objs.size + 1) :: (vs ++ dvs)) (Value.ref (s.heap.objs.size + 1) :: (us ++ ds)) := .cons rfl (r.append hd)
  have hl : (Value.ref (s.heap.objs.size + 1) :: us ++ ds).length = ps.length := by
    have e := r2.length
    rw [F.len _ _ _ _ hq] at e
    exact e.symm
  refine wpAny_call (make_map (f := f) I.kIn M.makes M.init (beq_iff_eq.mp M.fn) (codeAny_mono (F.run _ X.stack _ _ ⟨Value.ref (s.heap.objs.size + 1) :: us, []⟩ (Value.ref (s.heap.objs.size + 1) :: (us ++ ds)) _ _ (E σ) (hr.make C us [])
    (I2.env0.make C us []) (hb _ (Value.ref (s.heap.objs.size + 1) :: us) I2.kIn hl) r2 hq) fun r s' hq' => ?_))
  cases r with
  | error e => exact hx pins _ _ e s' I2 hq'
  | ok fl =>
    cases fl with
    | ret u =>
      obtain ⟨v, H', I3, rv, ev, q3⟩ := I2.after hq'
      subst ev
      exact ⟨rv, ⟨V.ref (s.heap.objs.size + 1), H', I3, rfl, q3⟩⟩
    | next => exact False.elim hq'
    | brk => exact False.elim hq'
    | cont => exact False.elim hq'
theorem pe_makeSD (M : Mk X.K C f) (F : FnOk X.prog X.w X.K X.mg X.base CX k f fd ps sp) (hr : Room (k + 1) X.A) (hg : Gl X x) (hm : X.mg x = some (.ref C)) (hb : Binds X.K fd ps ds) (hd : Vals dvs ds) (hx : ∀ σ, PassesAt CX X σ (E σ))
    (ha : PA X (e :: es) t) (hdb : (x == ("__debug__" : Str)) = false := by decide) (he : starEach (e :: es) X.env = (false, eval e X.env) :: starEach es X.env := by rfl) (hpl : (backTo pos (starEach es X.env)).any (·.1) = false := by rfl) :
    PE X (.Call (.Name x p) (e :: es) [] pos) (tMakeSD C sp dvs E t) := by
  refine ⟨fun pins s σ H Q I h => ?_⟩
  refine wpAny_Call_Name_kw (ld_glob I hg hm ?_ hdb)
  refine PySem.W.callWith_K (h₀ := X.base) I.ok.mod.kin M.kp (thn (ha.run pos pins s σ H _ I h) fun us s1 ⟨vs, H1, I1, r, q⟩ => ⟨I1.kIn, ?_⟩) he hpl
  exact run_makeSD M F hr hb hd (hx σ) I1 r q
theorem pe_makeSD0 (M : Mk X.K C f) (F : FnOk X.prog X.w X.K X.mg X.base CX k f fd ps sp) (hr : Room (k + 1) X.A) (hg : Gl X x) (hm : X.mg x = some (.ref C)) (hb : Binds X.K fd ps ds) (hd : Vals dvs ds) (hx : ∀ σ, PassesAt CX X σ (E σ))
    (hdb : (x == ("__debug__" : Str)) = false := by decide) : PE X (.Call (.Name x p) [] [] pos) (tMakeSD C sp dvs E tNil) := by
  refine ⟨fun pins s σ H Q I h => ?_⟩
  refine wpAny_Call_Name_kw (ld_glob I hg hm ?_ hdb)
  exact PySem.W.callWith_K0 I.kIn M.kp (run_makeSD (us := []) M F hr hb hd (hx σ) I .nil h)
end
end L2
namespace DL
open PySem L2
variable [Tabs]
/-! ### what the text's classes have -/
def ClsX (K : PySem.W.Frag) (mg : Mg) (c : Str) (fl : List Str) : Prop := ∃ C, mg c = some (.ref C) ∧ Cls K C ∧ ∀ f, fl.contains f = true → NoAttr K C f
def Tab (K : PySem.W.Frag) (mg : Mg) (T : List (Str × List Str)) : Prop := ∀ c fl, T.lookup c = some fl → ClsX K mg c fl
def fldOk (T : List (Str × List Str)) (c f : Str) : Bool := match T.lookup c with
  | some fl => fl.contains f
  | none => false
theorem fldOk_c {K : PySem.W.Frag} {mg : Mg} {T : List (Str × List Str)} (h : Tab K mg T) {c f : Str} (e : fldOk T c f = true) : ∃ C, mg c = some (.ref C) ∧ Cls K C ∧ NoAttr K C f := by
  unfold fldOk at e
  split at e
  · rename_i fl z
    obtain ⟨C, h1, h2, h3⟩ := h c fl z
    exact ⟨C, h1, h2, h3 f e⟩
  · cases e
/-- an object's fields -/
def insO (O : Sto) : D → Option (Nat × Str × List (Str × D))
  | .obj n => match O[n]? with
    | some (.ins c fs) => some (n, c, fs)
    | _ => none
  | _ => none
theorem insO_eq {O : Sto} {d : D} {n : Nat} {c : Str} {fs : List (Str × D)} (h : insO O d = some (n, c, fs)) : d = .obj n ∧ O[n]? = some (.ins c fs) := by
  unfold insO at h
  split at h
  · split at h
    · rename_i z
      cases h
      exact ⟨rfl, z⟩
    · cases h
  · cases h
theorem lookup_FD {K : PySem.W.Frag} {ι : List Addr} {B : Hp} {f : Str} : ∀ {fvs : List (Str × V)} {fs : List (Str × D)}, Paired (FD K ι B) fvs fs → (fvs.lookup f = none ∧ fs.lookup f = none) ∨ ∃ v d, fvs.lookup f = some v ∧ fs.lookup f = some d ∧ DA K ι B v d
  | _, _, .nil => .inl ⟨rfl, rfl⟩
  | p :: _, q :: _, .cons h t => by
    obtain ⟨p1, p2⟩ := p
    obtain ⟨q1, q2⟩ := q
    obtain ⟨h1, h2⟩ := h
    cases h1
    rw [List.lookup_cons, List.lookup_cons]
    cases z : f == p1 with
    | true => exact .inr ⟨_, _, rfl, rfl, h2⟩
    | false => exact lookup_FD t
def putFD (f : Str) (d : D) : List (Str × D) → List (Str × D)
  | [] => [(f, d)]
  | p :: r => if p.1 = f then (f, d) :: r else p :: putFD f d r
theorem paired_putF {K : PySem.W.Frag} {ι : List Addr} {B : Hp} {f : Str} {v : V} {d : D} (hv : DA K ι B v d) : ∀ {fvs : List (Str × V)} {fs : List (Str × D)}, Paired (FD K ι B) fvs fs → Paired (FD K ι B) (putF f v fvs) (putFD f d fs)
  | _, _, .nil => .cons ⟨rfl, hv⟩ .nil
  | p :: _, q :: _, .cons h t => by
    have e : (p.1 = f) = (q.1 = f) := by rw [h.1]
    unfold putF putFD
    by_cases z : p.1 = f
    · rw [if_pos z, if_pos (e ▸ z)]
      exact .cons ⟨z, hv⟩ t
    · rw [if_neg z, if_neg (e ▸ z)]
      exact .cons h (paired_putF hv t)
section
variable {X : Cx} {Wx : WX} {eo ev : Expr} {e : Expr} {es : List Expr} {pos apos p : Pos} {mo mv : ME D} {m : ME (List D)} {k k' ln : Nat} {f : MF} {fx fn : Str} {T : List (Str × List Str)}
/-! ### o.f -/
def fldG (T : List (Str × List Str)) (fn : Str) (o : D) (O : Sto) : Option D := (insO O o).bind fun p => if fldOk T p.2.1 fn = true then p.2.2.lookup fn else none
def fldM (T : List (Str × List Str)) (fn : Str) (mo : ME D) : ME D := bindE mo fun o => optO (fldG T fn o)
theorem fldG_eq {o d : D} {O : Sto} (h : fldG T fn o O = some d) : ∃ n c fs, o = .obj n ∧ O[n]? = some (.ins c fs) ∧ fldOk T c fn = true ∧ fs.lookup fn = some d := by
  unfold fldG at h
  cases z : insO O o with
  | none => rw [z] at h; cases h
  | some q =>
    obtain ⟨n, c, fs⟩ := q
    rw [z] at h
    simp only [Option.bind_some] at h
    obtain ⟨h1, h2⟩ := insO_eq z
    split at h
    · exact ⟨n, c, fs, h1, h2, by assumption, h⟩
    · cases h
theorem ex_fld (hT : Tab X.K X.mg T) (ho : EX X Wx eo mo) (hb : attributeBase eo fn X.env (eval eo X.env) = eval eo X.env := by rfl) : EX X Wx (.Attribute eo fn pos) (fldM T fn mo) := by
  obtain ⟨t, pt, et⟩ := ho
  refine ⟨_, pe_fld pt hb, fun e ι B H ρ O σ Q r q => et e ι B H ρ O σ _ r ?_⟩
  simp only [fldM, bindE, optO] at q
  cases z : mo ρ O with
  | bad => rw [z] at q; exact q
  | err c p O' => rw [z] at q; exact q
  | ok o O' =>
    rw [z] at q
    dsimp only at q
    intro ι' B' H' v r' i' b' hv
    cases z2 : fldG T fn o O' with
    | none => rw [z2] at q; exact q.elim
    | some d =>
      rw [z2] at q
      obtain ⟨n, c, fs, rfl, h2, h3, h4⟩ := fldG_eq z2
      cases hv with
      | obj hi =>
        obtain ⟨⟨C, dx, fvs, k1, k2, k3⟩, _⟩ := r'.ob n _ _ h2 hi
        obtain ⟨C', g1, g2, g3⟩ := fldOk_c hT h3
        have : C' = C := by
          have := g1.symm.trans k1
          cases this
          rfl
        subst this
        rcases lookup_FD (f := fn) k3 with ⟨_, l2⟩ | ⟨w, d', l1, l2, l3⟩
        · rw [h4] at l2; cases l2
        · rw [h4] at l2
          cases l2
          exact ⟨_, _, dx, fvs, w, rfl, k2, g2, g3, l1, q ι' B' H' w r' i' b' l3⟩
/-! ### o.f = v -/
def fldP (T : List (Str × List Str)) (fn : Str) (o : D) (d : D) (O : Sto) : Option Sto := (insO O o).bind fun p => if fldOk T p.2.1 fn = true ∧ p.2.2.length < 1000 then some (O.set p.1 (.ins p.2.1 (putFD fn d p.2.2))) else none
def fldS (T : List (Str × List Str)) (fn : Str) (mo mv : ME D) : MS := bindS mv fun d => bindS mo fun o ρ O => match fldP T fn o d O with
  | some O' => .nx ρ O'
  | none => .bad
theorem fldP_eq {o d : D} {O O' : Sto} (h : fldP T fn o d O = some O') : ∃ n c fs, o = .obj n ∧ O[n]? = some (.ins c fs) ∧ fldOk T c fn = true ∧ fs.length < 1000 ∧ O' = O.set n (.ins c (putFD fn d fs)) := by
  unfold fldP at h
  cases z : insO O o with
  | none => rw [z] at h; cases h
  | some q =>
    obtain ⟨n, c, fs⟩ := q
    rw [z] at h
    simp only [Option.bind_some] at h
    obtain ⟨h1, h2⟩ := insO_eq z
    split at h
    · rename_i hc
      cases h
      exact ⟨n, c, fs, h1, h2, hc.1, hc.2, rfl⟩
    · cases h
theorem fldP_ok {en_ : Ent} {ι : List Addr} {B H : Hp} {ρ : Rho} {O O' : Sto} {σ : St} {o d : D} {ov dv : V} (hT : Tab X.K X.mg T) (r : Rel X.K X.mg en_ ι B H ρ O σ) (ho : DA X.K ι B ov o) (hd : DA X.K ι B dv d) (h : fldP T fn o d O = some O') :
    ∃ a C dx fvs, ov = .ref a ∧ H a = some (.ins C dx fvs) ∧ Cls X.K C ∧ NoAttr X.K C fn ∧ fvs.length < 1000 ∧ Rel X.K X.mg en_ ι B (upd H a (.ins C dx (putF fn dv fvs))) ρ O' σ := by
  obtain ⟨n, c, fs, rfl, h2, h3, h4, rfl⟩ := fldP_eq h
  cases ho with
  | obj hi =>
    obtain ⟨⟨C, dx, fvs, k1, k2, k3⟩, _⟩ := r.ob n _ _ h2 hi
    obtain ⟨C', g1, g2, g3⟩ := fldOk_c hT h3
    have : C' = C := by
      have := g1.symm.trans k1
      cases this
      rfl
    subst this
    refine ⟨_, _, dx, fvs, rfl, k2, g2, g3, by rw [paired_len k3]; exact h4, ?_⟩
    exact r.putObj h2 hi ⟨_, dx, _, k1, upd_same, paired_putF hd k3⟩
theorem es_fld (hT : Tab X.K X.mg T) {pos' : Pos} (ho : EX X Wx eo mo) (hv : EX X Wx ev mv) (hs : swapsWith ev (some (.Attribute eo fn pos')) pos.line X.env = pure false := by rfl) : ES X Wx (.Assign [.Attribute eo fn pos'] ev pos) (fldS T fn mo mv) := by
  obtain ⟨to, po, eto⟩ := ho
  obtain ⟨tv, pv, etv⟩ := hv
  refine ⟨_, ps_fld po pv hs, fun e ι B H ρ O σ D' r q => etv e ι B H ρ O σ _ r ?_⟩
  unfold fldS bindS at q
  cases z : mv ρ O with
  | bad => rw [z] at q; exact q
  | err c p O' => rw [z] at q; exact fun ι' B' H' C dx r' i' b' h => q ι' B' H' σ C dx r' i' b' h
  | ok d O1 =>
    rw [z] at q
    dsimp only at q
    intro ι1 B1 H1 dv r1 i1 b1 hdv
    refine eto e ι1 B1 H1 ρ O1 σ _ r1 ?_
    cases z2 : mo ρ O1 with
    | bad => rw [z2] at q; exact q
    | err c p O' =>
      rw [z2] at q
      exact fun ι' B' H' C dx r' i' b' h => q ι' B' H' σ C dx r' (i1.trans i') (b1.trans b') h
    | ok o O2 =>
      rw [z2] at q
      dsimp only at q
      intro ι2 B2 H2 ov r2 i2 b2 hov
      cases z3 : fldP T fn o d O2 with
      | none => rw [z3] at q; exact q.elim
      | some O3 =>
        rw [z3] at q
        obtain ⟨a, C, dx, fvs, rfl, g1, g2, g3, g4, g5⟩ := fldP_ok hT r2 hov (DA.mono b2 i2 _ _ hdv) z3
        exact ⟨a, C, dx, fvs, rfl, g1, g2, g3, g4, q ι2 B2 _ σ g5 (i1.trans i2) (b1.trans b2)⟩
/-! ### o.m(..) -/
def MethC (P : Program) (w : World) (K : PySem.W.Frag) (mg : Mg) (base : Heap) (k : Nat) (c mn : Str) (n : Nat) (f : MF) : Prop :=
  ∃ (C g : Addr) (fd : FuncData) (ps : List Str), mg c = some (.ref C) ∧ Cls K C ∧ Meth K C mn g ∧ Binds K fd ps [] ∧ FnOk P w K mg base (L2.CX P w) k g fd ps (spF K mg n f)
def selfA (o : D) (m : ME (List D)) : ME (List D) := bindE m fun ds => pureE (o :: ds)
def methR (tbl : List (Str × MF)) (mn : Str) (mo : ME D) (m : ME (List D)) : ME SD := bindE mo fun o ρ O => match insO O o with
  | some (_, c, fs) => (match tbl.lookup c with
    | some f => if (fs.lookup mn).isNone = true then callR f (selfA o m) ρ O else .bad
    | none => .bad)
  | none => .bad
theorem ev_meth {ta : TE} {t : TA} {tbl : List (Str × MF)} {mn : Str} (hr : Room k' X.A) (hM : ∀ c f, tbl.lookup c = some f → ∃ k, k ≤ k' ∧ MethC X.prog X.w X.K X.mg X.base k c mn (ln + 1) f) (ho : Ev X Wx (rD X) ta mo) (hl : LenA m ln) (h : Ev X Wx (rDs X) t m) :
    EvR X Wx (tMethX X (L2.CX X.prog X.w) mn (WE Wx) ta t) (methR tbl mn mo m) := by
  intro e ι B H ρ O σ Q r q
  refine ho e ι B H ρ O σ _ r ?_
  simp only [methR, bindE] at q
  cases z : mo ρ O with
  | bad => rw [z] at q; exact q
  | err c p O' => rw [z] at q; exact q
  | ok o O1 =>
    rw [z] at q
    dsimp only at q
    intro ι1 B1 H1 ov r1 i1 b1 hov
    cases z2 : insO O1 o with
    | none => rw [z2] at q; exact q.elim
    | some w =>
      obtain ⟨n, c, fs⟩ := w
      rw [z2] at q
      dsimp only at q
      obtain ⟨rfl, h2⟩ := insO_eq z2
      cases z3 : tbl.lookup c with
      | none => rw [z3] at q; exact q.elim
      | some f =>
        rw [z3] at q
        dsimp only at q
        by_cases z4 : (fs.lookup mn).isNone = true
        · rw [if_pos z4] at q
          obtain ⟨k, hk, C, g, fd, ps, m1, m2, m3, m4, m5⟩ := hM c f z3
          cases hov with
          | obj hi =>
            obtain ⟨⟨C', dx, fvs, k1, k2, k3⟩, _⟩ := r1.ob n _ _ h2 hi
            have : C' = C := by
              have := k1.symm.trans m1
              cases this
              rfl
            subst this
            have hn : fvs.lookup mn = none := by
              rcases lookup_FD (f := mn) k3 with ⟨l1, _⟩ | ⟨_, d', _, l2, _⟩
              · exact l1
              · rw [l2] at z4; cases z4
            refine ⟨_, _, dx, fvs, k, g, fd, ps, _, [], [], rfl, k2, hn, m2, m3, m5, hr.mono hk, m4, .nil, ?_⟩
            refine h e ι1 B1 H1 ρ O1 σ _ r1 ?_
            simp only [callR, selfA, bindE] at q
            cases z5 : m ρ O1 with
            | bad => rw [z5] at q; exact q
            | err c p O' =>
              rw [z5] at q
              exact fun ι' B' H' C dx r' i' b' h => q ι' B' H' C dx r' (i1.trans i') (b1.trans b') h
            | ok ds O2 =>
              rw [z5] at q
              simp only [pureE] at q
              intro ι2 B2 H2 vs r2 i2 b2 hvs
              refine ⟨.obj n :: ds, ι2, B2, O2, r2.enter, .cons (.obj (i2 _ _ hi)) (by rw [List.append_nil]; exact hvs), by rw [List.length_cons, hl _ _ _ _ z5], fp_after r2 (i1.trans i2) (b1.trans b2) q⟩
        · rw [if_neg z4] at q; exact q.elim
theorem er_meth (tk : Takes X Wx) {tbl : List (Str × MF)} {mn : Str} {pl : Sem Bool} (hr : Room k' X.A) (hM : ∀ c f, tbl.lookup c = some f → ∃ k, k ≤ k' ∧ MethC X.prog X.w X.K X.mg X.base k c mn (ln + 1) f) (ho : EX X Wx eo mo) (ha : EA X Wx (e :: es) m) (hl : LenA m ln)
    (hst : starEach (e :: es) X.env = (false, eval e X.env) :: starEach es X.env := by rfl) (hpl : (backTo pos (starEach es X.env)).any (·.1) = false := by rfl)
    (ht : eval (.Call (.Attribute eo mn apos) (e :: es) [] pos) X.env = (do
      let ov ← eval eo X.env
      standAt apos.atName
      let (f, first) ← holding [ov] (getMethod ov mn pl)
      callWith pos f first (backTo pos (starEach (e :: es) X.env)) (backToKw pos (keywordEach [] X.env))) := by rfl) : ER X Wx (.Call (.Attribute eo mn apos) (e :: es) [] pos) (methR tbl mn mo m) := by
  obtain ⟨to, po, eto⟩ := ho
  obtain ⟨t, pt, et⟩ := ha
  exact ⟨_, pe_methX (pl := pl) po (fun σ => passAt tk σ) pt hst hpl ht, ev_meth hr hM eto hl et⟩
theorem er_meth0 (tk : Takes X Wx) {tbl : List (Str × MF)} {mn : Str} {pl : Sem Bool} (hr : Room k' X.A) (hM : ∀ c f, tbl.lookup c = some f → ∃ k, k ≤ k' ∧ MethC X.prog X.w X.K X.mg X.base k c mn (0 + 1) f) (ho : EX X Wx eo mo)
    (ht : eval (.Call (.Attribute eo mn apos) [] [] pos) X.env = (do
      let ov ← eval eo X.env
      standAt apos.atName
      let (f, first) ← holding [ov] (getMethod ov mn pl)
      callWith pos f first (backTo pos (starEach [] X.env)) (backToKw pos (keywordEach [] X.env))) := by rfl) : ER X Wx (.Call (.Attribute eo mn apos) [] [] pos) (methR tbl mn mo nilA) := by
  obtain ⟨to, po, eto⟩ := ho
  exact ⟨_, pe_methX0 (pl := pl) po (fun σ => passAt tk σ) ht, ev_meth hr hM eto (fun ρ O ds O' q => by cases q; rfl) ev_nilA⟩
/-! ### C(..) -/
def MakC (P : Program) (w : World) (K : PySem.W.Frag) (mg : Mg) (base : Heap) (k : Nat) (c : Str) (n : Nat) (f : MF) : Prop :=
  ∃ (C g : Addr) (fd : FuncData) (ps : List Str), mg c = some (.ref C) ∧ Mk K C g ∧ Binds K fd ps [] ∧ FnOk P w K mg base (L2.CX P w) k g fd ps (spF K mg n f)
def makeM (c : Str) (f : MF) (m : ME (List D)) : ME D := bindE m fun ds => fun _ O => match f (.obj O.length :: ds) (O ++ [.ins c []]) with
  | .ok (.shr .non) O' => .ok (.obj O.length) O'
  | .err c p O' => .err c p O'
  | _ => .bad
theorem ev_make {t : TA} {C : Addr} {c : Str} (hm : X.mg c = some (.ref C)) (hl : LenA m ln) (h : Ev X Wx (rDs X) t m) : Ev X Wx (rD X) (tMakeSD C (spF X.K X.mg (ln + 1) f) [] (WE Wx) t) (makeM c f m) := by
  intro e ι B H ρ O σ Q r q
  refine h e ι B H ρ O σ _ r ?_
  simp only [makeM, bindE] at q
  cases z : m ρ O with
  | bad => rw [z] at q; exact q
  | err c p O' => rw [z] at q; exact q
  | ok ds O1 =>
    rw [z] at q
    dsimp only at q
    intro ι1 B1 H1 vs r1 i1 b1 hvs x dx hx hdx hne
    obtain ⟨r2, _, _, _⟩ := r1.fresh hdx (.own x)
    have hx2 : upd H1 dx (.own x) x = none := by rw [upd_ne (Ne.symm hne)]; exact hx
    obtain ⟨r3, k1, k2, k3⟩ := r2.fresh hx2 (.ins C dx [])
    obtain ⟨r4, p4, at4⟩ := r3.addAt (c := .ins c []) ⟨C, dx, [], hm, upd_same, .nil⟩ k1 k2 k3 (r2.notOwn hx2)
    refine ⟨.obj O1.length :: ds, ι1 ++ [x], B1, O1 ++ [.ins c []], r4.enter, .cons (.obj at4) (by rw [List.append_nil]; exact DA.monos (Same.refl _) p4 _ _ hvs), by rw [List.length_cons, hl _ _ _ _ z], ?_⟩
    cases z2 : f (.obj O1.length :: ds) (O1 ++ [.ins c []]) with
    | bad => rw [z2] at q; exact q
    | err c p O' =>
      rw [z2] at q
      exact fun ι2 B2 H2 C dx r5 h5 => q ι2 B2 H2 C dx (r4.after r5) ((i1.trans p4).trans r5.ei) (b1.trans r5.eB) h5
    | ok s O2 =>
      rw [z2] at q
      intro ι2 B2 H2 v r5 hv5
      cases s with
      | shr d =>
        cases d with
        | non =>
          cases hv5
          exact ⟨rfl, q ι2 B2 H2 _ (r4.after r5) ((i1.trans p4).trans r5.ei) (b1.trans r5.eB) (.obj (r5.ei _ _ at4))⟩
        | _ => exact q.elim
      | _ => exact q.elim
theorem ex_make (tk : Takes X Wx) {c : Str} (C : MakC X.prog X.w X.K X.mg X.base k c (ln + 1) f) (hr : Room k' X.A) (ha : EA X Wx (e :: es) m) (hl : LenA m ln) (hk : k + 1 ≤ k' := by decide) (hg : Gl X c := by rfl) (hdb : (c == ("__debug__" : Str)) = false := by decide)
    (he : starEach (e :: es) X.env = (false, eval e X.env) :: starEach es X.env := by rfl) (hpl : (backTo pos (starEach es X.env)).any (·.1) = false := by rfl) : EX X Wx (.Call (.Name c p) (e :: es) [] pos) (makeM c f m) := by
  obtain ⟨C, g, fd, ps, hm, M, hb, F⟩ := C
  obtain ⟨t, pt, et⟩ := ha
  exact ⟨_, pe_makeSD M F (hr.mono hk) hg hm hb .nil (fun σ => passAt tk σ) pt hdb he hpl, ev_make hm hl et⟩
theorem ex_make0 (tk : Takes X Wx) {c : Str} (C : MakC X.prog X.w X.K X.mg X.base k c (0 + 1) f) (hr : Room k' X.A) (hk : k + 1 ≤ k' := by decide) (hg : Gl X c := by rfl) (hdb : (c == ("__debug__" : Str)) = false := by decide) : EX X Wx (.Call (.Name c p) [] [] pos) (makeM c f nilA) := by
  obtain ⟨C, g, fd, ps, hm, M, hb, F⟩ := C
  exact ⟨_, pe_makeSD0 M F (hr.mono hk) hg hm hb .nil (fun σ => passAt tk σ) hdb, ev_make hm (fun ρ O ds O' q => by cases q; rfl) ev_nilA⟩
end
end DL

set_option Elab.async false
set_option linter.all false
set_option maxRecDepth 100000
/-! DLRules13: methods that change a list of the store; a, b = e. -/
namespace DL
open PySem L2
variable [Tabs]
section
variable {X : Cx} {Wx : WX} {eo ee : Expr} {es : List Expr} {pos apos cpos : Pos} {mo mv : ME D} {m : ME (List D)}
/-- a list of the store -/
def lstO (O : Sto) : D → Option (Nat × List D)
  | .obj n => match O[n]? with
    | some (.lst xs) => some (n, xs)
    | _ => none
  | _ => none
theorem lstO_eq {O : Sto} {d : D} {n : Nat} {xs : List D} (h : lstO O d = some (n, xs)) : d = .obj n ∧ O[n]? = some (.lst xs) := by
  unfold lstO at h
  split at h
  · split at h
    · rename_i z
      cases h
      exact ⟨rfl, z⟩
    · cases h
  · cases h
/-- a method of a list: its arguments, what it gives, what is left -/
def lmM (g : Sto → List D → List D → Option (D × List D)) (mo : ME D) (m : ME (List D)) : ME D := bindE mo fun o ρ O => match lstO O o with
  | some _ => bindE m (fun ds _ O2 => match lstO O2 o with
    | some (n, xs) => (match g O2 xs ds with
      | some (z, ys) => .ok z (O2.set n (.lst ys))
      | none => .bad)
    | none => .bad) ρ O
  | none => .bad
def OpLm (X : Cx) (r : V → List V → Hp → VK → Prop) (g : Sto → List D → List D → Option (D × List D)) : Prop := ∀ (a : Addr) (ws vs : List V) (xs ds ys : List D) (z : D) (e : Ent) (ι : List Addr) (B H : Hp) (ρ : Rho) (O : Sto) (σ : St) (Q : VK),
  Rel X.K X.mg (en X e) ι B H ρ O σ → H a = some (.lst ws) → Paired (DA X.K ι B) ws xs → B a = none → Paired (DA X.K ι B) vs ds → g O xs ds = some (z, ys) →
  (∀ ws' v, Paired (DA X.K ι B) ws' ys → DA X.K ι B v z → Q v (upd H a (.lst ws'))) → r (.ref a) vs H Q
theorem ev_lm {r : V → List V → Hp → VK → Prop} {g : Sto → List D → List D → Option (D × List D)} {to : TE} {t : TA} (op : OpLm X r g) (ho : Ev X Wx (rD X) to mo) (h : Ev X Wx (rDs X) t m) : Ev X Wx (rD X) (tBM X.K "list" r to t) (lmM g mo m) := by
  intro e ι B H ρ O σ Q r0 q
  refine ho e ι B H ρ O σ _ r0 ?_
  simp only [lmM, bindE] at q
  cases z : mo ρ O with
  | bad => rw [z] at q; exact q
  | err c p O' => rw [z] at q; exact q
  | ok o O1 =>
    rw [z] at q
    dsimp only at q
    intro ι1 B1 H1 ov r1 i1 b1 hov
    cases z2 : lstO O1 o with
    | none => rw [z2] at q; exact q.elim
    | some w =>
      obtain ⟨n, xs0⟩ := w
      rw [z2] at q
      dsimp only at q
      obtain ⟨rfl, h2⟩ := lstO_eq z2
      cases hov with
      | obj hi =>
        obtain ⟨⟨ws0, k1, k2⟩, _⟩ := r1.ob n _ _ h2 hi
        refine ⟨.inl ⟨rfl, _, SqL.of k1⟩, ?_⟩
        refine h e ι1 B1 H1 ρ O1 σ _ r1 ?_
        cases z3 : m ρ O1 with
        | bad => rw [z3] at q; exact q
        | err c p O' =>
          rw [z3] at q
          exact fun ι' B' H' C dx r' i' b' h => q ι' B' H' C dx r' (i1.trans i') (b1.trans b') h
        | ok ds O2 =>
          rw [z3] at q
          dsimp only at q
          intro ι2 B2 H2 vs r2 i2 b2 hvs
          cases z4 : lstO O2 (.obj n) with
          | none => rw [z4] at q; exact q.elim
          | some w =>
            obtain ⟨n', xs⟩ := w
            rw [z4] at q
            dsimp only at q
            obtain ⟨hn, h4⟩ := lstO_eq z4
            cases hn
            cases z5 : g O2 xs ds with
            | none => rw [z5] at q; exact q.elim
            | some w =>
              obtain ⟨zz, ys⟩ := w
              rw [z5] at q
              have hi2 := i2 _ _ hi
              obtain ⟨⟨ws, k3, k4⟩, k5⟩ := r2.ob n _ _ h4 hi2
              refine op _ ws vs xs ds ys zz e ι2 B2 H2 ρ O2 σ Q r2 k3 k4 k5 hvs z5 fun ws' v hw hv => ?_
              exact q ι2 B2 _ v (r2.putObj h4 hi2 ⟨ws', upd_same, hw⟩) (i1.trans i2) (b1.trans b2) hv
/-! append, pop, pop(i), extend, insert(0, ..), clear, reverse -/
def appG (_ : Sto) (xs : List D) (ds : List D) : Option (D × List D) := match ds with
  | [d] => if xs.length < sizeLine then some (.non, xs ++ [d]) else none
  | _ => none
theorem op_app : OpLm X rAppend appG := by
  intro a ws vs xs ds ys z e ι B H ρ O σ Q r h1 h2 h3 h4 h5 q
  unfold appG at h5
  split at h5
  · split at h5
    · rename_i hl
      cases h5
      obtain ⟨y, rfl, hy⟩ := paired1 h4
      exact ⟨a, ws, y, rfl, rfl, h1, by rw [paired_len h2]; exact hl, q _ _ (paired_app h2 (.cons hy .nil)) .non⟩
    · cases h5
  · cases h5
def popG (_ : Sto) (xs : List D) (ds : List D) : Option (D × List D) := match ds with
  | [] => (xs[xs.length - 1]?).map fun y => (y, xs.dropLast)
  | _ => none
theorem paired_dropLast {α β : Type} {F : α → β → Prop} : ∀ {xs : List α} {ys : List β}, Paired F xs ys → Paired F xs.dropLast ys.dropLast
  | _, _, .nil => .nil
  | _, _, .cons a .nil => .nil
  | _, _, .cons a (.cons b t) => by
    rw [List.dropLast_cons₂, List.dropLast_cons₂]
    exact .cons a (paired_dropLast (.cons b t))
theorem op_pop : OpLm X rPop popG := by
  intro a ws vs xs ds ys z e ι B H ρ O σ Q r h1 h2 h3 h4 h5 q
  unfold popG at h5
  split at h5
  · simp only [Option.map_eq_some_iff] at h5
    obtain ⟨y, h6, h7⟩ := h5
    cases h7
    cases h4
    obtain ⟨w, h8, h9⟩ := paired_get h2 h6
    exact ⟨a, ws, w, rfl, rfl, h1, by rw [paired_len h2]; exact h8, q _ _ (paired_dropLast h2) h9⟩
  · cases h5
def popAtG (_ : Sto) (xs : List D) (ds : List D) : Option (D × List D) := match ds with
  | [.int i] => if -9223372036854775808 ≤ i ∧ i < 9223372036854775808 then (seqIndex? i xs.length).bind fun k => (xs[k]?).map fun y => (y, xs.eraseIdx k) else none
  | _ => none
theorem paired_erase {α β : Type} {F : α → β → Prop} : ∀ {xs : List α} {ys : List β} (k : Nat), Paired F xs ys → Paired F (xs.eraseIdx k) (ys.eraseIdx k)
  | _, _, _, .nil => .nil
  | _, _, 0, .cons a t => t
  | _, _, k + 1, .cons a t => .cons a (paired_erase k t)
theorem op_popAt : OpLm X rPopAt popAtG := by
  intro a ws vs xs ds ys z e ι B H ρ O σ Q r h1 h2 h3 h4 h5 q
  unfold popAtG at h5
  split at h5
  · rename_i i
    split at h5
    · rename_i hb
      cases z1 : seqIndex? i xs.length with
      | none => rw [z1] at h5; cases h5
      | some k =>
        rw [z1] at h5
        simp only [Option.bind_some, Option.map_eq_some_iff] at h5
        obtain ⟨y, h6, h7⟩ := h5
        cases h7
        obtain ⟨iv, rfl, hiv⟩ := paired1 h4
        cases hiv
        obtain ⟨w, h8, h9⟩ := paired_get h2 h6
        exact ⟨a, ws, i, k, w, rfl, rfl, h1, by omega, by omega, by rw [paired_len h2]; exact z1, h8, q _ _ (paired_erase k h2) h9⟩
    · cases h5
  · cases h5
theorem ex_appO (ho : EX X Wx eo mo) (ha : EA X Wx (ee :: es) m) (hbase : attributeBase eo "append" X.env (eval eo X.env) = eval eo X.env := by rfl)
    (hfew : ((backTo cpos (starEach (ee :: es) X.env)).all (fun x => !x.1) && (backToKw cpos (keywordEach [] X.env)).all (fun x => x.1.isSome)
      && decide ((ee :: es).length + ([] : List Keyword).length + (if ([] : List Keyword).isEmpty then 0 else 1) < 30)) = true := by rfl)
    (hline : (apos.endLine == cpos.line) = true := by rfl) (hs : starEach (ee :: es) X.env = (false, eval ee X.env) :: starEach es X.env := by rfl) (hplain : (backTo cpos (starEach es X.env)).any (·.1) = false := by rfl) :
    EX X Wx (.Call (.Attribute eo "append" apos) (ee :: es) [] cpos) (lmM appG mo m) := by
  obtain ⟨to, po, eto⟩ := ho
  obtain ⟨t, pt, et⟩ := ha
  exact ⟨_, pe_bm PySem.F.plainAttrs_list PySem.F.slot_list_append PySem.F.type_list_append mt_append po pt hbase hfew hline hs hplain, ev_lm op_app eto et⟩
theorem ex_popAtO (ho : EX X Wx eo mo) (ha : EA X Wx (ee :: es) m) (hbase : attributeBase eo "pop" X.env (eval eo X.env) = eval eo X.env := by rfl)
    (hfew : ((backTo cpos (starEach (ee :: es) X.env)).all (fun x => !x.1) && (backToKw cpos (keywordEach [] X.env)).all (fun x => x.1.isSome)
      && decide ((ee :: es).length + ([] : List Keyword).length + (if ([] : List Keyword).isEmpty then 0 else 1) < 30)) = true := by rfl)
    (hline : (apos.endLine == cpos.line) = true := by rfl) (hs : starEach (ee :: es) X.env = (false, eval ee X.env) :: starEach es X.env := by rfl) (hplain : (backTo cpos (starEach es X.env)).any (·.1) = false := by rfl) :
    EX X Wx (.Call (.Attribute eo "pop" apos) (ee :: es) [] cpos) (lmM popAtG mo m) := by
  obtain ⟨to, po, eto⟩ := ho
  obtain ⟨t, pt, et⟩ := ha
  exact ⟨_, pe_bm PySem.F.plainAttrs_list PySem.F.slot_list_pop PySem.F.type_list_pop mt_popAt po pt hbase hfew hline hs hplain, ev_lm op_popAt eto et⟩

/-! ### a, b = e -/
def unp : List Nat → List D → Rho → Option Rho
  | [], [], ρ => some ρ
  | i :: is, d :: ds, ρ => unp is ds (ρ.set i (some (.shr d)))
  | _, _, _ => none
def unpG (is : List Nat) (d : D) : MS := fun ρ O => match d with
  | .tup ds => (match unp is ds ρ with
    | some ρ' => .nx ρ' O
    | none => .bad)
  | _ => .bad
/-- names by their slots -/
inductive Names (X : Cx) : List Expr → List Nat → TGs → Prop
  | nil : Names X [] [] gNil
  | cons {e : Expr} {es : List Expr} {i : Nat} {is : List Nat} {u : TGs} : PG X e (gName i) → Names X es is u → (assignEach (e :: es) X.env).map (·.2) = assign e X.env :: (assignEach es X.env).map (·.2) → Names X (e :: es) (i :: is) (gCons (gName i) u)
theorem Names.pgs {es : List Expr} {is : List Nat} {u : TGs} (h : Names X es is u) : PGs X es u := by
  induction h with
  | nil => exact pgs_nil
  | cons h1 _ hs ih => exact pgs_cons h1 ih hs
theorem Names.len {es : List Expr} {is : List Nat} {u : TGs} (h : Names X es is u) : es.length = is.length := by
  induction h with
  | nil => rfl
  | cons _ _ _ ih => rw [List.length_cons, List.length_cons, ih]
theorem Names.ok {es : List Expr} {is : List Nat} {u : TGs} (h : Names X es is u) : ∀ {ds : List D} {vs : List V} {e : Ent} {ι : List Addr} {B H : Hp} {ρ ρ' : Rho} {O : Sto} {σ : St} {Q : St → Hp → Prop}, Rel X.K X.mg (en X e) ι B H ρ O σ → Paired (DA X.K ι B) vs ds → unp is ds ρ = some ρ' →
    (∀ σ', Rel X.K X.mg (en X e) ι B H ρ' O σ' → Q σ' H) → u vs σ H Q := by
  induction h with
  | nil =>
    intro ds vs e ι B H ρ ρ' O σ Q r p h q
    cases ds with
    | nil => cases p; cases h; exact ⟨rfl, q σ r⟩
    | cons d ds => cases h
  | cons h1 _ _ ih =>
    intro ds vs e ι B H ρ ρ' O σ Q r p h q
    cases ds with
    | nil => cases h
    | cons d ds =>
      cases p with
      | cons p1 p2 =>
        refine ⟨_, _, rfl, ?_⟩
        exact ih (r.set' p1) p2 h q
theorem unp_len : ∀ {is : List Nat} {ds : List D} {ρ ρ' : Rho}, unp is ds ρ = some ρ' → ds.length = is.length
  | [], [], _, _, _ => rfl
  | [], _ :: _, _, _, h => by cases h
  | _ :: _, [], _, _, h => by cases h
  | i :: is, d :: ds, ρ, ρ', h => by
    have := unp_len (is := is) (ds := ds) h
    rw [List.length_cons, List.length_cons, this]
def unpS (is : List Nat) (m : ME D) : MS := bindS m fun d => unpG is d
theorem gtup_ok {es : List Expr} {is : List Nat} {u : TGs} {n : Nat} (hn : n = is.length) (h : Names X es is u) {d : D} {v : V} {e : Ent} {ι : List Addr} {B H : Hp} {ρ : Rho} {O : Sto} {σ : St} {Q : St → Hp → Prop} (r : Rel X.K X.mg (en X e) ι B H ρ O σ) (hv : DA X.K ι B v d)
    (q : match unpG is d ρ O with
      | .nx ρ' O' => ∀ σ', Rel X.K X.mg (en X e) ι B H ρ' O' σ' → Q σ' H
      | _ => False) : gTup X.K n u v σ H Q := by
  unfold unpG at q
  cases d with
  | tup ds =>
    dsimp only at q
    cases z : unp is ds ρ with
    | none => rw [z] at q; exact q.elim
    | some ρ' =>
      rw [z] at q
      cases hv with
      | tup h1 h2 => exact ⟨_, _, rfl, sqT_same r.sub h1, by rw [paired_len h2, unp_len z, hn], h.ok r h2 z q⟩
  | _ => exact q.elim
theorem es_unp {ets : List Expr} {k : Nat} {tpos : Pos} {is : List Nat} {u : TGs} {n : Nat} (hc : X.calm = true) (he : EX X Wx ee mv) (hN : Names X ets is u) (hnl : n = is.length) (hn : (assignEach ets X.env).length = n := by rfl) (hst : (assignEach ets X.env).findIdx? (·.1) = none := by rfl)
    (hs : swapsWithSole [.Tuple ets k tpos] ee pos.line X.env = pure false := by rfl) (hw : swappedStores [.Tuple ets k tpos] ee X.env = pure none := by rfl) : ES X Wx (.Assign [.Tuple ets k tpos] ee pos) (unpS is mv) := by
  obtain ⟨t, pt, et⟩ := he
  refine ⟨_, ps_asg pt (pg_tup hc hN.pgs hn hst) hs hw, fun e ι B H ρ O σ D' r q => et e ι B H ρ O σ _ r ?_⟩
  unfold unpS bindS at q
  cases z : mv ρ O with
  | bad => rw [z] at q; exact q
  | err c p O' => rw [z] at q; exact fun ι' B' H' C dx r' i' b' h => q ι' B' H' σ C dx r' i' b' h
  | ok d O' =>
    rw [z] at q
    dsimp only at q
    intro ι' B' H' v r' i' b' hv
    refine gtup_ok hnl hN r' hv ?_
    cases z2 : unpG is d ρ O' with
    | nx ρ' O2 =>
      rw [z2] at q
      intro σ' r2
      have : O2 = O' := by
        unfold unpG at z2
        split at z2
        · split at z2
          · cases z2; rfl
          · cases z2
        · cases z2
      exact q ι' B' H' σ' r2 i' b'
    | bk _ _ => unfold unpG at z2; split at z2 <;> (try split at z2) <;> cases z2
    | ct _ _ => unfold unpG at z2; split at z2 <;> (try split at z2) <;> cases z2
    | ret _ _ => unfold unpG at z2; split at z2 <;> (try split at z2) <;> cases z2
    | err _ _ _ _ => unfold unpG at z2; split at z2 <;> (try split at z2) <;> cases z2
    | bad => rw [z2] at q; exact q.elim
end
end DL

set_option Elab.async false
set_option linter.all false
set_option maxRecDepth 100000
/-! DLRules14: dict displays; list(d), list(d.values()); xs.index(y). -/
namespace L2
open PySem PySem.Spec PyProof.Rows
section
variable {X : Cx}
/-- the view d.values() at p -/
def valuesO (p d : Addr) : HO := .ext fun h => h.IsValuesView p d
theorem valuesO_ok {P : Program} {w : World} {H : Hp} {h : Heap} {p d : Addr} (e : h.get? p = some { cls := .type "dict_values", data := .fields #[.ref d] }) : ObjOk P w H h p (valuesO p d) :=
  ⟨⟨_, e, rfl, rfl⟩, ⟨_, e⟩, fun h1 h2 x k => let ⟨o, ho, r⟩ := x; ⟨o, k o ho, r⟩⟩
def rValuesK : V → List V → Hp → VK → Prop := fun x xs H Q => ∃ (a : Addr) (kvs : List (Key × V)), x = .ref a ∧ xs = [] ∧ Rd H a (.dK kvs) ∧ ∀ p, H p = none → Q (.ref p) (upd H p (valuesO p a))
theorem mt_valuesK : MtR X "dict.values" rValuesK := by
  intro pins s σ H x xs v us Q I rx rxs h
  obtain ⟨a, kvs, rfl, rfl, ha, q⟩ := h
  cases rx
  cases rxs
  obtain ⟨z, lo, vs, rel, dd⟩ := dk_rd I.hok ha
  refine call_meetsIn PySem.F.slot_dict_values dd.typeIs PySem.F.entry_dict_values (PySem.F.args_dict_values_1 _) (meets_dict_values (mixKind X.prog X.w) a lo) ⟨⟨vs, dd⟩, ?_⟩
  have hf : H s.heap.objs.size = none := I.hok.fresh (Nat.le_refl _)
  exact ⟨.ref s.heap.objs.size, upd H s.heap.objs.size (valuesO s.heap.objs.size a), I.laid (t' := s.toks) (fun b u e => Heap.get?_push_of_some _ e) (Nat.le_refl _) (valuesO_ok (Heap.get?_push_size _ rfl)), rfl, q _ hf⟩
/-- d.values(), d read -/
def tVals (to : TE) : TE := fun σ H Q => to σ H fun x H1 => rValuesK x [] H1 Q
theorem pe_valuesK {o : Expr} {to : TE} {apos cpos : Pos} (ho : PE X o to) (hbase : attributeBase o "values" X.env (eval o X.env) = eval o X.env := by rfl) (hline : (apos.endLine == cpos.line) = true := by rfl) : PE X (.Call (.Attribute o "values" apos) [] [] cpos) (tVals to) := by
  refine ⟨fun pins s σ H Q I h => ?_⟩
  refine wpAny_Call_method0_late hbase hline (thn (ho.run pins s σ H _ I h) fun v s1 ⟨x, H1, I1, r1, q1⟩ => ?_)
  have q2 := q1
  obtain ⟨a, kvs, rfl, _, ha, _⟩ := q2
  obtain rfl : v = Value.ref a := r1
  obtain ⟨z, lo, vs, rel, dd⟩ := dk_rd I1.hok ha
  refine ⟨"dict", "dict.values", PySem.F.plainAttrs_dict, PySem.F.slot_dict_values, PySem.F.type_dict_values, dd.typeIs, fun b e => ?_, Calls.callWith_builtin rfl (PySem.evalArgs_none (mt_valuesK pins s1 σ H1 (.ref a) [] (.ref a) [] Q I1 (show RelV (.ref a) (Value.ref a) from rfl) .nil q1))⟩
  cases e
  obtain ⟨ep, ob, es, ho, ex, _⟩ := dd.dictAt
  exact ⟨ob, ho, ex.2.1⟩
theorem vals_at : ∀ {xs : List V} {ws : List Value}, ws.length = xs.length → (∀ (j : Nat) (v : Value), ws[j]? = some v → ∃ x, xs[j]? = some x ∧ RelV x v) → Vals xs ws
  | [], [], _, _ => .nil
  | x :: xs, w :: ws, hl, h => by
    obtain ⟨x', e1, e2⟩ := h 0 w (by simp)
    have e1 : x = x' := by simpa using e1
    subst e1
    refine .cons e2 (vals_at (by simpa using hl) fun j v e => ?_)
    obtain ⟨y, a, b⟩ := h (j + 1) v (by simpa using e)
    exact ⟨y, by simpa using a, b⟩
  | [], _ :: _, hl, _ => by simp at hl
  | _ :: _, [], hl, _ => by simp at hl
theorem kv_at : ∀ {kvs : List (Key × V)} {vs : List (Key × Value)} {i : Nat} {k : Key} {v : Value}, KV kvs vs → vs[i]? = some (k, v) → ∃ x, kvs[i]? = some (k, x) ∧ RelV x v := by
  intro kvs vs i k v r
  unfold KV at r
  induction r generalizing i with
  | nil => intro e; simp at e
  | @cons p q ps qs h t ih =>
    intro e
    cases i with
    | zero =>
      have e : q = (k, v) := by simpa using e
      subst e
      have h1 : p.1 = k := h.1
      exact ⟨p.2, by rw [← h1]; rfl, h.2⟩
    | succ i =>
      obtain ⟨x, h1, h2⟩ := ih (i := i) (by simpa using e)
      exact ⟨x, by simpa using h1, h2⟩
/-- list(d.values()) -/
theorem call_listV (hcalm : X.calm = true) : CallR X (.type "list") (fun xs H Q => ∃ (p a : Addr) (kvs : List (Key × V)), xs = [.ref p] ∧ H p = some (valuesO p a) ∧ Rd H a (.dK kvs) ∧ ∀ q, H q = none → Q (.ref q) (upd H q (.lst (kvs.map (·.2))))) := by
  intro pins s σ H xs us Q I r q
  obtain ⟨p, a, kvs, ex, hp, hd, q⟩ := q
  subst ex
  obtain ⟨u, eu, rx⟩ := vals1 r
  subst eu
  cases rx
  have view : s.heap.IsValuesView p a := (show ObjOk X.prog X.w H s.heap p (valuesO p a) from I.hok p _ hp).1
  obtain ⟨z, lo, vs, rel, dd⟩ := dk_rd I.hok hd
  obtain ⟨ep, hat⟩ := dd.dictAt
  refine PySem.W.kdl_call (PySem.W.kdl_values (knd := mixKind X.prog X.w) (kvs := vs) (ep := ep)) (I.ok.hd hcalm) ⟨view, hat⟩ (by rw [← rel.length]; exact z) fun h' tk acc c' hk hD hacc => ?_
  have hv : Vals (kvs.map (·.2)) acc.toList := vals_at (by rw [Array.length_toList, List.length_map, hacc.1, rel.length]) fun j v e => by
    obtain ⟨k, ek⟩ := hacc.2 j v (by rw [← Array.getElem?_toList]; exact e)
    obtain ⟨x, h1, h2⟩ := kv_at rel ek
    exact ⟨x, by rw [List.getElem?_map, h1]; rfl, h2⟩
  refine ⟨.ref s.heap.objs.size, upd H s.heap.objs.size (.lst (kvs.map (·.2))), I.laid (t' := tk) hk (Nat.le_refl _)
    (show ObjOk X.prog X.w _ _ _ (.lst (kvs.map (·.2))) from ⟨by rw [List.length_map]; exact z, acc.toList, c', hv, by rw [Array.toArray_toList]; exact hD⟩), rfl, q _ (I.hok.fresh (Nat.le_refl _))⟩
end
end L2
namespace DL
open PySem L2
variable [Tabs]
section
variable {K : PySem.W.Frag} {mg : Mg} {e : Ent} {ι : List Addr} {B H : Hp} {ρ : Rho} {O : Sto} {σ : St} {p : Addr}
/-- a new address is kept: it counts among what stood at the entry -/
def pin (e : Ent) (p : Addr) (o : HO) : Ent := { e with H := upd e.H p o }
theorem Rel.noI (r : Rel K mg e ι B H ρ O σ) (hp : H p = none) : p ∉ ι := fun m => by
  obtain ⟨_, _, _, _, x, _⟩ := r.cell m
  obtain ⟨o', x⟩ := x.there
  rw [hp] at x
  cases x
theorem Rel.noB (r : Rel K mg e ι B H ρ O σ) (hp : H p = none) : B p = none := by
  cases q : B p with
  | none => rfl
  | some o => have := r.sub _ _ q; rw [hp] at this; cases this
theorem Rel.noEB (r : Rel K mg e ι B H ρ O σ) (hp : H p = none) : e.B p = none := by
  cases q : e.B p with
  | none => rfl
  | some o => have := r.eB _ _ q; rw [r.noB hp] at this; cases this
theorem Rel.pinned (r : Rel K mg e ι B H ρ O σ) (hp : H p = none) (o : HO) : Rel K mg (pin e p o) ι B (upd H p o) ρ O σ := by
  obtain ⟨r2, h1, h2, h3⟩ := r.fresh hp o
  refine ⟨r2.sub, r2.eB, r2.ei, fun a u q => ?_, fun a u q m mt => ?_, fun a m => ?_, r2.len, fun i x q => ?_, r2.sep, r2.lo, r2.ob, r2.nd, r2.tb⟩
  · have : a ≠ p := by rintro rfl; rw [h1] at q; cases q
    rcases r2.fB a u q with y | y
    · exact .inl y
    · exact .inr ((upd_ne this).trans y)
  · by_cases e1 : a = p
    · subst e1
      have q : (upd e.H a o) a = some u := q
      rw [upd_same] at q ⊢
      exact q
    · have q : (upd e.H p o) a = some u := q
      rw [upd_ne e1] at q
      exact r2.fH a u q m mt
  · have : a ≠ p := by rintro rfl; exact h3 m
    rcases r2.fi a m with y | y
    · exact .inl y
    · exact .inr ((upd_ne this).trans y)
  · obtain ⟨v, k1, k2⟩ := r2.sl i x q
    refine ⟨v, k1, ?_⟩
    cases x with
    | shr d => exact k2
    | hot c q => exact k2
    | own c =>
      obtain ⟨a, e1, e2, e3, e4, e5⟩ := k2
      subst e1
      have : a ≠ p := by
        rintro rfl
        exact r.notOwn hp i c q k1
      exact ⟨a, rfl, e2, e3, (upd_ne this).trans e4, e5⟩
theorem Rel.unpin {o : HO} (r : Rel K mg (pin e p o) ι B H ρ O σ) (h1 : e.H p = none) (h2 : e.B p = none) (h3 : p ∉ e.ι) (hta : p ∉ Tabs.ts) :
    Rel K mg e ι B H ρ O σ ∧ H p = some o ∧ B p = none ∧ p ∉ ι ∧ ∀ (j : Nat) (c' : Cell), ρ[j]? = some (some (.own c')) → σ[j]? ≠ some (some (.ref p)) := by
  have hs : (pin e p o).H p = some o := upd_same
  have hn : (pin e p o).H p ≠ none := by rw [hs]; intro x; cases x
  have back : ∀ a, (pin e p o).H a = none → e.H a = none := fun a q => by
    have : a ≠ p := by rintro rfl; exact hn q
    exact (upd_ne (H := e.H) (o := o) this).symm.trans q
  refine ⟨⟨r.sub, r.eB, r.ei, fun a u q => ?_, fun a u q m mt => ?_, fun a m => ?_, r.len, fun i x q => ?_, r.sep, r.lo, r.ob, r.nd, r.tb⟩, r.fH p o hs h3 hta, ?_, fun m => ?_, fun j c' h k => ?_⟩
  · rcases r.fB a u q with y | y
    · exact .inl y
    · exact .inr (back a y)
  · have : a ≠ p := by rintro rfl; rw [h1] at q; cases q
    exact r.fH a u ((upd_ne (H := e.H) (o := o) this).trans q) m mt
  · rcases r.fi a m with y | y
    · exact .inl y
    · exact .inr (back a y)
  · obtain ⟨v, k1, k2⟩ := r.sl i x q
    refine ⟨v, k1, ?_⟩
    cases x with
    | shr d => exact k2
    | hot c q => exact k2
    | own c =>
      obtain ⟨a, e1, e2, e3, e4, e5⟩ := k2
      exact ⟨a, e1, e2, e3, back a e4, e5⟩
  · cases q : B p with
    | none => rfl
    | some u =>
      rcases r.fB p u q with y | y
      · have y : e.B p = some u := y
        rw [h2] at y; cases y
      · exact (hn y).elim
  · rcases r.fi p m with y | y
    · exact h3 y
    · exact hn y
  · obtain ⟨v, k1, k2⟩ := r.sl j _ h
    obtain ⟨a, e1, e2, e3, e4, e5⟩ := k2
    rw [k] at k1
    cases k1
    cases e1
    exact hn e4
end
section
variable {X : Cx} {Wx : WX} {a b c eo ee ev : Expr} {pos : Pos} {mo mv : ME D}
/-! ### {k: v, ..} -/
def kvCons (mk mv : ME D) (mr : ME (List (Key × D))) : ME (List (Key × D)) := bindE mk fun y => bindE mv fun d => match keyD y with
  | some k => bindE mr fun r => pureE ((k, d) :: r)
  | none => badE
def EvP2 (X : Cx) (Wx : WX) (trs : List (TE × TE)) (m : ME (List (Key × D))) : Prop := ∀ e ι B H ρ O σ (Q : List (V × V) → Hp → Prop), Rel X.K X.mg (en X e) ι B H ρ O σ →
    (match m ρ O with
    | .ok es O' => ∀ ι' B' H' kvs, Rel X.K X.mg (en X e) ι' B' H' ρ O' σ → Pre ι ι' → Same B B' → Paired (KD X.K ι' B') kvs es → Q (kvs.map fun kv => (kV kv.1, kv.2)) H'
    | .err c p O' => ∀ ι' B' H' C dx, Rel X.K X.mg (en X e) ι' B' H' ρ O' σ → Pre ι ι' → Same B B' → Exc X.K X.mg ι' B' C dx c p → Wx (.ref C) (some dx) σ H'
    | .bad => False) → tPairs trs σ H Q
def EP2 (X : Cx) (Wx : WX) (pos : Pos) (keys : List (Option Expr)) (values : List Expr) (m : ME (List (Key × D))) : Prop := ∃ trs, PPs X pos keys values trs ∧ EvP2 X Wx trs m
theorem ep2_nil : EP2 X Wx pos [] [] (pureE []) := ⟨_, pps_nil, fun e ι B H ρ O σ Q r q => q ι B H [] r (Pre.refl _) (Same.refl _) .nil⟩
theorem ep2_cons {ks : List (Option Expr)} {vs : List Expr} {mk mv : ME D} {mr : ME (List (Key × D))} (hk : EX X Wx a mk) (hv : EX X Wx b mv) (hr : EP2 X Wx pos ks vs mr) : EP2 X Wx pos (some a :: ks) (b :: vs) (kvCons mk mv mr) := by
  obtain ⟨t, pt, et⟩ := hk
  obtain ⟨u, pu, eu⟩ := hv
  obtain ⟨trs, pr, er⟩ := hr
  refine ⟨_, pps_cons pt pu pr, fun e ι B H ρ O σ Q r q => et e ι B H ρ O σ _ r ?_⟩
  simp only [kvCons, bindE] at q
  cases z : mk ρ O with
  | bad => rw [z] at q; exact q
  | err c p O' => rw [z] at q; exact q
  | ok y O1 =>
    rw [z] at q
    dsimp only at q
    intro ι1 B1 H1 yv r1 i1 b1 hy
    refine eu e ι1 B1 H1 ρ O1 σ _ r1 ?_
    cases z2 : mv ρ O1 with
    | bad => rw [z2] at q; exact q
    | err c p O' => rw [z2] at q; exact fun ι' B' H' C dx r' i' b' h => q ι' B' H' C dx r' (i1.trans i') (b1.trans b') h
    | ok d O2 =>
      rw [z2] at q
      dsimp only at q
      intro ι2 B2 H2 dv r2 i2 b2 hd
      cases zk : keyD y with
      | none => rw [zk] at q; exact q.elim
      | some k =>
        rw [zk] at q
        refine er e ι2 B2 H2 ρ O2 σ _ r2 ?_
        simp only [bindE] at q
        cases z3 : mr ρ O2 with
        | bad => rw [z3] at q; exact q
        | err c p O' => rw [z3] at q; exact fun ι' B' H' C dx r' i' b' h => q ι' B' H' C dx r' ((i1.trans i2).trans i') ((b1.trans b2).trans b') h
        | ok es O3 =>
          rw [z3] at q
          intro ι3 B3 H3 kvs r3 i3 b3 hkv
          have ek : yv = kV k := keyD_v (hy.dh r1.sub) zk
          have := q ι3 B3 H3 ((k, dv) :: kvs) r3 ((i1.trans i2).trans i3) ((b1.trans b2).trans b3) (.cons ⟨rfl, DA.mono b3 i3 _ _ hd⟩ hkv)
          rw [List.map_cons] at this
          rw [ek]
          exact this
def mergeD (es more : List (Key × D)) : List (Key × D) := more.foldl (fun acc kv => putD acc kv.1 kv.2) es
theorem paired_merge {K : PySem.W.Frag} {ι : List Addr} {B : Hp} : ∀ {more : List (Key × V)} {mes : List (Key × D)} {kvs : List (Key × V)} {es : List (Key × D)}, Paired (KD K ι B) more mes → Paired (KD K ι B) kvs es → Paired (KD K ι B) (mergeK kvs more) (mergeD es mes)
  | _, _, _, _, .nil, h => h
  | p :: _, q :: _, kvs, es, .cons h t, h0 => by
    have e : Paired (KD K ι B) (putK kvs p.1 p.2) (putD es q.1 q.2) := by
      rw [h.1]
      exact paired_put h.2 h0
    show Paired _ (mergeK (putK kvs p.1 p.2) _) (mergeD (putD es q.1 q.2) _)
    exact paired_merge t e
def dispM (m : ME (List (Key × D))) : ME Cell := bindE m fun es => if es.length ≤ 15 then pureE (.dct (mergeD [] es)) else badE
theorem en_dctN {keys : List (Option Expr)} {values : List Expr} {m : ME (List (Key × D))} (h : EP2 X Wx pos keys values m) (hall : keys.all (·.isSome) = true := by rfl) (hl : keys.length = values.length := by rfl) (h0 : keys ≠ [] := by decide)
    (h15 : keys.length ≤ 15 := by decide) : EN X Wx (.Dict keys values pos) (dispM m) := by
  obtain ⟨trs, pt, et⟩ := h
  refine ⟨_, pe_disp pt hall hl h0 h15, fun e ι B H ρ O σ Q r q p hp => ?_⟩
  have f1 := r.free hp
  have f2 := r.noEB hp
  have f3 : p ∉ e.ι := fun m => r.noI hp (r.ei.mem m)
  have f4 := r.fnt hp
  refine et (pin e p (.dK [])) ι B (upd H p (.dK [])) ρ O σ _ (r.pinned hp (.dK [])) ?_
  simp only [dispM, bindE] at q
  cases z : m ρ O with
  | bad => rw [z] at q; exact q
  | err c p' O' =>
    rw [z] at q
    intro ι' B' H' C dx r' i' b' h
    exact q ι' B' H' C dx (r'.unpin (e := en X e) f1 f2 f3 f4).1 i' b' h
  | ok es O' =>
    rw [z] at q
    dsimp only at q
    intro ι' B' H' kvs r' i' b' hkv
    obtain ⟨r2, k1, k2, k3, k4⟩ := r'.unpin (e := en X e) f1 f2 f3 f4
    by_cases hl : es.length ≤ 15
    · rw [if_pos hl] at q
      refine ⟨k1, kvs, rfl, by rw [paired_len hkv]; exact hl, ?_⟩
      have r3 := r2.poke (o := .dK (mergeK [] kvs)) k2 (.inl f1) k4 k3 f4
      exact q ι' B' _ p r3 i' b' ⟨_, upd_same, paired_merge hkv .nil⟩ k2 f1 k3 k4
    · rw [if_neg hl] at q
      exact q.elim
/-! ### list(d), list(d.values()) -/
def kvD : Key → D
  | .inl i => .int i
  | .inr s => .str s
def listL' : List D → Option (List D)
  | [.dct es] => some (es.map fun p => kvD p.1)
  | ds => listL ds
def listM' (m : ME (List D)) : ME (List D) := bindE m fun ds => optO fun O => listL' (ds.map (derefD O))
theorem kvD_da {K : PySem.W.Frag} {ι : List Addr} {B : Hp} (k : Key) : DA K ι B (kV k) (kvD k) := by
  cases k with
  | inl i => exact .int i
  | inr s => exact .str s
theorem keys_da {K : PySem.W.Frag} {ι : List Addr} {B : Hp} : ∀ {kvs : List (Key × V)} {es : List (Key × D)}, kvs.map (·.1) = es.map (·.1) → Paired (DA K ι B) (kvs.map fun p => kV p.1) (es.map fun p => kvD p.1)
  | [], [], _ => .nil
  | [], _ :: _, h => by simp at h
  | _ :: _, [], h => by simp at h
  | p :: kvs, q :: es, h => by
    simp only [List.map_cons, List.cons.injEq] at h
    rw [List.map_cons, List.map_cons, h.1]
    exact .cons (kvD_da _) (keys_da h.2)
theorem el_list' {p : Pos} {e : Expr} {m : ME (List D)} (hm : X.mg "list" = none) (hc : X.calm = true) (ha : EAZ X Wx [e] m) (hg : Gl X "list" := by rfl) (he : starEach [e] X.env = (false, eval e X.env) :: starEach [] X.env := by rfl) :
    EL X Wx (.Call (.Name "list" p) [e] [] pos) (listM' m) := by
  obtain ⟨t, pt, et⟩ := ha
  refine ⟨_, pe_callTy (CallR.or call_list_of (call_listD hc)) hg hm (by decide +kernel) pt (by decide) (by decide) he rfl, fun e ι B H ρ O σ Q r q => et e ι B H ρ O σ _ r ?_⟩
  simp only [listM', bindE, optO] at q
  cases z : m ρ O with
  | err c p O' => rw [z] at q; exact q
  | bad => rw [z] at q; exact q
  | ok ds O' =>
    rw [z] at q
    dsimp only at q
    intro ι' B' H' vs r' i' b' hv
    have hv := rSs.dhO r' hv
    generalize ds.map (derefD O') = ds at hv q
    cases z2 : listL' ds with
    | none => rw [z2] at q; exact q.elim
    | some xs =>
      rw [z2] at q
      unfold listL' at z2
      split at z2
      · cases z2
        obtain ⟨v, rfl, hd⟩ := paired1 hv
        obtain ⟨p, kvs, rfl, h1, h2⟩ := hd
        exact .inr ⟨p, kvs, rfl, h1, q ι' B' H' _ r' i' b' (keys_da (KD.split h2).1)⟩
      · unfold listL at z2
        split at z2
        · cases z2
          obtain ⟨v, rfl, p, ws, rfl, h1, h2⟩ := paired1 hv
          exact .inl ⟨p, ws, rfl, .inl (SqL.of h1), q ι' B' H' ws r' i' b' h2⟩
        · cases z2
          obtain ⟨v, rfl, p, ws, rfl, h1, h2⟩ := paired1 hv
          exact .inl ⟨p, ws, rfl, .inl h1, q ι' B' H' ws r' i' b' h2⟩
        · cases z2
          obtain ⟨v, rfl, p, ws, rfl, h1, h2⟩ := paired1 hv
          exact .inl ⟨p, ws, rfl, .inr h1, q ι' B' H' ws r' i' b' h2⟩
        · cases z2
def valsD : D → Option (List D)
  | .dct es => some (es.map (·.2))
  | _ => none
def valsM (mo : ME D) : ME (List D) := bindE mo fun o => optO fun O => valsD (derefD O o)
theorem el_values {p apos mpos : Pos} (hm : X.mg "list" = none) (hc : X.calm = true) (ho : EZ X Wx eo mo) (hg : Gl X "list" := by rfl) (hbase : attributeBase eo "values" X.env (eval eo X.env) = eval eo X.env := by rfl) (hline : (apos.endLine == mpos.line) = true := by rfl)
    (he : starEach [Expr.Call (.Attribute eo "values" apos) [] [] mpos] X.env = (false, eval (Expr.Call (.Attribute eo "values" apos) [] [] mpos) X.env) :: starEach [] X.env := by rfl) :
    EL X Wx (.Call (.Name "list" p) [.Call (.Attribute eo "values" apos) [] [] mpos] [] pos) (valsM mo) := by
  obtain ⟨t, pt, et⟩ := ho
  refine ⟨_, pe_callTy (call_listV hc) hg hm (by decide +kernel) (pa_cons (pe_valuesK pt hbase hline) pa_nil he) (by decide) (by decide) he rfl, fun e ι B H ρ O σ Q r q => et e ι B H ρ O σ _ r ?_⟩
  simp only [valsM, bindE, optO] at q
  cases z : mo ρ O with
  | err c p O' => rw [z] at q; exact q
  | bad => rw [z] at q; exact q
  | ok o O' =>
    rw [z] at q
    dsimp only at q
    intro ι' B' H' ov r' i' b' hov
    have hd := hov.dhO r'
    cases z2 : valsD (derefD O' o) with
    | none => rw [z2] at q; exact q.elim
    | some xs =>
      rw [z2] at q
      unfold valsD at z2
      split at z2
      · rename_i es zd
        cases z2
        rw [zd] at hd
        obtain ⟨a, kvs, rfl, h1, h2⟩ := hd
        refine ⟨a, kvs, rfl, rfl, h1, fun w hw => ?_⟩
        · obtain ⟨r2, k1, k2, k3⟩ := r'.fresh hw (valuesO w a)
          have ha : a ≠ w := by
            rintro rfl
            rcases h1 with h1 | ⟨o, h1⟩ <;> (rw [hw] at h1; cases h1)
          refine ⟨w, a, kvs, rfl, upd_same, (by rcases h1 with h1 | ⟨o, h1⟩; exact .inl ((upd_ne ha).trans h1); exact .inr ⟨o, (upd_ne ha).trans h1⟩), ?_⟩
          exact q ι' B' _ _ r2 i' b' (KD.split h2).2
      · cases z2
/-! ### xs.index(y) -/
def lfind (y : D) : List D → Option Nat
  | [] => none
  | x :: xs => if eqF x y = true then some 0 else (lfind y xs).map (· + 1)
theorem lfind_at {y : D} : ∀ {xs : List D} {j : Nat}, lfind y xs = some j → (∃ z, xs[j]? = some z ∧ eqF z y = true) ∧ ∀ m z, m < j → xs[m]? = some z → eqF z y = false
  | [], _, h => by cases h
  | x :: xs, j, h => by
    unfold lfind at h
    by_cases e : eqF x y = true
    · rw [if_pos e] at h
      cases h
      exact ⟨⟨x, rfl, e⟩, fun m z hm => absurd hm (Nat.not_lt_zero _)⟩
    · rw [if_neg e] at h
      cases q : lfind y xs with
      | none => rw [q] at h; cases h
      | some k =>
        rw [q] at h
        cases h
        obtain ⟨⟨z, h1, h2⟩, h3⟩ := lfind_at q
        refine ⟨⟨z, by simpa using h1, h2⟩, fun m w hm hw => ?_⟩
        cases m with
        | zero => cases hw; simpa using e
        | succ m =>
          have hm : m + 1 < k + 1 := hm
          exact h3 m w (by omega) (by simpa using hw)
def lidxG (xs : List D) (y : D) : Option D := if flatD y = true ∧ xs.all flatD = true then (lfind y xs).map fun j => .int (j : Nat) else none
def lidx (o y : D) : Option D := match o with
  | .lst xs => lidxG xs y
  | .sea xs => lidxG xs y
  | _ => none
def lidxM (mo mv : ME D) : ME D := bindE mo fun o => bindE mv fun y => optO fun O => lidx (derefD O o) y
def isLs : D → Bool
  | .lst _ => true
  | .sea _ => true
  | _ => false
def lidxM' (mo mv : ME D) : ME D := bindE mo fun o ρ O => if isLs o = true then bindE mv (fun y => optE (lidx o y)) ρ O else .bad
theorem ex_lindex {apos : Pos} (ho : EX X Wx eo mo) (he : EX X Wx ee mv) (hbase : attributeBase eo "index" X.env (eval eo X.env) = eval eo X.env := by rfl)
    (hfew : ((backTo pos (starEach [ee] X.env)).all (fun x => !x.1) && (backToKw pos (keywordEach [] X.env)).all (fun x => x.1.isSome)
      && decide (([ee] : List Expr).length + ([] : List Keyword).length + (if ([] : List Keyword).isEmpty then 0 else 1) < 30)) = true := by rfl)
    (hline : (apos.endLine == pos.line) = true := by rfl) (hs : starEach [ee] X.env = (false, eval ee X.env) :: starEach [] X.env := by rfl) :
    EX X Wx (.Call (.Attribute eo "index" apos) [ee] [] pos) (lidxM' mo mv) := by
  obtain ⟨t, pt, et⟩ := ho
  obtain ⟨u, pu, eu⟩ := he
  refine ⟨_, pe_bm PySem.F.plainAttrs_list PySem.F.slot_list_index PySem.F.type_list_index mt_index pt (pa_cons pu pa_nil hs) hbase hfew hline hs rfl, fun e ι B H ρ O σ Q r q => et e ι B H ρ O σ _ r ?_⟩
  simp only [lidxM', bindE] at q
  cases z : mo ρ O with
  | bad => rw [z] at q; exact q
  | err c p O' => rw [z] at q; exact q
  | ok o O1 =>
    rw [z] at q
    dsimp only at q
    intro ι1 B1 H1 ov r1 i1 b1 hov
    cases zl : isLs o with
    | false => rw [zl] at q; exact q.elim
    | true =>
      rw [zl, if_pos rfl] at q
      have hsq : ∃ a ws xs, ov = V.ref a ∧ SqL X.K B1 a ws ∧ Paired (DA X.K ι1 B1) ws xs ∧ ∀ y, lidx o y = lidxG xs y := by
        cases o with
        | lst xs => cases hov with | lst h1 h2 => exact ⟨_, _, xs, rfl, SqL.of h1, h2, fun _ => rfl⟩
        | sea xs => cases hov with | sea h1 h2 => exact ⟨_, _, xs, rfl, h1, h2, fun _ => rfl⟩
        | _ => cases zl
      obtain ⟨a, ws, xs, rfl, h1, h2, h3⟩ := hsq
      refine ⟨.inl ⟨rfl, ws, r1.sub.seq h1⟩, eu e ι1 B1 H1 ρ O1 σ _ r1 ?_⟩
      cases z2 : mv ρ O1 with
      | bad => rw [z2] at q; exact q
      | err c p O' => rw [z2] at q; exact fun ι' B' H' C dx r' i' b' h => q ι' B' H' C dx r' (i1.trans i') (b1.trans b') h
      | ok y O2 =>
        rw [z2] at q
        simp only [optE] at q
        rw [h3] at q
        intro ι2 B2 H2 yv r2 i2 b2 hy
        have h2' := DA.monos b2 i2 _ _ h2
        cases z3 : lidxG xs y with
        | none => rw [z3] at q; exact q.elim
        | some w =>
          rw [z3] at q
          unfold lidxG at z3
          split at z3
          · rename_i hf
            simp only [Option.map_eq_some_iff] at z3
            obtain ⟨j, k1, rfl⟩ := z3
            obtain ⟨⟨zz, k2, k3⟩, k4⟩ := lfind_at k1
            obtain ⟨zv, k5, k6⟩ := paired_get h2' k2
            have fz := fun (d : D) (m : Nat) (h : xs[m]? = some d) => List.all_eq_true.mp hf.2 d (List.mem_of_getElem? h)
            have fl : ∀ {vs : List V} {ds : List D}, Paired (DA X.K ι2 B2) vs ds → ds.all flatD = true → vs.all flatV = true := by
              intro vs ds p
              induction p with
              | nil => intro _; rfl
              | cons h t ih =>
                intro f
                rw [List.all_cons, Bool.and_eq_true] at f
                rw [List.all_cons, flat_v h f.1, ih f.2]
                rfl
            refine ⟨a, ws, yv, j, zv, rfl, rfl, r2.sub.seq (b2.seq h1), flat_v hy hf.1, fl h2' hf.2, k5, ?_, fun m z' hm hz => ?_, ?_⟩
            · rw [eqF_v k6 hy (fz _ _ k2) hf.1]; exact k3
            · have hm2 : m < xs.length := by
                have := (List.getElem?_eq_some_iff.mp hz).1
                rw [paired_len h2'] at this; exact this
              obtain ⟨zv2, k7, k8⟩ := paired_get h2' (List.getElem?_eq_getElem hm2)
              rw [hz] at k7
              cases k7
              rw [eqF_v k8 hy (fz _ _ (List.getElem?_eq_getElem hm2)) hf.1]
              exact k4 m _ hm (List.getElem?_eq_getElem hm2)
            · exact q ι2 B2 H2 _ r2 (i1.trans i2) (b1.trans b2) (.int _)
          · cases z3
end
end DL

set_option Elab.async false
set_option linter.all false
set_option maxRecDepth 100000
/-! DLWp2: the wishes for DLRules11-14. -/
namespace DL
open PySem L2
variable [Tabs]
section
variable {α β : Type} (ρ : Rho) (O : Sto) (k : α → Sto → Prop) (kd : D → Sto → Prop) (kc : Cell → Sto → Prop) (kl : List D → Sto → Prop) (kp : List (Key × D) → Sto → Prop) (E : KE)
/-- a result, frozen -/
def wZ (r : RE SD) (k : D → Sto → Prop) (E : KE) : Prop := match r with
  | .ok (.shr d) O' => k d O'
  | .ok (.own (.lst xs)) O' => k (.lst xs) O'
  | .ok (.own (.dct xs)) O' => k (.dct xs) O'
  | .err c p O' => E c p O'
  | _ => False
theorem wZ_shr (d : D) : wZ (.ok (.shr d) O) kd E = kd d O := q_ rfl
theorem wZ_lst (xs : List D) : wZ (.ok (.own (.lst xs)) O) kd E = kd (.lst xs) O := q_ rfl
theorem wZ_dct (xs : List (Key × D)) : wZ (.ok (.own (.dct xs)) O) kd E = kd (.dct xs) O := q_ rfl
theorem wZ_err (c : Str) (p : D) : wZ (.err c p O) kd E = E c p O := q_ rfl
def cCallZ (f : MF) (ds : List D) (O1 : Sto) : Prop := wZ (f ds O1) kd E
theorem cCallZ_ap (f : MF) (ds : List D) (O1 : Sto) : cCallZ kd E f ds O1 = wZ (f ds O1) kd E := q_ rfl
theorem wE_frzcall (f : MF) (m : ME (List D)) : wE (frzSD (callR f m)) ρ O kd E = wE m ρ O (cCallZ kd E f) E := by
  unfold frzSD callR cCallZ wZ wE bindE
  cases m ρ O with
  | bad => rfl
  | err c p O' => rfl
  | ok ds O1 =>
    dsimp only
    cases f ds O1 with
    | bad => rfl
    | err c p O' => rfl
    | ok x O2 =>
      cases x with
      | shr d => rfl
      | hot c p => rfl
      | own c => cases c <;> rfl
/-! dict displays -/
def cDisp (es : List (Key × D)) (O1 : Sto) : Prop := es.length ≤ 15 ∧ kc (.dct (mergeD [] es)) O1
theorem cDisp_ap (es : List (Key × D)) (O1 : Sto) : cDisp kc es O1 = (es.length ≤ 15 ∧ kc (.dct (mergeD [] es)) O1) := q_ rfl
theorem wE_disp (m : ME (List (Key × D))) : wE (dispM m) ρ O kc E = wE m ρ O (cDisp kc) E := wE_bindF ρ O kc E m _ _ fun x O1 => wE_ite ρ O1 kc E _ _
def cKv4 (kk : Key) (d : D) (r : List (Key × D)) (O1 : Sto) : Prop := kp ((kk, d) :: r) O1
def cKv3 (mr : ME (List (Key × D))) (d : D) (kk : Key) : Prop := wE mr ρ O (cKv4 kp kk d) E
def cKv2 (mr : ME (List (Key × D))) (y d : D) (O1 : Sto) : Prop := wO (keyD y) (cKv3 ρ O1 kp E mr d)
def cKv1 (mv : ME D) (mr : ME (List (Key × D))) (y : D) (O1 : Sto) : Prop := wE mv ρ O1 (cKv2 ρ kp E mr y) E
theorem cKv4_ap (kk : Key) (d : D) (r : List (Key × D)) (O1 : Sto) : cKv4 kp kk d r O1 = kp ((kk, d) :: r) O1 := q_ rfl
theorem cKv3_ap (mr : ME (List (Key × D))) (d : D) (kk : Key) : cKv3 ρ O kp E mr d kk = wE mr ρ O (cKv4 kp kk d) E := q_ rfl
theorem cKv2_ap (mr : ME (List (Key × D))) (y d : D) (O1 : Sto) : cKv2 ρ kp E mr y d O1 = wO (keyD y) (cKv3 ρ O1 kp E mr d) := q_ rfl
theorem cKv1_ap (mv : ME D) (mr : ME (List (Key × D))) (y : D) (O1 : Sto) : cKv1 ρ kp E mv mr y O1 = wE mv ρ O1 (cKv2 ρ kp E mr y) E := q_ rfl
theorem wE_kv (mk mv : ME D) (mr : ME (List (Key × D))) : wE (kvCons mk mv mr) ρ O kp E = wE mk ρ O (cKv1 ρ kp E mv mr) E :=
  wE_bindF ρ O kp E mk _ _ fun y O1 => wE_bindF ρ O1 kp E mv _ _ fun d O2 => by
    cases h : keyD y with
    | none => rw [cKv2_ap, h]; rfl
    | some kk =>
      rw [cKv2_ap, h, wO_some, cKv3_ap]
      exact wE_bindF ρ O2 kp E mr _ _ fun r O3 => rfl
theorem wO_keyS (s : Str) (q : Key → Prop) : wO (keyD (.str s)) q = q (.inr s) := q_ rfl
theorem wO_keyI (i : Int) (q : Key → Prop) : wO (keyD (.int i)) q = q (.inl i) := q_ rfl
/-! list(..) -/
def cListM' (ds : List D) (O1 : Sto) : Prop := wO (listL' (ds.map (derefD O1))) (cO O1 kl)
theorem cListM'_ap (ds : List D) (O1 : Sto) : cListM' kl ds O1 = wO (listL' (ds.map (derefD O1))) (cO O1 kl) := q_ rfl
theorem wE_listM' (m : ME (List D)) : wE (listM' m) ρ O kl E = wE m ρ O (cListM' kl) E := wE_bindF ρ O kl E m _ _ fun x O1 => wE_optO ρ O1 kl E _
theorem wO_listL'L (xs : List D) (q : List D → Prop) : wO (listL' [.lst xs]) q = q xs := q_ rfl
theorem wO_listL'A (xs : List D) (q : List D → Prop) : wO (listL' [.sea xs]) q = q xs := q_ rfl
theorem wO_listL'T (xs : List D) (q : List D → Prop) : wO (listL' [.tup xs]) q = q xs := q_ rfl
theorem wO_listL'D (es : List (Key × D)) (q : List D → Prop) : wO (listL' [.dct es]) q = q (es.map fun p => kvD p.1) := q_ rfl
def cVals (o : D) (O1 : Sto) : Prop := wO (valsD (derefD O1 o)) (cO O1 kl)
theorem cVals_ap (o : D) (O1 : Sto) : cVals kl o O1 = wO (valsD (derefD O1 o)) (cO O1 kl) := q_ rfl
theorem wE_vals (m : ME D) : wE (valsM m) ρ O kl E = wE m ρ O (cVals kl) E := wE_bindF ρ O kl E m _ _ fun x O1 => wE_optO ρ O1 kl E _
theorem wO_valsD (es : List (Key × D)) (q : List D → Prop) : wO (valsD (.dct es)) q = q (es.map (·.2)) := q_ rfl
/-! xs.index(y) -/
def cLi2 (o y : D) (O1 : Sto) : Prop := wO (lidx o y) (cO O1 kd)
def cLi1 (mv : ME D) (o : D) (O1 : Sto) : Prop := isLs o = true ∧ wE mv ρ O1 (cLi2 kd o) E
theorem cLi2_ap (o y : D) (O1 : Sto) : cLi2 kd o y O1 = wO (lidx o y) (cO O1 kd) := q_ rfl
theorem cLi1_ap (mv : ME D) (o : D) (O1 : Sto) : cLi1 ρ kd E mv o O1 = (isLs o = true ∧ wE mv ρ O1 (cLi2 kd o) E) := q_ rfl
theorem wE_lidx (mo mv : ME D) : wE (lidxM' mo mv) ρ O kd E = wE mo ρ O (cLi1 ρ kd E mv) E := wE_bindF ρ O kd E mo _ _ fun o O1 => by
  rw [cLi1_ap]
  cases h : isLs o with
  | false => simp only [Bool.false_eq_true, false_and, wE, if_false]
  | true =>
    simp only [true_and]
    exact wE_bindF ρ O1 kd E mv _ _ fun y O2 => wE_opt ρ O2 kd E _
theorem isLs_lst (xs : List D) : isLs (.lst xs) = true := q_ rfl
/-! d[k] -/
theorem wO_ixDs (es : List (Key × D)) (s : Str) (q : D → Prop) : wO (ixD (.dct es) (.str s)) q = wO (valD es (.inr s)) q := q_ rfl
theorem wO_ixDi (es : List (Key × D)) (i : Int) (q : D → Prop) : wO (ixD (.dct es) (.int i)) q = wO (valD es (.inl i)) q := q_ rfl
theorem wCe_putDs (es : List (Key × D)) (s : Str) (d : D) (q : Cell → Prop) (h : es.length < sizeLine) : wO (putC (.dct es) (.str s) d) q = q (.dct (putD es (.inr s) d)) := by
  unfold putC
  simp only [keyD, Option.bind_some, if_pos h, wO_some]
theorem wCe_putDi (es : List (Key × D)) (i : Int) (d : D) (q : Cell → Prop) (h : es.length < sizeLine) : wO (putC (.dct es) (.int i) d) q = q (.dct (putD es (.inl i) d)) := by
  unfold putC
  simp only [keyD, Option.bind_some, if_pos h, wO_some]
end
end DL

set_option Elab.async false
set_option linter.all false
set_option maxRecDepth 100000
/-! DLRules15: keys walked, dict comprehensions, del, o.f op= v, all(list), sorted(ints), results into the store. -/
namespace DL
open PySem L2
variable [Tabs]
section
variable {X : Cx} {Wx : WX} {a b c tg it eo ei ee ev : Expr} {pos : Pos} {ma mb mc mo mi mv : ME D}
/-! ### for k in d -/
def keysD : D → Option (List D)
  | .dct es => some (es.map fun p => kvD p.1)
  | _ => none
theorem walk_keys {d : Addr} {o : Obj} {kvs : List (Key × V)} {es : List (Key × D)} {ι : List Addr} {B : Hp} (h : B d = some (.frz o (.dK kvs))) (hk : kvs.map (·.1) = es.map (·.1)) : WalkD X (Itk d o kvs) ι B (es.map fun p => kvD p.1) := by
  intro e ι2 B2 H ρ O σ i r i2 b2
  have hH := r.sub _ _ (b2 _ _ h)
  have hl : kvs.length = es.length := by
    have := congrArg List.length hk
    rw [List.length_map, List.length_map] at this
    exact this
  refine ⟨fun dd hd => ?_, fun hle => ⟨hH, by rw [List.length_map] at hle; omega⟩⟩
  have hi := (List.getElem?_eq_some_iff.mp hd).1
  rw [List.length_map] at hi
  refine ⟨⟨hH, by omega⟩, fun x H' y => ?_⟩
  obtain ⟨rfl, k, v, h1, rfl⟩ := y
  refine ⟨B2, r, Same.refl _, Same.refl _, ?_⟩
  have e1 : (kvs.map (·.1))[i]? = some k := by rw [List.getElem?_map, h1]; rfl
  rw [hk, List.getElem?_map] at e1
  rw [List.getElem?_map] at hd
  cases z : es[i]? with
  | none => rw [z] at hd; cases hd
  | some p =>
    rw [z] at hd e1
    cases hd
    cases e1
    exact kvD_da _
theorem ei_keys (h : EX X Wx a ma) : EI X Wx tg a (bindE ma fun d => optE (keysD d)) := by
  obtain ⟨t, pt, et⟩ := h
  refine ⟨_, pi_keys pt, fun e ι B H ρ O σ R r q => et e ι B H ρ O σ _ r ?_⟩
  simp only [bindE] at q
  cases z : ma ρ O with
  | bad => rw [z] at q; exact q
  | err c p O' => rw [z] at q; exact q
  | ok d O' =>
    rw [z] at q
    dsimp only at q
    intro ι' B' H' v r' i' b' hv
    cases d with
    | dct es =>
      cases hv with
      | dct h1 h2 h3 => exact ⟨_, _, rfl, .inl ⟨_, r'.sub _ _ h1, q ι' B' H' _ r' i' b' (walk_keys h1 h2)⟩⟩
    | _ => exact q.elim
def walkD' : D → Option (List D)
  | .dct es => some (es.map fun p => kvD p.1)
  | d => walkD d
abbrev itM' (m : ME D) : ME (List D) := bindE m fun d => optE (walkD' d)
theorem ei_any' (h : EX X Wx a ma) : EI X Wx tg a (itM' ma) := by
  obtain ⟨wl, pl, el⟩ := ei_any (tg := tg) h
  obtain ⟨wt, pt, et⟩ := ei_keys (tg := tg) h
  refine ⟨fun σ H R => wl σ H R ∨ wt σ H R, ⟨fun pins s σ H R I h => ?_⟩, fun e ι B H ρ O σ R r q => ?_⟩
  · rcases h with h | h
    · exact pl.run pins s σ H R I h
    · exact pt.run pins s σ H R I h
  · simp only [itM', bindE] at q
    cases z : ma ρ O with
    | bad => rw [z] at q; exact q.elim
    | err c p O' => rw [z] at q; exact .inl (el e ι B H ρ O σ R r (by simp only [itM, bindE]; rw [z]; exact q))
    | ok d O' =>
      rw [z] at q
      dsimp only at q
      cases d with
      | dct es => exact .inr (et e ι B H ρ O σ R r (by simp only [bindE]; rw [z]; exact q))
      | _ => exact .inl (el e ι B H ρ O σ R r (by simp only [itM, bindE]; rw [z]; exact q))
/-! ### {k: v for x in xs if t} -/
def compDL (vs : List Nat) (f : D → MS) (mt : ME Bool) (mk me : ME D) : List D → List (Key × D) → ME (List (Key × D))
  | [], acc, ρ, O => .ok acc O
  | d :: ds, acc, ρ, O => match f d (bareR vs ρ) O with
    | .nx ρ1 O1 => match mt ρ1 O1 with
      | .ok true O2 => match mk ρ1 O2 with
        | .ok y O3 => match me ρ1 O3 with
          | .ok z O4 => match keyD y with
            | some k => if acc.length < sizeLine then compDL vs f mt mk me ds (putD acc k z) ρ O4 else .bad
            | none => .bad
          | _ => .bad
        | _ => .bad
      | .ok false O2 => compDL vs f mt mk me ds acc ρ O2
      | _ => .bad
    | _ => .bad
def compDM (vs : List Nat) (mi : ME (List D)) (f : D → MS) (mt : ME Bool) (mk me : ME D) : ME Cell := bindE mi fun ds => bindE (compDL vs f mt mk me ds []) fun ys => pureE (.dct ys)
theorem compDL_noerr {vs : List Nat} {f : D → MS} {mt : ME Bool} {mk me : ME D} {c : Str} {p : D} {O' : Sto} : ∀ {ds : List D} {acc : List (Key × D)} {ρ : Rho} {O : Sto}, compDL vs f mt mk me ds acc ρ O ≠ .err c p O'
  | [], _, _, _, h => by cases h
  | d :: ds, acc, ρ, O, h => by
    unfold compDL at h
    split at h
    · split at h
      · split at h
        · split at h
          · split at h
            · split at h
              · exact compDL_noerr h
              · cases h
            · cases h
          · cases h
        · cases h
      · exact compDL_noerr h
      · cases h
    · cases h
theorem EvN.compD {wi : TI} {g : TG} {tt : TT} {tk te : TE} {vs : List Nat} {mi : ME (List D)} {f : D → MS} {mt : ME Bool} {mk me : ME D} (hi : EvI X Wx wi mi) (hg : EvGW X g vs f) (ht : Ev X WF (rQ Bool) tt mt) (hk : Ev X WF (rD X) tk mk) (he : Ev X WF (rD X) te me) :
    EvN X Wx (tDc wi g tt tk te vs) (compDM vs mi f mt mk me) := by
  intro e ι B H ρ O σ Q r q
  refine hi e ι B H ρ O σ _ r ?_
  simp only [compDM, bindE] at q
  cases z : mi ρ O with
  | bad => rw [z] at q; exact q
  | err c p O' => rw [z] at q; exact q
  | ok ds O' =>
    rw [z] at q
    dsimp only at q
    intro ι' B' H' J r' i' b' wk D hD
    obtain ⟨rD0, f1, f2, f3⟩ := r'.fresh hD (.dK [])
    have nD := r'.notOwn hD
    refine ⟨fun i mm H => mm = ds.length - i ∧ i ≤ ds.length ∧ ∃ O ι2 B2 accV acc, Rel X.K X.mg (en X e) ι2 B2 H ρ O σ ∧ Pre ι' ι2 ∧ Same B' B2 ∧ H D = some (.dK accV) ∧ B2 D = none ∧ D ∉ ι2 ∧ Paired (KD X.K ι2 B2) accV acc ∧
      (match compDL vs f mt mk me (ds.drop i) acc ρ O with
      | .ok ys O2 => ∀ ι3 B3 H3 yv, Rel X.K X.mg (en X e) ι3 B3 H3 ρ O2 σ → Pre ι' ι3 → Same B' B3 → H3 D = some (.dK yv) → B3 D = none → D ∉ ι3 → Paired (KD X.K ι3 B3) yv ys → Q (.ref D) H3
      | .err _ _ _ => False
      | .bad => False), ⟨ds.length, by simp, Nat.zero_le _, O', ι', B', [], [], rD0, Pre.refl _, Same.refl _, upd_same, f1, f3, .nil, ?_⟩, ?_⟩
    · rw [List.drop_zero]
      cases z2 : compDL vs f mt mk me ds [] ρ O' with
      | bad => rw [z2] at q; exact q
      | err c p O2 => exact absurd z2 compDL_noerr
      | ok ys O2 =>
        rw [z2] at q
        exact fun ι3 B3 H3 yv r3 i3 b3 h1 h2 h3 h4 => q ι3 B3 H3 D r3 (i'.trans i3) (b'.trans b3) ⟨yv, h1, h4⟩ h2 f2 h3 nD
    · rintro i mm H ⟨rfl, hil, O, ι2, B2, accV, acc, r2, i2, b2, hDv, hDB, hDi, hacc, q2⟩
      have rb := r2.block vs (hot := (en X ⟨ι2, B2, H, none⟩).hot)
      obtain ⟨w1, w2⟩ := wk ⟨ι2, B2, H, none⟩ ι2 B2 H _ O _ i rb i2 b2
      by_cases hlt : i < ds.length
      · have hd : ds[i]? = some ds[i] := List.getElem?_eq_getElem hlt
        have hdr : ds.drop i = ds[i] :: ds.drop (i + 1) := List.drop_eq_getElem_cons hlt
        rw [hdr] at q2
        unfold compDL at q2
        obtain ⟨go, step⟩ := w1 _ hd
        refine .inr ⟨go, fun H' => i + 1 ≤ ds.length ∧ ∃ O ι2 B2 accV acc, Rel X.K X.mg (en X e) ι2 B2 H' ρ O σ ∧ Pre ι' ι2 ∧ Same B' B2 ∧ H' D = some (.dK accV) ∧ B2 D = none ∧ D ∉ ι2 ∧ Paired (KD X.K ι2 B2) accV acc ∧
          (match compDL vs f mt mk me (ds.drop (i + 1)) acc ρ O with
          | .ok ys O2 => ∀ ι3 B3 H3 yv, Rel X.K X.mg (en X e) ι3 B3 H3 ρ O2 σ → Pre ι' ι3 → Same B' B3 → H3 D = some (.dK yv) → B3 D = none → D ∉ ι3 → Paired (KD X.K ι3 B3) yv ys → Q (.ref D) H3
          | .err _ _ _ => False
          | .bad => False), fun H' h => ⟨ds.length - (i + 1), by omega, rfl, h⟩, fun x H3 y => ?_⟩
        obtain ⟨B3, r3, b3, s3, hx⟩ := step x H3 y
        refine hg x _ _ ι2 B3 H3 _ O _ _ r3 hx ?_
        cases z2 : f ds[i] (bareR vs ρ) O with
        | nx ρ1 O1 =>
          rw [z2] at q2
          dsimp only at q2
          intro ι4 B4 H4 σ4 r4 i4 b4 hw
          refine ⟨by rw [hw]; exact wipe_wipe σ vs vs (fun _ h => h), ?_⟩
          refine ht _ ι4 B4 H4 ρ1 O1 σ4 _ r4 ?_
          have back : ∀ {ι5 : List Addr} {B5 H5 : Hp} {O5 : Sto} {ρ5 : Rho} {σ5 : St}, Rel X.K X.mg (en X ⟨ι2, B2, H, none⟩) ι5 B5 H5 ρ5 O5 σ5 → Rel X.K X.mg (en X e) ι5 B5 H5 ρ O5 σ ∧ H5 D = some (.dK accV) ∧ B5 D = none ∧ D ∉ ι5 := fun {ι5 B5 H5 O5 ρ5 σ5} r5 => by
            refine ⟨r2.after r5.bare, r5.fH D _ hDv hDi (r2.nt hDv fun ps z => by cases z), ?_, fun m => ?_⟩
            · cases z5 : B5 D with
              | none => rfl
              | some o =>
                rcases r5.fB D o z5 with y | y
                · have y' : B2 D = some o := y
                  rw [hDB] at y'; cases y'
                · have y' : H D = none := y
                  rw [hDv] at y'; cases y'
            · rcases r5.fi D m with y | y
              · exact hDi y
              · have y' : H D = none := y
                rw [hDv] at y'; cases y'
          cases z3 : mt ρ1 O1 with
          | bad => rw [z3] at q2; exact q2.elim
          | err c p O2 => rw [z3] at q2; exact q2.elim
          | ok k O2 =>
            rw [z3] at q2
            intro ι5 B5 H5 k' r5 i5 b5 hk'
            cases hk'
            cases k with
            | false =>
              dsimp only at q2
              rw [if_neg Bool.false_ne_true]
              obtain ⟨r6, h1, h2, h3⟩ := back r5
              exact ⟨hlt, O2, ι5, B5, accV, acc, r6, ((i2.trans i4).trans i5), ((b2.trans b3).trans b4).trans b5, h1, h2, h3, KD.mono ((b3.trans b4).trans b5) (i4.trans i5) _ _ hacc, q2⟩
            | true =>
              dsimp only at q2
              rw [if_pos rfl]
              refine hk _ ι5 B5 H5 ρ1 O2 σ4 _ r5 ?_
              cases z4 : mk ρ1 O2 with
              | bad => rw [z4] at q2; exact q2.elim
              | err c p O3 => rw [z4] at q2; exact q2.elim
              | ok y O3 =>
                rw [z4] at q2
                dsimp only at q2
                intro ι6 B6 H6 yv r6 i6 b6 hy
                refine he _ ι6 B6 H6 ρ1 O3 σ4 _ r6 ?_
                cases z5 : me ρ1 O3 with
                | bad => rw [z5] at q2; exact q2.elim
                | err c p O4 => rw [z5] at q2; exact q2.elim
                | ok zz O4 =>
                  rw [z5] at q2
                  dsimp only at q2
                  intro ι7 B7 H7 zv r7 i7 b7 hzv
                  cases zk : keyD y with
                  | none => rw [zk] at q2; exact q2.elim
                  | some kk =>
                    rw [zk] at q2
                    dsimp only at q2
                    obtain ⟨r8, h1, h2, h3⟩ := back r7
                    have hacc7 := KD.mono ((((b3.trans b4).trans b5).trans b6).trans b7) (((i4.trans i5).trans i6).trans i7) _ _ hacc
                    by_cases hz : acc.length < sizeLine
                    · rw [if_pos hz] at q2
                      exact ⟨accV, kk, keyD_v (hy.dh r6.sub) zk, h1, by rw [paired_len hacc]; exact hz, hlt, O4, ι7, B7, putK accV kk zv, putD acc kk zz, r8.poke h2 (.inl f2) nD h3 (r8.nt h1 fun ps z => by cases z), (((i2.trans i4).trans i5).trans i6).trans i7, ((((b2.trans b3).trans b4).trans b5).trans b6).trans b7, upd_same, h2, h3, paired_put hzv hacc7, q2⟩
                    · rw [if_neg hz] at q2
                      exact q2.elim
        | bk ρ' O' => rw [z2] at q2; exact q2.elim
        | ct ρ' O' => rw [z2] at q2; exact q2.elim
        | ret x O' => rw [z2] at q2; exact q2.elim
        | err c p ρ' O' => rw [z2] at q2; exact q2.elim
        | bad => rw [z2] at q2; exact q2.elim
      · have hi : ds.length ≤ i := by omega
        rw [List.drop_eq_nil_of_le hi] at q2
        exact .inl ⟨w2 hi, q2 ι2 B2 H accV r2 i2 b2 hDv hDB hDi hacc⟩
theorem en_dcomp {kx vx : Expr} {ifs : List Expr} {scope : Scope} {own : List (Str × Nat)} {mi : ME (List D)} {f : D → MS} {mt : ME Bool} {mk me : ME D} {g : TG} (hc : X.calm = true) (hN : X.N.Nodup) (hi : EI X Wx tg it mi) (ok : BlkOk X.N X.env.scope scope own)
    (hg : ∀ (s : Shared) (H : Hp) (C : Addr) (cl : List (Str × Addr)) (fp : List Addr), PG (X.blk s H scope (compEnvC scope cl C X.env) fp) tg g) (eg : EvGW X g (own.map (·.2)) f)
    (ht : ∀ (s : Shared) (H : Hp) (C : Addr) (cl : List (Str × Addr)) (fp : List Addr), ETs (X.blk s H scope (compEnvC scope cl C X.env) fp) WF ifs mt)
    (hk : ∀ (s : Shared) (H : Hp) (C : Addr) (cl : List (Str × Addr)) (fp : List Addr), EX (X.blk s H scope (compEnvC scope cl C X.env) fp) WF kx mk)
    (he : ∀ (s : Shared) (H : Hp) (C : Addr) (cl : List (Str × Addr)) (fp : List Addr), EX (X.blk s H scope (compEnvC scope cl C X.env) fp) WF vx me) (hs : ∀ x, foldedSetIterable it X.env x = pure x := by intro _; rfl) :
    EN X Wx (.DictComp kx vx [⟨tg, it, ifs, 0⟩] scope pos) (compDM (own.map (·.2)) mi f mt mk me) := by
  obtain ⟨wi, pi, ei⟩ := hi
  refine ⟨_, pe_dc (g := g) (tt := canon X WF (rQ Bool) mt) (tk := canon X WF (rD X) mk) (tv := canon X WF (rD X) me) hc hN pi ok hg (fun s H C cl fp => (ht s H C cl fp).ptsB hc) (fun s H C cl fp => (hk s H C cl fp).peB hc) (fun s H C cl fp => (he s H C cl fp).peB hc) hs, EvN.compD ei eg canon_ev canon_ev canon_ev⟩
/-! ### all(xs), a list of truth values -/
def blsD : List D → Option (List Bool)
  | [] => some []
  | .bl b :: ds => (blsD ds).map (b :: ·)
  | _ => none
theorem blsD_v {K : PySem.W.Frag} {ι : List Addr} {B : Hp} : ∀ {vs : List V} {ds : List D} {ys : List Bool}, Paired (DA K ι B) vs ds → blsD ds = some ys → vs = ys.map V.bl
  | _, _, _, .nil, e => by cases e; rfl
  | _, d :: _, _, .cons h t, e => by
    cases d with
    | bl s =>
      simp only [blsD, Option.map_eq_some_iff] at e
      obtain ⟨r, e1, rfl⟩ := e
      cases h
      rw [blsD_v t e1]
      rfl
    | _ => cases e
def allF : List D → Option D
  | [.lst xs] => (blsD xs).map fun bs => .bl (bs.all id)
  | _ => none
def anyF : List D → Option D
  | [.lst xs] => (blsD xs).map fun bs => .bl (bs.any id)
  | _ => none
theorem opN_all : OpN X (rAll X.K) allF := by
  intro xs ds z e ι B H ρ O σ Q r hx hz q
  unfold allF at hz
  split at hz
  · simp only [Option.map_eq_some_iff] at hz
    obtain ⟨bs, h1, rfl⟩ := hz
    obtain ⟨v, rfl, p, ws, rfl, h2, h3⟩ := paired1 hx
    have := blsD_v h3 h1
    subst this
    exact ⟨p, bs, rfl, SqL.of h2, atomI r q (.bl _)⟩
  · cases hz
theorem opN_any : OpN X (rAny X.K) anyF := by
  intro xs ds z e ι B H ρ O σ Q r hx hz q
  unfold anyF at hz
  split at hz
  · simp only [Option.map_eq_some_iff] at hz
    obtain ⟨bs, h1, rfl⟩ := hz
    obtain ⟨v, rfl, p, ws, rfl, h2, h3⟩ := paired1 hx
    have := blsD_v h3 h1
    subst this
    exact ⟨p, bs, rfl, SqL.of h2, atomI r q (.bl _)⟩
  · cases hz
theorem ex_all {p : Pos} {e : Expr} {m : ME (List D)} (hm : X.mg "all" = none) (hc : X.calm = true) (ha : EAZ X Wx [e] m) (hg : Gl X "all" := by rfl) (he : starEach [e] X.env = (false, eval e X.env) :: starEach [] X.env := by rfl) : EX X Wx (.Call (.Name "all" p) [e] [] pos) (callM allF m) :=
  ex_callB (cr_all hc) opN_all hm ha hg (by decide +kernel) (by decide) (by decide) he rfl
theorem ex_any {p : Pos} {e : Expr} {m : ME (List D)} (hm : X.mg "any" = none) (hc : X.calm = true) (ha : EAZ X Wx [e] m) (hg : Gl X "any" := by rfl) (he : starEach [e] X.env = (false, eval e X.env) :: starEach [] X.env := by rfl) : EX X Wx (.Call (.Name "any" p) [e] [] pos) (callM anyF m) :=
  ex_callB (cr_any hc) opN_any hm ha hg (by decide +kernel) (by decide) (by decide) he rfl
/-! ### results into the store -/
/-- what a call gives: data, or a new cell, which comes into the store -/
def stoSD (m : ME SD) : ME D := bindE m fun x _ O => match x with
  | .shr d => .ok d O
  | .own c => .ok (.obj O.length) (O ++ [c])
  | .hot _ _ => .bad
theorem ER.o {m : ME SD} (h : ER X Wx a m) : EX X Wx a (stoSD m) := by
  obtain ⟨t, pt, et⟩ := h
  refine ⟨t, pt, fun e ι B H ρ O σ Q r q => et e ι B H ρ O σ Q r ?_⟩
  simp only [stoSD, bindE] at q
  cases z : m ρ O with
  | bad => rw [z] at q; exact q.elim
  | err c p O' => rw [z] at q; exact q
  | ok x O' =>
    rw [z] at q
    dsimp only at q
    intro ι' B' H' v r' i' b' hv
    cases x with
    | shr d => exact q ι' B' H' v r' i' b' hv
    | hot c p => exact hv.elim
    | own c =>
      obtain ⟨ad, rfl, ca, hb, he, hn, hne⟩ := hv
      obtain ⟨r2, p2, at2⟩ := r'.addAt ca hb he hn hne
      exact q _ _ _ _ r2 (i'.trans p2) b' (.obj at2)
/-! ### del x[k], a dict that a slot owns -/
def delC : Cell → D → Option Cell
  | .dct es, y => (keyD y).bind fun k => if (valD es k).isSome = true then some (.dct (dropD es k)) else none
  | _, _ => none
def delOwnS (j : Nat) (mi : ME D) : MS := fun ρ O => if isOwnC ρ[j]? = true then bindS mi (fun y ρ O => match ρ[j]? with
  | some (some (.own c)) => (match delC c (derefD O y) with
    | some c' => .nx (ρ.set j (some (.own c'))) O
    | none => .bad)
  | _ => .bad) ρ O else .bad
theorem es_delOwn (j : Nat) {x : Str} {p p2 : Pos} (hi : EZ X Wx ei mi) (hN : X.N[j]? = some x := by rfl) (hv : Vis X.env.scope x := by first | exact Or.inl rfl | exact Or.inr (Or.inl rfl) | exact Or.inr (Or.inr rfl)) (hd : (x == ("__debug__" : Str)) = false := by decide)
    (hcd : (x == ("__classdict__" : Str)) = false := by decide) : ES X Wx (.Delete [.Subscript (.Name x p) ei p2] pos) (delOwnS j mi) := by
  obtain ⟨ti, pi, eti⟩ := hi
  refine ⟨_, ps_ddel (pe_var (i := j) hN hv hd hcd) pi, fun e ι B H ρ O σ D' r q => ?_⟩
  unfold delOwnS at q
  split at q
  · rename_i z0
    unfold isOwnC at z0
    split at z0
    · rename_i c0 zs
      obtain ⟨w, k1, a1, k2, k3, k4, k5, k6⟩ := r.sl j _ zs
      subst k2
      refine ⟨_, k1, eti e ι B H ρ O σ _ r ?_⟩
      unfold bindS at q
      cases z2 : mi ρ O with
      | bad => rw [z2] at q; exact q
      | err c p O' =>
        rw [z2] at q
        exact fun ι' B' H' C dx r' i' b' h => q ι' B' H' σ C dx r' i' b' h
      | ok y O2 =>
        rw [z2] at q
        dsimp only at q
        intro ι2 B2 H2 yv r2 i2 b2 hy
        rw [zs] at q
        dsimp only at q
        obtain ⟨w2, m1, a2, m2, m3, m4, m5, m6⟩ := r2.sl j _ zs
        rw [k1] at m1
        cases m1
        cases m2
        cases z3 : delC c0 (derefD O2 y) with
        | none => rw [z3] at q; exact q.elim
        | some c' =>
          rw [z3] at q
          unfold delC at z3
          split at z3
          · rename_i es
            cases zk : keyD (derefD O2 y) with
            | none => rw [zk] at z3; cases z3
            | some k =>
              rw [zk] at z3
              simp only [Option.bind_some] at z3
              split at z3
              · rename_i hsome
                cases z3
                obtain ⟨kvs, g1, g2⟩ := m3
                refine ⟨_, kvs, k, rfl, g1, keyD_v (hy.dhO r2) zk, ?_, ?_⟩
                · rcases paired_val k g2 with ⟨_, h2⟩ | ⟨v, d, h1, _, _⟩
                  · rw [h2] at hsome; cases hsome
                  · rw [h1]; rfl
                · exact q ι2 B2 _ σ (r2.putOwn zs k1 ⟨_, upd_same, paired_drop' g2⟩) i2 b2
              · cases z3
          · cases z3
    · cases z0
  · exact q.elim
end
end DL

set_option Elab.async false
set_option linter.all false
set_option maxRecDepth 100000
/-! DLRules16: methods and makers of the text's classes; o.f op= v; sorted(ints), sorted(texts). -/
namespace DL
open PySem L2
variable [Tabs]
/-! ### the text's classes -/
/-- the j-th statement of a class's body -/
def memberOf : Stmt → Nat → Stmt
  | .ClassDef _ _ _ body _ _ _ _ _ _ _, j => body.getD j (.Pass ⟨0, 0, 0, 0⟩)
  | _, _ => .Pass ⟨0, 0, 0, 0⟩
/-- the def st stands in the class c as mn -/
def MDf (K : PySem.W.Frag) (mg : Mg) (c mn qual : Str) (st : Stmt) (ps : List Str) : Prop :=
  ∃ (C a : Addr) (fd : FuncData), mg c = some (.ref C) ∧ Cls K C ∧ Meth K C mn a ∧ Fun K mn qual st a fd ∧ ∀ (s : Shared) (us : List Value), us.length = ps.length → BindsTo s fd ⟨us, []⟩ (ps.zip us)
/-- .. as its __init__ -/
def IDf (K : PySem.W.Frag) (mg : Mg) (c qual : Str) (st : Stmt) (ps : List Str) : Prop :=
  ∃ (C a : Addr) (fd : FuncData), mg c = some (.ref C) ∧ Mk K C a ∧ Fun K "__init__" qual st a fd ∧ ∀ (s : Shared) (us : List Value), us.length = ps.length → BindsTo s fd ⟨us, []⟩ (ps.zip us)
section
variable {P : Program} {w : World} {K : PySem.W.Frag} {mg : Mg} {base : Heap} {c mn qual : Str} {st : Stmt} {N ps : List Str} {k : Nat} {m : MS}
theorem meth_of (D : MDf K mg c mn qual st ps) (S : FnScope N ps (defScope st)) (b : Bod P w K mg base qual st N k m) : MethC P w K mg base (k + 1) c mn ps.length (runF N.length m) := by
  obtain ⟨C, a, fd, hm, hc, M, F, hb⟩ := D
  exact ⟨C, a, fd, ps, hm, hc, M, fun s us _ h => by rw [List.append_nil] at h ⊢; exact hb s us h, fn_ok F S (b a)⟩
theorem make_of (D : IDf K mg c qual st ps) (S : FnScope N ps (defScope st)) (b : Bod P w K mg base qual st N k m) : MakC P w K mg base (k + 1) c ps.length (runF N.length m) := by
  obtain ⟨C, a, fd, hm, M, F, hb⟩ := D
  exact ⟨C, a, fd, ps, hm, M, fun s us _ h => by rw [List.append_nil] at h ⊢; exact hb s us h, fn_ok F S (b a)⟩
theorem cls_mk {h : Heap} {C : Addr} {fl : List Str} (X : K.In h) (G : h.Ns mainGlobals mg) (a : PySem.W.nsIn K mainGlobals c = some (some (.ref C))) (p1 : PySem.W.plainGet K C Str.empty = true) (p2 : PySem.W.hasDictIn K C = true) (p3 : PySem.W.plainOver K C = true)
    (p4 : PySem.W.findIn K (.ref C) "__setattr__" = some (some (.builtin "object.__setattr__"))) (n : ∀ f, fl.contains f = true → NoAttr K C f) : ClsX K mg c fl :=
  ⟨C, PySem.W.mg_of X G a, ⟨p1, p2, p3, p4⟩, n⟩
theorem noAttr_nil {C : Addr} : ∀ f, ([] : List Str).contains f = true → NoAttr K C f := fun f h => by cases h
theorem noAttr_cons {C : Addr} {x : Str} {fl : List Str} (h : PySem.W.findIn K (.ref C) x = some none) (r : ∀ f, fl.contains f = true → NoAttr K C f) : ∀ f, (x :: fl).contains f = true → NoAttr K C f := fun f q => by
  rw [List.contains_cons, Bool.or_eq_true] at q
  rcases q with q | q
  · rw [beq_iff_eq.mp q]; exact h
  · exact r f q
theorem tab_nil : Tab K mg [] := fun c fl h => by cases h
theorem tab_cons {x : Str} {fl : List Str} {T : List (Str × List Str)} (h : ClsX K mg x fl) (r : Tab K mg T) : Tab K mg ((x, fl) :: T) := fun c gl q => by
  rw [List.lookup_cons] at q
  split at q
  · rename_i e
    cases q
    rw [beq_iff_eq.mp e]; exact h
  · exact r c gl q
theorem mdf_mk {h : Heap} {C f : Addr} (X : K.In h) (G : h.Ns mainGlobals mg) {od an : Option Addr} {sl : Array (Option Value)} {oc kV dc pm cd ct : Value}
    (a : PySem.W.nsIn K mainGlobals c = some (some (.ref C))) (p1 : PySem.W.plainGet K C Str.empty = true) (p2 : PySem.W.hasDictIn K C = true) (p3 : PySem.W.plainOver K C = true)
    (p4 : PySem.W.findIn K (.ref C) "__setattr__" = some (some (.builtin "object.__setattr__")))
    (m1 : PySem.W.findIn K (.ref C) mn = some (some (.ref f))) (m2 : PySem.W.isFn K (.ref f) = true)
    (l : K.lookup f = some ⟨oc, od, .func (PySem.W.fnOf mn qual (defArgs st) (defBody st) (defScope st) .none kV dc pm an cd ct), sl⟩) (cc : PySem.W.codeIn K cd qual = true) (k : PySem.W.keepIn K (.ref f) = true)
    (b : ∀ (kV doc pm : Value) (an : Option Addr) (cdv ct : Value) (us : List Value), us.length = ps.length → bindArgs (PySem.W.fnOf mn qual (defArgs st) (defBody st) (defScope st) .none kV doc pm an cdv ct) ⟨us, []⟩ = pure (ps.zip us)) : MDf K mg c mn qual st ps := by
  have F := fun_mk (st := st) l cc k
  exact ⟨C, f, _, PySem.W.mg_of X G a, ⟨p1, p2, p3, p4⟩, ⟨m1, m2, k⟩, F, fun s us h => .of_eq (b _ _ _ _ _ _ us h)⟩
theorem idf_mk {h : Heap} {C f : Addr} (X : K.In h) (G : h.Ns mainGlobals mg) {od an : Option Addr} {sl : Array (Option Value)} {oc kV dc pm cd ct : Value}
    (a : PySem.W.nsIn K mainGlobals c = some (some (.ref C))) (p1 : PySem.W.makesIn K C = true) (p2 : PySem.W.findIn K (.ref C) "__init__" = some (some (.ref f))) (p3 : PySem.W.isFn K (.ref f) = true) (p4 : PySem.W.keepIn K (.ref C) = true)
    (l : K.lookup f = some ⟨oc, od, .func (PySem.W.fnOf "__init__" qual (defArgs st) (defBody st) (defScope st) .none kV dc pm an cd ct), sl⟩) (cc : PySem.W.codeIn K cd qual = true) (k : PySem.W.keepIn K (.ref f) = true)
    (b : ∀ (kV doc pm : Value) (an : Option Addr) (cdv ct : Value) (us : List Value), us.length = ps.length → bindArgs (PySem.W.fnOf "__init__" qual (defArgs st) (defBody st) (defScope st) .none kV doc pm an cdv ct) ⟨us, []⟩ = pure (ps.zip us)) : IDf K mg c qual st ps := by
  have F := fun_mk (st := st) l cc k
  exact ⟨C, f, _, PySem.W.mg_of X G a, ⟨p1, p2, p3, p4⟩, F, fun s us h => .of_eq (b _ _ _ _ _ _ us h)⟩
end
/-- one class, one method -/
theorem tbl_one {P : Program} {w : World} {K : PySem.W.Frag} {mg : Mg} {base : Heap} {c mn : Str} {n k k' : Nat} {f : MF} (h : MethC P w K mg base k c mn n f) (hk : k ≤ k') : ∀ c' f', [(c, f)].lookup c' = some f' → ∃ k, k ≤ k' ∧ MethC P w K mg base k c' mn n f' := fun c' f' q => by
  rw [List.lookup_cons] at q
  split at q
  · rename_i e
    cases q
    rw [beq_iff_eq.mp e]
    exact ⟨k, hk, h⟩
  · cases q
section
variable {X : Cx} {Wx : WX} {eo ev : Expr} {pos tpos : Pos} {mo mv : ME D} {fn : Str} {T : List (Str × List Str)}
/-! ### o.f op= v, whole numbers -/
def clsO (O : Sto) (o : D) : Option Str := (insO O o).map fun p => p.2.1
def fldAugS (T : List (Str × List Str)) (fn : Str) (f : D → D → Option D) (mo mv : ME D) : MS := bindS mo fun o ρ O => match fldG T fn o O with
  | some d => bindS mv (fun y ρ O2 => match f d (derefD O2 y) with
    | some z => if clsO O2 o = clsO O o then (match fldP T fn o z O2 with
      | some O3 => .nx ρ O3
      | none => .bad) else .bad
    | none => .bad) ρ O
  | none => .bad
def iAdd : D → D → Option D
  | .int i, .int j => some (.int (i + j))
  | _, _ => none
def iSub : D → D → Option D
  | .int i, .int j => some (.int (i - j))
  | _, _ => none
def InF (rd : V → V → Hp → VK → Prop) (f : D → D → Option D) : Prop := ∀ (K : PySem.W.Frag) (ι : List Addr) (B H : Hp) x y a b z (Q : VK), DA K ι B x a → DH K ι B H y b → f a b = some z → (∀ v, DA K ι B v z → Q v H) → rd x y H Q
theorem inF_add : InF rAdd iAdd := by
  intro K ι B H x y a b z Q hx hy hz q
  unfold iAdd at hz
  split at hz
  · cases hz; cases hx; cases hy
    exact ⟨_, _, rfl, rfl, q _ (.int _)⟩
  · cases hz
theorem inF_sub : InF rSub iSub := by
  intro K ι B H x y a b z Q hx hy hz q
  unfold iSub at hz
  split at hz
  · cases hz; cases hx; cases hy
    exact ⟨_, _, rfl, rfl, q _ (.int _)⟩
  · cases hz
theorem es_fldAug {op : Operator} {rd : V → V → Hp → VK → Prop} {f : D → D → Option D} (hop : InOp X op rd) (hf : InF rd f) (hT : Tab X.K X.mg T) (ho : EX X Wx eo mo) (hv : EZ X Wx ev mv) : ES X Wx (.AugAssign (.Attribute eo fn tpos) op ev pos) (fldAugS T fn f mo mv) := by
  obtain ⟨to, po, eto⟩ := ho
  obtain ⟨tv, pv, etv⟩ := hv
  refine ⟨_, ps_fldaug po pv hop, fun e ι B H ρ O σ D' r q => eto e ι B H ρ O σ _ r ?_⟩
  unfold fldAugS bindS at q
  cases z : mo ρ O with
  | bad => rw [z] at q; exact q
  | err c p O' => rw [z] at q; exact fun ι' B' H' C dx r' i' b' h => q ι' B' H' σ C dx r' i' b' h
  | ok o O1 =>
    rw [z] at q
    dsimp only at q
    intro ι1 B1 H1 ov r1 i1 b1 hov
    cases z2 : fldG T fn o O1 with
    | none => rw [z2] at q; exact q.elim
    | some d =>
      rw [z2] at q
      dsimp only at q
      obtain ⟨n, c, fs, rfl, h2, h3, h4⟩ := fldG_eq z2
      cases hov with
      | obj hi =>
        obtain ⟨⟨C, dx, fvs, k1, k2, k3⟩, _⟩ := r1.ob n _ _ h2 hi
        obtain ⟨C', g1, g2, g3⟩ := fldOk_c hT h3
        have : C' = C := by
          have := g1.symm.trans k1
          cases this
          rfl
        subst this
        rcases lookup_FD (f := fn) k3 with ⟨_, l2⟩ | ⟨w, d', l1, l2, l3⟩
        · rw [h4] at l2; cases l2
        · rw [h4] at l2
          cases l2
          refine ⟨_, _, dx, fvs, w, rfl, k2, g2, g3, l1, etv e ι1 B1 H1 ρ O1 σ _ r1 ?_⟩
          cases z3 : mv ρ O1 with
          | bad => rw [z3] at q; exact q
          | err c p O' => rw [z3] at q; exact fun ι' B' H' C dx r' i' b' h => q ι' B' H' σ C dx r' (i1.trans i') (b1.trans b') h
          | ok y O2 =>
            rw [z3] at q
            dsimp only at q
            intro ι2 B2 H2 yv r2 i2 b2 hy
            cases z4 : f d (derefD O2 y) with
            | none => rw [z4] at q; exact q.elim
            | some zz =>
              rw [z4] at q
              dsimp only at q
              by_cases hcl : clsO O2 (.obj n) = clsO O1 (.obj n)
              case neg => rw [if_neg hcl] at q; exact q.elim
              rw [if_pos hcl] at q
              cases z5 : fldP T fn (.obj n) zz O2 with
              | none => rw [z5] at q; exact q.elim
              | some O3 =>
                rw [z5] at q
                dsimp only at q
                refine hf X.K ι2 B2 H2 _ _ _ _ _ _ (DA.mono b2 i2 _ _ l3) (hy.dhO r2) z4 fun v hv => ?_
                obtain ⟨a', C2, dx2, fv2, e1, g4, g5, g6, g7, g8⟩ := fldP_ok hT r2 (.obj (i2 _ _ hi)) hv z5
                cases e1
                obtain ⟨n2, c2, fs2, e2, h5, h6, _, _⟩ := fldP_eq z5
                cases e2
                have : C2 = C' := by
                  have e5 : clsO O2 (.obj n) = some c2 := by simp only [clsO, insO, h5, Option.map_some]
                  have e6 : clsO O1 (.obj n) = some c := by simp only [clsO, insO, h2, Option.map_some]
                  rw [e5, e6] at hcl
                  cases hcl
                  obtain ⟨⟨C3, dx3, fv3, j1, j2, j3⟩, _⟩ := r2.ob n _ _ h5 (i2 _ _ hi)
                  rw [g4] at j2
                  cases j2
                  have := j1.symm.trans k1
                  cases this
                  rfl
                subst this
                exact ⟨dx2, fv2, g4, g7, q ι2 B2 _ σ g8 (i1.trans i2) (b1.trans b2)⟩
end
end DL

set_option Elab.async false
set_option linter.all false
set_option maxRecDepth 100000
/-! DLRules17: sorted(xs), texts or whole numbers; sorted(xs, key=f). -/
namespace L2
open PySem PySem.Spec PyProof.Rows PySem.W
theorem each_strs : ∀ {us : List Value} {xs : List Str}, Vals (xs.map V.str) us → EachIs (fun v (x : Str) => ∃ t, v = .str x t) us xs
  | [], [], _ => .nil
  | u :: us, x :: xs, h => by
    rw [List.map_cons] at h
    cases h with
    | cons h1 h2 => exact .cons h1 (each_strs h2)
  | [], x :: xs, h => by cases h
  | u :: us, [], h => by cases h
theorem strs_each : ∀ {us : List Value} {xs : List Str}, EachIs (fun v (x : Str) => ∃ t, v = .str x t) us xs → Vals (xs.map V.str) us
  | _, _, .nil => .nil
  | _, _, .cons h1 h2 => .cons h1 (strs_each h2)
theorem each_ints : ∀ {us : List Value} {xs : List Int}, Vals (xs.map V.int) us → EachIs (fun v (x : Int) => ∃ t, v = .int x t) us xs
  | [], [], _ => .nil
  | u :: us, x :: xs, h => by
    rw [List.map_cons] at h
    cases h with
    | cons h1 h2 => exact .cons h1 (each_ints h2)
  | [], x :: xs, h => by cases h
  | u :: us, [], h => by cases h
theorem intsE : ∀ {us : List Value} {xs : List Int}, EachIs (fun v (x : Int) => ∃ t, v = .int x t) us xs → Vals (xs.map V.int) us
  | _, _, .nil => .nil
  | _, _, .cons h1 h2 => .cons h1 (intsE h2)
section
variable {X : Cx}
theorem sw_trueD {kx vx : Expr} {gs : List Comprehension} {scope : Scope} {pos py : Pos} {y : Str} {l : Nat} {env : Env} (hk : env.scope.kind = .function) (hy : env.scope.names.lookup y = some .local) (hl : (py.line == pos.line) = true)
    (ha : (scope.names.any fun (n, k) => n == y && (k == .local || k == .cell)) = false) : swapsWith (.DictComp kx vx gs scope pos) (some (.Name y py)) l env = pure true := by
  have ky : env.kindOf y = some .local := hy
  have hb : env.blockKind = .function := by unfold Env.blockKind; rw [hk]; rfl
  unfold swapsWith
  simp only [hb, ky, ha, Expr.pos, hl]
  rfl
theorem ps_setDc {i : Nat} {y : Str} {py : Pos} {kx vx tg iter : Expr} {ifs : List Expr} {scope : Scope} {own : List (Str × Nat)} {pos spos : Pos} {wi : TI} {g : TG} {tt : TT} {tk te : TE} (hc : X.calm = true) (hN : X.N.Nodup) (hy : X.N[i]? = some y) (hyl : X.env.scope.names.lookup y = some .local)
    (hsw : swapsWith (.DictComp kx vx [⟨tg, iter, ifs, 0⟩] scope pos) (some (.Name y py)) spos.line X.env = pure true) (hi : PI X tg iter wi) (ok : BlkOk X.N X.env.scope scope own)
    (hg : ∀ (s : Shared) (H : Hp) (C : Addr) (cl : List (Str × Addr)) (fp : List Addr), PG (X.blk s H scope (compEnvC scope cl C X.env) fp) tg g) (ht : ∀ (s : Shared) (H : Hp) (C : Addr) (cl : List (Str × Addr)) (fp : List Addr), PTs (X.blk s H scope (compEnvC scope cl C X.env) fp) ifs tt)
    (hk : ∀ (s : Shared) (H : Hp) (C : Addr) (cl : List (Str × Addr)) (fp : List Addr), PE (X.blk s H scope (compEnvC scope cl C X.env) fp) kx tk)
    (he : ∀ (s : Shared) (H : Hp) (C : Addr) (cl : List (Str × Addr)) (fp : List Addr), PE (X.blk s H scope (compEnvC scope cl C X.env) fp) vx te) (hs : ∀ x, foldedSetIterable iter X.env x = pure x := by intro _; rfl) :
    PS X (.Assign [.Name y py] (.DictComp kx vx [⟨tg, iter, ifs, 0⟩] scope pos) spos) (tAsg (tDc wi g tt tk te (own.map (·.2))) (gName i)) := by
  refine ⟨fun pins s σ H D I h => ?_⟩
  rw [exec_Assign_Name_used _ _ _ _ hsw]
  refine wpAny_bind (wpAny_standAt (wpAny_bind ?_))
  show wpAny _ X.A (do let _ ← comprehension (.DictComp kx vx [⟨tg, iter, ifs, 0⟩] scope pos) scope X.env (firstIterPos [⟨tg, iter, ifs, 0⟩] pos) newDict false (eval iter X.env) (some (assign (.Name y py) X.env))) _ _ s
  have h : tDc wi g tt tk te (own.map (·.2)) σ H (fun x H1 => gName i x σ H1 D.nx) := h
  refine wpAny_bind (thn (dc_core (Qf := fun _ s' => SP X pins D .next s') hc hN I hi ok hg ht hk he hs h fun L C s' m H' I' q hn f => ?_) fun _ s' hq => wpAny_pure (wpAny_pure hq))
  show wpAny _ _ (assign (.Name y py) X.env (.ref L)) _ _ _
  refine wpAny_assign_Name (store_ok2 (v := V.ref L) I' hN hy (.inl hyl) rfl (fun s2 I2 ⟨a, sb, ha⟩ => ?_) (.inr hyl))
  obtain ⟨f0, f1, f2, f3, f4, f5⟩ := f
  have haC : C ≠ a := by
    rcases ha with z | z
    · rw [z]; exact f1
    · exact fun e => f4 y a z e.symm
  refine ⟨m, hn.sameBut sb haC, fun h3 sb3 => ?_⟩
  exact ⟨_, H', I2.turned (t' := s2.toks) (fun b o hb e => (sb3.2 b hb).trans e) f0 f1 f3 f4 f5, q⟩
end
def sortSt (xs : List Str) : List Str := xs.mergeSort (dataLe false PyData.str)
def sortIn (xs : List Int) : List Int := xs.mergeSort (dataLe false PyData.int)
section
variable {X : Cx}
theorem call_sortSt (hu : X.A.units + 64 < cLine) : CallR X (.builtin "sorted") (fun vs H Q => ∃ (a : Addr) (xs : List Str), vs = [V.ref a] ∧ SqL X.K H a (xs.map V.str) ∧ ∀ p, H p = none → Q (.ref p) (upd H p (.lst ((sortSt xs).map V.str)))) := by
  intro pins s σ H vs us Q I r h
  obtain ⟨a, xs, rfl, hs, q⟩ := h
  obtain ⟨its, rv, hl, hz⟩ := I.list hs
  rw [Vals.ref1 r]
  rw [List.length_map] at hz
  have e := each_strs rv
  refine sorted_data (enc := PyData.str) hl.isList e (e.mono fun v x ⟨t, h⟩ => ⟨[], by rw [h]; exact .str x t⟩) (AllAlike.of fun _ _ => by simp [alike]) (.inr fun d hd => ?_) hz (fun b _ => ?_) fun out hl2 eo => ?_
  · obtain ⟨x, _, rfl⟩ := List.mem_map.mp hd
    exact ⟨by simp, by simp⟩
  · simp [PyData.depth]; omega
  · obtain ⟨ep, he'⟩ := PyProof.Rows.sortedAll_at s.heap its out.toArray
    exact ⟨.ref _, upd H (s.heap.objs.size + 1) (.lst ((sortSt xs).map V.str)), I.laid (t' := s.toks) (fun _ _ => PyProof.Rows.sortedAll_old) (Nat.le_succ _) ⟨by rw [List.length_map, sortSt, List.length_mergeSort]; exact hz, out, ep, strs_each eo, he'⟩, rfl, q _ (I.hok.fresh (Nat.le_succ _))⟩
theorem call_sortIn (hu : X.A.units + 64 < cLine) : CallR X (.builtin "sorted") (fun vs H Q => ∃ (a : Addr) (xs : List Int), vs = [V.ref a] ∧ SqL X.K H a (xs.map V.int) ∧ ∀ p, H p = none → Q (.ref p) (upd H p (.lst ((sortIn xs).map V.int)))) := by
  intro pins s σ H vs us Q I r h
  obtain ⟨a, xs, rfl, hs, q⟩ := h
  obtain ⟨its, rv, hl, hz⟩ := I.list hs
  rw [Vals.ref1 r]
  rw [List.length_map] at hz
  have e := each_ints rv
  refine sorted_data (enc := PyData.int) hl.isList e (e.mono fun v x ⟨t, h⟩ => ⟨[], by rw [h]; exact .int x t⟩) (AllAlike.of fun _ _ => by simp [alike]) (.inr fun d hd => ?_) hz (fun b _ => ?_) fun out hl2 eo => ?_
  · obtain ⟨x, _, rfl⟩ := List.mem_map.mp hd
    exact ⟨by simp, by simp⟩
  · simp [PyData.depth]; omega
  · obtain ⟨ep, he'⟩ := PyProof.Rows.sortedAll_at s.heap its out.toArray
    exact ⟨.ref _, upd H (s.heap.objs.size + 1) (.lst ((sortIn xs).map V.int)), I.laid (t' := s.toks) (fun _ _ => PyProof.Rows.sortedAll_old) (Nat.le_succ _) ⟨by rw [List.length_map, sortIn, List.length_mergeSort]; exact hz, out, ep, intsE eo, he'⟩, rfl, q _ (I.hok.fresh (Nat.le_succ _))⟩
end
end L2
namespace DL
open PySem L2
variable [Tabs]
section
variable {X : Cx} {Wx : WX} {pos : Pos}
def intsD : List D → Option (List Int)
  | [] => some []
  | .int i :: ds => (intsD ds).map (i :: ·)
  | _ => none
theorem intsD_v {K : PySem.W.Frag} {ι : List Addr} {B : Hp} : ∀ {vs : List V} {ds : List D} {ys : List Int}, Paired (DA K ι B) vs ds → intsD ds = some ys → vs = ys.map V.int
  | _, _, _, .nil, e => by cases e; rfl
  | _, d :: _, _, .cons h t, e => by
    cases d with
    | int s =>
      simp only [intsD, Option.map_eq_some_iff] at e
      obtain ⟨r, e1, rfl⟩ := e
      cases h
      rw [intsD_v t e1]
      rfl
    | _ => cases e
theorem paired_strs {K : PySem.W.Frag} {ι : List Addr} {B : Hp} : ∀ ns : List Str, Paired (DA K ι B) (ns.map V.str) (ns.map D.str)
  | [] => .nil
  | n :: ns => .cons (.str n) (paired_strs ns)
def sortXs (xs : List D) : Option (List D) := match strsD xs with
  | some ss => some ((sortSt ss).map .str)
  | none => (intsD xs).map fun ns => (sortIn ns).map .int
def sortL : List D → Option (List D)
  | [.lst xs] => sortXs xs
  | _ => none
def sortM (m : ME (List D)) : ME (List D) := bindE m fun ds => optO fun O => sortL (ds.map (derefD O))
theorem el_sorted {p : Pos} {e : Expr} {m : ME (List D)} (hu : X.A.units + 64 < cLine) (hm : X.mg "sorted" = none) (ha : EAZ X Wx [e] m) (hg : Gl X "sorted" := by rfl) (he : starEach [e] X.env = (false, eval e X.env) :: starEach [] X.env := by rfl) :
    EL X Wx (.Call (.Name "sorted" p) [e] [] pos) (sortM m) := by
  obtain ⟨t, pt, et⟩ := ha
  refine ⟨_, pe_callB (CallR.or (call_sortSt hu) (call_sortIn hu)) hg hm (by decide +kernel) pt (by decide) (by decide) he rfl, fun e ι B H ρ O σ Q r q => et e ι B H ρ O σ _ r ?_⟩
  simp only [sortM, bindE, optO] at q
  cases z : m ρ O with
  | err c p O' => rw [z] at q; exact q
  | bad => rw [z] at q; exact q
  | ok ds O' =>
    rw [z] at q
    dsimp only at q
    intro ι' B' H' vs r' i' b' hv
    have hv := rSs.dhO r' hv
    generalize ds.map (derefD O') = ds at hv q
    cases z2 : sortL ds with
    | none => rw [z2] at q; exact q.elim
    | some xs =>
      rw [z2] at q
      unfold sortL at z2
      split at z2
      · obtain ⟨v, rfl, p, ws, rfl, h1, h2⟩ := paired1 hv
        unfold sortXs at z2
        split at z2
        · rename_i ss hss
          cases z2
          have := strsD_v h2 hss
          subst this
          exact .inl ⟨p, ss, rfl, SqL.of h1, q ι' B' H' _ r' i' b' (paired_strs _)⟩
        · simp only [Option.map_eq_some_iff] at z2
          obtain ⟨ns, hns, rfl⟩ := z2
          have := intsD_v h2 hns
          subst this
          exact .inr ⟨p, ns, rfl, SqL.of h1, q ι' B' H' _ r' i' b' (paired_ints _)⟩
      · cases z2
theorem es_newDc {y : Str} {py spos : Pos} {kx vx tg it : Expr} {ifs : List Expr} {scope : Scope} {own : List (Str × Nat)} {mi : ME (List D)} {f : D → MS} {mt : ME Bool} {mk me : ME D} {g : TG} (i : Nat) (hc : X.calm = true) (hN : X.N.Nodup) (hi : EI X Wx tg it mi) (ok : BlkOk X.N X.env.scope scope own)
    (hg : ∀ (s : Shared) (H : Hp) (C : Addr) (cl : List (Str × Addr)) (fp : List Addr), PG (X.blk s H scope (compEnvC scope cl C X.env) fp) tg g) (eg : EvGW X g (own.map (·.2)) f)
    (ht : ∀ (s : Shared) (H : Hp) (C : Addr) (cl : List (Str × Addr)) (fp : List Addr), ETs (X.blk s H scope (compEnvC scope cl C X.env) fp) WF ifs mt)
    (hk : ∀ (s : Shared) (H : Hp) (C : Addr) (cl : List (Str × Addr)) (fp : List Addr), EX (X.blk s H scope (compEnvC scope cl C X.env) fp) WF kx mk)
    (he : ∀ (s : Shared) (H : Hp) (C : Addr) (cl : List (Str × Addr)) (fp : List Addr), EX (X.blk s H scope (compEnvC scope cl C X.env) fp) WF vx me)
    (hy : X.N[i]? = some y := by rfl) (hyl : X.env.scope.names.lookup y = some .local := by rfl)
    (hsw : swapsWith (.DictComp kx vx [⟨tg, it, ifs, 0⟩] scope pos) (some (.Name y py)) spos.line X.env = pure true := by exact sw_trueD rfl rfl rfl (by decide +kernel)) (hs : ∀ x, foldedSetIterable it X.env x = pure x := by intro _; rfl) :
    ES X Wx (.Assign [.Name y py] (.DictComp kx vx [⟨tg, it, ifs, 0⟩] scope pos) spos) (newS i (compDM (own.map (·.2)) mi f mt mk me)) := by
  obtain ⟨wi, pi, ei⟩ := hi
  exact ⟨_, ps_setDc (g := g) (tt := canon X WF (rQ Bool) mt) (tk := canon X WF (rD X) mk) (te := canon X WF (rD X) me) hc hN hy hyl hsw pi ok hg (fun s H C cl fp => (ht s H C cl fp).ptsB hc) (fun s H C cl fp => (hk s H C cl fp).peB hc) (fun s H C cl fp => (he s H C cl fp).peB hc) hs, EvS.new (EvN.compD ei eg canon_ev canon_ev canon_ev)⟩
/-! sorted(xs, key=f) -/
def keysO (kf : Sto → D → Option Int) (O : Sto) : List D → Option (List (D × Int))
  | [] => some []
  | d :: ds => (kf O d).bind fun k => (keysO kf O ds).map ((d, k) :: ·)
def sortKL (kf : Sto → D → Option Int) (O : Sto) : List D → Option (List D)
  | [.lst xs] => (keysO kf O xs).map fun ps => (ps.mergeSort fun a b => decide (a.2 ≤ b.2)).map (·.1)
  | _ => none
def sortKM (kf : Sto → D → Option Int) (m : ME (List D)) : ME (List D) := bindE m fun ds => optO fun O => sortKL kf O (ds.map (derefD O))
/-- the key is a field that holds a whole number -/
def fldKey (T : List (Str × List Str)) (fn : Str) (O : Sto) (d : D) : Option Int := match fldG T fn d O with
  | some (.int i) => some i
  | _ => none
/-- sorted by the def that stands under the name f -/
def KeyFn (P : Program) (K : PySem.W.Frag) (mg : Mg) (f : Str) (kf : Sto → D → Option Int) : Prop := ∀ (X : Cx) (Wx : WX) (e : Expr) (m : ME (List D)) (p p2 pos kp : Pos), X.prog = P → X.K = K → X.mg = mg → X.calm = true → Room 3 X.A → Gl X "sorted" → Gl X f → mg "sorted" = none → EAZ X Wx [e] m →
  starEach [e] X.env = (false, eval e X.env) :: starEach [] X.env → EL X Wx (.Call (.Name "sorted" p) [e] [⟨some "key", .Name f p2, kp⟩] pos) (sortKM kf m)
end
end DL

set_option Elab.async false
set_option linter.all false
set_option maxRecDepth 100000
/-! DLRules18: a def that hands back a field, as a key. -/
namespace L2
open PySem PySem.Spec PyProof.Rows
theorem field_call {P : Program} {w : World} {K : PySem.W.Frag} {A : Around} {s : Shared} {f x qual fn : Str} {st : Stmt} {a b dx C : Addr} {fd : FuncData} {p1 p2 p3 : Pos} {mA : Str → Option Value} {k : Int} {t : Tok}
    (KX : K.In s.heap) (lim : s.heap.NoLimit) (hr : Room 1 A) (F : Fun K f qual st a fd) (hb : BindsTo s fd ⟨[.ref b], []⟩ ([x].zip [.ref b])) (S : FnScope [x] [x] (defScope st)) (hl : (defScope st).names.lookup x = some .local)
    (hbody : defBody st = [.Return (some (.Attribute (.Name x p1) fn p2)) p3]) (hdb : (x == ("__debug__" : Str)) = false) (hat : ∀ env, attributeBase (.Name x p1) fn env (eval (.Name x p1) env) = eval (.Name x p1) env)
    (O : ObjM s.heap b dx C mA) (hc : Cls K C) (hn : NoAttr K C fn) (hv : mA fn = some (.int k t)) (E : Value → Shared → Prop) :
    wpAny (model P w) A (call (.ref a) [.ref b]) (PySem.W.KeyPure (.int k) s) E s := by
  obtain ⟨oc, od, kV, doc, pm, an, cdv, ct, osl, rfl, lk, hcd⟩ := F.ex
  refine wpAny_call (codeAny_call_function hr.depth (KX _ _ lk) rfl S.co S.gen rfl (PySem.W.codeRec_of KX hcd) (hb _ _ _ _ ?_))
  refine wpAny_newFunctionEnv_cells S.kind (fun y hy => ?_) fun env he s1 q => ?_
  · have : y = (x, Value.ref b) := by simpa using hy
    subst this
    exact .inl hl
  subst he
  refine ⟨lim.keeps q.toInCall.keep, codeAny_func ?_⟩
  show wpAny _ _ (execs (defBody st) _) _ _ _
  rw [hbody]
  obtain ⟨h1, tk1, e1⟩ := q.toInCall.same
  have kp := q.toInCall.keep
  refine wpAny_execs_cons (wpAny_Return_some (attr_of (hat _) (wpAny_Name (wpAny_loadName_local S.kind hl q.toInCall.ns (v := .ref b) ?_ ?_) hdb)))
  · show (if (defScope st).names.lookup x = some NameKind.local then (fun y => if y = x then some (Value.ref b) else none) else fun _ => none) x = _
    rw [if_pos hl]
    show (if x = x then some (Value.ref b) else none) = _
    rw [if_pos rfl]
  · refine get_map (K := K) (x := b) (dx := dx) (C := C) (mA := mA) (fun c o h => kp _ _ (KX c o h)) ⟨kp _ _ O.obj, ?_, O.ne⟩ (hc.get fn) hc.hd hn hv rfl ?_
    · obtain ⟨o, es, ep, ho, r⟩ := O.ns
      exact ⟨o, es, ep, kp _ _ ho, r⟩
    · refine ⟨s1.heap, s1.toks + 1, ?_, kp, .int k t⟩
      rw [e1]
end L2

namespace L2
open PySem PySem.Spec PyProof.Rows PySem.W
theorem each_vals {α : Type} : ∀ {us : List Value} {bs : List (V × α)}, Vals (bs.map (·.1)) us → EachIs (fun v (b : V × α) => RelV b.1 v) us bs
  | [], [], _ => .nil
  | u :: us, x :: xs, h => by
    rw [List.map_cons] at h
    cases h with
    | cons h1 h2 => exact .cons h1 (each_vals h2)
  | [], x :: xs, h => by cases h
  | u :: us, [], h => by cases h
theorem vals_each {α : Type} : ∀ {us : List Value} {bs : List (V × α)}, EachIs (fun v (b : V × α) => RelV b.1 v) us bs → Vals (bs.map (·.1)) us
  | _, _, .nil => .nil
  | _, _, .cons h1 h2 => .cons h1 (vals_each h2)
/-- sorted(xs, key=f), f's key a field that holds a whole number -/
def rSortKey {α : Type} (X : Cx) (a : Addr) (fn : Str) (key : α → Int) : List V → List V → Hp → VK → Prop := fun xs zs H Q => ∃ (l : Addr) (bs : List (V × α)), xs = [.ref l] ∧ zs = [.ref a] ∧ SqL X.K H l (bs.map (·.1)) ∧
  (∀ b ∈ bs, ∃ (o C dx : Addr) (fs : List (Str × V)), b.1 = .ref o ∧ H o = some (.ins C dx fs) ∧ Cls X.K C ∧ NoAttr X.K C fn ∧ fs.lookup fn = some (.int (key b.2))) ∧
  ∀ q, H q = none → Q (.ref q) (upd H q (.lst ((bs.mergeSort fun x y => decide (key x.2 ≤ key y.2)).map (·.1))))
theorem call_sortKey {α : Type} {X : Cx} {a : Addr} {f x qual fn : Str} {st : Stmt} {fd : FuncData} {p1 p2 p3 : Pos} {key : α → Int} (hr : Room 3 X.A) (F : Fun X.K f qual st a fd) (hb : ∀ (s : Shared) (us : List Value), us.length = 1 → BindsTo s fd ⟨us, []⟩ ([x].zip us)) (S : FnScope [x] [x] (defScope st)) (hl : (defScope st).names.lookup x = some .local)
    (hbody : defBody st = [.Return (some (.Attribute (.Name x p1) fn p2)) p3]) (hdb : (x == ("__debug__" : Str)) = false) (hat : ∀ env, attributeBase (.Name x p1) fn env (eval (.Name x p1) env) = eval (.Name x p1) env) :
    CallRK X (.builtin "sorted") [Str.ofString "key"] (rSortKey X a fn key) := by
  intro pins s σ H xs zs us ws Q I r1 r2 h
  obtain ⟨l, bs, rfl, rfl, hs, hp, q⟩ := h
  obtain ⟨its, rv, hli, hz⟩ := I.list hs
  rw [Vals.ref1 r1, Vals.ref1 r2]
  rw [List.length_map] at hz
  have hu := hr.un
  refine sorted_key_data (b := false) (bs := bs) (R := fun v b => RelV b.1 v) (fun b => PyData.int (key b.2)) hli.isList (each_vals rv) (AllAlike.of fun _ _ => by simp [alike]) (.inr fun d hd => ?_) hz (fun b _ => ?_) (ksk_s1 _ _) (fun _ => ksk_l1 _ _) (fun _ => ksk_t1 _ _)
    (fun v b hv hm h tk kp => ?_) fun out c h' tk kp _ hD hlen eo => ?_
  · obtain ⟨b, _, rfl⟩ := List.mem_map.mp hd
    exact ⟨by simp, by simp⟩
  · simp [PyData.depth]; omega
  · obtain ⟨o, C, dx, fs, e1, e2, e3, e4, e5⟩ := hp b hm
    rw [e1] at hv
    obtain rfl : v = Value.ref o := hv
    obtain ⟨mA, O, rf, _, _, _⟩ := ins_get I.hok e2
    obtain ⟨u, hu2, ru⟩ := RelO.some_of (v := .int (key b.2)) (o := mA fn) (by rw [← e5]; exact rf fn)
    obtain ⟨t, rfl⟩ := (show ∃ t, u = Value.int (key b.2) t from ru)
    exact field_call (s := { s with heap := h, toks := tk }) (fun c o hco => kp _ _ (I.kIn c o hco)) (I.nolimit.keeps kp) (Room.in1 (Room.in1 hr)) F (hb _ _ rfl) S hl hbody hdb hat ⟨kp _ _ O.obj, O.ns.keeps kp, O.ne⟩ e3 e4 hu2 _
  · rw [dataLe_int (β := V × α) (fun b => key b.2)] at eo
    refine ⟨.ref (s.heap.objs.size + 1), upd H (s.heap.objs.size + 1) (.lst ((bs.mergeSort fun x y => decide (key x.2 ≤ key y.2)).map (·.1))), I.laid (t' := tk) kp (Nat.le_succ _) ⟨by rw [List.length_map, List.length_mergeSort]; exact hz, out, c, vals_each eo, hD⟩, rfl, q _ (I.hok.fresh (Nat.le_succ _))⟩
end L2
namespace DL
open PySem L2
variable [Tabs]
theorem keys_trip {K : PySem.W.Frag} {ι : List Addr} {B : Hp} {kf : Sto → D → Option Int} {O : Sto} : ∀ {ws : List V} {ys : List D} {ps : List (D × Int)}, Paired (DA K ι B) ws ys → keysO kf O ys = some ps → ∃ bs : List (V × D × Int), bs.map (·.1) = ws ∧ bs.map (·.2) = ps ∧ ∀ b ∈ bs, DA K ι B b.1 b.2.1 ∧ kf O b.2.1 = some b.2.2
  | _, _, _, .nil, h => by cases h; exact ⟨[], rfl, rfl, by simp⟩
  | v :: ws, d :: ys, ps, .cons h1 h2, h => by
    unfold keysO at h
    cases hk : kf O d with
    | none => rw [hk] at h; cases h
    | some k =>
      rw [hk] at h
      simp only [Option.bind_some, Option.map_eq_some_iff] at h
      obtain ⟨qs, h3, rfl⟩ := h
      obtain ⟨bs, e1, e2, e3⟩ := keys_trip h2 h3
      refine ⟨(v, d, k) :: bs, by rw [List.map_cons, e1], by rw [List.map_cons, e2], fun b hb => ?_⟩
      rcases List.mem_cons.mp hb with rfl | hb
      · exact ⟨h1, hk⟩
      · exact e3 b hb
theorem paired_maps {α : Type} {K : PySem.W.Frag} {ι : List Addr} {B : Hp} {f : α → V} {g : α → D} : ∀ {bs : List α}, (∀ b ∈ bs, DA K ι B (f b) (g b)) → Paired (DA K ι B) (bs.map f) (bs.map g)
  | [], _ => .nil
  | b :: bs, h => .cons (h b List.mem_cons_self) (paired_maps fun c hc => h c (List.mem_cons_of_mem _ hc))
theorem keyFn_of {P : Program} {K : PySem.W.Frag} {mg : Mg} {f x fn : Str} {st : Stmt} {T : List (Str × List Str)} {p1 p2 p3 : Pos} (D : Df K mg f f st [x]) (S : FnScope [x] [x] (defScope st)) (hT : Tab K mg T) (hl : (defScope st).names.lookup x = some .local)
    (hbody : defBody st = [.Return (some (.Attribute (.Name x p1) fn p2)) p3]) (hdb : (x == ("__debug__" : Str)) = false) (hdf : (f == ("__debug__" : Str)) = false) (hat : ∀ env, attributeBase (.Name x p1) fn env (eval (.Name x p1) env) = eval (.Name x p1) env) : KeyFn P K mg f (fldKey T fn) := by
  intro X Wx e m p q2 pos kp hP hK hM hc hr g1 g2 hms ha he
  subst hP hK hM
  obtain ⟨a, fd, hm, F, hb⟩ := D
  obtain ⟨t, pt, et⟩ := ha
  refine ⟨_, pe_callBK (call_sortKey (key := fun b : DL.D × Int => b.2) hr F hb S hl hbody hdb hat) g1 hms (by decide +kernel) pt (pk_cons (pe_glob (v := .ref a) g2 hm rfl hdf) pk_nil) (by decide) (by decide) (by rw [he]; rfl) (by rw [he]; rfl), fun e ι B H ρ O σ Q r q => et e ι B H ρ O σ _ r ?_⟩
  simp only [sortKM, bindE, optO] at q
  cases z : m ρ O with
  | err c p O' => rw [z] at q; exact q
  | bad => rw [z] at q; exact q
  | ok ds O' =>
    rw [z] at q
    dsimp only at q
    intro ι' B' H' vs r' i' b' hv
    have hv := rSs.dhO r' hv
    generalize ds.map (derefD O') = ds at hv q
    cases z2 : sortKL (fldKey T fn) O' ds with
    | none => rw [z2] at q; exact q.elim
    | some xs =>
      rw [z2] at q
      unfold sortKL at z2
      split at z2
      · simp only [Option.map_eq_some_iff] at z2
        obtain ⟨ps, h3, rfl⟩ := z2
        obtain ⟨v, rfl, l, ws, rfl, h1, h2⟩ := paired1 hv
        obtain ⟨bs, e1, e2, e3⟩ := keys_trip h2 h3
        subst e1 e2
        have es : ((bs.map (·.2)).mergeSort fun a b => decide (a.2 ≤ b.2)).map (·.1) = (bs.mergeSort fun x y => decide (x.2.2 ≤ y.2.2)).map (·.2.1) := by
          rw [← List.map_mergeSort (r := fun x y : V × DL.D × Int => decide (x.2.2 ≤ y.2.2)) (f := (·.2)) (fun _ _ _ _ => rfl), List.map_map]
          rfl
        refine ⟨l, bs, rfl, rfl, SqL.of h1, fun b hbm => ?_, q ι' B' H' _ r' i' b' ?_⟩
        · obtain ⟨k1, k2⟩ := e3 b hbm
          unfold fldKey at k2
          split at k2
          · rename_i i hi
            cases k2
            obtain ⟨n, c, fs, d1, d2, d3, d4⟩ := fldG_eq hi
            rw [d1] at k1
            generalize hbv : b.1 = bv at k1
            cases k1 with
            | obj hin =>
              obtain ⟨⟨C, dx, fvs, j1, j2, j3⟩, _⟩ := r'.ob n _ _ d2 hin
              obtain ⟨C', m1, m2, m3⟩ := fldOk_c hT d3
              have : C' = C := by
                have := m1.symm.trans j1
                cases this
                rfl
              subst this
              rcases lookup_FD (f := fn) j3 with ⟨_, l2⟩ | ⟨w, d', l1, l2, l3⟩
              · rw [d4] at l2; cases l2
              · rw [d4] at l2
                cases l2
                cases l3
                exact ⟨_, C', dx, fvs, rfl, j2, m2, m3, l1⟩
          · cases k2
        · rw [es]
          exact paired_maps fun b hb2 => (e3 b ((List.mem_mergeSort).mp hb2)).1
      · cases z2
end DL

set_option Elab.async false
set_option linter.all false
set_option maxRecDepth 100000
/-! DLRules19: a comprehension over a list of the store. -/
namespace DL
open PySem L2
variable [Tabs]
section
variable {X : Cx} {Wx : WX} {a tg it : Expr} {pos : Pos} {ma : ME D}
def EvIO (X : Cx) (Wx : WX) (wi : TI) (m : ME (Nat × List D)) : Prop := ∀ e ι B H ρ O σ R, Rel X.K X.mg (en X e) ι B H ρ O σ →
  (match m ρ O with
    | .ok (n, ds) O' => ∀ ι' B' H' ad, Rel X.K X.mg (en X e) ι' B' H' ρ O' σ → Pre ι ι' → Same B B' → ι'[n]? = some ad → O'[n]? = some (.lst ds) → R (Itl X.K ad) H'
    | .err c p O' => ∀ ι' B' H' C dx, Rel X.K X.mg (en X e) ι' B' H' ρ O' σ → Pre ι ι' → Same B B' → Exc X.K X.mg ι' B' C dx c p → Wx (.ref C) (some dx) σ H'
    | .bad => False) → wi σ H R
def EIO (X : Cx) (Wx : WX) (tg it : Expr) (m : ME (Nat × List D)) : Prop := ∃ wi, PI X tg it wi ∧ EvIO X Wx wi m
def objM (m : ME D) : ME (Nat × List D) := bindE m fun d => optO fun O => lstO O d
theorem eio_obj (h : EX X Wx a ma) : EIO X Wx tg a (objM ma) := by
  obtain ⟨t, pt, et⟩ := h
  refine ⟨_, pi_list pt, fun e ι B H ρ O σ R r q => et e ι B H ρ O σ _ r ?_⟩
  simp only [objM, bindE, optO] at q
  cases z : ma ρ O with
  | bad => rw [z] at q; exact q
  | err c p O' => rw [z] at q; exact q
  | ok d O' =>
    rw [z] at q
    dsimp only at q
    intro ι' B' H' v r' i' b' hv
    cases z2 : lstO O' d with
    | none => rw [z2] at q; exact q.elim
    | some w =>
      obtain ⟨n, ds⟩ := w
      rw [z2] at q
      obtain ⟨rfl, h2⟩ := lstO_eq z2
      cases hv with
      | obj hin =>
        obtain ⟨⟨ws, k1, k2⟩, _⟩ := r'.ob n _ _ h2 hin
        exact ⟨_, rfl, ⟨_, SqL.of k1⟩, q ι' B' H' _ r' i' b' hin h2⟩
open Classical in
noncomputable def compLO (n : Nat) (xs : List D) (vs : List Nat) (f : D → MS) (mt : ME Bool) (me : ME D) : List D → List D → ME (List D)
  | [], acc, ρ, O => .ok acc O
  | d :: ds, acc, ρ, O => match f d (bareR vs ρ) O with
    | .nx ρ1 O1 => match mt ρ1 O1 with
      | .ok true O2 => match me ρ1 O2 with
        | .ok y O3 => if acc.length < sizeLine ∧ O3[n]? = some (.lst xs) then compLO n xs vs f mt me ds (acc ++ [y]) ρ O3 else .bad
        | _ => .bad
      | .ok false O2 => if O2[n]? = some (.lst xs) then compLO n xs vs f mt me ds acc ρ O2 else .bad
      | _ => .bad
    | _ => .bad
noncomputable def compOM (vs : List Nat) (mi : ME (Nat × List D)) (f : D → MS) (mt : ME Bool) (me : ME D) : ME Cell := bindE mi fun p => bindE (compLO p.1 p.2 vs f mt me p.2 []) fun ys => pureE (.lst ys)
theorem compLO_noerr {n : Nat} {xs : List D} {vs : List Nat} {f : D → MS} {mt : ME Bool} {me : ME D} {c : Str} {p : D} {O' : Sto} : ∀ {ds acc : List D} {ρ : Rho} {O : Sto}, compLO n xs vs f mt me ds acc ρ O ≠ .err c p O'
  | [], _, _, _, h => by cases h
  | d :: ds, acc, ρ, O, h => by
    unfold compLO at h
    split at h
    · split at h
      · split at h
        · split at h
          · exact compLO_noerr h
          · cases h
        · cases h
      · split at h
        · exact compLO_noerr h
        · cases h
      · cases h
    · cases h
theorem EvN.compO {wi : TI} {g : TG} {tt : TT} {te : TE} {vs : List Nat} {mi : ME (Nat × List D)} {f : D → MS} {mt : ME Bool} {me : ME D} (hi : EvIO X Wx wi mi) (hg : EvGW X g vs f) (ht : Ev X WF (rQ Bool) tt mt) (he : Ev X WF (rD X) te me) :
    EvN X Wx (tLc wi g tt te vs) (compOM vs mi f mt me) := by
  intro e ι B H ρ O σ Q r q
  refine hi e ι B H ρ O σ _ r ?_
  simp only [compOM, bindE] at q
  cases z : mi ρ O with
  | bad => rw [z] at q; exact q
  | err c p O' => rw [z] at q; exact q
  | ok nds O' =>
    obtain ⟨nn, ds⟩ := nds
    rw [z] at q
    dsimp only at q
    intro ι' B' H' ad r' i' b' had hcell D hD
    obtain ⟨rD0, f1, f2, f3⟩ := r'.fresh hD (.lst [])
    have nD := r'.notOwn hD
    -- what is left of the list is made
    refine ⟨fun i mm H => mm = ds.length - i ∧ i ≤ ds.length ∧ ∃ O ι2 B2 accV acc, Rel X.K X.mg (en X e) ι2 B2 H ρ O σ ∧ Pre ι' ι2 ∧ Same B' B2 ∧ H D = some (.lst accV) ∧ B2 D = none ∧ D ∉ ι2 ∧ Paired (DA X.K ι2 B2) accV acc ∧
      O[nn]? = some (.lst ds) ∧ (match compLO nn ds vs f mt me (ds.drop i) acc ρ O with
      | .ok ys O2 => ∀ ι3 B3 H3 yv, Rel X.K X.mg (en X e) ι3 B3 H3 ρ O2 σ → Pre ι' ι3 → Same B' B3 → H3 D = some (.lst yv) → B3 D = none → D ∉ ι3 → Paired (DA X.K ι3 B3) yv ys → Q (.ref D) H3
      | .err _ _ _ => False
      | .bad => False), ⟨ds.length, by simp, Nat.zero_le _, O', ι', B', [], [], rD0, Pre.refl _, Same.refl _, upd_same, f1, f3, .nil, hcell, ?_⟩, ?_⟩
    · rw [List.drop_zero]
      cases z2 : compLO nn ds vs f mt me ds [] ρ O' with
      | bad => rw [z2] at q; exact q
      | err c p O2 => exact absurd z2 compLO_noerr
      | ok ys O2 =>
        rw [z2] at q
        exact fun ι3 B3 H3 yv r3 i3 b3 h1 h2 h3 h4 => q ι3 B3 H3 D r3 (i'.trans i3) (b'.trans b3) ⟨yv, h1, h4⟩ h2 f2 h3 nD
    · rintro i mm H ⟨rfl, hil, O, ι2, B2, accV, acc, r2, i2, b2, hDv, hDB, hDi, hacc, hcl, q2⟩
      have rb := r2.block vs (hot := (en X ⟨ι2, B2, H, none⟩).hot)
      obtain ⟨⟨ws, hws, hwp⟩, _⟩ := r2.ob nn _ ad hcl (i2 _ _ had)
      have hsq : SqL X.K H ad ws := SqL.of hws
      by_cases hlt : i < ds.length
      · have hd : ds[i]? = some ds[i] := List.getElem?_eq_getElem hlt
        have hdr : ds.drop i = ds[i] :: ds.drop (i + 1) := List.drop_eq_getElem_cons hlt
        rw [hdr] at q2
        unfold compLO at q2
        obtain ⟨wv, hw1, hw2⟩ := paired_get hwp hd
        have go : (Itl X.K ad).go i H := ⟨ws, wv, hsq, hw1⟩
        have step : ∀ x H', (Itl X.K ad).yld i H x H' → ∃ B3, Rel X.K X.mg (en X ⟨ι2, B2, H, none⟩) ι2 B3 H' (bareR vs ρ) O (L2.wipe σ vs) ∧ Same B2 B3 ∧ Same H H' ∧ DA X.K ι2 B3 x ds[i] := by
          intro x H' y
          obtain ⟨rfl, y⟩ := y
          have y := y ws hsq
          rw [hw1] at y
          cases y
          exact ⟨B2, rb, Same.refl _, Same.refl _, hw2⟩
        refine .inr ⟨go, fun H' => i + 1 ≤ ds.length ∧ ∃ O ι2 B2 accV acc, Rel X.K X.mg (en X e) ι2 B2 H' ρ O σ ∧ Pre ι' ι2 ∧ Same B' B2 ∧ H' D = some (.lst accV) ∧ B2 D = none ∧ D ∉ ι2 ∧ Paired (DA X.K ι2 B2) accV acc ∧
          O[nn]? = some (.lst ds) ∧ (match compLO nn ds vs f mt me (ds.drop (i + 1)) acc ρ O with
          | .ok ys O2 => ∀ ι3 B3 H3 yv, Rel X.K X.mg (en X e) ι3 B3 H3 ρ O2 σ → Pre ι' ι3 → Same B' B3 → H3 D = some (.lst yv) → B3 D = none → D ∉ ι3 → Paired (DA X.K ι3 B3) yv ys → Q (.ref D) H3
          | .err _ _ _ => False
          | .bad => False), fun H' h => ⟨ds.length - (i + 1), by omega, rfl, h⟩, fun x H3 y => ?_⟩
        obtain ⟨B3, r3, b3, s3, hx⟩ := step x H3 y
        refine hg x _ _ ι2 B3 H3 _ O _ _ r3 hx ?_
        cases z2 : f ds[i] (bareR vs ρ) O with
        | nx ρ1 O1 =>
          rw [z2] at q2
          dsimp only at q2
          intro ι4 B4 H4 σ4 r4 i4 b4 hw
          refine ⟨by rw [hw]; exact wipe_wipe σ vs vs (fun _ h => h), ?_⟩
          refine ht _ ι4 B4 H4 ρ1 O1 σ4 _ r4 ?_
          -- behind a turn
          have back : ∀ {ι5 : List Addr} {B5 H5 : Hp} {O5 : Sto} {ρ5 : Rho} {σ5 : St}, Rel X.K X.mg (en X ⟨ι2, B2, H, none⟩) ι5 B5 H5 ρ5 O5 σ5 → Rel X.K X.mg (en X e) ι5 B5 H5 ρ O5 σ ∧ H5 D = some (.lst accV) ∧ B5 D = none ∧ D ∉ ι5 := fun {ι5 B5 H5 O5 ρ5 σ5} r5 => by
            refine ⟨r2.after r5.bare, r5.fH D _ hDv hDi (r2.nt hDv fun ps z => by cases z), ?_, fun m => ?_⟩
            · cases z5 : B5 D with
              | none => rfl
              | some o =>
                rcases r5.fB D o z5 with y | y
                · have y' : B2 D = some o := y
                  rw [hDB] at y'; cases y'
                · have y' : H D = none := y
                  rw [hDv] at y'; cases y'
            · rcases r5.fi D m with y | y
              · exact hDi y
              · have y' : H D = none := y
                rw [hDv] at y'; cases y'
          cases z3 : mt ρ1 O1 with
          | bad => rw [z3] at q2; exact q2.elim
          | err c p O2 => rw [z3] at q2; exact q2.elim
          | ok k O2 =>
            rw [z3] at q2
            intro ι5 B5 H5 k' r5 i5 b5 hk
            cases hk
            cases k with
            | false =>
              dsimp only at q2
              rw [if_neg Bool.false_ne_true]
              obtain ⟨r6, h1, h2, h3⟩ := back r5
              by_cases hk2 : O2[nn]? = some (.lst ds)
              · rw [if_pos hk2] at q2
                exact ⟨hlt, O2, ι5, B5, accV, acc, r6, ((i2.trans i4).trans i5), ((b2.trans b3).trans b4).trans b5, h1, h2, h3, DA.monos ((b3.trans b4).trans b5) (i4.trans i5) _ _ hacc, hk2, q2⟩
              · rw [if_neg hk2] at q2
                exact q2.elim
            | true =>
              dsimp only at q2
              rw [if_pos rfl]
              refine he _ ι5 B5 H5 ρ1 O2 σ4 _ r5 ?_
              cases z4 : me ρ1 O2 with
              | bad => rw [z4] at q2; exact q2.elim
              | err c p O3 => rw [z4] at q2; exact q2.elim
              | ok y O3 =>
                rw [z4] at q2
                dsimp only at q2
                intro ι6 B6 H6 yv r6 i6 b6 hy
                obtain ⟨r7, h1, h2, h3⟩ := back r6
                have hacc6 := DA.monos (((b3.trans b4).trans b5).trans b6) ((i4.trans i5).trans i6) _ _ hacc
                by_cases hz : acc.length < sizeLine ∧ O3[nn]? = some (.lst ds)
                · rw [if_pos hz] at q2
                  exact ⟨accV, h1, by rw [paired_len hacc]; exact hz.1, hlt, O3, ι6, B6, accV ++ [yv], acc ++ [y], r7.poke h2 (.inl f2) nD h3 (r7.nt h1 fun ps z => by cases z), ((i2.trans i4).trans i5).trans i6, (((b2.trans b3).trans b4).trans b5).trans b6, upd_same, h2, h3, paired_app hacc6 (.cons hy .nil), hz.2, q2⟩
                · rw [if_neg hz] at q2
                  exact q2.elim
        | bk ρ' O' => rw [z2] at q2; exact q2.elim
        | ct ρ' O' => rw [z2] at q2; exact q2.elim
        | ret x O' => rw [z2] at q2; exact q2.elim
        | err c p ρ' O' => rw [z2] at q2; exact q2.elim
        | bad => rw [z2] at q2; exact q2.elim
      · have hi : ds.length ≤ i := by omega
        rw [List.drop_eq_nil_of_le hi] at q2
        exact .inl ⟨⟨ws, hsq, by rw [paired_len hwp]; exact hi⟩, q2 ι2 B2 H accV r2 i2 b2 hDv hDB hDi hacc⟩
theorem en_compO {elt : Expr} {ifs : List Expr} {scope : Scope} {own : List (Str × Nat)} {mi : ME (Nat × List D)} {f : D → MS} {mt : ME Bool} {me : ME D} {g : TG} (hc : X.calm = true) (hN : X.N.Nodup) (hi : EIO X Wx tg it mi) (ok : BlkOk X.N X.env.scope scope own)
    (hg : ∀ (s : Shared) (H : Hp) (C : Addr) (cl : List (Str × Addr)) (fp : List Addr), PG (X.blk s H scope (compEnvC scope cl C X.env) fp) tg g) (eg : EvGW X g (own.map (·.2)) f)
    (ht : ∀ (s : Shared) (H : Hp) (C : Addr) (cl : List (Str × Addr)) (fp : List Addr), ETs (X.blk s H scope (compEnvC scope cl C X.env) fp) WF ifs mt)
    (he : ∀ (s : Shared) (H : Hp) (C : Addr) (cl : List (Str × Addr)) (fp : List Addr), EX (X.blk s H scope (compEnvC scope cl C X.env) fp) WF elt me) (hs : ∀ x, foldedSetIterable it X.env x = pure x := by intro _; rfl) :
    EN X Wx (.ListComp elt [⟨tg, it, ifs, 0⟩] scope pos) (compOM (own.map (·.2)) mi f mt me) := by
  obtain ⟨wi, pi, ei⟩ := hi
  refine ⟨_, pe_lc (g := g) (tt := canon X WF (rQ Bool) mt) (te := canon X WF (rD X) me) hc hN pi ok hg (fun s H C cl fp => (ht s H C cl fp).ptsB hc) (fun s H C cl fp => (he s H C cl fp).peB hc) hs, EvN.compO ei eg canon_ev canon_ev⟩
end
end DL

set_option Elab.async false
set_option linter.all false
set_option maxRecDepth 100000
/-! DLWp3: the wishes for objects, fields, methods, the store. -/
namespace DL
open PySem L2
variable [Tabs]
section
variable {α β : Type} (ρ : Rho) (O : Sto) (k : α → Sto → Prop) (kd : D → Sto → Prop) (kc : Cell → Sto → Prop) (kl : List D → Sto → Prop) (kr : SD → Sto → Prop) (kp : List (Key × D) → Sto → Prop) (E : KE) (Q : RS → Prop)
/-! results -/
def wRE (r : RE SD) (k : SD → Sto → Prop) (E : KE) : Prop := match r with
  | .ok x O' => k x O'
  | .err c p O' => E c p O'
  | .bad => False
theorem wRE_ok (x : SD) : wRE (.ok x O) kr E = kr x O := q_ rfl
theorem wRE_err (c : Str) (p : D) : wRE (.err c p O) kr E = E c p O := q_ rfl
def cCR (f : MF) (ds : List D) (O1 : Sto) : Prop := wRE (f ds O1) kr E
theorem cCR_ap (f : MF) (ds : List D) (O1 : Sto) : cCR kr E f ds O1 = wRE (f ds O1) kr E := q_ rfl
theorem wE_callR (f : MF) (m : ME (List D)) : wE (callR f m) ρ O kr E = wE m ρ O (cCR kr E f) E := wE_bindF ρ O kr E m _ _ fun ds O1 => by
  unfold wE cCR wRE
  dsimp only
  cases f ds O1 <;> rfl
def cFz (x : SD) (O1 : Sto) : Prop := match x with
  | .shr d => kd d O1
  | .own (.lst xs) => kd (.lst xs) O1
  | .own (.dct es) => kd (.dct es) O1
  | _ => False
theorem cFz_shr (d : D) (O1 : Sto) : cFz kd (.shr d) O1 = kd d O1 := q_ rfl
theorem cFz_lst (xs : List D) (O1 : Sto) : cFz kd (.own (.lst xs)) O1 = kd (.lst xs) O1 := q_ rfl
theorem cFz_dct (es : List (Key × D)) (O1 : Sto) : cFz kd (.own (.dct es)) O1 = kd (.dct es) O1 := q_ rfl
theorem wE_frzSD (m : ME SD) : wE (frzSD m) ρ O kd E = wE m ρ O (cFz kd) E := wE_bindF ρ O kd E m _ _ fun x O1 => by
  cases x with
  | shr d => rfl
  | hot c p => rfl
  | own c => cases c <;> rfl
def cSt (x : SD) (O1 : Sto) : Prop := match x with
  | .shr d => kd d O1
  | .own c => kd (.obj O1.length) (O1 ++ [c])
  | .hot _ _ => False
theorem cSt_shr (d : D) (O1 : Sto) : cSt kd (.shr d) O1 = kd d O1 := q_ rfl
theorem cSt_own (c : Cell) (O1 : Sto) : cSt kd (.own c) O1 = kd (.obj O1.length) (O1 ++ [c]) := q_ rfl
theorem wE_stoSD (m : ME SD) : wE (stoSD m) ρ O kd E = wE m ρ O (cSt kd) E := wE_bindF ρ O kd E m _ _ fun x O1 => by cases x <;> rfl
def cOwn (c : Cell) (O1 : Sto) : Prop := kr (.own c) O1
theorem cOwn_ap (c : Cell) (O1 : Sto) : cOwn kr c O1 = kr (.own c) O1 := q_ rfl
theorem wE_ownSD (m : ME Cell) : wE (ownSD m) ρ O kr E = wE m ρ O (cOwn kr) E := wE_bindF ρ O kr E m _ _ fun x O1 => rfl
/-! fields -/
variable (T : List (Str × List Str)) (fn : Str)
def cFld (o : D) (O1 : Sto) : Prop := wO (fldG T fn o O1) (cO O1 kd)
theorem cFld_ap (o : D) (O1 : Sto) : cFld kd T fn o O1 = wO (fldG T fn o O1) (cO O1 kd) := q_ rfl
theorem wE_fld (m : ME D) : wE (fldM T fn m) ρ O kd E = wE m ρ O (cFld kd T fn) E := wE_bindF ρ O kd E m _ _ fun x O1 => wE_optO ρ O1 kd E _
def cFp3 (O' : Sto) : Prop := Q (.nx ρ O')
def cFp2 (d o : D) (O2 : Sto) : Prop := wO (fldP T fn o d O2) (cFp3 ρ Q)
def cFp1 (mo : ME D) (d : D) (O1 : Sto) : Prop := wE mo ρ O1 (cFp2 ρ Q T fn d) (cErr ρ Q)
theorem cFp3_ap (O' : Sto) : cFp3 ρ Q O' = Q (.nx ρ O') := q_ rfl
theorem cFp2_ap (d o : D) (O2 : Sto) : cFp2 ρ Q T fn d o O2 = wO (fldP T fn o d O2) (cFp3 ρ Q) := q_ rfl
theorem cFp1_ap (mo : ME D) (d : D) (O1 : Sto) : cFp1 ρ Q T fn mo d O1 = wE mo ρ O1 (cFp2 ρ Q T fn d) (cErr ρ Q) := q_ rfl
theorem wS_fld (mo mv : ME D) : wS (fldS T fn mo mv) ρ O Q = wE mv ρ O (cFp1 ρ Q T fn mo) (cErr ρ Q) :=
  wS_bindS ρ O Q _ mv _ fun d O1 => wS_bindS ρ O1 Q _ mo _ fun o O2 => by
    rw [cFp2_ap]
    unfold wS
    dsimp only
    cases fldP T fn o d O2 <;> rfl
def cFa4 (O2 : Sto) (o z : D) (O1 : Sto) : Prop := clsO O2 o = clsO O1 o ∧ wO (fldP T fn o z O2) (cFp3 ρ Q)
def cFa3 (f : D → D → Option D) (o d : D) (O1 : Sto) (y : D) (O2 : Sto) : Prop := wO (f d (derefD O2 y)) (fun z => cFa4 ρ Q T fn O2 o z O1)
def cFa2 (f : D → D → Option D) (mv : ME D) (o : D) (O1 : Sto) (d : D) : Prop := wE mv ρ O1 (cFa3 ρ Q T fn f o d O1) (cErr ρ Q)
def cFa1 (f : D → D → Option D) (mv : ME D) (o : D) (O1 : Sto) : Prop := wO (fldG T fn o O1) (cFa2 ρ Q T fn f mv o O1)
theorem cFa4_ap (O2 : Sto) (o z : D) (O1 : Sto) : cFa4 ρ Q T fn O2 o z O1 = (clsO O2 o = clsO O1 o ∧ wO (fldP T fn o z O2) (cFp3 ρ Q)) := q_ rfl
theorem cFa3_ap (f : D → D → Option D) (o d : D) (O1 : Sto) (y : D) (O2 : Sto) : cFa3 ρ Q T fn f o d O1 y O2 = wO (f d (derefD O2 y)) (fun z => cFa4 ρ Q T fn O2 o z O1) := q_ rfl
theorem cFa2_ap (f : D → D → Option D) (mv : ME D) (o : D) (O1 : Sto) (d : D) : cFa2 ρ Q T fn f mv o O1 d = wE mv ρ O1 (cFa3 ρ Q T fn f o d O1) (cErr ρ Q) := q_ rfl
theorem cFa1_ap (f : D → D → Option D) (mv : ME D) (o : D) (O1 : Sto) : cFa1 ρ Q T fn f mv o O1 = wO (fldG T fn o O1) (cFa2 ρ Q T fn f mv o O1) := q_ rfl
theorem wS_fldAug (f : D → D → Option D) (mo mv : ME D) : wS (fldAugS T fn f mo mv) ρ O Q = wE mo ρ O (cFa1 ρ Q T fn f mv) (cErr ρ Q) :=
  wS_bindS ρ O Q _ mo _ fun o O1 => by
    rw [cFa1_ap]
    cases h : fldG T fn o O1 with
    | none => unfold wS; simp only [h]; rfl
    | some d =>
      rw [wO_some, cFa2_ap]
      refine Eq.trans ?_ (wS_bindS ρ O1 Q (fun y ρ O2 => match f d (derefD O2 y) with
        | some z => if clsO O2 o = clsO O1 o then (match fldP T fn o z O2 with
          | some O3 => .nx ρ O3
          | none => .bad) else .bad
        | none => .bad) mv _ fun y O2 => ?_)
      · unfold wS; simp only [h]; all_goals rfl
      · rw [cFa3_ap]
        unfold wS
        dsimp only
        cases f d (derefD O2 y) with
        | none => rfl
        | some z =>
          rw [wO_some, cFa4_ap]
          by_cases hc : clsO O2 o = clsO O1 o
          · simp only [hc, if_true, true_and]
            cases fldP T fn o z O2 <;> rfl
          · simp only [hc, if_false, false_and]
theorem wO_iAdd (i j : Int) (q : D → Prop) : wO (iAdd (.int i) (.int j)) q = q (.int (i + j)) := q_ rfl
theorem wO_iSub (i j : Int) (q : D → Prop) : wO (iSub (.int i) (.int j)) q = q (.int (i - j)) := q_ rfl
/-! methods, makers -/
def cMe4 (f : MF) (o : D) (ds : List D) (O2 : Sto) : Prop := wRE (f (o :: ds) O2) kr E
def cMe3 (mn : Str) (m : ME (List D)) (o : D) (fs : List (Str × D)) (f : MF) : Prop := (fs.lookup mn).isNone = true ∧ wE m ρ O (cMe4 kr E f o) E
def cMe2 (tbl : List (Str × MF)) (mn : Str) (m : ME (List D)) (o : D) (p : Nat × Str × List (Str × D)) : Prop := wO (tbl.lookup p.2.1) (cMe3 ρ O kr E mn m o p.2.2)
def cMe1 (tbl : List (Str × MF)) (mn : Str) (m : ME (List D)) (o : D) (O1 : Sto) : Prop := wO (insO O1 o) (cMe2 ρ O1 kr E tbl mn m o)
theorem cMe4_ap (f : MF) (o : D) (ds : List D) (O2 : Sto) : cMe4 kr E f o ds O2 = wRE (f (o :: ds) O2) kr E := q_ rfl
theorem cMe3_ap (mn : Str) (m : ME (List D)) (o : D) (fs : List (Str × D)) (f : MF) : cMe3 ρ O kr E mn m o fs f = ((fs.lookup mn).isNone = true ∧ wE m ρ O (cMe4 kr E f o) E) := q_ rfl
theorem cMe2_ap (tbl : List (Str × MF)) (mn : Str) (m : ME (List D)) (o : D) (n : Nat) (c : Str) (fs : List (Str × D)) : cMe2 ρ O kr E tbl mn m o (n, c, fs) = wO (tbl.lookup c) (cMe3 ρ O kr E mn m o fs) := q_ rfl
theorem cMe1_ap (tbl : List (Str × MF)) (mn : Str) (m : ME (List D)) (o : D) (O1 : Sto) : cMe1 ρ kr E tbl mn m o O1 = wO (insO O1 o) (cMe2 ρ O1 kr E tbl mn m o) := q_ rfl
theorem wE_methR (tbl : List (Str × MF)) (mn : Str) (mo : ME D) (m : ME (List D)) : wE (methR tbl mn mo m) ρ O kr E = wE mo ρ O (cMe1 ρ kr E tbl mn m) E := wE_bindF ρ O kr E mo _ _ fun o O1 => by
  rw [cMe1_ap]
  cases h : insO O1 o with
  | none => unfold wE; simp only [h]; rfl
  | some p =>
    obtain ⟨n, c, fs⟩ := p
    rw [wO_some, cMe2_ap]
    cases h2 : tbl.lookup c with
    | none => unfold wE; simp only [h, h2]; rfl
    | some f =>
      rw [wO_some, cMe3_ap]
      by_cases h3 : (fs.lookup mn).isNone = true
      · simp only [h3, true_and]
        refine Eq.trans ?_ (Eq.trans (wE_callR ρ O1 kr E f (selfA o m)) (wE_bindF ρ O1 (cCR kr E f) E m _ _ fun ds O2 => rfl))
        unfold wE
        simp only [h, h2, h3, if_true]
      · have h4 : ((fs.lookup mn).isNone = true) = False := eq_false h3
        rw [h4, false_and]
        unfold wE
        simp only [h, h2]
        rw [if_neg h3]
def wNon (x : SD) (p : Prop) : Prop := match x with
  | .shr .non => p
  | _ => False
theorem wNon_non (p : Prop) : wNon (.shr .non) p = p := q_ rfl
def cMk2 (n : Nat) (x : SD) (O2 : Sto) : Prop := wNon x (kd (.obj n) O2)
theorem cMk2_ap (n : Nat) (x : SD) (O2 : Sto) : cMk2 kd n x O2 = wNon x (kd (.obj n) O2) := q_ rfl
def cMk1 (c : Str) (f : MF) (ds : List D) (O1 : Sto) : Prop := wRE (f (.obj O1.length :: ds) (O1 ++ [.ins c []])) (cMk2 kd O1.length) E
theorem cMk1_ap (c : Str) (f : MF) (ds : List D) (O1 : Sto) : cMk1 kd E c f ds O1 = wRE (f (.obj O1.length :: ds) (O1 ++ [.ins c []])) (cMk2 kd O1.length) E := q_ rfl
theorem wE_make (c : Str) (f : MF) (m : ME (List D)) : wE (makeM c f m) ρ O kd E = wE m ρ O (cMk1 kd E c f) E := wE_bindF ρ O kd E m _ _ fun ds O1 => by
  unfold wE cMk1 wRE
  dsimp only
  cases f (.obj O1.length :: ds) (O1 ++ [.ins c []]) with
  | bad => rfl
  | err c p O' => rfl
  | ok x O2 =>
    cases x with
    | shr d => cases d <;> rfl
    | own c => rfl
    | hot c p => rfl
/-! methods of lists in the store -/
def cLm5 (O2 : Sto) (n : Nat) (w : D × List D) : Prop := kd w.1 (O2.set n (.lst w.2))
def cLm4 (g : Sto → List D → List D → Option (D × List D)) (O2 : Sto) (ds : List D) (p : Nat × List D) : Prop := wO (g O2 p.2 ds) (cLm5 kd O2 p.1)
def cLm3 (g : Sto → List D → List D → Option (D × List D)) (o : D) (ds : List D) (O2 : Sto) : Prop := wO (lstO O2 o) (cLm4 kd g O2 ds)
def cLm2 (g : Sto → List D → List D → Option (D × List D)) (m : ME (List D)) (o : D) (_ : Nat × List D) : Prop := wE m ρ O (cLm3 kd g o) E
def cLm1 (g : Sto → List D → List D → Option (D × List D)) (m : ME (List D)) (o : D) (O1 : Sto) : Prop := wO (lstO O1 o) (cLm2 ρ O1 kd E g m o)
theorem cLm5_ap (O2 : Sto) (n : Nat) (w : D) (ys : List D) : cLm5 kd O2 n (w, ys) = kd w (O2.set n (.lst ys)) := q_ rfl
theorem cLm4_ap (g : Sto → List D → List D → Option (D × List D)) (O2 : Sto) (ds : List D) (n : Nat) (xs : List D) : cLm4 kd g O2 ds (n, xs) = wO (g O2 xs ds) (cLm5 kd O2 n) := q_ rfl
theorem cLm3_ap (g : Sto → List D → List D → Option (D × List D)) (o : D) (ds : List D) (O2 : Sto) : cLm3 kd g o ds O2 = wO (lstO O2 o) (cLm4 kd g O2 ds) := q_ rfl
theorem cLm2_ap (g : Sto → List D → List D → Option (D × List D)) (m : ME (List D)) (o : D) (p : Nat × List D) : cLm2 ρ O kd E g m o p = wE m ρ O (cLm3 kd g o) E := q_ rfl
theorem cLm1_ap (g : Sto → List D → List D → Option (D × List D)) (m : ME (List D)) (o : D) (O1 : Sto) : cLm1 ρ kd E g m o O1 = wO (lstO O1 o) (cLm2 ρ O1 kd E g m o) := q_ rfl
theorem wE_lm (g : Sto → List D → List D → Option (D × List D)) (mo : ME D) (m : ME (List D)) : wE (lmM g mo m) ρ O kd E = wE mo ρ O (cLm1 ρ kd E g m) E := wE_bindF ρ O kd E mo _ _ fun o O1 => by
  rw [cLm1_ap]
  cases h : lstO O1 o with
  | none => unfold wE; simp only [h]; rfl
  | some p =>
    rw [wO_some, cLm2_ap]
    refine Eq.trans ?_ (wE_bindF ρ O1 kd E m (fun ds _ O2 => match lstO O2 o with
      | some (n, xs) => (match g O2 xs ds with
        | some (z, ys) => .ok z (O2.set n (.lst ys))
        | none => .bad)
      | none => .bad) _ fun ds O2 => ?_)
    · unfold wE; simp only [h]; all_goals rfl
    · rw [cLm3_ap]
      unfold wE
      dsimp only
      cases lstO O2 o with
      | none => rfl
      | some p =>
        obtain ⟨n, xs⟩ := p
        rw [wO_some, cLm4_ap]
        dsimp only
        cases g O2 xs ds with
        | none => rfl
        | some w => obtain ⟨z, ys⟩ := w; rfl
theorem wO_appG (O1 : Sto) (xs : List D) (d : D) (q : D × List D → Prop) : wO (appG O1 xs [d]) q = (xs.length < sizeLine ∧ q (.non, xs ++ [d])) := by
  unfold appG
  by_cases h : xs.length < sizeLine
  · simp only [h, if_true, wO_some, true_and]
  · simp only [h, if_false, false_and]; rfl
/-! a, b = e -/
def cUn3 (O1 : Sto) (ρ' : Rho) : Prop := Q (.nx ρ' O1)
theorem cUn3_ap (O1 : Sto) (ρ' : Rho) : cUn3 Q O1 ρ' = Q (.nx ρ' O1) := q_ rfl
def cUnp (is : List Nat) (d : D) (O1 : Sto) : Prop := match d with
  | .tup ds => wO (unp is ds ρ) (cUn3 Q O1)
  | _ => False
theorem cUnp_tup (is : List Nat) (ds : List D) (O1 : Sto) : cUnp ρ Q is (.tup ds) O1 = wO (unp is ds ρ) (cUn3 Q O1) := q_ rfl
theorem unp_nil : unp [] [] ρ = some ρ := q_ rfl
theorem unp_cons (i : Nat) (is : List Nat) (d : D) (ds : List D) : unp (i :: is) (d :: ds) ρ = unp is ds (ρ.set i (some (.shr d))) := q_ rfl
theorem wS_unp (is : List Nat) (m : ME D) : wS (unpS is m) ρ O Q = wE m ρ O (cUnp ρ Q is) (cErr ρ Q) := wS_bindS ρ O Q _ m _ fun d O1 => by
  cases d with
  | tup ds =>
    rw [cUnp_tup]
    unfold wS unpG
    dsimp only
    cases unp is ds ρ <;> rfl
  | _ => rfl
/-! sorted -/
def cSort (ds : List D) (O1 : Sto) : Prop := wO (sortL (ds.map (derefD O1))) (cO O1 kl)
theorem cSort_ap (ds : List D) (O1 : Sto) : cSort kl ds O1 = wO (sortL (ds.map (derefD O1))) (cO O1 kl) := q_ rfl
theorem wE_sort (m : ME (List D)) : wE (sortM m) ρ O kl E = wE m ρ O (cSort kl) E := wE_bindF ρ O kl E m _ _ fun x O1 => wE_optO ρ O1 kl E _
def cSortK (kf : Sto → D → Option Int) (ds : List D) (O1 : Sto) : Prop := wO (sortKL kf O1 (ds.map (derefD O1))) (cO O1 kl)
theorem cSortK_ap (kf : Sto → D → Option Int) (ds : List D) (O1 : Sto) : cSortK kl kf ds O1 = wO (sortKL kf O1 (ds.map (derefD O1))) (cO O1 kl) := q_ rfl
theorem wE_sortK (kf : Sto → D → Option Int) (m : ME (List D)) : wE (sortKM kf m) ρ O kl E = wE m ρ O (cSortK kl kf) E := wE_bindF ρ O kl E m _ _ fun x O1 => wE_optO ρ O1 kl E _
/-! walked things, with dicts -/
theorem wO_walk'L (xs : List D) (q : List D → Prop) : wO (walkD' (.lst xs)) q = q xs := q_ rfl
theorem wO_walk'A (xs : List D) (q : List D → Prop) : wO (walkD' (.sea xs)) q = q xs := q_ rfl
theorem wO_walk'T (xs : List D) (q : List D → Prop) : wO (walkD' (.tup xs)) q = q xs := q_ rfl
theorem wO_walk'D (es : List (Key × D)) (q : List D → Prop) : wO (walkD' (.dct es)) q = q (es.map fun p => kvD p.1) := q_ rfl
theorem walk'_S (l : List Nat) (q : List D → Prop) : wO (walkD' (.str (SX.S l))) q = q (l.map chD) := walk_S l q
/-! {k: v for ..} -/
def wDK (r : RE (List (Key × D))) (k : Cell → Sto → Prop) : Prop := match r with
  | .ok ys O' => k (.dct ys) O'
  | _ => False
theorem wDK_ok (ys : List (Key × D)) : wDK (.ok ys O) kc = kc (.dct ys) O := q_ rfl
def cCompD (vs : List Nat) (f : D → MS) (mt : ME Bool) (mk me : ME D) (ds : List D) (O1 : Sto) : Prop := wDK (compDL vs f mt mk me ds [] ρ O1) kc
theorem cCompD_ap (vs : List Nat) (f : D → MS) (mt : ME Bool) (mk me : ME D) (ds : List D) (O1 : Sto) : cCompD ρ kc vs f mt mk me ds O1 = wDK (compDL vs f mt mk me ds [] ρ O1) kc := q_ rfl
theorem wE_compD (vs : List Nat) (mi : ME (List D)) (f : D → MS) (mt : ME Bool) (mk me : ME D) : wE (compDM vs mi f mt mk me) ρ O kc E = wE mi ρ O (cCompD ρ kc vs f mt mk me) E := wE_bindF ρ O kc E mi _ _ fun ds O1 => by
  rw [wE_bind]
  unfold wE cCompD wDK
  cases z : compDL vs f mt mk me ds [] ρ O1 with
  | ok ys O2 => rfl
  | err c p O' => exact absurd z compDL_noerr
  | bad => rfl
/-! what the store holds at n -/
variable {n : Nat} {c : Str} {fs : List (Str × D)}
theorem wO_fldG (d : Option D) (h : O[n]? = some (.ins c fs)) (hf : fldOk T c fn = true) (hl : fs.lookup fn = d) (q : D → Prop) : wO (fldG T fn (.obj n) O) q = wO d q := by
  unfold fldG insO
  simp only [h, Option.bind_some, hf, if_true, hl]
theorem wO_fldP (d : D) (h : O[n]? = some (.ins c fs)) (hf : fldOk T c fn = true) (hl : fs.length < 1000) (q : Sto → Prop) : wO (fldP T fn (.obj n) d O) q = q (O.set n (.ins c (putFD fn d fs))) := by
  unfold fldP insO
  simp only [h, Option.bind_some, hf, hl, and_self, if_true, wO_some]
theorem wO_insO (h : O[n]? = some (.ins c fs)) (q : Nat × Str × List (Str × D) → Prop) : wO (insO O (.obj n)) q = q (n, c, fs) := by
  unfold insO
  simp only [h, wO_some]
theorem wO_lstO {xs : List D} (h : O[n]? = some (.lst xs)) (q : Nat × List D → Prop) : wO (lstO O (.obj n)) q = q (n, xs) := by
  unfold lstO
  simp only [h, wO_some]
theorem clsO_at (h : O[n]? = some (.ins c fs)) : clsO O (.obj n) = some c := by
  unfold clsO insO
  simp only [h, Option.map_some]
end
/-- a dict comprehension without effects, by its keys and values; the keys all differ -/
theorem comp_dmap {τ : Type} {vs : List Nat} {g : D → MS} {mk me : ME D} {ρ : Rho} {O : Sto} (enc : τ → D) (kf : τ → Key) (f : τ → D) (xs : List τ) (hl : xs.length ≤ sizeLine) (hn : (xs.map kf).Nodup)
    (h : ∀ x, x ∈ xs → wS (g (enc x)) (bareR vs ρ) O (fun r => match r with | .nx ρ1 O1 => O1 = O ∧ wE mk ρ1 O (fun y O2 => O2 = O ∧ keyD y = some (kf x)) (fun _ _ _ => False) ∧ wE me ρ1 O (fun d O2 => d = f x ∧ O2 = O) (fun _ _ _ => False) | _ => False)) :
    compDL vs g (pureE true) mk me (xs.map enc) [] ρ O = .ok (xs.map fun x => (kf x, f x)) O := by
  have gen : ∀ (ys zs : List τ), zs ++ ys = xs → compDL vs g (pureE true) mk me (ys.map enc) (zs.map fun x => (kf x, f x)) ρ O = .ok ((zs ++ ys).map fun x => (kf x, f x)) O := by
    intro ys
    induction ys with
    | nil => intro zs _; rw [List.append_nil]; rfl
    | cons y ys ih =>
      intro zs e
      have hy := h y (by rw [← e]; simp)
      rw [List.map_cons]
      unfold compDL
      unfold wS at hy
      cases z : g (enc y) (bareR vs ρ) O with
      | nx ρ1 O1 =>
        rw [z] at hy
        obtain ⟨rfl, h1, h2⟩ := hy
        simp only [pureE]
        unfold wE at h1 h2
        cases z1 : mk ρ1 O1 with
        | ok yv O2 =>
          rw [z1] at h1
          obtain ⟨rfl, h3⟩ := h1
          dsimp only
          cases z2 : me ρ1 O2 with
          | ok d O3 =>
            rw [z2] at h2
            obtain ⟨rfl, rfl⟩ := h2
            dsimp only
            rw [h3]
            dsimp only
            have hz : (zs.map fun x => (kf x, f x)).length < sizeLine := by
              have := congrArg List.length e
              rw [List.length_append, List.length_cons] at this
              rw [List.length_map]
              omega
            rw [if_pos hz]
            have hp : putD (zs.map fun x => (kf x, f x)) (kf y) (f y) = (zs ++ [y]).map fun x => (kf x, f x) := by
              unfold putD
              rw [if_neg, List.map_append]
              · rfl
              · intro hh
                rw [List.any_eq_true] at hh
                obtain ⟨p, hp, e2⟩ := hh
                obtain ⟨w, hw, rfl⟩ := List.mem_map.mp hp
                have e2 := of_decide_eq_true e2
                rw [← e, List.map_append, List.map_cons] at hn
                have := (List.nodup_append.mp hn).2.2 (kf w) (List.mem_map_of_mem hw) (kf y) List.mem_cons_self
                exact this e2
            rw [hp, ih (zs ++ [y]) (by rw [List.append_assoc]; exact e), List.append_assoc]
            rfl
          | err c p O' => rw [z2] at h2; exact h2.elim
          | bad => rw [z2] at h2; exact h2.elim
        | err c p O' => rw [z1] at h1; exact h1.elim
        | bad => rw [z1] at h1; exact h1.elim
      | bad => rw [z] at hy; exact hy.elim
      | bk _ _ => rw [z] at hy; exact hy.elim
      | ct _ _ => rw [z] at hy; exact hy.elim
      | ret _ _ => rw [z] at hy; exact hy.elim
      | err _ _ _ _ => rw [z] at hy; exact hy.elim
  have := gen xs [] rfl
  rw [List.nil_append] at this
  exact this
section
variable {α : Type} (ρ : Rho) (O : Sto) (kc : Cell → Sto → Prop) (kn : Nat × List D → Sto → Prop) (E : KE)
def cObj (d : D) (O1 : Sto) : Prop := wO (lstO O1 d) (cO O1 kn)
theorem cObj_ap (d : D) (O1 : Sto) : cObj kn d O1 = wO (lstO O1 d) (cO O1 kn) := q_ rfl
theorem wE_objM (m : ME D) : wE (objM m) ρ O kn E = wE m ρ O (cObj kn) E := wE_bindF ρ O kn E m _ _ fun x O1 => wE_optO ρ O1 kn E _
def cCompO (vs : List Nat) (f : D → MS) (mt : ME Bool) (me : ME D) (p : Nat × List D) (O1 : Sto) : Prop := wL (compLO p.1 p.2 vs f mt me p.2 [] ρ O1) (cYs kc)
theorem cCompO_ap (vs : List Nat) (f : D → MS) (mt : ME Bool) (me : ME D) (n : Nat) (xs : List D) (O1 : Sto) : cCompO ρ kc vs f mt me (n, xs) O1 = wL (compLO n xs vs f mt me xs [] ρ O1) (cYs kc) := q_ rfl
theorem wE_compO (vs : List Nat) (mi : ME (Nat × List D)) (f : D → MS) (mt : ME Bool) (me : ME D) : wE (compOM vs mi f mt me) ρ O kc E = wE mi ρ O (cCompO ρ kc vs f mt me) E := wE_bindF ρ O kc E mi _ _ fun p O1 => by
  rw [wE_bind]
  unfold wE cCompO wL
  cases z : compLO p.1 p.2 vs f mt me p.2 [] ρ O1 with
  | ok ys O2 => rfl
  | err c p O' => exact absurd z compLO_noerr
  | bad => rfl
end
/-- .. without effects, by its items -/
theorem compO_map {τ : Type} {n : Nat} {vs : List Nat} {g : D → MS} {me : ME D} {ρ : Rho} {O : Sto} (enc : τ → D) (f : τ → D) (xs : List τ) (hl : xs.length ≤ sizeLine) (hO : O[n]? = some (.lst (xs.map enc)))
    (h : ∀ x, x ∈ xs → wS (g (enc x)) (bareR vs ρ) O (fun r => match r with | .nx ρ1 O1 => O1 = O ∧ wE me ρ1 O (fun d O2 => d = f x ∧ O2 = O) (fun _ _ _ => False) | _ => False)) :
    compLO n (xs.map enc) vs g (pureE true) me (xs.map enc) [] ρ O = .ok (xs.map f) O := by
  have gen : ∀ (ys : List τ) (acc : List D), (∀ x, x ∈ ys → x ∈ xs) → acc.length + ys.length ≤ sizeLine → compLO n (xs.map enc) vs g (pureE true) me (ys.map enc) acc ρ O = .ok (acc ++ ys.map f) O := by
    intro ys
    induction ys with
    | nil => intro acc _ _; rw [List.map_nil, List.map_nil, List.append_nil]; rfl
    | cons y ys ih =>
      intro acc hs hz
      have hy := h y (hs y List.mem_cons_self)
      rw [List.map_cons]
      unfold compLO
      unfold wS at hy
      cases z : g (enc y) (bareR vs ρ) O with
      | nx ρ1 O1 =>
        rw [z] at hy
        obtain ⟨rfl, h2⟩ := hy
        simp only [pureE]
        unfold wE at h2
        cases z2 : me ρ1 O1 with
        | ok d O3 =>
          rw [z2] at h2
          obtain ⟨rfl, rfl⟩ := h2
          dsimp only
          rw [if_pos ⟨by rw [List.length_cons] at hz; omega, hO⟩, ih (acc ++ [f y]) (fun x hx => hs x (List.mem_cons_of_mem _ hx)) (by rw [List.length_append, List.length_singleton]; rw [List.length_cons] at hz; omega), List.append_assoc]
          rfl
        | err c p O' => rw [z2] at h2; exact h2.elim
        | bad => rw [z2] at h2; exact h2.elim
      | bad => rw [z] at hy; exact hy.elim
      | bk _ _ => rw [z] at hy; exact hy.elim
      | ct _ _ => rw [z] at hy; exact hy.elim
      | ret _ _ => rw [z] at hy; exact hy.elim
      | err _ _ _ _ => rw [z] at hy; exact hy.elim
  have := gen xs [] (fun _ h => h) (by rw [List.length_nil]; omega)
  rw [List.nil_append] at this
  exact this
section
variable (ρ : Rho) (O : Sto) (Q : RS → Prop)
def cDlZ (j : Nat) (c : Cell) : Prop := Q (.nx (ρ.set j (some (.own c))) O)
theorem cDlZ_ap (j : Nat) (c : Cell) : cDlZ ρ O Q j c = Q (.nx (ρ.set j (some (.own c))) O) := q_ rfl
def cDlC (j : Nat) (y : D) (c : Cell) : Prop := wO (delC c (derefD O y)) (cDlZ ρ O Q j)
theorem cDlC_ap (j : Nat) (y : D) (c : Cell) : cDlC ρ O Q j y c = wO (delC c (derefD O y)) (cDlZ ρ O Q j) := q_ rfl
def cDlI (j : Nat) (y : D) (O2 : Sto) : Prop := wWi j ρ (cDlC ρ O2 Q j y)
theorem cDlI_ap (j : Nat) (y : D) (O2 : Sto) : cDlI ρ Q j y O2 = wWi j ρ (cDlC ρ O2 Q j y) := q_ rfl
def cDl0 (mi : ME D) (j : Nat) (_ : Cell) : Prop := wE mi ρ O (cDlI ρ Q j) (cErr ρ Q)
theorem cDl0_ap (mi : ME D) (j : Nat) (c : Cell) : cDl0 ρ O Q mi j c = wE mi ρ O (cDlI ρ Q j) (cErr ρ Q) := q_ rfl
theorem wS_delOwn (j : Nat) (mi : ME D) : wS (delOwnS j mi) ρ O Q = wWi j ρ (cDl0 ρ O Q mi j) := by
  unfold wWi wW
  cases z : ρ[j]? with
  | none => unfold wS delOwnS; rw [z]; rfl
  | some o =>
    cases o with
    | none => unfold wS delOwnS; rw [z]; rfl
    | some s =>
      cases s with
      | own c =>
        show _ = wE mi ρ O (cDlI ρ Q j) (cErr ρ Q)
        refine Eq.trans ?_ (wS_bindS ρ O Q (fun y ρ O => match ρ[j]? with
          | some (some (.own c)) => (match delC c (derefD O y) with
            | some c' => .nx (ρ.set j (some (.own c'))) O
            | none => .bad)
          | _ => .bad) mi (cDlI ρ Q j) fun y O2 => ?_)
        · unfold wS delOwnS
          rw [z, if_pos (show isOwnC (some (some (SD.own c))) = true from rfl)]
          all_goals rfl
        · unfold wS cDlI wWi wW
          simp only [z]
          show _ = wO (delC c (derefD O2 y)) (cDlZ ρ O2 Q j)
          cases delC c (derefD O2 y) <;> rfl
      | _ => unfold wS delOwnS; rw [z]; rfl
theorem wO_delC (es : List (Key × D)) (s : Str) (q : Cell → Prop) (h : (valD es (.inr s)).isSome = true) : wO (delC (.dct es) (.str s)) q = q (.dct (dropD es (.inr s))) := by
  unfold delC
  simp only [keyD, Option.bind_some, if_pos h, wO_some]
end
end DL

set_option Elab.async false
set_option linter.all false
set_option maxRecDepth 100000
/-! DLRules20: places that are not reached; dicts of the module with text keys; str of an int, int of a text, tuple of a list. -/
namespace DL
open PySem L2
variable [Tabs]
section
variable {X : Cx} {Wx : WX} {pos : Pos}
/-! what is not reached -/
theorem ex_bad {e : Expr} : EX X Wx e badE := ⟨fun _ _ _ => False, ⟨fun _ _ _ _ _ _ h => h.elim⟩, fun _ _ _ _ _ _ _ _ _ q => q⟩
theorem et_bad {e : Expr} : ET X Wx e badE := ⟨fun _ _ _ => False, ⟨fun _ _ _ _ _ _ h => h.elim⟩, fun _ _ _ _ _ _ _ _ _ q => q⟩
theorem es_bad {st : Stmt} : ES X Wx st badS := ⟨fun _ _ _ => False, ⟨fun _ _ _ _ _ _ h => h.elim⟩, fun _ _ _ _ _ _ _ _ _ q => q⟩
theorem eb_bad {st : List Stmt} : EB X Wx st badS := ⟨fun _ _ _ => False, ⟨fun _ _ _ _ _ _ h => h.elim⟩, fun _ _ _ _ _ _ _ _ _ q => q⟩
/-! a dict of the module with text keys -/
def GDct (w : World) (K : PySem.W.Frag) (mg : Mg) (x : Str) (es : List (Str × D)) : Prop := ∃ (d : Addr) (ents : Array DictEntry) (n : Nat), mg x = some (.ref d) ∧ KDict K w d ents n ∧
  ∀ z, match es.lookup z with
    | none => PySem.W.nsIn K d z = some none
    | some dd => ∃ u v, PySem.W.nsIn K d z = some (some u) ∧ RelV v u ∧ ∀ ι B, DA K ι B v dd
def inG (es : List (Str × D)) (neg : Bool) : D → Option D
  | .str z => some (.bl (if neg then !(es.lookup z).isSome else (es.lookup z).isSome))
  | _ => none
def ixG (es : List (Str × D)) : D → Option D
  | .str z => es.lookup z
  | _ => none
theorem GDct.at {w : World} {K : PySem.W.Frag} {mg : Mg} {x : Str} {es : List (Str × D)} {d : Addr} (h : ∀ z, match es.lookup z with
    | none => PySem.W.nsIn K d z = some none
    | some dd => ∃ u v, PySem.W.nsIn K d z = some (some u) ∧ RelV v u ∧ ∀ ι B, DA K ι B v dd) (z : Str) : ∃ r, PySem.W.nsIn K d z = some r ∧ r.isSome = (es.lookup z).isSome := by
  have := h z
  cases hz : es.lookup z with
  | none => rw [hz] at this; exact ⟨none, this, rfl⟩
  | some dd =>
    rw [hz] at this
    obtain ⟨u, v, h1, _⟩ := this
    exact ⟨some u, h1, rfl⟩
theorem ex_inG {x : Str} {p : Pos} {a : Expr} {ma : ME D} {es : List (Str × D)} (G : GDct X.w X.K X.mg x es) (ha : EZ X Wx a ma) (hg : Gl X x := by rfl) (hd : (x == ("__debug__" : Str)) = false := by decide) (hm : behindInMarks .In (.Name x p) = false := by rfl) :
    EX X Wx (.Compare a [.In] [.Name x p] pos) (un1 (inG es false) ma) := by
  obtain ⟨d, ents, n, h1, h2, h3⟩ := G
  obtain ⟨ta, pa, ea⟩ := ha
  refine ⟨_, pe_cmpR (op_in_kd h2) pa (pe_glob (v := .ref d) hg h1 rfl hd) hm, ?_⟩
  refine Ev.bind (R' := rD X) (u := fun y σ H1 Q => ∃ (z : Str) (r : Option Value), y = .str z ∧ V.ref d = .ref d ∧ PySem.W.nsIn X.K d z = some r ∧ Q (.bl r.isSome) H1) ea fun y a e ι B H ρ O σ Q r hy q => ?_
  have hy := hy.dhO r
  simp only [optO] at q
  cases z : derefD O a with
  | str s =>
    rw [z] at q hy
    cases hy
    obtain ⟨r', e1, e2⟩ := GDct.at (w := X.w) (mg := X.mg) (x := x) h3 s
    refine ⟨s, r', rfl, rfl, e1, ?_⟩
    rw [e2]
    exact q ι B H _ r (Pre.refl _) (Same.refl _) (.bl _)
  | _ => rw [z] at q; exact q.elim
theorem et_inG {x : Str} {p : Pos} {a : Expr} {ma : ME D} {es : List (Str × D)} (G : GDct X.w X.K X.mg x es) (ha : EZ X Wx a ma) (hg : Gl X x := by rfl) (hd : (x == ("__debug__" : Str)) = false := by decide) (hm : behindInMarks .In (.Name x p) = false := by rfl) :
    ET X Wx (.Compare a [.In] [.Name x p] pos) (boolM (un1 (inG es false) ma)) := by
  obtain ⟨d, ents, n, h1, h2, h3⟩ := G
  obtain ⟨ta, pa, ea⟩ := ha
  refine ⟨_, pt_cmpR (op_in_kd h2) pa (pe_glob (v := .ref d) hg h1 rfl hd) hm, ?_⟩
  refine ev_bool ?_
  refine Ev.bind (R' := rD X) (u := fun y σ H1 Q => ∃ (z : Str) (r : Option Value), y = .str z ∧ V.ref d = .ref d ∧ PySem.W.nsIn X.K d z = some r ∧ Q (.bl r.isSome) H1) ea fun y a e ι B H ρ O σ Q r hy q => ?_
  have hy := hy.dhO r
  simp only [optO] at q
  cases z : derefD O a with
  | str s =>
    rw [z] at q hy
    cases hy
    obtain ⟨r', e1, e2⟩ := GDct.at (w := X.w) (mg := X.mg) (x := x) h3 s
    refine ⟨s, r', rfl, rfl, e1, ?_⟩
    rw [e2]
    exact q ι B H _ r (Pre.refl _) (Same.refl _) (.bl _)
  | _ => rw [z] at q; exact q.elim
theorem ex_ixG {x : Str} {p : Pos} {b : Expr} {mb : ME D} {es : List (Str × D)} (G : GDct X.w X.K X.mg x es) (hb : EZ X Wx b mb) (hs : PlainIx b := by intro _ _; rfl) (hg : Gl X x := by rfl) (hd : (x == ("__debug__" : Str)) = false := by decide) :
    EX X Wx (.Subscript (.Name x p) b pos) (un1 (ixG es) mb) := by
  obtain ⟨d, ents, n, h1, h2, h3⟩ := G
  obtain ⟨tb, pb, eb⟩ := hb
  refine ⟨_, pe_ix ix_kdict (pe_glob (v := .ref d) hg h1 rfl hd) pb hs, ?_⟩
  refine Ev.bind (R' := rD X) (u := fun y σ H1 Q => rIxD X.K X.w (.ref d) y H1 Q) eb fun y a e ι B H ρ O σ Q r hy q => ?_
  have hy := hy.dhO r
  simp only [optO] at q
  cases z : derefD O a with
  | str s =>
    rw [z] at q hy
    cases hy
    have h4 := h3 s
    cases hl : es.lookup s with
    | none =>
      have : ixG es (.str s) = none := hl
      rw [this] at q
      exact q.elim
    | some dd =>
      have : ixG es (.str s) = some dd := hl
      rw [this] at q
      rw [hl] at h4
      obtain ⟨u, v, e1, rv, da⟩ := h4
      exact ⟨d, s, v, rfl, rfl, ⟨ents, n, u, h2.at_, h2.lit, e1, rv⟩, q ι B H _ r (Pre.refl _) (Same.refl _) (da ι B)⟩
  | _ => rw [z] at q; exact q.elim
/-! x is True, x is False, whatever x is -/
def isCB (b : Bool) : D → Option D
  | .bl a => some (.bl (decide (a = b)))
  | .non => some (.bl false)
  | .int _ => some (.bl false)
  | .str _ => some (.bl false)
  | .lst _ => some (.bl false)
  | .tup _ => some (.bl false)
  | _ => none
def rIsC (b : Bool) : R2 := fun x y H Q => y = .bl b ∧ ((∃ a, x = .bl a ∧ Q (.bl (decide (a = b))) H) ∨ ((x = .non ∨ (∃ i, x = .int i) ∨ (∃ s, x = .str s) ∨ ∃ a, x = .ref a) ∧ Q (.bl false) H))
theorem op_isC (b : Bool) : OpR X (compareOp .Is) (rIsC b) := by
  intro pins s σ H x y v u Q I rx ry h
  obtain ⟨rfl, h⟩ := h
  cases (show u = Value.bool b from ry)
  rcases h with ⟨a, rfl, q⟩ | ⟨h, q⟩
  · cases (show v = Value.bool a from rx)
    by_cases e : a = b
    · subst e
      exact wpAny_is_self rfl ⟨.bl true, H, I, rfl, by simpa using q⟩
    · exact wpAny_is_other rfl (fun z => e (Value.bool.inj z)) ⟨.bl false, H, I, rfl, by simpa [e] using q⟩
  · rcases h with rfl | ⟨i, rfl⟩ | ⟨z, rfl⟩ | ⟨a, rfl⟩
    · cases (show v = Value.none from rx)
      exact wpAny_is_other rfl (fun z => by cases z) ⟨.bl false, H, I, rfl, q⟩
    · obtain ⟨t, rfl⟩ := rx
      exact wpAny_is_other rfl (fun z => by cases z) ⟨.bl false, H, I, rfl, q⟩
    · obtain ⟨t, rfl⟩ := rx
      exact wpAny_is_other rfl (fun z => by cases z) ⟨.bl false, H, I, rfl, q⟩
    · cases (show v = Value.ref a from rx)
      exact wpAny_is_other rfl (fun z => by cases z) ⟨.bl false, H, I, rfl, q⟩
theorem ev_isC {b : Bool} {ta : TE} {ma : ME D} (ea : Ev X Wx (rS X) ta ma) : Ev X Wx (rD X) (fun σ H Q => ta σ H fun x H1 => rIsC b x (.bl b) H1 Q) (un1 (isCB b) ma) := by
  refine Ev.bind (R' := rD X) (u := fun x σ H1 Q => rIsC b x (.bl b) H1 Q) ea fun y a e ι B H ρ O σ Q r hy q => ?_
  have hy := hy.dhO r
  simp only [optO] at q
  refine ⟨rfl, ?_⟩
  have go : ∀ c, EvP X Wx (rD X) e ι B ρ σ Q (.ok (.bl c) O) → Q (.bl c) H := fun c q => q ι B H _ r (Pre.refl _) (Same.refl _) (.bl _)
  cases z : derefD O a with
  | bl c =>
    rw [z] at q hy
    cases hy
    exact .inl ⟨c, rfl, q ι B H _ r (Pre.refl _) (Same.refl _) (.bl _)⟩
  | non =>
    rw [z] at q hy
    cases hy
    exact .inr ⟨.inl rfl, q ι B H _ r (Pre.refl _) (Same.refl _) (.bl _)⟩
  | int i =>
    rw [z] at q hy
    cases hy
    exact .inr ⟨.inr (.inl ⟨_, rfl⟩), q ι B H _ r (Pre.refl _) (Same.refl _) (.bl _)⟩
  | str i =>
    rw [z] at q hy
    cases hy
    exact .inr ⟨.inr (.inr (.inl ⟨_, rfl⟩)), q ι B H _ r (Pre.refl _) (Same.refl _) (.bl _)⟩
  | lst xs =>
    rw [z] at q hy
    obtain ⟨p, vs, rfl, h1, h2⟩ := hy
    exact .inr ⟨.inr (.inr (.inr ⟨_, rfl⟩)), q ι B H _ r (Pre.refl _) (Same.refl _) (.bl _)⟩
  | tup xs =>
    rw [z] at q hy
    obtain ⟨p, vs, rfl, h1, h2⟩ := hy
    exact .inr ⟨.inr (.inr (.inr ⟨_, rfl⟩)), q ι B H _ r (Pre.refl _) (Same.refl _) (.bl _)⟩
  | _ => rw [z] at q; exact q.elim
theorem ex_isC {a : Expr} {b : Bool} {j p2} {ma : ME D} (ha : EZ X Wx a ma) : EX X Wx (.Compare a [.Is] [.Constant (.bool b) j p2] pos) (un1 (isCB b) ma) := by
  obtain ⟨ta, pa, ea⟩ := ha
  exact ⟨_, pe_cmpR (op_isC b) pa (pe_bl (b := b)) (nomark _), ev_isC ea⟩
theorem et_isC {a : Expr} {b : Bool} {j p2} {ma : ME D} (ha : EZ X Wx a ma) : ET X Wx (.Compare a [.Is] [.Constant (.bool b) j p2] pos) (boolM (un1 (isCB b) ma)) := by
  obtain ⟨ta, pa, ea⟩ := ha
  exact ⟨_, pt_cmpR (op_isC b) pa (pe_bl (b := b)) (nomark _), ev_bool (ev_isC ea)⟩
/-! str of an int, int of a text -/
def strI : List D → Option D
  | [.int i] => if i.natAbs.log2 < 1920 then some (.str (toString i)) else none
  | _ => none
theorem opN_stri : OpN X (fun xs H Q => ∃ i, xs = [.int i] ∧ i.natAbs.log2 < 1920 ∧ Q (.str (toString i)) H) strI := by
  intro xs ds z e ι B H ρ O σ Q r hx hz q
  unfold strI at hz
  split at hz
  · split at hz
    · rename_i hl
      cases hz
      obtain ⟨v, rfl, h⟩ := paired1 hx
      cases h
      exact ⟨_, rfl, hl, atomI r q (.str _)⟩
    · cases hz
  · cases hz
theorem ex_stri {p : Pos} {e : Expr} {m : ME (List D)} (hm : X.mg "str" = none) (ha : EAZ X Wx [e] m) (hg : Gl X "str" := by rfl) (he : starEach [e] X.env = (false, eval e X.env) :: starEach [] X.env := by rfl) : EX X Wx (.Call (.Name "str" p) [e] [] pos) (callM strI m) :=
  ex_callT call_str_int opN_stri hm ha hg (by decide +kernel) (by decide) (by decide) he rfl
def intT : List D → Option D
  | [.str s] => if s.length ≤ 640 then (PySem.intText? s).map .int else none
  | _ => none
theorem opN_intt : OpN X (fun xs H Q => ∃ a n, xs = [.str a] ∧ PySem.intText? a = some n ∧ a.length ≤ 640 ∧ Q (.int n) H) intT := by
  intro xs ds z e ι B H ρ O σ Q r hx hz q
  unfold intT at hz
  split at hz
  · split at hz
    · rename_i s hl
      cases hn : PySem.intText? s with
      | none => rw [hn] at hz; cases hz
      | some n =>
        rw [hn] at hz
        cases hz
        obtain ⟨v, rfl, h⟩ := paired1 hx
        cases h
        exact ⟨s, n, rfl, hn, hl, atomI r q (.int _)⟩
    · cases hz
  · cases hz
theorem ex_intt {p : Pos} {e : Expr} {m : ME (List D)} (hm : X.mg "int" = none) (ha : EAZ X Wx [e] m) (hg : Gl X "int" := by rfl) (he : starEach [e] X.env = (false, eval e X.env) :: starEach [] X.env := by rfl) : EX X Wx (.Call (.Name "int" p) [e] [] pos) (callM intT m) :=
  ex_callT call_int_str opN_intt hm ha hg (by decide +kernel) (by decide) (by decide) he rfl
/-! tuple of a list -/
def tupL : List D → Option D
  | [.lst xs] => some (.tup xs)
  | [.sea xs] => some (.tup xs)
  | _ => none
theorem opN_tupL : OpN X (fun xs H Q => ∃ p ys, xs = [.ref p] ∧ ((SqL X.K H p ys ∧ ∀ l, H l = none → Q (.ref l) (upd H l (.tup ys))) ∨ (SqT X.K H p ys ∧ Q (.ref p) H))) tupL := by
  intro xs ds z e ι B H ρ O σ Q r hx hz q
  unfold tupL at hz
  split at hz
  · cases hz
    obtain ⟨v, rfl, h⟩ := paired1 hx
    obtain ⟨p, vs, rfl, h1, h2⟩ := h
    exact ⟨p, vs, rfl, .inl ⟨SqL.of h1, newT r (fun B' H' v r' b' hv => q B' H' v r' b' hv) h2⟩⟩
  · cases hz
    obtain ⟨v, rfl, h⟩ := paired1 hx
    obtain ⟨p, vs, rfl, h1, h2⟩ := h
    exact ⟨p, vs, rfl, .inl ⟨h1, newT r (fun B' H' v r' b' hv => q B' H' v r' b' hv) h2⟩⟩
  · cases hz
theorem ex_tupL {p : Pos} {e : Expr} {m : ME (List D)} (hm : X.mg "tuple" = none) (ha : EAZ X Wx [e] m) (hg : Gl X "tuple" := by rfl) (he : starEach [e] X.env = (false, eval e X.env) :: starEach [] X.env := by rfl) : EX X Wx (.Call (.Name "tuple" p) [e] [] pos) (callM tupL m) :=
  ex_callT call_tuple_of opN_tupL hm ha hg (by decide +kernel) (by decide) (by decide) he rfl
end
section
variable {P : Program} {w : World} {K : PySem.W.Frag} {mg : Mg} {base : Heap} {qual : Str} {st : Stmt} {N : List Str} {k : Nat}
theorem bod_bad : Bod P w K mg base qual st N k badS := fun _ _ _ _ _ _ _ _ => eb_bad
/-- an entry of a written dict, and what it stands for -/
def EntG (K : PySem.W.Frag) (e : DictEntry) (p : Str × D) : Prop := (∃ t, e.key = .str p.1 t) ∧ ∃ v, RelV v e.val ∧ ∀ ι B, DA K ι B v p.2
theorem entG_find (z : Str) : ∀ {ents : List DictEntry} {es : List (Str × D)}, Paired (EntG K) ents es → (match es.lookup z with
    | none => ents.find? (·.key.isStr z) = none
    | some dd => ∃ e v, ents.find? (·.key.isStr z) = some e ∧ RelV v e.val ∧ ∀ ι B, DA K ι B v dd) ∧ ents.any (·.refKey) = false
  | _, _, .nil => ⟨rfl, rfl⟩
  | e :: ents, p :: es, .cons h t => by
    obtain ⟨⟨tk, hk⟩, v, rv, da⟩ := h
    have ih := entG_find z t
    have hs : e.key.isStr z = decide (z = p.1) := by
      rw [hk]
      show decide (p.1 = z) = decide (z = p.1)
      exact decide_eq_decide.mpr ⟨Eq.symm, Eq.symm⟩
    have hr : e.refKey = false := by
      unfold DictEntry.refKey
      rw [hk]
    constructor
    · by_cases hz : z = p.1
      · have e1 : (p :: es).lookup z = some p.2 := by
          rw [show p = (p.1, p.2) from rfl, List.lookup_cons, beq_iff_eq.mpr hz]
        rw [e1]
        refine ⟨e, v, ?_, rv, da⟩
        rw [List.find?_cons, hs, decide_eq_true hz]
      · have e1 : (p :: es).lookup z = es.lookup z := by
          rw [show p = (p.1, p.2) from rfl, List.lookup_cons, beq_eq_false_iff_ne.mpr hz]
        rw [e1, List.find?_cons, hs, decide_eq_false hz]
        exact ih.1
    · rw [List.any_cons, hr, ih.2]
      rfl
theorem keys_nil {p : Params} : PySem.W.KeysLit p [] := trivial
theorem keys_cons {p : Params} {e : DictEntry} {es : List DictEntry} {x : Str} {t : Tok} (h : e.key = .str x t) (h2 : e.hash = PyData.keyHash p x) (r : PySem.W.KeysLit p es) : PySem.W.KeysLit p (e :: es) := ⟨⟨x, t, h, h2⟩, r⟩
theorem entS {e : DictEntry} {s z : Str} {t t' : Tok} (hk : e.key = .str s t) (hv : e.val = .str z t') : EntG K e (s, .str z) := ⟨⟨t, hk⟩, .str z, ⟨t', hv⟩, fun _ _ => .str z⟩
theorem entT {e : DictEntry} {s : Str} {t : Tok} {a : Addr} {od : Option Addr} {its : Array Value} {n : Nat} {sl : Array (Option Value)} (vs : List V) (ds : List D) (hk : e.key = .str s t) (hv : e.val = .ref a) (l : K.lookup a = some ⟨.type "tuple", od, .seq its n, sl⟩)
    (hs : its.size ≤ sizeLine) (hu : Vals vs its.toList) (hp : ∀ ι B, Paired (DA K ι B) vs ds) : EntG K e (s, .tup ds) :=
  ⟨⟨t, hk⟩, .ref a, hv, fun ι B => .tup (.inr ⟨_, its, n, l, rfl, rfl, hs, hu⟩) (hp ι B)⟩
theorem gdct_mk {h : Heap} {x : Str} {es : List (Str × D)} {d : Addr} {ents : Array DictEntry} {n : Nat} (KX : K.In h) (G : h.Ns mainGlobals mg) (a : PySem.W.nsIn K mainGlobals x = some (some (.ref d)))
    (l : K.lookup d = some ⟨.type "dict", none, .dict ents n, #[]⟩) (kl : PySem.W.KeysLit w.params ents.toList) (low : (d == sysModules) = false) (p : Paired (EntG K) ents.toList es) : GDct w K mg x es := by
  refine ⟨d, ents, n, PySem.W.mg_of KX G a, ⟨l, kl, low⟩, fun z => ?_⟩
  have q := entG_find z p
  have hn : PySem.W.nsIn K d z = match ents.toList.find? (·.key.isStr z) with
      | some e => some (some e.val)
      | none => if ents.toList.any (·.refKey) then none else some none := by
    unfold PySem.W.nsIn
    rw [l]
    rfl
  cases hz : es.lookup z with
  | none =>
    rw [hz] at q
    have q1 : ents.toList.find? (·.key.isStr z) = none := q.1
    rw [hn, q1, q.2]
    rfl
  | some dd =>
    rw [hz] at q
    obtain ⟨e, v, h1, h2, h3⟩ := q.1
    exact ⟨e.val, v, by rw [hn, h1], h2, h3⟩
end
end DL

set_option Elab.async false
set_option linter.all false
set_option maxRecDepth 100000
/-! DLWp4: the wishes for DLRules20, and for results handed on. -/
namespace DL
open PySem L2
variable [Tabs]
section
variable (ρ : Rho) (O : Sto) (Q : RS → Prop)
def cRetR (x : SD) (O1 : Sto) : Prop := Q (.ret x O1)
theorem cRetR_ap (x : SD) (O1 : Sto) : cRetR Q x O1 = Q (.ret x O1) := q_ rfl
theorem wS_retR (m : ME SD) : wS (retR m) ρ O Q = wE m ρ O (cRetR Q) (cErr ρ Q) := wS_bindS ρ O Q _ m _ fun x O1 => rfl
theorem wS_badS : wS badS ρ O Q = False := q_ rfl
end
section
variable (k : D → Prop)
theorem wO_inG (es : List (Str × D)) (z : Str) : wO (inG es false (.str z)) k = k (.bl (es.lookup z).isSome) := q_ rfl
theorem wO_ixG (es : List (Str × D)) (z : Str) : wO (ixG es (.str z)) k = wO (es.lookup z) k := q_ rfl
theorem wO_strI (i : Int) : wO (strI [.int i]) k = (i.natAbs.log2 < 1920 ∧ k (.str (toString i))) := wO_if _ _ k
theorem wO_intT (s : Str) (n : Int) (h : PySem.intText? s = some n) : wO (intT [.str s]) k = (s.length ≤ 640 ∧ k (.int n)) := by
  unfold intT
  dsimp only
  rw [h]
  exact wO_if _ _ k
theorem wO_tupL (xs : List D) : wO (tupL [.lst xs]) k = k (.tup xs) := q_ rfl
theorem wO_tupLs (xs : List D) : wO (tupL [.sea xs]) k = k (.tup xs) := q_ rfl
theorem wO_isCb (b a : Bool) : wO (isCB b (.bl a)) k = k (.bl (decide (a = b))) := q_ rfl
theorem wO_isCn (b : Bool) : wO (isCB b .non) k = k (.bl false) := q_ rfl
theorem wO_isCi (b : Bool) (i : Int) : wO (isCB b (.int i)) k = k (.bl false) := q_ rfl
theorem wO_isCs (b : Bool) (s : Str) : wO (isCB b (.str s)) k = k (.bl false) := q_ rfl
theorem wO_isCl (b : Bool) (s : List D) : wO (isCB b (.lst s)) k = k (.bl false) := q_ rfl
theorem wO_isCt (b : Bool) (s : List D) : wO (isCB b (.tup s)) k = k (.bl false) := q_ rfl
end
end DL

set_option Elab.async false
set_option linter.all false
set_option maxRecDepth 100000
/-! DLRules21: isinstance against an own class. -/
namespace DL
open PySem L2 C8
variable [Tabs]
/-- what isinstance asks of an own class -/
def IsC (K : PySem.W.Frag) (mg : Mg) (c : Str) : Prop := ∃ C, mg c = some (.ref C) ∧ InsC K C
theorem isC_mk {K : PySem.W.Frag} {mg : Mg} {c : Str} {h : Heap} {C : Addr} (X : K.In h) (G : h.Ns mainGlobals mg) (a : PySem.W.nsIn K mainGlobals c = some (some (.ref C))) (p1 : PySem.W.plainGet K C Str.empty = true) (p2 : PySem.W.hasDictIn K C = true) (p3 : PySem.W.plainOver K C = true)
    (p4 : PySem.W.findIn K (.ref C) "__setattr__" = some (some (.builtin "object.__setattr__")))
    (q1 : PySem.W.findIn K (.ref C) "__class__" = some (some (.builtin "object.__class__")))
    (q2 : PySem.W.specialIn K (.builtin "object.__class__") "__get__" = some (some (.builtin "getset_descriptor.__get__")))
    (q3 : PySem.W.takesIn K (.builtin "object.__class__") = some true)
    (q4 : PySem.W.mroIn K C (.type "object") = some true)
    (q5 : PySem.W.kitOne K (.ref C) (.ref C) = some true) : IsC K mg c :=
  ⟨C, PySem.W.mg_of X G a, ⟨⟨p1, p2, p3, p4⟩, q1, q2, q3, q4, q5⟩⟩
/-- isinstance(x, C): x an object of C -/
def insG (c : Str) (o : D) (O : Sto) : Option D := (insO O o).bind fun p => if p.2.1 = c then some (.bl true) else none
def insM (c : Str) (mo : ME D) : ME D := bindE mo fun o => optO (insG c o)
theorem insG_eq {c : Str} {o d : D} {O : Sto} (h : insG c o O = some d) : ∃ n fs, o = .obj n ∧ O[n]? = some (.ins c fs) ∧ d = .bl true := by
  unfold insG at h
  cases z : insO O o with
  | none => rw [z] at h; cases h
  | some q =>
    obtain ⟨n, c', fs⟩ := q
    rw [z] at h
    simp only [Option.bind_some] at h
    obtain ⟨h1, h2⟩ := insO_eq z
    split at h
    · rename_i e
      cases h
      cases e
      exact ⟨n, fs, h1, h2, rfl⟩
    · cases h
section
variable {X : Cx} {Wx : WX} {a : Expr} {pos : Pos} {ma : ME D}
theorem ex_ins {c : Str} {p p2 : Pos} (hm : X.mg "isinstance" = none) (hI : IsC X.K X.mg c) (ha : EX X Wx a ma) (hg : Gl X "isinstance" := by rfl) (hgT : Gl X c := by rfl)
    (he : starEach [a, .Name c p2] X.env = (false, eval a X.env) :: starEach [.Name c p2] X.env := by rfl) (he2 : starEach [.Name c p2] X.env = (false, eval (.Name c p2) X.env) :: starEach [] X.env := by rfl)
    (hpl : (backTo pos (starEach [.Name c p2] X.env)).any (·.1) = false := by rfl) (hd : (c == ("__debug__" : Str)) = false := by decide) : EX X Wx (.Call (.Name "isinstance" p) [a, .Name c p2] [] pos) (insM c ma) := by
  obtain ⟨t, pt, et⟩ := ha
  obtain ⟨C, hmC, iC⟩ := hI
  refine ⟨_, pe_callB (call_isC iC) hg hm (by decide +kernel) (pa_cons pt (pa_cons (pe_glob (v := .ref C) hgT hmC rfl hd) pa_nil he2) he) (by decide) (by decide) he hpl,
    fun e ι B H ρ O σ Q r q => ?_⟩
  refine et e ι B H ρ O σ _ r ?_
  simp only [insM, bindE, optO] at q
  cases z : ma ρ O with
  | bad => rw [z] at q; exact q
  | err c p O' => rw [z] at q; exact q
  | ok o O' =>
    rw [z] at q
    dsimp only at q
    intro ι' B' H' v r' i' b' hv
    cases z2 : insG c o O' with
    | none => rw [z2] at q; exact q.elim
    | some d =>
      rw [z2] at q
      obtain ⟨n, fs, rfl, h2, rfl⟩ := insG_eq z2
      cases hv with
      | obj hi =>
        obtain ⟨⟨C', dx, fvs, k1, k2, k3⟩, _⟩ := r'.ob n _ _ h2 hi
        have : C' = C := by
          have := k1.symm.trans hmC
          cases this
          rfl
        subst this
        exact ⟨_, dx, fvs, rfl, k2, q ι' B' H' _ r' i' b' (.bl true)⟩
/-! a name of the text that stands for a tuple -/
def GTup (K : PySem.W.Frag) (mg : Mg) (x : Str) (ds : List D) : Prop := ∃ a, mg x = some (.ref a) ∧ ∀ ι B, DA K ι B (.ref a) (.tup ds)
theorem ex_gtup {x : Str} {ds : List D} {p : Pos} (G : GTup X.K X.mg x ds) (hg : Gl X x := by rfl) (hd : (x == ("__debug__" : Str)) = false := by decide) : EX X Wx (.Name x p) (cM (.tup ds)) := by
  obtain ⟨a, h1, h2⟩ := G
  exact ⟨_, pe_glob (v := .ref a) hg h1 rfl hd, ev_const h2⟩
end
/-! tuple + tuple -/
def addT : D → D → Option D
  | .tup a, .tup b => if a.length + b.length ≤ sizeLine then some (.tup (a ++ b)) else none
  | _, _ => none
theorem deref_tup {O : Sto} {a : D} {as : List D} (h : derefD O a = .tup as) : a = .tup as := by
  cases a with
  | obj n =>
    unfold derefD at h
    split at h <;> first | (exact h) | (cases h; done) | skip
    all_goals (split at h <;> first | (exact h) | (cases h; done) | skip)
  | _ => exact h
section
variable {X : Cx} {Wx : WX} {pos : Pos}
theorem rS_tup {ι : List Addr} {B : Hp} {ρ : Rho} {σ : St} {v : V} {as : List D} (h : rS X ι B ρ σ v (.tup as)) : DA X.K ι B v (.tup as) := by
  rcases h with h | ⟨i, c, _, _, e, _⟩
  · exact h
  · cases c <;> cases e
theorem ex_addT {a b : Expr} {ma mb : ME D} (ha : EZ X Wx a ma) (hb : EZ X Wx b mb) : EX X Wx (.BinOp a .Add b pos) (binM addT ma mb) := by
  obtain ⟨ta, pa, ea⟩ := ha
  obtain ⟨tb, pb, eb⟩ := hb
  refine ⟨_, pe_op op_catA pa pb, Ev.bind2 (u := fun x y σ H Q => rCatA X.K x y H Q) ea eb fun x y a b e ι B H ρ O σ Q r hx hy q => ?_⟩
  simp only [optO] at q
  cases z : addT (derefD O a) (derefD O b) with
  | none => rw [z] at q; exact q.elim
  | some d =>
    rw [z] at q
    unfold addT at z
    split at z
    · rename_i as bs h1 h2
      have h1 := deref_tup h1
      have h2 := deref_tup h2
      subst h1 h2
      have dx := rS_tup hx
      have dy := rS_tup hy
      split at z
      · rename_i hl
        cases z
        have hs : Same B H := r.sub
        cases dx with
        | tup s1 p1 =>
          cases dy with
          | tup s2 p2 =>
            have t1 := sqT_same hs s1
            have t2 := sqT_same hs s2
            refine ⟨_, _, _, _, rfl, rfl, t1, t2, by rw [paired_len p1, paired_len p2]; exact hl, fun e => ?_, fun _ e => ?_, fun _ _ => ?_⟩
            · subst e
              cases p1
              exact EvP.ok r q (.tup s2 p2)
            · subst e
              cases p2
              exact EvP.ok r q (by rw [List.append_nil]; exact .tup s1 p1)
            · exact newT r (fun B' H' v r' b' hv => q ι B' H' v r' (Pre.refl _) b' hv) (paired_app p1 p2)
      · cases z
    · cases z
end
/-! text * number -/
def repS (l : List Nat) (n : Nat) : List Nat := (List.replicate n l).flatten
def mulS : D → D → Option D
  | .str s, .int n => if 0 ≤ n ∧ n ≤ 1000 ∧ s.length ≤ 1000 then some (.str (SX.S (repS s.cps.toList n.toNat))) else none
  | _, _ => none
theorem rep_len (l : List Nat) (n : Nat) : (repS l n).length = n * l.length := by
  induction n with
  | zero => simp [repS]
  | succ n ih =>
    unfold repS at ih ⊢
    rw [List.replicate_succ, List.flatten_cons, List.length_append, ih, Nat.succ_mul, Nat.add_comm]
theorem rep_fold (n : Nat) (a : Array Nat) : ∀ b : Array Nat, ((List.replicate n a).foldl (· ++ ·) b).toList = b.toList ++ repS a.toList n := by
  induction n with
  | zero => intro b; simp [repS]
  | succ n ih =>
    intro b
    rw [List.replicate_succ, List.foldl_cons, ih, Array.toList_append, repS, repS, List.replicate_succ, List.flatten_cons, List.append_assoc]
section
variable {X : Cx} {Wx : WX} {pos : Pos}
theorem op_mulS : OpR X (binaryOp .Mult) (fun x y H Q => ∃ s n, x = .str s ∧ y = .int n ∧ 0 ≤ n ∧ n ≤ 1000 ∧ s.length ≤ 1000 ∧ Q (.str (SX.S (repS s.cps.toList n.toNat))) H) := by
  intro pins st σ H x y v u Q I rx ry h
  obtain ⟨s, n, rfl, rfl, h0, h1, h2, q⟩ := h
  obtain ⟨t, rfl⟩ := rx
  obtain ⟨t', rfl⟩ := ry
  have e1 : (decide (n < -(2 ^ 63 : Int)) || decide (n ≥ 2 ^ 63)) = false := by
    rw [decide_eq_false (by omega), decide_eq_false (by omega)]; rfl
  have hm : s.length * n.toNat ≤ 1000 * 1000 := Nat.mul_le_mul h2 (by omega)
  refine PySem.P.mul_str e1 (fun a _ => ?_) (fun _ _ => ?_) ?_
  · have hn : 0 < n := by omega
    have : (1000 : Int) ≤ (2 ^ 63 - 1) / n := by
      rw [Int.le_ediv_iff_mul_le hn]
      omega
    omega
  · unfold PySem.Builtin.Str.tooLong
    rw [decide_eq_false]
    rw [sizeLine_v]
    omega
  · by_cases hn : n < 1
    · rw [if_pos hn]
      have e : n.toNat = 0 := by omega
      rw [e] at q
      exact ⟨by decide, ⟨.str Str.empty, H, I.tok _, ⟨_, rfl⟩, q⟩⟩
    · rw [if_neg hn]
      by_cases hb : (n == 1 || s.length == 0) = true
      · rw [if_pos hb]
        have e : SX.S (repS s.cps.toList n.toNat) = s := by
          rcases Bool.or_eq_true _ _ ▸ hb with h | h
          · have : n.toNat = 1 := by
              have := beq_iff_eq.mp h
              omega
            rw [this]
            show SX.S (List.replicate 1 s.cps.toList).flatten = s
            rw [List.replicate_one, List.flatten_singleton]
          · have h := beq_iff_eq.mp h
            have hs : s.cps.toList = [] := List.length_eq_zero_iff.mp (by rw [Array.length_toList]; exact h)
            have : repS s.cps.toList n.toNat = s.cps.toList := by
              rw [hs]
              unfold repS
              induction n.toNat with
              | zero => rfl
              | succ k ih => rw [List.replicate_succ, List.flatten_cons, ih]; rfl
            rw [this]
        rw [e] at q
        exact ⟨.str s, H, I, ⟨_, rfl⟩, q⟩
      · rw [if_neg hb]
        have e : (⟨(List.replicate n.toNat s.cps).foldl (· ++ ·) #[]⟩ : Str) = SX.S (repS s.cps.toList n.toNat) := TL.ext_tl (by
          show ((List.replicate n.toNat s.cps).foldl (· ++ ·) #[]).toList = _
          rw [rep_fold]
          rfl)
        rw [e]
        refine ⟨?_, ⟨.str _, H, I.tok _, ⟨_, rfl⟩, q⟩⟩
        show (repS s.cps.toList n.toNat).toArray.size ≤ sizeLine
        rw [List.size_toArray, rep_len, sizeLine_v]
        have : s.cps.toList.length = s.length := Array.length_toList
        rw [this, Nat.mul_comm]
        omega
theorem op2_mulS : Op2 X (fun x y H Q => ∃ s n, x = .str s ∧ y = .int n ∧ 0 ≤ n ∧ n ≤ 1000 ∧ s.length ≤ 1000 ∧ Q (.str (SX.S (repS s.cps.toList n.toNat))) H) mulS := by
  intro x y a b z e ι B H ρ O σ Q r hx hy hz q
  unfold mulS at hz
  split at hz
  · cases hx
    cases hy
    split at hz
    · rename_i h
      cases hz
      exact ⟨_, _, rfl, rfl, h.1, h.2.1, h.2.2, atomI r q (.str _)⟩
    · cases hz
  · cases hz
theorem ex_mulS {a b : Expr} {ma mb : ME D} (ha : EZ X Wx a ma) (hb : EZ X Wx b mb) : EX X Wx (.BinOp a .Mult b pos) (binM mulS ma mb) := ex_op op_mulS op2_mulS ha hb
/-! int(text, 16) -/
def hexT : List D → Option D
  | [.str s, .int b] => if b = 16 ∧ s.cps.toList ≠ [] ∧ s.length ≤ 640 ∧ s.cps.toList.all (fun c => decide ((48 ≤ c ∧ c ≤ 57) ∨ (97 ≤ c ∧ c ≤ 102) ∨ (65 ≤ c ∧ c ≤ 70))) = true then some (.int (Hx.hexNum s.cps.toList : Nat)) else none
  | _ => none
theorem opN_hexT : OpN X rIntHex hexT := by
  intro xs ds z e ι B H ρ O σ Q r hx hz q
  unfold hexT at hz
  split at hz
  · rename_i s b
    split at hz
    · rename_i h
      cases hz
      obtain ⟨rfl, h1, h2, h3⟩ := h
      cases hx with
      | cons a t =>
        cases t with
        | cons b t =>
          cases t
          cases a
          cases b
          refine ⟨s.cps.toList, by rw [SX.S_tl], h1, h2, fun c hc => (of_decide_eq_true (List.all_eq_true.mp h3 c hc) : (48 ≤ c ∧ c ≤ 57) ∨ (97 ≤ c ∧ c ≤ 102) ∨ (65 ≤ c ∧ c ≤ 70)), atomI r q (.int _)⟩
    · cases hz
  · cases hz
theorem ex_hexT {p : Pos} {a b : Expr} {m : ME (List D)} (hm : X.mg "int" = none) (ha : EAZ X Wx [a, b] m) (hg : Gl X "int" := by rfl) (he : starEach [a, b] X.env = (false, eval a X.env) :: starEach [b] X.env := by rfl)
    (hpl : (backTo pos (starEach [b] X.env)).any (·.1) = false := by rfl) : EX X Wx (.Call (.Name "int" p) [a, b] [] pos) (callM hexT m) :=
  ex_callT call_int_hex opN_hexT hm ha hg (by decide +kernel) (by decide) (by decide) he hpl
end
theorem gtup_mk {K : PySem.W.Frag} {mg : Mg} {h : Heap} {x : Str} (vs : List V) (ds : List D) {a : Addr} {od : Option Addr} {its : Array Value} {n : Nat} {sl : Array (Option Value)} (KX : K.In h) (G : h.Ns mainGlobals mg) (z : PySem.W.nsIn K mainGlobals x = some (some (.ref a)))
    (l : K.lookup a = some ⟨.type "tuple", od, .seq its n, sl⟩) (hs : its.size ≤ sizeLine) (hu : Vals vs its.toList) (hp : ∀ ι B, Paired (DA K ι B) vs ds) : GTup K mg x ds :=
  ⟨a, PySem.W.mg_of KX G z, fun ι B => .tup (.inr ⟨_, its, n, l, rfl, rfl, hs, hu⟩) (hp ι B)⟩
end DL

set_option Elab.async false
set_option linter.all false
set_option maxRecDepth 100000
/-! DLWp5: wishes for DLRules21. -/
namespace DL
open PySem L2
variable [Tabs]
section
variable (ρ : Rho) (O : Sto) (Q : RS → Prop) (kd : D → Sto → Prop) (E : KE)
def cIns (c : Str) (o : D) (O1 : Sto) : Prop := wO (insG c o O1) (cO O1 kd)
theorem cIns_ap (c : Str) (o : D) (O1 : Sto) : cIns kd c o O1 = wO (insG c o O1) (cO O1 kd) := q_ rfl
theorem wE_ins (c : Str) (m : ME D) : wE (insM c m) ρ O kd E = wE m ρ O (cIns kd c) E := wE_bindF ρ O kd E m _ _ fun x O1 => wE_optO ρ O1 kd E _
theorem wO_addT (x y : List D) (k : D → Prop) : wO (addT (.tup x) (.tup y)) k = (x.length + y.length ≤ sizeLine ∧ k (.tup (x ++ y))) := wO_if _ _ k
theorem wO_mulS (l : List Nat) (n : Int) (k : D → Prop) : wO (mulS (.str (SX.S l)) (.int n)) k = ((0 ≤ n ∧ n ≤ 1000 ∧ l.length ≤ 1000) ∧ k (.str (SX.S (repS l n.toNat)))) := by
  have e : (SX.S l).length = l.length := SX.S_len l
  show wO (if 0 ≤ n ∧ n ≤ 1000 ∧ (SX.S l).length ≤ 1000 then some (D.str (SX.S (repS l n.toNat))) else none) k = _
  rw [e]
  exact wO_if _ _ k
theorem wO_hexT (c : Nat) (k : D → Prop) (h : (48 ≤ c ∧ c ≤ 57) ∨ (97 ≤ c ∧ c ≤ 102) ∨ (65 ≤ c ∧ c ≤ 70)) : wO (hexT [.str (SX.S [c]), .int 16]) k = k (.int (Hx.hv c : Nat)) := by
  have e : hexT [.str (SX.S [c]), .int 16] = some (.int (Hx.hexNum [c] : Nat)) := by
    unfold hexT
    dsimp only
    rw [if_pos ⟨rfl, by simp, by rw [SX.S_len, List.length_singleton]; omega, by simp only [List.all_cons, List.all_nil, Bool.and_true]; exact decide_eq_true h⟩]
  rw [e, wO_some]
  have : Hx.hexNum [c] = Hx.hv c := by unfold Hx.hexNum; simp
  rw [this]
theorem wO_insG {O : Sto} {n : Nat} {c : Str} {fs : List (Str × D)} (h : O[n]? = some (.ins c fs)) (k : D → Prop) : wO (insG c (.obj n) O) k = k (.bl true) := by
  have e : insO O (.obj n) = some (n, c, fs) := by unfold insO; simp only [h]
  unfold insG
  rw [e, Option.bind_some, if_pos rfl, wO_some]
end
end DL

set_option Elab.async false
set_option linter.all false
set_option maxRecDepth 100000
/-! DLRules22: an owned dict is frozen ahead of a statement (nothing is run). -/
namespace L2
open PySem PySem.Spec PyProof.Rows
section
variable {X : Cx}
/-- a thing may be frozen ahead of statements -/
def tFrzS (t : TS) : TS := fun D σ H => ∃ a u, H a = some u ∧ Mut (some u) ∧ ∀ od, t D σ (upd H a (.frz od u))
theorem pss_frz {t : TS} {sts : List Stmt} (h : PSs X sts t) : PSs X sts (tFrzS t) := by
  refine ⟨fun pins s σ H D I q => ?_⟩
  obtain ⟨a, u, hu, mu, q⟩ := q
  obtain ⟨od, I2⟩ := I.lock hu mu
  exact h.run pins s σ _ D I2 (q od)
end
end L2
namespace DL
open PySem L2
variable [Tabs]
section
variable {X : Cx} {Wx : WX}
def frzD (i : Nat) : MS := fun ρ O => match ρ[i]? with
  | some (some (.own (.dct es))) => .nx (ρ.set i (some (.shr (.dct es)))) O
  | _ => .bad
theorem EvS.frzD {t : TS} {m : MS} (i : Nat) (h : EvS X Wx t m) : EvS X Wx (tFrzS t) (seqS (frzD i) m) := by
  intro e ι B H ρ O σ D' r q
  cases z : ρ[i]? with
  | none => simp only [seqS, DL.frzD, z] at q; exact q.elim
  | some o =>
    cases o with
    | none => simp only [seqS, DL.frzD, z] at q; exact q.elim
    | some x =>
      cases x with
      | shr d => simp only [seqS, DL.frzD, z] at q; exact q.elim
      | hot c p => simp only [seqS, DL.frzD, z] at q; exact q.elim
      | own c =>
        cases c with
        | lst es => simp only [seqS, DL.frzD, z] at q; exact q.elim
        | ins c fs => simp only [seqS, DL.frzD, z] at q; exact q.elim
        | dct es =>
          simp only [seqS, DL.frzD, z] at q
          obtain ⟨v, h1, a, e1, e2, e3, e4, e5⟩ := r.sl i _ z
          subst e1
          obtain ⟨kvs, hv, pv⟩ := e2
          refine ⟨a, _, hv, True.intro, fun od => ?_⟩
          have hi : i < ρ.length := (List.getElem?_eq_some_iff.mp z).1
          have hn : ∀ (j : Nat) (c' : Cell), (ρ.set i none)[j]? = some (some (.own c')) → (σ.set i none)[j]? ≠ some (some (.ref a)) := by
            intro j c' h2 h3
            by_cases e6 : i = j
            · subst e6
              rw [List.getElem?_set_self hi] at h2
              cases h2
            · rw [List.getElem?_set_ne e6] at h2 h3
              exact e6 (r.sep i j a _ _ z h2 h1 h3)
          obtain ⟨r3, b3⟩ := (r.unset (i := i) (o := none)).freezeTo (a := a) (o := .frz od (.dK kvs)) e3 e4 e5 hn (r.nt hv fun ps z => by cases z)
          have k3 := KD.mono b3 (Pre.refl _) _ _ pv
          have z2 := r3.set (i := i) (v := .ref a) (d := .dct es) (.dct upd_same (KD.split k3).1 (KD.split k3).2) (by rw [List.length_set]; exact hi)
          have e7 : σ = σ.set i (some (.ref a)) := by
            apply List.ext_getElem?
            intro j
            by_cases e6 : i = j
            · subst e6
              rw [List.getElem?_set_self (by rw [r.len]; exact hi)]
              exact h1
            · rw [List.getElem?_set_ne e6]
          rw [List.set_set, List.set_set, ← e7] at z2
          exact h e ι _ _ _ O σ D' z2 (EvSP.later (r := m _ _) (Pre.refl _) b3 q)
theorem eb_frzD {sts : List Stmt} {m : MS} (i : Nat) (h : EB X Wx sts m) : EB X Wx sts (seqS (frzD i) m) := by
  obtain ⟨t, pt, et⟩ := h
  exact ⟨_, pss_frz pt, et.frzD i⟩
/-! the wish -/
def wCD (d : Cell) (k : List (Key × D) → Prop) : Prop := match d with
  | .dct b => k b
  | _ => False
theorem wCD_dct (b : List (Key × D)) (k : List (Key × D) → Prop) : wCD (.dct b) k = k b := q_ rfl
variable (ρ : Rho) (O : Sto) (Q : RS → Prop)
def cFrD1 (i : Nat) (es : List (Key × D)) : Prop := Q (.nx (ρ.set i (some (.shr (.dct es)))) O)
def cFrD (i : Nat) (c : Cell) : Prop := wCD c (cFrD1 ρ O Q i)
theorem cFrD1_ap (i : Nat) (es : List (Key × D)) : cFrD1 ρ O Q i es = Q (.nx (ρ.set i (some (.shr (.dct es)))) O) := q_ rfl
theorem cFrD_ap (i : Nat) (c : Cell) : cFrD ρ O Q i c = wCD c (cFrD1 ρ O Q i) := q_ rfl
theorem wS_frzD (i : Nat) : wS (frzD i) ρ O Q = wWi i ρ (cFrD ρ O Q i) := by
  unfold wS frzD wWi wW
  cases ρ[i]? with
  | none => rfl
  | some o =>
    cases o with
    | none => rfl
    | some s =>
      cases s with
      | own c => cases c <;> rfl
      | _ => rfl
end
end DL

set_option Elab.async false
set_option linter.all false
set_option maxRecDepth 100000
/-! DLRules23: more methods of texts. -/
namespace DL
open PySem L2
variable [Tabs]
section
variable {X : Cx} {Wx : WX} {eo ee : Expr} {pos apos : Pos} {mo mv : ME D}
def lowerF (s : Str) : Option D := if s.length ≤ 5592405 then some (.str (Txt.lower s)) else none
def upperF (s : Str) : Option D := if s.length ≤ 5592405 then some (.str (Txt.upper s)) else none
def isdigF (s : Str) : Option D := some (.bl (Txt.isdigit s))
def stripF (s : Str) : Option D := if s.length ≤ sizeLine then some (.str (Txt.strip s)) else none
theorem op_lower : Op0S X (fun x xs H Q => ∃ a, x = .str a ∧ xs = [] ∧ a.length ≤ 5592405 ∧ Q (.str (Txt.lower a)) H) lowerF := by
  intro s z e ι B H ρ O σ Q r hz q
  unfold lowerF at hz
  split at hz
  · rename_i hl
    cases hz
    exact ⟨s, rfl, rfl, hl, atomI r q (.str _)⟩
  · cases hz
theorem op_upper : Op0S X (fun x xs H Q => ∃ a, x = .str a ∧ xs = [] ∧ a.length ≤ 5592405 ∧ Q (.str (Txt.upper a)) H) upperF := by
  intro s z e ι B H ρ O σ Q r hz q
  unfold upperF at hz
  split at hz
  · rename_i hl
    cases hz
    exact ⟨s, rfl, rfl, hl, atomI r q (.str _)⟩
  · cases hz
theorem op_strip : Op0S X (fun x xs H Q => ∃ a, x = .str a ∧ xs = [] ∧ a.length ≤ sizeLine ∧ Q (.str (Txt.strip a)) H) stripF := by
  intro s z e ι B H ρ O σ Q r hz q
  unfold stripF at hz
  split at hz
  · rename_i hl
    cases hz
    exact ⟨s, rfl, rfl, hl, atomI r q (.str _)⟩
  · cases hz
theorem op_isdig : Op0S X (fun x xs H Q => ∃ a, x = .str a ∧ xs = [] ∧ True ∧ Q (.bl (Txt.isdigit a)) H) isdigF := by
  intro s z e ι B H ρ O σ Q r hz q
  cases hz
  exact ⟨s, rfl, rfl, True.intro, atomI r q (.bl _)⟩
theorem ex_lower (ho : EZ X Wx eo mo) (hbase : attributeBase eo "lower" X.env (eval eo X.env) = eval eo X.env := by rfl) (hline : (apos.endLine == pos.line) = true := by rfl) : EX X Wx (.Call (.Attribute eo "lower" apos) [] [] pos) (un1 (str0 lowerF) mo) :=
  ex_str0 PySem.F.slot_str_lower PySem.F.type_str_lower mt_lower op_lower ho hbase hline
theorem ex_upper (ho : EZ X Wx eo mo) (hbase : attributeBase eo "upper" X.env (eval eo X.env) = eval eo X.env := by rfl) (hline : (apos.endLine == pos.line) = true := by rfl) : EX X Wx (.Call (.Attribute eo "upper" apos) [] [] pos) (un1 (str0 upperF) mo) :=
  ex_str0 PySem.F.slot_str_upper PySem.F.type_str_upper mt_upper op_upper ho hbase hline
theorem ex_strip (ho : EZ X Wx eo mo) (hbase : attributeBase eo "strip" X.env (eval eo X.env) = eval eo X.env := by rfl) (hline : (apos.endLine == pos.line) = true := by rfl) : EX X Wx (.Call (.Attribute eo "strip" apos) [] [] pos) (un1 (str0 stripF) mo) :=
  ex_str0 PySem.F.slot_str_strip PySem.F.type_str_strip mt_strip op_strip ho hbase hline
theorem ex_isdigit (ho : EZ X Wx eo mo) (hbase : attributeBase eo "isdigit" X.env (eval eo X.env) = eval eo X.env := by rfl) (hline : (apos.endLine == pos.line) = true := by rfl) : EX X Wx (.Call (.Attribute eo "isdigit" apos) [] [] pos) (un1 (str0 isdigF) mo) :=
  ex_str0 PySem.F.slot_str_isdigit PySem.F.type_str_isdigit mt_isdigit op_isdig ho hbase hline
theorem op_starts : Op1S X (fun x xs H Q => ∃ a b, x = .str a ∧ xs = [.str b] ∧ Q (.bl (Txt.startswith a b)) H) startsF := by
  intro s y d z e ι B H ρ O σ Q r hy hz q
  unfold startsF at hz
  split at hz
  · cases hy
    cases hz
    exact ⟨s, _, rfl, rfl, atomI r q (.bl _)⟩
  · cases hz
theorem op_ends : Op1S X (fun x xs H Q => ∃ a b, x = .str a ∧ xs = [.str b] ∧ Q (.bl (Txt.endswith a b)) H) endsF := by
  intro s y d z e ι B H ρ O σ Q r hy hz q
  unfold endsF at hz
  split at hz
  · cases hy
    cases hz
    exact ⟨s, _, rfl, rfl, atomI r q (.bl _)⟩
  · cases hz
theorem ex_starts (ho : EZ X Wx eo mo) (he : EZ X Wx ee mv) (hs : starEach [ee] X.env = [(false, eval ee X.env)] := by rfl) (hbase : attributeBase eo "startswith" X.env (eval eo X.env) = eval eo X.env := by rfl) (hline : (apos.endLine == pos.line) = true := by rfl) :
    EX X Wx (.Call (.Attribute eo "startswith" apos) [ee] [] pos) (str1M startsF mo mv) := ex_str1 PySem.F.slot_str_startswith PySem.F.type_str_startswith mt_startswith op_starts ho he hs hbase hline
theorem ex_ends (ho : EZ X Wx eo mo) (he : EZ X Wx ee mv) (hs : starEach [ee] X.env = [(false, eval ee X.env)] := by rfl) (hbase : attributeBase eo "endswith" X.env (eval eo X.env) = eval eo X.env := by rfl) (hline : (apos.endLine == pos.line) = true := by rfl) :
    EX X Wx (.Call (.Attribute eo "endswith" apos) [ee] [] pos) (str1M endsF mo mv) := ex_str1 PySem.F.slot_str_endswith PySem.F.type_str_endswith mt_endswith op_ends ho he hs hbase hline
/-! split: a new list, frozen -/
def splitF (s : Str) (d : D) : Option D := match d with
  | .str t => if t.length ≠ 0 ∧ s.length + 2 ≤ sizeLine then some (.lst ((Txt.split s t).map .str)) else none
  | _ => none
theorem pairedStrs {K : PySem.W.Frag} {ι : List Addr} {B : Hp} : ∀ ys : List Str, Paired (DA K ι B) (ys.map V.str) (ys.map D.str)
  | [] => .nil
  | y :: ys => .cons (.str y) (pairedStrs ys)
theorem op_split : Op1S X (fun x xs H Q => ∃ a b, x = .str a ∧ xs = [.str b] ∧ (b.length == 0) = false ∧ a.length + 2 ≤ sizeLine ∧ rNewStrs (Txt.split a b) H Q) splitF := by
  intro s y d z e ι B H ρ O σ Q r hy hz q
  unfold splitF at hz
  split at hz
  · split at hz
    · rename_i hl
      cases hy
      cases hz
      refine ⟨s, _, rfl, rfl, beq_eq_false_iff_ne.mpr hl.1, hl.2, fun p hp => ?_⟩
      obtain ⟨r2, b2⟩ := r.alloc hp (.lst ((Txt.split s _).map V.str))
      exact q _ _ (.ref p) r2 b2 (.lst upd_same (pairedStrs _))
    · cases hz
  · cases hz
theorem ex_split (ho : EZ X Wx eo mo) (he : EZ X Wx ee mv) (hs : starEach [ee] X.env = [(false, eval ee X.env)] := by rfl) (hbase : attributeBase eo "split" X.env (eval eo X.env) = eval eo X.env := by rfl) (hline : (apos.endLine == pos.line) = true := by rfl) :
    EX X Wx (.Call (.Attribute eo "split" apos) [ee] [] pos) (str1M splitF mo mv) := ex_str1 PySem.F.slot_str_split PySem.F.type_str_split mt_split op_split ho he hs hbase hline
/-! wishes -/
open SX (S)
theorem wO_lower (l : List Nat) (h : l.all (· < 128) = true) (hl : l.length ≤ 5592405) (k : D → Prop) : wO (lowerF (S l)) k = k (.str (S (l.map PyProof.Rows.lo1))) := by
  unfold lowerF
  rw [S_len, if_pos hl, wO_some, SX.lower_S h]
theorem wO_isdig (s : Str) (k : D → Prop) : wO (isdigF s) k = k (.bl (Txt.isdigit s)) := q_ rfl
theorem wO_starts (s t : Str) (k : D → Prop) : wO (startsF s (.str t)) k = k (.bl (Txt.startswith s t)) := q_ rfl
theorem wO_ends (s t : Str) (k : D → Prop) : wO (endsF s (.str t)) k = k (.bl (Txt.endswith s t)) := q_ rfl
theorem wO_split (s t : Str) (k : D → Prop) : wO (splitF s (.str t)) k = ((t.length ≠ 0 ∧ s.length + 2 ≤ sizeLine) ∧ k (.lst ((Txt.split s t).map .str))) := wO_if _ _ k
end
end DL

set_option Elab.async false
set_option linter.all false
set_option maxRecDepth 100000
/-! DLRules24: sizes. -/
namespace DL
open PySem L2
variable [Tabs]
theorem szLe {n : Nat} (h : n ≤ 1000000) : (n ≤ sizeLine) = True := eq_true (by rw [sizeLine_v]; omega)
theorem szLt {n : Nat} (h : n < 1000000) : (n < sizeLine) = True := eq_true (by rw [sizeLine_v]; omega)
end DL

set_option Elab.async false
set_option linter.all false
set_option maxRecDepth 100000
/-! DLRules25: fields as targets, tuples of targets, «or» by truth. -/
namespace L2
open PySem PySem.Spec PyProof.Rows
section
variable {X : Cx} {o : Expr} {to : TE} {f : Str} {pos : Pos}
/-- o.f = .. -/
def gAttr (K : PySem.W.Frag) (to : TE) (f : Str) : TG := fun v σ H Q => to σ H fun x H2 => ∃ a C dx fs, x = .ref a ∧ H2 a = some (.ins C dx fs) ∧ Cls K C ∧ NoAttr K C f ∧ fs.length < 1000 ∧ Q σ (upd H2 a (.ins C dx (putF f v fs)))
theorem pg_attr (ho : PE X o to) : PG X (.Attribute o f pos) (gAttr X.K to f) := by
  refine ⟨fun pins s σ H v u Q I r h => ?_⟩
  rw [assign_Attribute]
  refine wpAny_bind (wpAny_holding (thn (ho.run pins s σ H _ I h) fun ov s2 ⟨x, H2, I2, rx, a, C, dx, fs, ex, ea, c, n, l, q2⟩ => ?_))
  subst ex
  obtain rfl : ov = Value.ref a := rx
  refine wpAny_bind (wpAny_standAt (wpAny_bind (wpAny_holding (setattr_ok I2 ea c n l r fun s3 I3 => ?_))))
  exact wpAny_release ⟨σ, _, I3, q2⟩
end
end L2
namespace DL
open PySem L2
variable [Tabs]
section
variable {X : Cx} {Wx : WX} {a b eo ee tg it : Expr} {pos apos tpos : Pos} {ma mb mo mv : ME D} {fn : Str} {T : List (Str × List Str)}
/-- a field as a target: by the object's expression -/
def fldG' (T : List (Str × List Str)) (fn : Str) (mo : ME D) (d : D) : MS := bindS mo fun o ρ O => match fldP T fn o d O with
  | some O' => .nx ρ O'
  | none => .bad
/-- .. that raises nothing -/
def EVG (X : Cx) (Wx : WX) (g : TG) (f : D → MS) : Prop := ∀ x d e ι B H ρ O σ D', Rel X.K X.mg (en X e) ι B H ρ O σ → DA X.K ι B x d → EvSP X Wx e ι B D' (f d ρ O) → (match f d ρ O with
  | .nx _ _ => g x σ H D'.nx
  | _ => True)
theorem eg_attr (hT : Tab X.K X.mg T) (ho : EX X (fun _ _ _ _ => False) eo mo) : EG X (.Attribute eo fn pos) (fldG' T fn mo) := by
  obtain ⟨to, po, eto⟩ := ho
  refine ⟨_, pg_attr po, fun x d e ι B H ρ O σ Q r hx q => eto e ι B H ρ O σ _ r ?_⟩
  unfold fldG' bindS at q
  cases z : mo ρ O with
  | bad => rw [z] at q; exact q
  | err c p O' => rw [z] at q; exact q.elim
  | ok o O1 =>
    rw [z] at q
    dsimp only at q
    intro ι1 B1 H1 ov r1 i1 b1 hov
    cases z3 : fldP T fn o d O1 with
    | none => rw [z3] at q; exact q.elim
    | some O3 =>
      rw [z3] at q
      obtain ⟨a, C, dx, fvs, rfl, g1, g2, g3, g4, g5⟩ := fldP_ok hT r1 hov (DA.mono b1 i1 _ _ hx) z3
      exact ⟨a, C, dx, fvs, rfl, g1, g2, g3, g4, q ι1 B1 _ σ g5 i1 b1⟩
/-! several targets -/
def runT : List (D → MS) → List D → MS
  | [], [] => skipS
  | f :: fs, d :: ds => seqS (f d) (runT fs ds)
  | _, _ => fun _ _ => .bad
def tupT (fs : List (D → MS)) (d : D) : MS := match d with
  | .tup ds => runT fs ds
  | _ => fun _ _ => .bad
def EvGs (X : Cx) (u : TGs) (fs : List (D → MS)) : Prop := ∀ vs ds e ι B H ρ O σ (Q : St → Hp → Prop), Rel X.K X.mg (en X e) ι B H ρ O σ → Paired (DA X.K ι B) vs ds →
  (match runT fs ds ρ O with
    | .nx ρ' O' => ∀ ι' B' H' σ', Rel X.K X.mg (en X e) ι' B' H' ρ' O' σ' → Pre ι ι' → Same B B' → Q σ' H'
    | _ => False) → u vs σ H Q
def EGs (X : Cx) (ets : List Expr) (fs : List (D → MS)) : Prop := ets.length = fs.length ∧ ∃ u, PGs X ets u ∧ EvGs X u fs
theorem egs_nil : EGs X [] [] := by
  refine ⟨rfl, _, pgs_nil, fun vs ds e ι B H ρ O σ Q r p q => ?_⟩
  cases p with
  | nil => exact ⟨rfl, q ι B H σ r (Pre.refl _) (Same.refl _)⟩
  | cons _ _ => exact q.elim
theorem egs_cons {f : D → MS} {fs : List (D → MS)} {ets : List Expr} (h : EG X tg f) (k : EGs X ets fs) (hs : (assignEach (tg :: ets) X.env).map (·.2) = assign tg X.env :: (assignEach ets X.env).map (·.2) := by rfl) : EGs X (tg :: ets) (f :: fs) := by
  obtain ⟨g, pg, eg⟩ := h
  obtain ⟨hl, u, pu, eu⟩ := k
  refine ⟨by rw [List.length_cons, List.length_cons, hl], _, pgs_cons pg pu hs, fun vs ds e ι B H ρ O σ Q r p q => ?_⟩
  cases p with
  | nil => exact q.elim
  | @cons v d vs ds p1 p2 =>
    refine ⟨_, _, rfl, eg v d e ι B H ρ O σ _ r p1 ?_⟩
    have q : match seqS (f d) (runT fs ds) ρ O with
      | .nx ρ' O' => ∀ ι' B' H' σ', Rel X.K X.mg (en X e) ι' B' H' ρ' O' σ' → Pre ι ι' → Same B B' → Q σ' H'
      | _ => False := q
    unfold seqS at q
    cases z : f d ρ O with
    | nx ρ1 O1 =>
      rw [z] at q
      dsimp only at q ⊢
      intro ι1 B1 H1 σ1 r1 i1 b1
      refine eu vs ds e ι1 B1 H1 ρ1 O1 σ1 Q r1 (DA.monos b1 i1 _ _ p2) ?_
      cases z2 : runT fs ds ρ1 O1 with
      | nx ρ2 O2 =>
        rw [z2] at q
        exact fun ι' B' H' σ' r' i' b' => q ι' B' H' σ' r' (i1.trans i') (b1.trans b')
      | _ => rw [z2] at q; exact q
    | _ => rw [z] at q; exact q
theorem runT_len : ∀ {fs : List (D → MS)} {ds : List D} {ρ ρ' : Rho} {O O' : Sto}, runT fs ds ρ O = .nx ρ' O' → ds.length = fs.length
  | [], [], _, _, _, _, _ => rfl
  | [], _ :: _, _, _, _, _, h => by cases h
  | _ :: _, [], _, _, _, _, h => by cases h
  | f :: fs, d :: ds, ρ, ρ', O, O', h => by
    have h : seqS (f d) (runT fs ds) ρ O = .nx ρ' O' := h
    unfold seqS at h
    cases z : f d ρ O with
    | nx ρ1 O1 =>
      rw [z] at h
      have := runT_len (fs := fs) (ds := ds) h
      rw [List.length_cons, List.length_cons, this]
    | _ => rw [z] at h; cases h
theorem eg_tup {ets : List Expr} {k : Nat} {fs : List (D → MS)} (hc : X.calm = true) (h : EGs X ets fs) (hn : (assignEach ets X.env).length = fs.length := by rfl) (hst : (assignEach ets X.env).findIdx? (·.1) = none := by rfl) : EG X (.Tuple ets k tpos) (tupT fs) := by
  obtain ⟨hl, u, pu, eu⟩ := h
  refine ⟨_, pg_tup hc pu hn hst, fun x d e ι B H ρ O σ Q r hx q => ?_⟩
  unfold tupT at q
  cases d with
  | tup ds =>
    dsimp only at q
    cases hx with
    | tup h1 h2 =>
      refine ⟨_, _, rfl, sqT_same r.sub h1, ?_, eu _ ds e ι B H ρ O σ Q r h2 q⟩
      cases z : runT fs ds ρ O with
      | nx ρ' O' => rw [paired_len h2, runT_len z]
      | _ => rw [z] at q; exact q.elim
  | _ => exact q.elim
/-- targets = e -/
def asgT (fs : D → MS) (m : ME D) : MS := bindS m fs
theorem es_asg {f : D → MS} (he : EX X Wx ee mv) (hg : EG X tg f) (hs : swapsWithSole [tg] ee pos.line X.env = pure false := by rfl) (hw : swappedStores [tg] ee X.env = pure none := by rfl) (h1 : (assignEach [tg] X.env).map (·.2) = [assign tg X.env] := by rfl) (hq : ∀ d ρ O, (match f d ρ O with | .nx _ _ => True | .bad => True | _ => False)) :
    ES X Wx (.Assign [tg] ee pos) (asgT f mv) := by
  obtain ⟨t, pt, et⟩ := he
  obtain ⟨g, pg, eg⟩ := hg
  refine ⟨_, ps_asg pt pg hs hw h1, fun e ι B H ρ O σ D' r q => et e ι B H ρ O σ _ r ?_⟩
  unfold asgT bindS at q
  cases z : mv ρ O with
  | bad => rw [z] at q; exact q
  | err c p O' => rw [z] at q; exact fun ι' B' H' C dx r' i' b' h => q ι' B' H' σ C dx r' i' b' h
  | ok d O' =>
    rw [z] at q
    dsimp only at q
    intro ι' B' H' v r' i' b' hv
    refine eg v d e ι' B' H' ρ O' σ _ r' hv ?_
    have hq := hq d ρ O'
    cases z2 : f d ρ O' with
    | nx ρ' O2 =>
      rw [z2] at q
      exact fun ι2 B2 H2 σ' r2 i2 b2 => q ι2 B2 H2 σ' r2 (i'.trans i2) (b'.trans b2)
    | bad => rw [z2] at q; exact q.elim
    | bk _ _ => rw [z2] at hq; exact hq.elim
    | ct _ _ => rw [z2] at hq; exact hq.elim
    | ret _ _ => rw [z2] at hq; exact hq.elim
    | err _ _ _ _ => rw [z2] at hq; exact hq.elim
/-- a target goes on, or is bad -/
def GoesOn (f : D → MS) : Prop := ∀ d ρ O, (match f d ρ O with | .nx _ _ => True | .bad => True | _ => False)
theorem go_name (i : Nat) : GoesOn (nameG i) := fun _ _ _ => True.intro
theorem go_fld {m : ME D} (h : ∀ ρ O, (match m ρ O with | .err _ _ _ => False | _ => True)) : GoesOn (fldG' T fn m) := fun d ρ O => by
  unfold fldG' bindS
  have := h ρ O
  cases z : m ρ O with
  | ok o O1 => dsimp only; cases fldP T fn o d O1 <;> exact True.intro
  | err c p O1 => rw [z] at this; exact this.elim
  | bad => exact True.intro
theorem go_rd (i : Nat) (ρ : Rho) (O : Sto) : (match rdM i ρ O with | .err _ _ _ => False | _ => True) := by
  unfold rdM
  cases ρ[i]? with
  | none => exact True.intro
  | some o => cases o with
    | none => exact True.intro
    | some x => cases x <;> exact True.intro
theorem go_tup {fs : List (D → MS)} (h : ∀ f ∈ fs, GoesOn f) : GoesOn (tupT fs) := fun d ρ O => by
  unfold tupT
  cases d with
  | tup ds =>
    dsimp only
    induction fs generalizing ds ρ O with
    | nil => cases ds <;> exact True.intro
    | cons f fs ih =>
      cases ds with
      | nil => exact True.intro
      | cons d ds =>
        show (match seqS (f d) (runT fs ds) ρ O with | .nx _ _ => True | .bad => True | _ => False)
        unfold seqS
        have h1 := h f List.mem_cons_self d ρ O
        cases z : f d ρ O with
        | nx ρ1 O1 => exact ih (fun g hg => h g (List.mem_cons_of_mem _ hg)) ρ1 O1 ds
        | bad => exact True.intro
        | bk _ _ => rw [z] at h1; exact h1.elim
        | ct _ _ => rw [z] at h1; exact h1.elim
        | ret _ _ => rw [z] at h1; exact h1.elim
        | err _ _ _ _ => rw [z] at h1; exact h1.elim
  | _ => exact True.intro
/-! or, by truth -/
def orTV (ma mb : ME D) : ME D := bindE ma fun d ρ O => match truD (derefD O d) with
  | some true => .ok d O
  | some false => mb ρ O
  | none => .bad
theorem tru_v {e : Ent} {ι : List Addr} {B H : Hp} {ρ : Rho} {O : Sto} {σ : St} {x : V} {d : D} {k : Bool} (r : Rel X.K X.mg (en X e) ι B H ρ O σ) (h : DA X.K ι B x d) (z : truD (derefD O d) = some k) : TruV X.K x H k := by
  have hx := h.dhO r
  generalize derefD O d = a at hx z
  cases a with
  | non => cases hx; simp only [truD, Option.some.injEq] at z; exact z.symm
  | bl b => cases hx; simp only [truD, Option.some.injEq] at z; exact z.symm
  | int i => cases hx; simp only [truD, Option.some.injEq] at z; exact z.symm
  | str y =>
    cases hx
    simp only [truD] at z
    split at z
    · rename_i hl
      simp only [Option.some.injEq] at z
      exact ⟨hl, z.symm⟩
    · cases z
  | lst xs =>
    simp only [truD, Option.some.injEq] at z
    obtain ⟨a, vs, rfl, h1, h2⟩ := hx
    exact .inl ⟨_, SqL.of h1, by rw [paired_empty h2]; exact z.symm⟩
  | sea xs =>
    simp only [truD, Option.some.injEq] at z
    obtain ⟨a, vs, rfl, h1, h2⟩ := hx
    exact .inl ⟨_, h1, by rw [paired_empty h2]; exact z.symm⟩
  | tup xs =>
    simp only [truD, Option.some.injEq] at z
    obtain ⟨a, vs, rfl, h1, h2⟩ := hx
    exact .inr (.inl ⟨_, h1, by rw [paired_empty h2]; exact z.symm⟩)
  | dct _ => simp only [truD] at z; cases z
  | obj _ => simp only [truD] at z; cases z
theorem ex_orT {rest : List Expr} (h : EX X Wx a ma) (k : EX X Wx (.BoolOp .Or (b :: rest) pos) mb) : EX X Wx (.BoolOp .Or (a :: b :: rest) pos) (orTV ma mb) := by
  obtain ⟨t, pt, et⟩ := h
  obtain ⟨u, pu, eu⟩ := k
  refine ⟨_, pe_orT pt pu, Ev.bind (R' := rD X) (u := fun (x : V) σ H1 Q => ∃ k, TruV X.K x H1 k ∧ if k = true then Q x H1 else u σ H1 Q) et fun x a e ι B H ρ O σ Q r hx q => ?_⟩
  cases z : truD (derefD O a) with
  | none => rw [z] at q; exact q.elim
  | some k =>
    rw [z] at q
    refine ⟨k, tru_v r hx z, ?_⟩
    cases k with
    | true => rw [if_pos rfl]; exact EvP.ok r q hx
    | false => rw [if_neg Bool.false_ne_true]; exact eu e ι B H ρ O σ Q r q
/-! ### == over lists of the store's lists -/
mutual
def D.pyO (O : Sto) : Nat → D → Option PyData
  | _, .non => some .none
  | _, .bl b => some (.bool b)
  | _, .int i => some (.int i)
  | _, .str x => some (.str x)
  | n + 1, .lst xs => (D.pysO O n xs).map .list
  | n + 1, .sea xs => (D.pysO O n xs).map .list
  | n + 1, .tup xs => (D.pysO O n xs).map .tuple
  | n + 1, .obj k => match O[k]? with
    | some (.lst xs) => (D.pysO O n xs).map .list
    | _ => none
  | _, _ => none
def D.pysO (O : Sto) : Nat → List D → Option (List PyData)
  | _, [] => some []
  | n, d :: ds => match D.pyO O n d, D.pysO O n ds with
    | some a, some r => some (a :: r)
    | _, _ => none
end
section
variable {K : PySem.W.Frag} {mg : Mg} {e : Ent} {ι : List Addr} {B H : Hp} {ρ : Rho} {O : Sto} {σ : St}
theorem dp_all (r : Rel K mg e ι B H ρ O σ) (n : Nat) (h : ∀ (d : D) (v : V) (p : PyData), DA K ι B v d → D.pyO O n d = some p → Dp K H v p) : ∀ (ds : List D) (vs : List V) (ps : List PyData), Paired (DA K ι B) vs ds → D.pysO O n ds = some ps → DpAll K H vs ps
  | [], _, _, hp, e => by cases hp; simp only [D.pysO, Option.some.injEq] at e; subst e; exact .nil
  | d :: ds, _, _, hp, e => by
    cases hp with
    | cons h1 h2 =>
      simp only [D.pysO] at e
      split at e
      · rename_i a r2 e1 e2
        cases e
        exact .cons (h d _ a h1 e1) (dp_all r n h ds _ r2 h2 e2)
      · cases e
theorem dp_o (r : Rel K mg e ι B H ρ O σ) : ∀ (n : Nat) (d : D) (v : V) (p : PyData), DA K ι B v d → D.pyO O n d = some p → Dp K H v p := by
  intro n
  induction n with
  | zero =>
    intro d v p h e
    cases d with
    | non => cases h; simp only [D.pyO, Option.some.injEq] at e; subst e; exact .non
    | bl b => cases h; simp only [D.pyO, Option.some.injEq] at e; subst e; exact .bl b
    | int b => cases h; simp only [D.pyO, Option.some.injEq] at e; subst e; exact .int b
    | str b => cases h; simp only [D.pyO, Option.some.injEq] at e; subst e; exact .str b
    | _ => simp only [D.pyO] at e; cases e
  | succ n ih =>
    intro d v p h e
    cases d with
    | non => cases h; simp only [D.pyO, Option.some.injEq] at e; subst e; exact .non
    | bl b => cases h; simp only [D.pyO, Option.some.injEq] at e; subst e; exact .bl b
    | int b => cases h; simp only [D.pyO, Option.some.injEq] at e; subst e; exact .int b
    | str b => cases h; simp only [D.pyO, Option.some.injEq] at e; subst e; exact .str b
    | lst xs =>
      simp only [D.pyO, Option.map_eq_some_iff] at e
      obtain ⟨ps, e1, rfl⟩ := e
      cases h with
      | lst h1 h2 => exact .lst (SqL.of (r.sub _ _ h1)) (dp_all r n ih xs _ ps h2 e1)
    | sea xs =>
      simp only [D.pyO, Option.map_eq_some_iff] at e
      obtain ⟨ps, e1, rfl⟩ := e
      cases h with
      | sea h1 h2 => exact .lst (r.sub.seq h1) (dp_all r n ih xs _ ps h2 e1)
    | tup xs =>
      simp only [D.pyO, Option.map_eq_some_iff] at e
      obtain ⟨ps, e1, rfl⟩ := e
      cases h with
      | tup h1 h2 => exact .tup (sqT_same r.sub h1) (dp_all r n ih xs _ ps h2 e1)
    | dct _ => simp only [D.pyO] at e; cases e
    | obj k =>
      simp only [D.pyO] at e
      split at e
      · rename_i xs hk
        simp only [Option.map_eq_some_iff] at e
        obtain ⟨ps, e1, rfl⟩ := e
        cases h with
        | obj h1 =>
          obtain ⟨⟨vs, k3, k7⟩, _⟩ := r.ob _ _ _ hk h1
          exact .lst (SqL.of k3) (dp_all r n ih xs _ ps k7 e1)
      · cases e
end
/-- ==, != by what the store holds -/
def eqO (neg : Bool) (O : Sto) (x y : D) : Option D := match D.pyO O 4 x, D.pyO O 4 y with
  | some p, some q => if SeqAt.shaped p = true ∧ SeqAt.shaped q = true then some (.bl (if neg then !(PyData.eqv p q) else PyData.eqv p q)) else none
  | _, _ => none
def eqOM (neg : Bool) (ma mb : ME D) : ME D := bindE ma fun x => bindE mb fun y => optO fun O => eqO neg O x y
section
variable {X : Cx} {Wx : WX} {a b : Expr} {pos : Pos} {ma mb : ME D}
theorem ev_eqO {ta tb : TE} (neg : Bool) (ha : Ev X Wx (rD X) ta ma) (hb : Ev X Wx (rD X) tb mb) : Ev X Wx (rD X) (tOp (fun x y H Q => if neg then rNeAll X.K x y H Q else rEqAll X.K x y H Q) ta tb) (eqOM neg ma mb) := by
  refine Ev.bind (u := fun x σ H Q => tb σ H fun y H2 => if neg then rNeAll X.K x y H2 Q else rEqAll X.K x y H2 Q) ha fun x a e ι B H ρ O σ Q rl hx q => ?_
  refine hb e ι B H ρ O σ _ rl ?_
  unfold bindE at q
  cases z : mb ρ O with
  | bad => rw [z] at q; exact q
  | err c p O' => rw [z] at q; exact q
  | ok y O' =>
    rw [z] at q
    simp only [optO] at q
    intro ι' B' H' v r' i' b' hy
    have hx' := DA.mono b' i' _ _ hx
    unfold eqO at q
    cases z1 : D.pyO O' 4 a with
    | none => rw [z1] at q; exact q.elim
    | some p1 =>
      cases z2 : D.pyO O' 4 y with
      | none => rw [z1, z2] at q; exact q.elim
      | some q1 =>
        rw [z1, z2] at q
        dsimp only at q
        by_cases hc : SeqAt.shaped p1 = true ∧ SeqAt.shaped q1 = true
        · rw [if_pos hc] at q
          have h1 := dp_o r' 4 a x p1 hx' z1
          have h2 := dp_o r' 4 y v q1 hy z2
          cases neg with
          | true =>
            rw [if_pos rfl]
            exact .inr ⟨p1, q1, h1, h2, hc.1, hc.2, q ι' B' H' _ r' i' b' (.bl _)⟩
          | false =>
            rw [if_neg Bool.false_ne_true]
            exact .inr ⟨p1, q1, h1, h2, hc.1, hc.2, q ι' B' H' _ r' i' b' (.bl _)⟩
        · rw [if_neg hc] at q
          exact q.elim
theorem ex_eqO (hu : X.A.units + 64 < cLine) (ha : EX X Wx a ma) (hb : EX X Wx b mb) : EX X Wx (.Compare a [.Eq] [b] pos) (eqOM false ma mb) := by
  obtain ⟨ta, pa, ea⟩ := ha
  obtain ⟨tb, pb, eb⟩ := hb
  exact ⟨_, pe_cmpR (OpR.or op_eq (op_eqD hu)) pa pb (nomark _), ev_eqO false ea eb⟩
theorem ex_neO (hu : X.A.units + 64 < cLine) (ha : EX X Wx a ma) (hb : EX X Wx b mb) : EX X Wx (.Compare a [.NotEq] [b] pos) (eqOM true ma mb) := by
  obtain ⟨ta, pa, ea⟩ := ha
  obtain ⟨tb, pb, eb⟩ := hb
  exact ⟨_, pe_cmpR (OpR.or op_ne (op_neD hu)) pa pb (nomark _), ev_eqO true ea eb⟩
theorem et_eqO (hu : X.A.units + 64 < cLine) (ha : EX X Wx a ma) (hb : EX X Wx b mb) : ET X Wx (.Compare a [.Eq] [b] pos) (boolM (eqOM false ma mb)) := by
  obtain ⟨ta, pa, ea⟩ := ha
  obtain ⟨tb, pb, eb⟩ := hb
  exact ⟨_, pt_cmpR (OpR.or op_eq (op_eqD hu)) pa pb (nomark _), ev_bool (ev_eqO false ea eb)⟩
theorem et_neO (hu : X.A.units + 64 < cLine) (ha : EX X Wx a ma) (hb : EX X Wx b mb) : ET X Wx (.Compare a [.NotEq] [b] pos) (boolM (eqOM true ma mb)) := by
  obtain ⟨ta, pa, ea⟩ := ha
  obtain ⟨tb, pb, eb⟩ := hb
  exact ⟨_, pt_cmpR (OpR.or op_ne (op_neD hu)) pa pb (nomark _), ev_bool (ev_eqO true ea eb)⟩
end
/-! ### wishes -/
section
variable (ρ : Rho) (O : Sto) (kd : D → Sto → Prop) (E : KE) (Q : RS → Prop)
def orK (o : Option Bool) (p q : Prop) : Prop := match o with
  | some true => p
  | some false => q
  | none => False
def cOrT2 (mb : ME D) (d : D) (O1 : Sto) (b : Bool) : Prop := wIf b (kd d O1) (wE mb ρ O1 kd E)
def cOrT1 (mb : ME D) (d : D) (O1 : Sto) : Prop := wO (truD (derefD O1 d)) (cOrT2 ρ kd E mb d O1)
theorem cOrT2_ap (mb : ME D) (d : D) (O1 : Sto) (b : Bool) : cOrT2 ρ kd E mb d O1 b = wIf b (kd d O1) (wE mb ρ O1 kd E) := q_ rfl
theorem cOrT1_ap (mb : ME D) (d : D) (O1 : Sto) : cOrT1 ρ kd E mb d O1 = wO (truD (derefD O1 d)) (cOrT2 ρ kd E mb d O1) := q_ rfl
theorem wE_orTV (ma mb : ME D) : wE (orTV ma mb) ρ O kd E = wE ma ρ O (cOrT1 ρ kd E mb) E := wE_bindF ρ O kd E ma _ _ fun d O1 => by
  rw [cOrT1_ap]
  cases h : truD (derefD O1 d) with
  | none => unfold wE; simp only [h]; rfl
  | some b => cases b <;> (unfold wE; simp only [h]; rfl)
def cEqO2 (neg : Bool) (x y : D) (O2 : Sto) : Prop := wO (eqO neg O2 x y) (cO O2 kd)
def cEqO1 (neg : Bool) (mb : ME D) (x : D) (O1 : Sto) : Prop := wE mb ρ O1 (cEqO2 kd neg x) E
theorem cEqO2_ap (neg : Bool) (x y : D) (O2 : Sto) : cEqO2 kd neg x y O2 = wO (eqO neg O2 x y) (cO O2 kd) := q_ rfl
theorem cEqO1_ap (neg : Bool) (mb : ME D) (x : D) (O1 : Sto) : cEqO1 ρ kd E neg mb x O1 = wE mb ρ O1 (cEqO2 kd neg x) E := q_ rfl
theorem wE_eqO (neg : Bool) (ma mb : ME D) : wE (eqOM neg ma mb) ρ O kd E = wE ma ρ O (cEqO1 ρ kd E neg mb) E := wE_bindF ρ O kd E ma _ _ fun x O1 => wE_bindF ρ O1 kd E mb _ _ fun y O2 => wE_optO ρ O2 kd E _
def cSetR (i : Nat) (x : SD) (O1 : Sto) : Prop := Q (.nx (ρ.set i (some x)) O1)
theorem cSetR_ap (i : Nat) (x : SD) (O1 : Sto) : cSetR ρ Q i x O1 = Q (.nx (ρ.set i (some x)) O1) := q_ rfl
theorem wS_setR (i : Nat) (m : ME SD) : wS (setR i m) ρ O Q = wE m ρ O (cSetR ρ Q i) (cErr ρ Q) := wS_bindS ρ O Q _ m _ fun a O1 => rfl
def cAsg (f : D → MS) (d : D) (O1 : Sto) : Prop := wS (f d) ρ O1 Q
theorem cAsg_ap (f : D → MS) (d : D) (O1 : Sto) : cAsg ρ Q f d O1 = wS (f d) ρ O1 Q := q_ rfl
theorem wS_asg (f : D → MS) (m : ME D) : wS (asgT f m) ρ O Q = wE m ρ O (cAsg ρ Q f) (cErr ρ Q) := wS_bindS ρ O Q _ m _ fun a O1 => rfl
theorem tupT_ap (fs : List (D → MS)) (ds : List D) : tupT fs (.tup ds) = runT fs ds := q_ rfl
theorem runT_nil : runT [] [] = skipS := q_ rfl
theorem runT_cons (f : D → MS) (fs : List (D → MS)) (d : D) (ds : List D) : runT (f :: fs) (d :: ds) = seqS (f d) (runT fs ds) := q_ rfl
def cFg (T : List (Str × List Str)) (fn : Str) (d o : D) (O2 : Sto) : Prop := wO (fldP T fn o d O2) (cFp3 ρ Q)
theorem cFg_ap (T : List (Str × List Str)) (fn : Str) (d o : D) (O2 : Sto) : cFg ρ Q T fn d o O2 = wO (fldP T fn o d O2) (cFp3 ρ Q) := q_ rfl
theorem wS_fldG' (T : List (Str × List Str)) (fn : Str) (mo : ME D) (d : D) : wS (fldG' T fn mo d) ρ O Q = wE mo ρ O (cFg ρ Q T fn d) (cErr ρ Q) :=
  wS_bindS ρ O Q _ mo _ fun o O2 => by
    rw [cFg_ap]
    unfold wS
    dsimp only
    cases fldP T fn o d O2 <;> rfl
end
end
end DL

set_option linter.all false
set_option Elab.async false
set_option maxRecDepth 100000
set_option maxHeartbeats 1000000
/-! DLRules26: an object beside a text under ==. -/
namespace DLX
open PySem PySem.Spec PyProof.Rows PySem.SeqAt
section
variable {M : Model} {prog : Program} {w : World} {A : Around} {E : Value → Shared → Prop} {s : Shared} {K : PySem.W.Frag} {x C : Addr} {ox : Obj} {od : Option Obj} {z : Str} {t : Tok}
theorem objEq_str {Q : Fin → Shared → Prop} (hq : Q (.done (.ret .notImplemented)) s) : wpAny M A (Builtin.«object.__eq__» ⟨[.ref x, .str z t], []⟩) Q E s := by
  unfold Builtin.«object.__eq__»
  have same : ∀ {R : Bool → Shared → Prop}, R false s → wpAny M A (isSame (.ref x) (.str z t)) R E s := fun h => wpAny_of_eq (rfl : isSame (.ref x) (.str z t) = pure false) h
  repeat (first | with_reducible refine same ?_ | wp_step)
  exact hq
theorem callEq_str {Q : Value → Shared → Prop} (X : K.In s.heap) (I : PySem.W.InstAt s.heap x ox C od) (hm : PySem.W.mroIn K C (.type "object") = some true) (hq : Q .notImplemented s) :
    wpAny (model prog w) A (call (.builtin "object.__eq__") [.ref x, .str z t]) Q E s :=
  wpAny_call (codeAny_call_builtin F.cmp_object.eq.plain F.cmpEntry_eq (PySem.W.check_slot F.cmpKind_eq F.cmpSplit_eq (I.type.andThen (PySem.W.looks_mroIn X hm)) (F.cmpArgs_eq _ _) (objEq_str hq)))
theorem strEq_run (hg : s.heap.get? x = some ox) (hd : ox.data = .plain) : wpAny M A (Builtin.«str.__eq__» ⟨[.str z t, .ref x], []⟩) (fun fin s' => fin = .done (.ret .notImplemented) ∧ s' = s) E s := by
  obtain ⟨hp, g, d, tk, os⟩ := s
  obtain ⟨c, dc, dt, sl⟩ := ox
  cases hd
  wp_walk using wpAny_load hg
  exact ⟨rfl, rfl⟩
theorem strEq_obj (hg : s.heap.get? x = some ox) (hd : ox.data = .plain) {Q : Value → Shared → Prop} (hq : Q .notImplemented s) :
    wpAny (model prog w) A (call (.builtin "str.__eq__") [.str z t, .ref x]) Q E s := by
  refine wpAny_call (codeAny_call_builtin F.slot_str_eq_refl.plain F.entry_str_eq (F.slot_str_eq_refl.check _ _ _ _ _ _ _ _ (typeIs_str s z t) (F.args_str_eq_2 _ _) (wpAny_mono (strEq_run hg hd) (fun fin s' h => ?_) fun _ _ h => h)))
  obtain ⟨rfl, rfl⟩ := h
  exact hq
theorem sub_str : PySem.W.subIn K (.type "str") (.ref C) = some false := by
  have e : fastBuiltinMro "str" = some [.type "str", .type "object"] := by decide +kernel
  show (fastBuiltinMro "str").map (fun l => l.contains (.ref C)) = some false
  rw [e]
  rfl
theorem rc_str (hu : A.units < cLine) (X : K.In s.heap) (I : PySem.W.InstAt s.heap x ox C od) (hd : ox.data = .plain) (hm : PySem.W.mroIn K C (.type "object") = some true) (hs : PySem.W.findIn K (.ref C) "__eq__" = some (some (.builtin "object.__eq__"))) :
    RcAt A s (.ref x) (.str z t) false := fun prog w E Q h => by
  have first : wpAny (model prog w) A (tryCompare (.ref x) "__eq__" (.str z t)) (fun r s' => r = none ∧ s' = s) E s := by
    unfold tryCompare
    exact wpAny_bind (HN.ifBound_objEq X I hs (callEq_str X I hm (wpAny_pure ⟨rfl, rfl⟩)))
  have second : wpAny (model prog w) A (tryCompare (.str z t) "__eq__" (.ref x)) (fun r s' => r = none ∧ s' = s) E s :=
    wpAny_tryCompare_declines (typeIs_str s z t) F.slot_str_eq_refl (strEq_obj I.at_ hd ⟨rfl, rfl, rfl⟩)
  simp only [richCompare, oneThing_ref, cmpInfo_Eq]
  refine wpAny_holding (wpAny_bind (wpAny_cRoomFor hu (wpAny_bind (I.type.here (wpAny_bind (wpAny_typeOf (typeIs_str s z t) ?_))))))
  split
  · refine wpAny_bind ((PySem.W.looks_subIn X sub_str).here ?_)
    simp only [if_true, if_false, Bool.not_false, Bool.false_eq_true]
    refine wpAny_bind (m := tryCompare (.ref x) _ (.str z t)) (wpAny_mono first (fun r s1 e => ?_) fun _ _ h => h)
    obtain ⟨rfl, rfl⟩ := e
    refine wpAny_bind (m := tryCompare (.str z t) _ (.ref x)) (wpAny_mono second (fun r s2 e => ?_) fun _ _ h => h)
    obtain ⟨rfl, rfl⟩ := e
    exact wpAny_bind (wpAny_rule (wpAny_bind (wpAny_of_eq (rfl : isSame (.ref x) (.str z t) = pure false) (wpAny_pure h))))
  · rename_i q
    exact absurd (by simp) q
end
end DLX

namespace DL
open PySem PySem.Spec PyProof.Rows L2
variable [Tabs]
/-- what == of an object leans on: its class has none of its own -/
def NoEq (K : PySem.W.Frag) (mg : Mg) (c : Str) : Prop := ∃ C, mg c = some (.ref C) ∧ PySem.W.mroIn K C (.type "object") = some true ∧ PySem.W.findIn K (.ref C) "__eq__" = some (some (.builtin "object.__eq__"))
theorem noEq_mk {K : PySem.W.Frag} {mg : Mg} {c : Str} {h : Heap} {C : Addr} (X : K.In h) (G : h.Ns mainGlobals mg) (a : PySem.W.nsIn K mainGlobals c = some (some (.ref C))) (q1 : PySem.W.mroIn K C (.type "object") = some true) (q2 : PySem.W.findIn K (.ref C) "__eq__" = some (some (.builtin "object.__eq__"))) : NoEq K mg c :=
  ⟨C, PySem.W.mg_of X G a, q1, q2⟩
def rTxt (K : PySem.W.Frag) : R2 := fun x y H Q => ∃ a C dx fs z, x = .ref a ∧ y = .str z ∧ H a = some (.ins C dx fs) ∧ PySem.W.mroIn K C (.type "object") = some true ∧ PySem.W.findIn K (.ref C) "__eq__" = some (some (.builtin "object.__eq__")) ∧ Q (.bl false) H
section
variable {X : Cx}
theorem op_txt (hu : X.A.units + 64 < cLine) : OpR X (compareOp .Eq) (rTxt X.K) := by
  intro pins s σ H x y v u Q I rx ry h
  obtain ⟨a, C, dx, fs, z, rfl, rfl, ha, hm, hs, q⟩ := h
  cases rx
  obtain ⟨t, rfl⟩ := ry
  obtain ⟨mA, O, _⟩ := ins_get I.hok ha
  obtain ⟨od, J, _⟩ := O.look
  have hu1 : X.A.units < cLine := by omega
  show wpAny _ X.A (richCompare .Eq _ _) _ X.xe s
  exact DLX.rc_str hu1 I.kIn J rfl hm hs _ _ _ _ ⟨.bl false, H, I, rfl, q⟩
/-- ==: an object of c beside a text, or two texts -/
def eqX (c : Str) (O : Sto) (x y : D) : Option D := match x, y with
  | .str a, .str b => some (.bl (decide (a = b)))
  | .obj n, .str _ => (match O[n]? with
    | some (.ins c' _) => if c' = c then some (.bl false) else none
    | _ => none)
  | _, _ => none
def eqXM (c : Str) (ma mb : ME D) : ME D := bindE ma fun x => bindE mb fun y => optO fun O => eqX c O x y
variable {Wx : WX} {a b : Expr} {pos : Pos} {ma mb : ME D}
theorem ev_eqX {c : Str} (hN : NoEq X.K X.mg c) {ta tb : TE} (ha : Ev X Wx (rD X) ta ma) (hb : Ev X Wx (rD X) tb mb) : Ev X Wx (rD X) (tOp (fun x y H Q => rEq x y H Q ∨ rTxt X.K x y H Q) ta tb) (eqXM c ma mb) := by
  obtain ⟨C, hC, hm, hs⟩ := hN
  refine Ev.bind (u := fun x σ H Q => tb σ H fun y H2 => rEq x y H2 Q ∨ rTxt X.K x y H2 Q) ha fun x a e ι B H ρ O σ Q rl hx q => ?_
  refine hb e ι B H ρ O σ _ rl ?_
  unfold bindE at q
  cases z : mb ρ O with
  | bad => rw [z] at q; exact q
  | err c p O' => rw [z] at q; exact q
  | ok y O' =>
    rw [z] at q
    simp only [optO] at q
    intro ι' B' H' v r' i' b' hy
    have hx' := DA.mono b' i' _ _ hx
    cases hq : eqX c O' a y with
    | none => rw [hq] at q; exact q.elim
    | some d =>
      rw [hq] at q
      unfold eqX at hq
      split at hq
      · cases hq
        cases hx'
        cases hy
        refine .inl ⟨rfl, ?_⟩
        rename_i u1 u2
        have e1 : decide (V.str u1 = V.str u2) = decide (u1 = u2) := decide_eq_decide.mpr ⟨fun h => by injection h, fun h => by rw [h]⟩
        rw [e1]
        exact q ι' B' H' _ r' i' b' (.bl _)
      · split at hq
        · rename_i ho
          split at hq
          · rename_i hc
            subst hc
            cases hq
            cases hx' with
            | obj hi =>
              cases hy
              obtain ⟨⟨C', dx, fvs, k1, k2, k3⟩, _⟩ := r'.ob _ _ _ ho hi
              have : C' = C := by
                have := k1.symm.trans hC
                cases this
                rfl
              subst this
              exact .inr ⟨_, _, dx, fvs, _, rfl, rfl, k2, hm, hs, q ι' B' H' _ r' i' b' (.bl false)⟩
          · cases hq
        · cases hq
      · cases hq
theorem ex_eqX {c : Str} (hu : X.A.units + 64 < cLine) (hN : NoEq X.K X.mg c) (ha : EX X Wx a ma) (hb : EX X Wx b mb) : EX X Wx (.Compare a [.Eq] [b] pos) (eqXM c ma mb) := by
  obtain ⟨ta, pa, ea⟩ := ha
  obtain ⟨tb, pb, eb⟩ := hb
  exact ⟨_, pe_cmpR (OpR.or op_eq (op_txt hu)) pa pb (nomark _), ev_eqX hN ea eb⟩
theorem et_eqX {c : Str} (hu : X.A.units + 64 < cLine) (hN : NoEq X.K X.mg c) (ha : EX X Wx a ma) (hb : EX X Wx b mb) : ET X Wx (.Compare a [.Eq] [b] pos) (boolM (eqXM c ma mb)) := by
  obtain ⟨ta, pa, ea⟩ := ha
  obtain ⟨tb, pb, eb⟩ := hb
  exact ⟨_, pt_cmpR (OpR.or op_eq (op_txt hu)) pa pb (nomark _), ev_bool (ev_eqX hN ea eb)⟩
end
section
variable (ρ : Rho) (O : Sto) (kd : D → Sto → Prop) (E : KE)
def cEqX2 (c : Str) (x y : D) (O2 : Sto) : Prop := wO (eqX c O2 x y) (cO O2 kd)
def cEqX1 (c : Str) (mb : ME D) (x : D) (O1 : Sto) : Prop := wE mb ρ O1 (cEqX2 kd c x) E
theorem cEqX2_ap (c : Str) (x y : D) (O2 : Sto) : cEqX2 kd c x y O2 = wO (eqX c O2 x y) (cO O2 kd) := q_ rfl
theorem cEqX1_ap (c : Str) (mb : ME D) (x : D) (O1 : Sto) : cEqX1 ρ kd E c mb x O1 = wE mb ρ O1 (cEqX2 kd c x) E := q_ rfl
theorem wE_eqX (c : Str) (ma mb : ME D) : wE (eqXM c ma mb) ρ O kd E = wE ma ρ O (cEqX1 ρ kd E c mb) E := wE_bindF ρ O kd E ma _ _ fun x O1 => wE_bindF ρ O1 kd E mb _ _ fun y O2 => wE_optO ρ O2 kd E _
theorem wO_eqXs (c : Str) (O : Sto) (u v : Str) (q : D → Prop) : wO (eqX c O (.str u) (.str v)) q = q (.bl (decide (u = v))) := q_ rfl
theorem wO_eqXo {c : Str} {O : Sto} {n : Nat} {fs : List (Str × D)} (h : O[n]? = some (.ins c fs)) (v : Str) (q : D → Prop) : wO (eqX c O (.obj n) (.str v)) q = q (.bl false) := by
  unfold eqX
  dsimp only
  rw [h]
  dsimp only
  rw [if_pos rfl]
  rfl
end
end DL

set_option linter.all false
set_option Elab.async false
set_option maxRecDepth 100000
/-! DLRules27: pop(), insert, reverse of a list of the store; dict(d). -/
namespace DL
open PySem L2
variable [Tabs]
section
variable {X : Cx} {Wx : WX} {eo ee : Expr} {es : List Expr} {pos apos cpos : Pos} {mo mv : ME D} {m : ME (List D)}
def revG (_ : Sto) (xs : List D) (ds : List D) : Option (D × List D) := match ds with
  | [] => some (.non, xs.reverse)
  | _ => none
theorem paired_rev {α β : Type} {F : α → β → Prop} : ∀ {xs : List α} {ys : List β}, Paired F xs ys → Paired F xs.reverse ys.reverse
  | _, _, .nil => .nil
  | _, _, .cons a t => by
    rw [List.reverse_cons, List.reverse_cons]
    exact paired_app (paired_rev t) (.cons a .nil)
theorem op_rev : OpLm X rReverse revG := by
  intro a ws vs xs ds ys z e ι B H ρ O σ Q r h1 h2 h3 h4 h5 q
  unfold revG at h5
  split at h5
  · cases h5
    cases h4
    exact ⟨a, ws, rfl, rfl, h1, q _ _ (paired_rev h2) .non⟩
  · cases h5
def insG' (_ : Sto) (xs : List D) (ds : List D) : Option (D × List D) := match ds with
  | [.int i, d] => if xs.length < sizeLine ∧ 0 ≤ i ∧ i < 9223372036854775808 then some (.non, xs.take i.toNat ++ [d] ++ xs.drop i.toNat) else none
  | _ => none
abbrev rInsert : V → List V → Hp → VK → Prop := fun x vs H Q => ∃ (l : Addr) (xs : List V) (i : Int) (y : V), x = .ref l ∧ vs = [.int i, y] ∧ H l = some (.lst xs) ∧ xs.length < sizeLine ∧ 0 ≤ i ∧ i < 2 ^ 63 ∧ Q .non (upd H l (.lst (xs.take i.toNat ++ [y] ++ xs.drop i.toNat)))
theorem op_ins : OpLm X rInsert insG' := by
  intro a ws vs xs ds ys z e ι B H ρ O σ Q r h1 h2 h3 h4 h5 q
  unfold insG' at h5
  split at h5
  · rename_i i d
    split at h5
    · rename_i hc
      obtain ⟨c1, c2, c3⟩ := hc
      cases h5
      cases h4 with
      | cons hi ht =>
        obtain ⟨y, e2, hy⟩ := paired1 ht
        cases e2
        cases hi
        exact ⟨a, ws, i, y, rfl, rfl, h1, by rw [paired_len h2]; exact c1, c2, by omega, q _ _ (paired_app (paired_app (paired_take _ h2) (.cons hy .nil)) (paired_drop _ h2)) .non⟩
    · cases h5
  · cases h5
theorem ev_lm0 {r : V → List V → Hp → VK → Prop} {g : Sto → List D → List D → Option (D × List D)} {to : TE} (op : OpLm X r g) (ho : Ev X Wx (rD X) to mo) : Ev X Wx (rD X) (tBM0 X.K "list" r to) (lmM g mo nilA) := by
  intro e ι B H ρ O σ Q r0 q
  refine ho e ι B H ρ O σ _ r0 ?_
  simp only [lmM, bindE] at q
  cases z : mo ρ O with
  | bad => rw [z] at q; exact q
  | err c p O' => rw [z] at q; exact q
  | ok o O1 =>
    rw [z] at q
    dsimp only at q
    intro ι1 B1 H1 ov r1 i1 b1 hov
    cases z2 : lstO O1 o with
    | none => rw [z2] at q; exact q.elim
    | some w =>
      obtain ⟨n, xs⟩ := w
      rw [z2] at q
      dsimp only at q
      obtain ⟨rfl, h2⟩ := lstO_eq z2
      cases hov with
      | obj hi =>
        obtain ⟨⟨ws, k1, k2⟩, k5⟩ := r1.ob n _ _ h2 hi
        refine ⟨.inl ⟨rfl, _, SqL.of k1⟩, ?_⟩
        have hn : nilA ρ O1 = .ok [] O1 := rfl
        rw [hn] at q
        dsimp only at q
        rw [z2] at q
        dsimp only at q
        cases z5 : g O1 xs [] with
        | none => rw [z5] at q; exact q.elim
        | some w =>
          obtain ⟨zz, ys⟩ := w
          rw [z5] at q
          refine op _ ws [] xs [] ys zz e ι1 B1 H1 ρ O1 σ Q r1 k1 k2 k5 .nil z5 fun ws' v hw hv => ?_
          exact q ι1 B1 _ v (r1.putObj h2 hi ⟨ws', upd_same, hw⟩) i1 b1 hv
theorem ex_popO (ho : EX X Wx eo mo) (hbase : attributeBase eo "pop" X.env (eval eo X.env) = eval eo X.env := by rfl) (hline : (apos.endLine == cpos.line) = true := by rfl) :
    EX X Wx (.Call (.Attribute eo "pop" apos) [] [] cpos) (lmM popG mo nilA) := by
  obtain ⟨to, po, eto⟩ := ho
  exact ⟨_, pe_bm0 PySem.F.plainAttrs_list PySem.F.slot_list_pop PySem.F.type_list_pop mt_pop po hbase hline, ev_lm0 op_pop eto⟩
theorem ex_revO (ho : EX X Wx eo mo) (hbase : attributeBase eo "reverse" X.env (eval eo X.env) = eval eo X.env := by rfl) (hline : (apos.endLine == cpos.line) = true := by rfl) :
    EX X Wx (.Call (.Attribute eo "reverse" apos) [] [] cpos) (lmM revG mo nilA) := by
  obtain ⟨to, po, eto⟩ := ho
  exact ⟨_, pe_bm0 PySem.F.plainAttrs_list PySem.F.slot_list_reverse PySem.F.type_list_reverse mt_reverse po hbase hline, ev_lm0 op_rev eto⟩
theorem ex_insO (ho : EX X Wx eo mo) (ha : EA X Wx (ee :: es) m) (hbase : attributeBase eo "insert" X.env (eval eo X.env) = eval eo X.env := by rfl)
    (hfew : ((backTo cpos (starEach (ee :: es) X.env)).all (fun x => !x.1) && (backToKw cpos (keywordEach [] X.env)).all (fun x => x.1.isSome)
      && decide ((ee :: es).length + ([] : List Keyword).length + (if ([] : List Keyword).isEmpty then 0 else 1) < 30)) = true := by rfl)
    (hline : (apos.endLine == cpos.line) = true := by rfl) (hs : starEach (ee :: es) X.env = (false, eval ee X.env) :: starEach es X.env := by rfl) (hplain : (backTo cpos (starEach es X.env)).any (·.1) = false := by rfl) :
    EX X Wx (.Call (.Attribute eo "insert" apos) (ee :: es) [] cpos) (lmM insG' mo m) := by
  obtain ⟨to, po, eto⟩ := ho
  obtain ⟨t, pt, et⟩ := ha
  exact ⟨_, pe_bm PySem.F.plainAttrs_list PySem.F.slot_list_insert PySem.F.type_list_insert mt_insert po pt hbase hfew hline hs hplain, ev_lm op_ins eto et⟩
/-! dict(d) -/
def dctL : List D → Option Cell
  | [.dct es] => some (.dct es)
  | _ => none
def dictM (m : ME (List D)) : ME Cell := bindE m fun ds => optO fun O => dctL (ds.map (derefD O))
theorem en_dict {p : Pos} {e : Expr} (hm : X.mg "dict" = none) (ha : EAZ X Wx [e] m) (hg : Gl X "dict" := by rfl) (he : starEach [e] X.env = (false, eval e X.env) :: starEach [] X.env := by rfl) :
    EN X Wx (.Call (.Name "dict" p) [e] [] pos) (dictM m) := by
  obtain ⟨t, pt, et⟩ := ha
  refine ⟨_, pe_callTy call_dictD hg hm (by decide +kernel) pt (by decide) (by decide) he rfl, fun e ι B H ρ O σ Q r q => et e ι B H ρ O σ _ r ?_⟩
  simp only [dictM, bindE, optO] at q
  cases z : m ρ O with
  | err c p O' => rw [z] at q; exact q
  | bad => rw [z] at q; exact q
  | ok ds O' =>
    rw [z] at q
    dsimp only at q
    intro ι' B' H' vs r' i' b' hv
    have hv := rSs.dhO r' hv
    generalize ds.map (derefD O') = ds at hv q
    cases z2 : dctL ds with
    | none => rw [z2] at q; exact q.elim
    | some xs =>
      rw [z2] at q
      unfold dctL at z2
      split at z2
      · cases z2
        obtain ⟨v, rfl, hd⟩ := paired1 hv
        obtain ⟨a, kvs, rfl, h1, h2⟩ := hd
        refine ⟨a, kvs, rfl, h1, fun p hp => ?_⟩
        obtain ⟨r2, f1, f2, f3⟩ := r'.fresh hp (.dK kvs)
        exact q ι' B' _ p r2 i' b' ⟨kvs, upd_same, h2⟩ f1 f2 f3 (r'.notOwn hp)
      · cases z2
end
/-! x in l where items are data of any depth -/
def itemsP : PyData → Option (List PyData)
  | .list ds => some ds
  | .tuple ds => some ds
  | _ => none
def rInP (K : PySem.W.Frag) (neg : Bool) : R2 := fun x y H Q => ∃ d c ds, Dp K H x d ∧ Dp K H y c ∧ itemsP c = some ds ∧ d.canLay0 = true ∧ d.depth ≤ 60 ∧ PyData.canLayAll0 ds = true ∧ Q (.bl (if neg then !(ds.any fun z => PyData.eqv z d) else ds.any fun z => PyData.eqv z d)) H
section
variable {X : Cx} {Wx : WX} {a b : Expr} {pos : Pos} {ma mb : ME D}
open PySem.SeqAt in
theorem op_inP (hu : X.A.units + 64 < cLine) : OpR X (compareOp .In) (rInP X.K false) := by
  intro pins s σ H x y v u Q I rx ry h
  obtain ⟨d, c, ds, hd, he, hc, c1, c2, c3, q⟩ := h
  obtain ⟨as, r1⟩ := Dp.reads I d x v hd rx
  obtain ⟨bs, r2⟩ := Dp.reads I c y u he ry
  have hroom : X.A.units + 1 + min (PyData.depthAll ds) d.depth < cLine := by have := Nat.min_le_right (PyData.depthAll ds) d.depth; omega
  cases c with
  | list es => cases hc; exact in_list_reads r2 r1 c3 c1 hroom ⟨.bl _, H, I, rfl, q⟩
  | tuple es => cases hc; exact in_tuple_reads r2 r1 c3 c1 hroom ⟨.bl _, H, I, rfl, q⟩
  | _ => cases hc
open PySem.SeqAt in
theorem op_ninP (hu : X.A.units + 64 < cLine) : OpR X (compareOp .NotIn) (rInP X.K true) := by
  intro pins s σ H x y v u Q I rx ry h
  obtain ⟨d, c, ds, hd, he, hc, c1, c2, c3, q⟩ := h
  obtain ⟨as, r1⟩ := Dp.reads I d x v hd rx
  obtain ⟨bs, r2⟩ := Dp.reads I c y u he ry
  have hroom : X.A.units + 1 + min (PyData.depthAll ds) d.depth < cLine := by have := Nat.min_le_right (PyData.depthAll ds) d.depth; omega
  cases c with
  | list es => cases hc; exact notIn_list_reads r2 r1 c3 c1 hroom ⟨.bl _, H, I, rfl, q⟩
  | tuple es => cases hc; exact notIn_tuple_reads r2 r1 c3 c1 hroom ⟨.bl _, H, I, rfl, q⟩
  | _ => cases hc
def inPk (p c : PyData) : Option Bool := match itemsP c with
  | some ds => if p.canLay0 = true ∧ p.depth ≤ 60 ∧ PyData.canLayAll0 ds = true then some (ds.any fun z => PyData.eqv z p) else none
  | none => none
def inP (neg : Bool) (x y : D) : Option D := match x.py, y.py with
  | some p, some c => (inPk p c).map fun k => .bl (if neg then !k else k)
  | _, _ => none
theorem op2_inP (neg : Bool) : Op2 X (rInP X.K neg) (inP neg) := by
  intro x y a b z e ι B H ρ O σ Q r hx hy hz q
  unfold inP at hz
  split at hz
  · rename_i p c e1 e2
    simp only [Option.map_eq_some_iff] at hz
    obtain ⟨k, hk, rfl⟩ := hz
    unfold inPk at hk
    split at hk
    · rename_i ds hds
      split at hk
      · rename_i hc
        cases hk
        exact ⟨p, c, ds, DH.dp r.sub hx e1, DH.dp r.sub hy e2, hds, hc.1, hc.2.1, hc.2.2, atomI r q (.bl _)⟩
      · cases hk
    · cases hk
  · cases hz
theorem ex_inP (hu : X.A.units + 64 < cLine) (ha : EZ X Wx a ma) (hb : EZ X Wx b mb) (hm : behindInMarks .In b = false := by rfl) : EX X Wx (.Compare a [.In] [b] pos) (binM (inP false) ma mb) := ex_cmp (op_inP hu) (op2_inP false) ha hb hm
theorem ex_ninP (hu : X.A.units + 64 < cLine) (ha : EZ X Wx a ma) (hb : EZ X Wx b mb) (hm : behindInMarks .NotIn b = false := by rfl) : EX X Wx (.Compare a [.NotIn] [b] pos) (binM (inP true) ma mb) := ex_cmp (op_ninP hu) (op2_inP true) ha hb hm
theorem et_inP (hu : X.A.units + 64 < cLine) (ha : EZ X Wx a ma) (hb : EZ X Wx b mb) (hm : behindInMarks .In b = false := by rfl) : ET X Wx (.Compare a [.In] [b] pos) (boolM (binM (inP false) ma mb)) := et_cmp (op_inP hu) (op2_inP false) ha hb hm
theorem et_ninP (hu : X.A.units + 64 < cLine) (ha : EZ X Wx a ma) (hb : EZ X Wx b mb) (hm : behindInMarks .NotIn b = false := by rfl) : ET X Wx (.Compare a [.NotIn] [b] pos) (boolM (binM (inP true) ma mb)) := et_cmp (op_ninP hu) (op2_inP true) ha hb hm
end
/-! methods of an own list -/
abbrev LG := Sto → List D → List D → Option (D × List D)
def ownG (i : Nat) (g : LG) (ds : List D) : MS := fun ρ O => match ρ[i]? with
  | some (some (.own (.lst xs))) => (match g O xs ds with
    | some (_, ys) => .nx (ρ.set i (some (.own (.lst ys)))) O
    | none => .bad)
  | _ => .bad
def ownLm (i : Nat) (g : LG) (m : ME (List D)) : MS := fun ρ O => if isLst ρ[i]? = true then bindS m (ownG i g) ρ O else .bad
/-- y = x.pop() -/
def ownPop (j i : Nat) : MS := fun ρ O => match ρ[i]? with
  | some (some (.own (.lst xs))) => (match popG O xs [] with
    | some (z, ys) => .nx ((ρ.set i (some (.own (.lst ys)))).set j (some (.shr z))) O
    | none => .bad)
  | _ => .bad
section
variable {X : Cx} {Wx : WX} {a ee : Expr} {es : List Expr} {pos pos' p apos cpos : Pos} {x y : Str} {m : ME (List D)}
theorem own_run {i : Nat} {g : LG} {r : V → List V → Hp → VK → Prop} (op : OpLm X r g) {vs : List V} {ds : List D} {xs : List D} {e : Ent} {ι : List Addr} {B H : Hp} {ρ : Rho} {O : Sto} {σ : St} {Q : VK} (r' : Rel X.K X.mg (en X e) ι B H ρ O σ) (z : ρ[i]? = some (some (.own (.lst xs)))) (hv : Paired (DA X.K ι B) vs ds)
    (q : match g O xs ds with
      | some (w, ys) => ∀ v H', Rel X.K X.mg (en X e) ι B H' (ρ.set i (some (.own (.lst ys)))) O σ → DA X.K ι B v w → Q v H'
      | none => False) : ∃ v, σ[i]? = some (some v) ∧ tyV X.K "list" v H ∧ r v vs H Q := by
  obtain ⟨v', k1, a2, rfl, ⟨ws, k3, k4⟩, k5, k6, k7⟩ := r'.sl i _ z
  refine ⟨_, k1, .inl ⟨rfl, _, .inl (.inl k3)⟩, ?_⟩
  cases h : g O xs ds with
  | none => rw [h] at q; exact q.elim
  | some w =>
    obtain ⟨w, ys⟩ := w
    rw [h] at q
    exact op _ ws vs xs ds ys w e ι B H ρ O σ Q r' k3 k4 k5 hv h fun ws' v hw hv' => q v _ (r'.putOwn z k1 ⟨_, upd_same, hw⟩) hv'
theorem evs_own {i : Nat} {g : LG} {r : V → List V → Hp → VK → Prop} (op : OpLm X r g) {t : TA} (et : Ev X Wx (rDs X) t m) : EvS X Wx (tDrop (tBM X.K "list" r (tVar i) t)) (ownLm i g m) := by
  intro e ι B H ρ O σ D' r0 q
  unfold ownLm at q
  split at q
  · rename_i z0
    unfold isLst at z0
    split at z0
    · rename_i xs0 z
      obtain ⟨v, h1, a1, rfl, ⟨vs0, h2, h3⟩, h4, h5, h6⟩ := r0.sl i _ z
      refine ⟨_, h1, .inl ⟨rfl, _, .inl (.inl h2)⟩, ?_⟩
      refine et e ι B H ρ O σ _ r0 ?_
      unfold bindS at q
      cases z2 : m ρ O with
      | bad => rw [z2] at q; exact q
      | err c p O' => rw [z2] at q; exact fun ι' B' H' C dx r' i' b' h => q ι' B' H' σ C dx r' i' b' h
      | ok ds O' =>
        rw [z2] at q
        dsimp only at q
        unfold ownG at q
        rw [z] at q
        dsimp only at q
        intro ι' B' H' vs r' i' b' hvs
        obtain ⟨v', k1, _, k3⟩ := own_run (Q := fun _ H => D'.nx σ H) op r' z hvs (by
          cases h : g O' xs0 ds with
          | none => rw [h] at q; exact q.elim
          | some w =>
            obtain ⟨w, ys⟩ := w
            rw [h] at q
            exact fun v H2 r2 hv2 => q ι' B' H2 σ r2 i' b')
        rw [h1] at k1
        cases k1
        exact k3
    · cases z0
  · exact q.elim
theorem es_popAtW (i : Nat) (ha : EA X Wx (ee :: es) m) (hN : X.N[i]? = some x := by rfl) (hv : Vis X.env.scope x := by first | exact Or.inl rfl | exact Or.inr (Or.inl rfl) | exact Or.inr (Or.inr rfl)) (hd : (x == ("__debug__" : Str)) = false := by decide)
    (hcd : (x == ("__classdict__" : Str)) = false := by decide)
    (hbase : attributeBase (.Name x p) "pop" X.env (eval (.Name x p) X.env) = eval (.Name x p) X.env := by rfl)
    (hfew : ((backTo cpos (starEach (ee :: es) X.env)).all (fun x => !x.1) && (backToKw cpos (keywordEach [] X.env)).all (fun x => x.1.isSome)
      && decide ((ee :: es).length + ([] : List Keyword).length + (if ([] : List Keyword).isEmpty then 0 else 1) < 30)) = true := by rfl)
    (hline : (apos.endLine == cpos.line) = true := by rfl) (hs : starEach (ee :: es) X.env = (false, eval ee X.env) :: starEach es X.env := by rfl) (hplain : (backTo cpos (starEach es X.env)).any (·.1) = false := by rfl)
    (hsw : swapsWith (.Call (.Attribute (.Name x p) "pop" apos) (ee :: es) [] cpos) none pos.line X.env = pure false := by rfl) : ES X Wx (.Expr (.Call (.Attribute (.Name x p) "pop" apos) (ee :: es) [] cpos) pos) (ownLm i popAtG m) := by
  obtain ⟨t, pt, et⟩ := ha
  exact ⟨_, ps_expr (pe_bm PySem.F.plainAttrs_list PySem.F.slot_list_pop PySem.F.type_list_pop mt_popAt (pe_var (i := i) hN hv hd hcd) pt hbase hfew hline hs hplain) hsw, evs_own op_popAt et⟩
theorem es_insW (i : Nat) (ha : EA X Wx (ee :: es) m) (hN : X.N[i]? = some x := by rfl) (hv : Vis X.env.scope x := by first | exact Or.inl rfl | exact Or.inr (Or.inl rfl) | exact Or.inr (Or.inr rfl)) (hd : (x == ("__debug__" : Str)) = false := by decide)
    (hcd : (x == ("__classdict__" : Str)) = false := by decide)
    (hbase : attributeBase (.Name x p) "insert" X.env (eval (.Name x p) X.env) = eval (.Name x p) X.env := by rfl)
    (hfew : ((backTo cpos (starEach (ee :: es) X.env)).all (fun x => !x.1) && (backToKw cpos (keywordEach [] X.env)).all (fun x => x.1.isSome)
      && decide ((ee :: es).length + ([] : List Keyword).length + (if ([] : List Keyword).isEmpty then 0 else 1) < 30)) = true := by rfl)
    (hline : (apos.endLine == cpos.line) = true := by rfl) (hs : starEach (ee :: es) X.env = (false, eval ee X.env) :: starEach es X.env := by rfl) (hplain : (backTo cpos (starEach es X.env)).any (·.1) = false := by rfl)
    (hsw : swapsWith (.Call (.Attribute (.Name x p) "insert" apos) (ee :: es) [] cpos) none pos.line X.env = pure false := by rfl) : ES X Wx (.Expr (.Call (.Attribute (.Name x p) "insert" apos) (ee :: es) [] cpos) pos) (ownLm i insG' m) := by
  obtain ⟨t, pt, et⟩ := ha
  exact ⟨_, ps_expr (pe_bm PySem.F.plainAttrs_list PySem.F.slot_list_insert PySem.F.type_list_insert mt_insert (pe_var (i := i) hN hv hd hcd) pt hbase hfew hline hs hplain) hsw, evs_own op_ins et⟩
theorem evs_own0 {i : Nat} {g : LG} {r : V → List V → Hp → VK → Prop} (op : OpLm X r g) : EvS X Wx (tDrop (tBM0 X.K "list" r (tVar i))) (ownG i g []) := by
  intro e ι B H ρ O σ D' r0 q
  unfold ownG at q
  split at q
  · rename_i xs z
    obtain ⟨v', k1, k2, k3⟩ := own_run (Q := fun _ H => D'.nx σ H) op r0 z .nil (by
      cases h : g O xs [] with
      | none => rw [h] at q; exact q.elim
      | some w =>
        obtain ⟨w, ys⟩ := w
        rw [h] at q
        exact fun v H2 r2 hv2 => q ι B H2 σ r2 (Pre.refl _) (Same.refl _))
    exact ⟨_, k1, k2, k3⟩
  · exact q.elim
theorem es_revW (i : Nat) (hN : X.N[i]? = some x := by rfl) (hv : Vis X.env.scope x := by first | exact Or.inl rfl | exact Or.inr (Or.inl rfl) | exact Or.inr (Or.inr rfl)) (hd : (x == ("__debug__" : Str)) = false := by decide)
    (hcd : (x == ("__classdict__" : Str)) = false := by decide)
    (hbase : attributeBase (.Name x p) "reverse" X.env (eval (.Name x p) X.env) = eval (.Name x p) X.env := by rfl) (hline : (apos.endLine == cpos.line) = true := by rfl)
    (hsw : swapsWith (.Call (.Attribute (.Name x p) "reverse" apos) [] [] cpos) none pos.line X.env = pure false := by rfl) : ES X Wx (.Expr (.Call (.Attribute (.Name x p) "reverse" apos) [] [] cpos) pos) (ownG i revG []) :=
  ⟨_, ps_expr (pe_bm0 PySem.F.plainAttrs_list PySem.F.slot_list_reverse PySem.F.type_list_reverse mt_reverse (pe_var (i := i) hN hv hd hcd) hbase hline) hsw, evs_own0 op_rev⟩
theorem es_popW (j i : Nat) (hN : X.N[i]? = some x := by rfl) (hv : Vis X.env.scope x := by first | exact Or.inl rfl | exact Or.inr (Or.inl rfl) | exact Or.inr (Or.inr rfl)) (hd : (x == ("__debug__" : Str)) = false := by decide)
    (hcd : (x == ("__classdict__" : Str)) = false := by decide)
    (hNd : X.N.Nodup) (hj : X.N[j]? = some y := by rfl) (hy : Loc X.env.scope y := by first | exact Or.inl rfl | exact Or.inr rfl)
    (hf : X.fn y = true ∨ X.env.scope.names.lookup y = some .local := by first | exact .inl rfl | exact .inr rfl)
    (hbase : attributeBase (.Name x p) "pop" X.env (eval (.Name x p) X.env) = eval (.Name x p) X.env := by rfl) (hline : (apos.endLine == cpos.line) = true := by rfl)
    (hsw : swapsWith (.Call (.Attribute (.Name x p) "pop" apos) [] [] cpos) (some (.Name y pos')) pos.line X.env = pure false := by rfl) : ES X Wx (.Assign [.Name y pos'] (.Call (.Attribute (.Name x p) "pop" apos) [] [] cpos) pos) (ownPop j i) := by
  refine ⟨_, ps_set hNd hj hy (pe_bm0 PySem.F.plainAttrs_list PySem.F.slot_list_pop PySem.F.type_list_pop mt_pop (pe_var (i := i) hN hv hd hcd) hbase hline) hsw hf, fun e ι B H ρ O σ D' r0 q => ?_⟩
  unfold ownPop at q
  split at q
  · rename_i xs z
    obtain ⟨v', k1, k2, k3⟩ := own_run (Q := fun v H => D'.nx (σ.set j (some v)) H) op_pop r0 z .nil (by
      cases h : popG O xs [] with
      | none => rw [h] at q; exact q.elim
      | some w =>
        obtain ⟨w, ys⟩ := w
        rw [h] at q
        exact fun v H2 r2 hv2 => q ι B H2 _ (r2.set' hv2) (Pre.refl _) (Same.refl _))
    exact ⟨_, k1, k2, k3⟩
  · exact q.elim
end
/-! wishes -/
section
variable (ρ : Rho) (O : Sto) (Q : RS → Prop)
def cOw4 (i : Nat) (w : D × List D) (O1 : Sto) : Prop := Q (.nx (ρ.set i (some (.own (.lst w.2)))) O1)
def cOw3 (i : Nat) (g : LG) (xs ds : List D) (O1 : Sto) : Prop := wO (g O1 xs ds) fun w => cOw4 ρ Q i w O1
theorem cOw4_ap (i : Nat) (w : D) (ys : List D) (O1 : Sto) : cOw4 ρ Q i (w, ys) O1 = Q (.nx (ρ.set i (some (.own (.lst ys)))) O1) := q_ rfl
theorem cOw3_ap (i : Nat) (g : LG) (xs ds : List D) (O1 : Sto) : cOw3 ρ Q i g xs ds O1 = wO (g O1 xs ds) fun w => cOw4 ρ Q i w O1 := q_ rfl
theorem wS_ownG {i : Nat} {xs : List D} (g : LG) (ds : List D) (h : ρ[i]? = some (some (.own (.lst xs)))) : wS (ownG i g ds) ρ O Q = cOw3 ρ Q i g xs ds O := by
  unfold wS ownG
  rw [h, cOw3_ap]
  dsimp only
  cases g O xs ds with
  | none => rfl
  | some w => obtain ⟨w, ys⟩ := w; rfl
theorem wS_ownLm {i : Nat} {xs : List D} (g : LG) (m : ME (List D)) (h : ρ[i]? = some (some (.own (.lst xs)))) : wS (ownLm i g m) ρ O Q = wE m ρ O (cOw3 ρ Q i g xs) (cErr ρ Q) := by
  have e : wS (ownLm i g m) ρ O Q = wS (bindS m (ownG i g)) ρ O Q := by
    unfold wS ownLm
    rw [h, if_pos (show isLst (some (some (SD.own (Cell.lst xs)))) = true from rfl)]
  rw [e]
  exact wS_bindS ρ O Q _ m _ fun ds O1 => wS_ownG ρ O1 Q g ds h
theorem wS_ownPop {i : Nat} {xs : List D} {z : D} (j : Nat) (h : ρ[i]? = some (some (.own (.lst (xs ++ [z]))))) : wS (ownPop j i) ρ O Q = Q (.nx ((ρ.set i (some (.own (.lst xs)))).set j (some (.shr z))) O) := by
  have e : popG O (xs ++ [z]) [] = some (z, xs) := by
    unfold popG
    dsimp only
    rw [List.length_append, List.length_singleton, Nat.add_sub_cancel, List.getElem?_append_right (Nat.le_refl _), Nat.sub_self, List.dropLast_concat]
    rfl
  unfold wS ownPop
  rw [h]
  dsimp only
  rw [e]
end
/-! tuples of tuples of the text -/
theorem tupK {K : PySem.W.Frag} (vs : List V) (ds : List D) {a : Addr} {od : Option Addr} {its : Array Value} {n : Nat} {sl : Array (Option Value)} (l : K.lookup a = some ⟨.type "tuple", od, .seq its n, sl⟩) (hs : its.size ≤ sizeLine) (hu : Vals vs its.toList) (hp : ∀ ι B, Paired (DA K ι B) vs ds) : ∀ ι B, DA K ι B (.ref a) (.tup ds) :=
  fun ι B => .tup (.inr ⟨_, its, n, l, rfl, rfl, hs, hu⟩) (hp ι B)
theorem prK_nil {K : PySem.W.Frag} : ∀ ι B, Paired (DA K ι B) [] [] := fun _ _ => .nil
theorem prK_cons {K : PySem.W.Frag} {v : V} {d : D} {vs : List V} {ds : List D} (h : ∀ ι B, DA K ι B v d) (t : ∀ ι B, Paired (DA K ι B) vs ds) : ∀ ι B, Paired (DA K ι B) (v :: vs) (d :: ds) := fun ι B => .cons (h ι B) (t ι B)
theorem gtup4 {K : PySem.W.Frag} {mg : Mg} {h : Heap} {x : Str} {a a1 a2 a3 a4 : Addr} {od : Option Addr} {its : Array Value} {n : Nat} {sl : Array (Option Value)} (d1 d2 d3 d4 : D) (KX : K.In h) (G : h.Ns mainGlobals mg) (z : PySem.W.nsIn K mainGlobals x = some (some (.ref a)))
    (l : K.lookup a = some ⟨.type "tuple", od, .seq its n, sl⟩) (hs : its.size ≤ sizeLine) (hu : its.toList = [.ref a1, .ref a2, .ref a3, .ref a4]) (p1 : ∀ ι B, DA K ι B (.ref a1) d1) (p2 : ∀ ι B, DA K ι B (.ref a2) d2) (p3 : ∀ ι B, DA K ι B (.ref a3) d3) (p4 : ∀ ι B, DA K ι B (.ref a4) d4) : GTup K mg x [d1, d2, d3, d4] :=
  gtup_mk [.ref a1, .ref a2, .ref a3, .ref a4] [d1, d2, d3, d4] KX G z l hs (by rw [hu]; exact .cons rfl (.cons rfl (.cons rfl (.cons rfl .nil)))) fun ι B => .cons (p1 ι B) (.cons (p2 ι B) (.cons (p3 ι B) (.cons (p4 ι B) .nil)))
end DL

set_option linter.all false
set_option Elab.async false
set_option maxRecDepth 100000
/-! DLRules28: for over a list of the store, which stays as it is meanwhile. -/
namespace DL
open PySem L2
variable [Tabs]
open Classical in
noncomputable def loopO (n : Nat) (xs : List D) (f : D → MS) (m : MS) : List D → MS
  | [] => fun ρ O => if O[n]? = some (.lst xs) then .nx ρ O else .bad
  | d :: ds => fun ρ O => if O[n]? = some (.lst xs) then (match f d ρ O with
    | .nx ρ1 O1 => (match m ρ1 O1 with
      | .nx ρ2 O2 => loopO n xs f m ds ρ2 O2
      | .ct ρ2 O2 => loopO n xs f m ds ρ2 O2
      | .bk ρ2 O2 => .nx ρ2 O2
      | r => r)
    | _ => .bad) else .bad
noncomputable def forOS (mi : ME (Nat × List D)) (f : D → MS) (m : MS) : MS := bindS mi fun p => loopO p.1 p.2 f m p.2
section
variable {X : Cx} {Wx : WX} {tg it : Expr} {pos : Pos}
theorem EvS.forO {wi : TI} {g : TG} {tb : TS} {mi : ME (Nat × List D)} {f : D → MS} {m : MS} (hi : EvIO X Wx wi mi) (hg : EvG X g f) (hb : EvS X Wx tb m) : EvS X Wx (tFor wi g tb) (forOS mi f m) := by
  intro e ι B H ρ O σ D' r q
  refine hi e ι B H ρ O σ _ r ?_
  unfold forOS bindS at q
  cases z : mi ρ O with
  | bad => rw [z] at q; exact q
  | err c p O' => rw [z] at q; exact fun ι' B' H' C dx r' i' b' h => q ι' B' H' σ C dx r' i' b' h
  | ok nds O' =>
    obtain ⟨nn, xs⟩ := nds
    rw [z] at q
    dsimp only at q
    intro ι' B' H' ad r' i' b' had hcell
    refine ⟨fun i mm σ H => mm = xs.length - i ∧ i ≤ xs.length ∧ ∃ ρ O ι2 B2, Rel X.K X.mg (en X e) ι2 B2 H ρ O σ ∧ Pre ι' ι2 ∧ Same B' B2 ∧ EvSP X Wx e ι2 B2 D' (loopO nn xs f m (xs.drop i) ρ O), ⟨xs.length, by simp, Nat.zero_le _, ρ, O', ι', B', r', Pre.refl _, Same.refl _, EvSP.later (r := loopO nn xs f m xs ρ O') i' b' q⟩, ?_⟩
    rintro i mm σ H ⟨rfl, hil, ρ, O, ι2, B2, r2, i2, b2, q2⟩
    by_cases hlt : i < xs.length
    · have hd : xs[i]? = some xs[i] := List.getElem?_eq_getElem hlt
      have hdr : xs.drop i = xs[i] :: xs.drop (i + 1) := List.drop_eq_getElem_cons hlt
      rw [hdr] at q2
      unfold loopO at q2
      by_cases hc : O[nn]? = some (.lst xs)
      · rw [if_pos hc] at q2
        obtain ⟨⟨ws, hws, hwp⟩, _⟩ := r2.ob nn _ ad hc (i2 _ _ had)
        have hsq : SqL X.K H ad ws := SqL.of hws
        obtain ⟨wv, hw1, hw2⟩ := paired_get hwp hd
        refine .inr ⟨⟨ws, wv, hsq, hw1⟩, fun σ' H' => ∃ ρ O ι3 B3, Rel X.K X.mg (en X e) ι3 B3 H' ρ O σ' ∧ Pre ι' ι3 ∧ Same B' B3 ∧ EvSP X Wx e ι3 B3 D' (loopO nn xs f m (xs.drop (i + 1)) ρ O), fun σ' H' h => ⟨xs.length - (i + 1), by omega, rfl, hlt, h⟩, fun x H3 y => ?_⟩
        obtain ⟨rfl, y⟩ := y
        have y := y ws hsq
        rw [hw1] at y
        cases y
        refine hg _ _ e ι2 B2 _ ρ O σ _ r2 hw2 ?_
        cases z2 : f xs[i] ρ O with
        | nx ρ1 O1 =>
          rw [z2] at q2
          dsimp only at q2
          intro ι4 B4 H4 σ4 r4 i4 b4
          refine hb e ι4 B4 H4 ρ1 O1 σ4 _ r4 ?_
          cases z3 : m ρ1 O1 with
          | nx ρ2 O2 =>
            rw [z3] at q2
            exact fun ι5 B5 H5 σ5 r5 i5 b5 => ⟨ρ2, O2, ι5, B5, r5, (i2.trans i4).trans i5, (b2.trans b4).trans b5, EvSP.later (r := loopO nn xs f m _ ρ2 O2) (i4.trans i5) (b4.trans b5) q2⟩
          | ct ρ2 O2 =>
            rw [z3] at q2
            exact fun ι5 B5 H5 σ5 r5 i5 b5 => ⟨ρ2, O2, ι5, B5, r5, (i2.trans i4).trans i5, (b2.trans b4).trans b5, EvSP.later (r := loopO nn xs f m _ ρ2 O2) (i4.trans i5) (b4.trans b5) q2⟩
          | bk ρ2 O2 =>
            rw [z3] at q2
            exact fun ι5 B5 H5 σ5 r5 i5 b5 => q2 ι5 B5 H5 σ5 r5 (i4.trans i5) (b4.trans b5)
          | ret x2 O2 =>
            rw [z3] at q2
            exact fun ι5 B5 H5 v r5 i5 b5 => q2 ι5 B5 H5 v r5 (i4.trans i5) (b4.trans b5)
          | err c p ρ2 O2 =>
            rw [z3] at q2
            exact fun ι5 B5 H5 σ5 C dx r5 i5 b5 => q2 ι5 B5 H5 σ5 C dx r5 (i4.trans i5) (b4.trans b5)
          | bad => rw [z3] at q2; exact q2
        | bk ρ' O' => rw [z2] at q2; exact q2.elim
        | ct ρ' O' => rw [z2] at q2; exact q2.elim
        | ret x O' => rw [z2] at q2; exact q2.elim
        | err c p ρ' O' => rw [z2] at q2; exact q2.elim
        | bad => rw [z2] at q2; exact q2.elim
      · rw [if_neg hc] at q2
        exact q2.elim
    · have hi : xs.length ≤ i := by omega
      rw [List.drop_eq_nil_of_le hi] at q2
      unfold loopO at q2
      by_cases hc : O[nn]? = some (.lst xs)
      · rw [if_pos hc] at q2
        obtain ⟨⟨ws, hws, hwp⟩, _⟩ := r2.ob nn _ ad hc (i2 _ _ had)
        exact .inl ⟨⟨ws, SqL.of hws, by rw [paired_len hwp]; exact hi⟩, q2 ι2 B2 H σ r2 (Pre.refl _) (Same.refl _)⟩
      · rw [if_neg hc] at q2
        exact q2.elim
theorem es_forO {sts : List Stmt} {mi : ME (Nat × List D)} {f : D → MS} {m : MS} (hp : PassesOwn (model X.prog X.w) X.A X.env X.xe) (hc : X.calm = true) (hi : EIO X Wx tg it mi) (hg : EG X tg f) (hb : EB X Wx sts m)
    (hs : ∀ x, foldedSetIterable it X.env x = pure x := by intro _; rfl) : ES X Wx (.For tg it sts [] pos) (forOS mi f m) := by
  obtain ⟨wi, pi, ei⟩ := hi
  obtain ⟨g, pg, eg⟩ := hg
  obtain ⟨t, pt, et⟩ := hb
  exact ⟨_, ps_for hp hc pi pg pt hs, EvS.forO ei eg et⟩
end
section
variable {g : D → MS} {m : MS} {Q : RS → Prop}
theorem loopO_cons {n : Nat} {xs : List D} {d : D} {ds : List D} {ρ : Rho} {O : Sto} (h : O[n]? = some (.lst xs)) : loopO n xs g m (d :: ds) ρ O = match turnS g m d ρ O with
  | .nx ρ' O' => loopO n xs g m ds ρ' O'
  | .bk ρ' O' => .nx ρ' O'
  | r => r := by
  conv => lhs; unfold loopO
  unfold turnS
  rw [if_pos h]
  cases g d ρ O with
  | nx ρ1 O1 =>
    dsimp only
    cases m ρ1 O1 <;> rfl
  | _ => rfl
/-- by what holds behind the part that is walked; the list stays -/
theorem wS_loopO {τ : Type} (enc : τ → D) (n : Nat) (xs : List τ) (I : List τ → Rho → Sto → Prop) {ρ : Rho} {O : Sto} (keep : ∀ pre ρ O, I pre ρ O → O[n]? = some (.lst (xs.map enc)))
    (step : ∀ pre x post ρ O, xs = pre ++ x :: post → I pre ρ O → wS (turnS g m (enc x)) ρ O (lpK (I (pre ++ [x])) Q)) (h0 : I [] ρ O) (fin : ∀ ρ O, I xs ρ O → Q (.nx ρ O)) : wS (loopO n (xs.map enc) g m (xs.map enc)) ρ O Q := by
  have gen : ∀ (post pre : List τ) (ρ : Rho) (O : Sto), xs = pre ++ post → I pre ρ O → wS (loopO n (xs.map enc) g m (post.map enc)) ρ O Q := by
    intro post
    induction post with
    | nil =>
      intro pre ρ O e h
      have hk := keep pre ρ O h
      rw [List.append_nil] at e
      subst e
      unfold wS
      rw [List.map_nil]
      unfold loopO
      rw [if_pos hk]
      exact fin ρ O h
    | cons x post ih =>
      intro pre ρ O e h
      rw [List.map_cons]
      unfold wS
      rw [loopO_cons (keep pre ρ O h)]
      have hs := step pre x post ρ O e h
      unfold wS at hs
      cases z : turnS g m (enc x) ρ O with
      | nx ρ' O' => rw [z] at hs; exact ih (pre ++ [x]) ρ' O' (by rw [e, List.append_assoc]; rfl) hs
      | _ => rw [z] at hs; exact hs
  exact gen xs [] ρ O rfl h0
def cForO (g : D → MS) (m : MS) (ρ : Rho) (Q : RS → Prop) (p : Nat × List D) (O1 : Sto) : Prop := wS (loopO p.1 p.2 g m p.2) ρ O1 Q
theorem cForO_ap (ρ : Rho) (n : Nat) (xs : List D) (O1 : Sto) : cForO g m ρ Q (n, xs) O1 = wS (loopO n xs g m xs) ρ O1 Q := q_ rfl
theorem wS_forOS (ρ : Rho) (O : Sto) (mi : ME (Nat × List D)) : wS (forOS mi g m) ρ O Q = wE mi ρ O (cForO g m ρ Q) (cErr ρ Q) := wS_bindS ρ O Q _ mi _ fun p O1 => rfl
end
end DL

set_option linter.all false
set_option Elab.async false
set_option maxRecDepth 100000
set_option maxHeartbeats 1000000
/-! DLRules29: all and any of a generator expression whose element may call. -/
namespace GxD
open PySem PySem.Spec PyProof.Rows L2 GxR LamX NdefX
abbrev genv (X : Cx) (scope : Scope) (C : Addr) (code : Value) : Env := genEnv scope (cloFrom X.env.cells scope.names []) C code builtinsNs X.env
/-- the element's context -/
def gcx (X : Cx) (scope : Scope) (N : List Str) (s : Shared) (H : Hp) (code : Value) (fp : List Addr) (A : Around) : Cx where
  prog := X.prog
  w := X.w
  K := X.K
  mg := X.mg
  base := X.base
  A := A
  N := N
  s_0 := s
  H_0 := H
  env := genv X scope s.heap.objs.size code
  outer := X.stack
  stack := genv X scope s.heap.objs.size code :: X.stack
  ex := fp
  calm := true
  fn := fun _ => false
  pn := []
  xe := fun _ _ => False
structure GSc (osc scope : Scope) (x : Str) (fr : List Str) : Prop where
  kind : scope.kind = .function
  co : scope.isCoroutine = false
  cell : ∀ y ∈ scope.names, y.2 ≠ .cell
  dot : scope.names.lookup (".0" : Str) = some NameKind.local
  loc : scope.names.lookup x = some .local
  free : ∀ y ∈ scope.names, y.2 = .free → y.1 ∈ fr
  out : ∀ y ∈ scope.names, y.2 = .free → osc.names.lookup y.1 = some .cell ∨ osc.names.lookup y.1 = some .free
  frk : ∀ y ∈ fr, (y, NameKind.free) ∈ scope.names
  frl : ∀ y ∈ fr, scope.names.lookup y = some .free
  nd : (x :: fr).Nodup
section
variable {X : Cx} {pins : List (Addr × Obj)} {σ : L2.St} {H : Hp} {s : Shared} {scope : Scope} {x : Str} {fr : List Str} {ws : List (Option V)} {fp : List Addr} {A : Around} {code : Value}
theorem inv_startG {h5 : Heap} {g' : Array GenState} {tk : Nat} {a : Addr} {go : Obj} {m : Str → Option Value} (I : Inv X pins σ H s) (S : GSc X.env.scope scope x fr) (C : CellsAt (cloFrom X.env.cells scope.names []) fr ws s.heap H) (hf : ∀ b ∈ fp, FpOk X pins H b) (ho : ∀ b ∈ fp, ∃ o, s.heap.get? b = some o ∧ ∀ v, o.data ≠ .cell v)
    (hA : A.handled = none) (hfr : A.frames = some (genv X scope s.heap.objs.size code :: X.stack)) (hns : h5.Ns s.heap.objs.size m) (kp : ∀ b o, s.heap.get? b = some o → h5.get? b = some o) (hg : AllBare g') (ha : h5.get? a = some go) (haS : s.heap.objs.size < a) (hgo : ∀ v, go.data ≠ .cell v) :
    Inv (gcx X scope (x :: fr) s H code fp A) [(a, go)] (none :: ws) H { s with heap := h5, gens := g', toks := tk } := by
  have e0 := I.env0
  have cellK : ∀ {c : Addr} {v : Option Value}, s.heap.IsCell c v → h5.IsCell c v := fun {c v} ⟨o, ho, hd⟩ => ⟨o, kp _ _ ho, hd⟩
  have fpl : ∀ b ∈ fp, b < s.heap.objs.size := fun b hb => let ⟨o, e, _⟩ := ho b hb; Heap.lt_size e
  have stk : ∀ b, s.heap.objs.size ≤ b → b ∉ frs X.stack := fun b hb hm => by
    rcases List.mem_cons.mp (I.stkSub b hm) with e | e
    · rw [e] at hb; exact absurd (Nat.lt_of_lt_of_le I.lt hb) (Nat.lt_irrefl _)
    · exact I.nofs hb e
  refine ⟨⟨e0.mod, S.kind, I.ok.glob, rfl, Nat.le_refl _, C.inj, fun y hy => ?_, fun y c z _ => ?_, fun _ => hA, hfr, .inr ⟨rfl, rfl⟩, fun b hb => ⟨Nat.ne_of_lt (fpl b hb), fun y c e z => ?_⟩, e0.bs, e0.bsz, fun b o e hb => ?_,
      fun b hb hm => ?_, e0.funs, e0.frf⟩,
    rfl, hg, Un.kept kp, ⟨_, hns, fun i y v e1 e2 e3 => ?_⟩, fun y c e => ?_, e0.hok.fresh (Nat.le_refl _), fun y c e => (C.all y c e).1, fun q hq => ?_, e0.hok.kept kp, ?_⟩
  · have hy : scope.names.lookup y = some .cell ∨ scope.names.lookup y = some .free := hy
    rcases hy with hy | hy
    · exact absurd rfl (S.cell _ (PySem.mem_of_lookup hy))
    · obtain ⟨i, hi⟩ := List.mem_iff_getElem?.mp (S.free _ (PySem.mem_of_lookup hy) rfl)
      obtain ⟨c, hc, _⟩ := C.has i y hi
      exact ⟨c, hc⟩
  · have z : false = true := z
    cases z
  · obtain ⟨o, eo, hn⟩ := ho b hb
    obtain ⟨v, o', eo', hd⟩ := (C.all y c e).2
    rw [z, eo] at eo'
    cases eo'
    exact hn _ hd
  · rcases (hf b hb).2.2.2.1 with z | z
    · exact I.ok.noex b o e z
    · have := Heap.lt_size e
      exact absurd (Nat.lt_of_lt_of_le this (Nat.le_trans I.ok.bsz z)) (Nat.lt_irrefl _)
  · obtain ⟨h1, h2, h3, _⟩ := hf b hb
    rcases List.mem_cons.mp (I.stkSub b hm) with e | e
    · exact h2 e
    · exact h3 e
  · have e1 : (x :: fr)[i]? = some y := e1
    cases i with
    | zero => cases e2
    | succ i =>
      have e1 : fr[i]? = some y := e1
      have e2 : ws[i]? = some (some v) := e2
      obtain ⟨c, hc, hv⟩ := C.has i y e1
      obtain ⟨u, ru, hu⟩ := hv v e2
      exact ⟨u, ru, .inr ⟨.inr (S.frl y (List.mem_of_getElem? e1)), c, hc, cellK hu⟩⟩
  · obtain ⟨v, z⟩ := (C.all y c e).2
    exact ⟨v, cellK z⟩
  · have hq : q ∈ ([] : List (Addr × Obj)) ++ [(a, go)] := hq
    rw [List.nil_append, List.mem_singleton] at hq
    subst hq
    exact ⟨ha, e0.hok.fresh (Nat.le_of_lt haS), Nat.ne_of_gt haS, stk a (Nat.le_of_lt haS), hgo⟩
  · show (none :: ws).length = (x :: fr).length
    rw [List.length_cons, List.length_cons, C.len]
/-- nothing but the generators' states, and more objects -/
def Wok (s s' : Shared) : Prop := s'.os = s.os ∧ AllBare s'.gens ∧ ∀ b o, s.heap.get? b = some o → s'.heap.get? b = some o
theorem inv_wok {s' : Shared} (I : Inv X pins σ H s) (z : Wok s s') : Inv X pins σ H s' :=
  I.call' (ch := []) z.1 (Un.kept z.2.2) (I.hok.kept z.2.2) z.2.1 fun b hb => absurd hb (by simp)
/-- at a turn -/
structure GSt (X : Cx) (pins : List (Addr × Obj)) (fp : List Addr) (tn : Nat → Heap → Prop) (i : Nat) (σ : L2.St) (H : Hp) (s : Shared) : Prop where
  inv : Inv X pins σ H s
  t : tn i s.heap
  f : ∀ b ∈ fp, FpOk X pins H b
theorem GSt.wok {P : Program} {w : World} {K : PySem.W.Frag} {tg : Expr} {J : It} {it : Addr} {tn : Nat → Heap → Prop} {i : Nat} {s' : Shared} (T : Turn P w K tg J fp it tn) (g : GSt X pins fp tn i σ H s) (z : Wok s s') : GSt X pins fp tn i σ H s' :=
  ⟨inv_wok g.inv z, T.keep _ _ _ g.t fun b _ o e => z.2.2 b o e, g.f⟩
/-- what is left: n turns at most; stp: the element's truth that ends it -/
def tG (te : TE) (J : It) (ws : List (Option V)) (stp : Bool) (Q : VK) : Nat → Nat → Hp → Prop
  | 0, i, H => J.stop i H ∧ Q (.bl (!stp)) H
  | n + 1, i, H => J.go i H ∧ ∀ xv H', J.yld i H xv H' → te (some xv :: ws) H' fun y H'' => ∃ b, y = .bl b ∧ (b = stp → Q (.bl stp) H'') ∧ (b ≠ stp → tG te J ws stp Q n (i + 1) H'')
/-- handed out -/
def GY (X : Cx) (pins : List (Addr × Obj)) (fp : List Addr) (tn : Nat → Heap → Prop) (te : TE) (J : It) (ws : List (Option V)) (stp : Bool) (Q : VK) : Protocol := fun n s₀ v s kap =>
  ∃ b i σ H, v = .bool b ∧ GSt X pins fp tn i σ H s ∧ (b = stp → Q (.bl stp) H) ∧ (b ≠ stp → ∀ s', Wok s s' → kap (.send .none) s')
def GR (X : Cx) (pins : List (Addr × Obj)) (stp : Bool) (Q : VK) : Nat → Shared → Shared → Prop := fun n _ s => n = 0 ∧ ∃ σ H, Inv X pins σ H s ∧ Q (.bl (!stp)) H
theorem seg_G {pr : Program} {wd : World} {A0 : Around} {elt iter : Expr} {px gpos : Pos} {it : Addr} {J : It} {tn : Nat → Heap → Prop} {te : TE} {stp : Bool} {Q : VK} {cenv : Env}
    (hp : X.prog = pr) (hw : X.w = wd) (hc : X.calm = true) (hN : X.N = x :: fr) (hnd : (x :: fr).Nodup) (henv : X.env = cenv) (hA : A0.over (.compLoop (.GeneratorExp elt [⟨.Name x px, iter, [], 0⟩] scope gpos) 0 (.ref it) .none cenv) [] = X.A) (hx : X.env.scope.names.lookup x = some .local) (hco : cenv.scope.isCoroutine = false)
    (hxe : X.xe = fun _ _ => False) (T : Turn pr wd X.K (.Name x px) J fp it tn) (hel : PE X elt te) :
    ∀ (n i : Nat) (s₀ s : Shared) (o0 : Option V) (H : Hp), GSt X pins fp tn i (o0 :: ws) H s → tG te J ws stp Q n i H →
      Seg (model pr wd) A0 (fun n s₀ r s₁ => r = .ok .next ∧ GR X pins stp Q n s₀ s₁) (GY X pins fp tn te J ws stp Q) n s₀
        (.compLoop (.GeneratorExp elt [⟨.Name x px, iter, [], 0⟩] scope gpos) 0 (.ref it) .none cenv)
        ((model pr wd).den (.compLoop (.GeneratorExp elt [⟨.Name x px, iter, [], 0⟩] scope gpos) 0 (.ref it) .none cenv)) [] s := by
  subst hp hw henv
  intro n
  induction n with
  | zero =>
    intro i s₀ s o0 H g ht
    obtain ⟨hstop, hq⟩ := ht
    show Seg _ A0 _ _ _ s₀ _ ((compTurn (.GeneratorExp elt [⟨.Name x px, iter, [], 0⟩] scope gpos) 0 (.ref it) .none X.env).onRaise (leaving X.env)) [] s
    rw [compTurn_gen, Sem.onRaise_eq_wrap]
    refine seg_bind_wrap (wpAny_standAt ?_)
    refine seg_bind_wrap ?_
    rw [hA]
    refine wpAny_mono (T.done X rfl rfl rfl hc i pins s _ H _ g.inv g.f g.t hstop) (fun r s1 h1 => ?_) fun _ _ e => e
    obtain ⟨rfl, I1⟩ := h1
    exact seg_end (.ok .next) ⟨rfl, rfl, _, H, I1, hq⟩
  | succ n ih =>
    intro i s₀ s o0 H g ht
    obtain ⟨hgo, ht⟩ := ht
    show Seg _ A0 _ _ _ s₀ _ ((compTurn (.GeneratorExp elt [⟨.Name x px, iter, [], 0⟩] scope gpos) 0 (.ref it) .none X.env).onRaise (leaving X.env)) [] s
    rw [compTurn_gen, Sem.onRaise_eq_wrap]
    refine seg_bind_wrap (wpAny_standAt ?_)
    refine seg_bind_wrap ?_
    rw [hA]
    refine wpAny_mono (T.item X rfl rfl rfl hc i pins s _ H _ g.inv g.f g.t hgo) (fun r s1 h1 => ?_) fun _ _ e => e
    obtain ⟨u, rfl, h1⟩ := h1
    refine seg_bind_wrap ?_
    rw [hA]
    refine wpAny_mono h1 (fun _ s2 h2 => ?_) fun _ _ e => e
    obtain ⟨xv, H2, I2, rv, hy, t2, f2⟩ := h2
    have te2 := ht xv H2 hy
    have hN0 : X.N[0]? = some x := by rw [hN]; rfl
    have hNd : X.N.Nodup := by rw [hN]; exact hnd
    have f2' : ∀ b ∈ fp, FpOk X pins H2 b := fun b hb => ⟨f2 b hb, (g.f b hb).2⟩
    have I2' := I2.pinned f2' (T.obj _ _ t2)
    refine seg_bind_wrap ?_
    rw [hA]
    refine wpAny_mono ((pg_name (X := X) (pos := px) (i := 0) (x := x) hNd hN0 (.inl hx) (.inr hx)).run (pins ++ pinsAt fp s2.heap) s2 (o0 :: ws) H2 xv u (fun σ' H' => σ' = some xv :: ws ∧ H' = H2) I2' rv ⟨rfl, rfl⟩) (fun _ s3 h3 => ?_) fun y s' hy => ?_
    · obtain ⟨σ3, H3, I3, rfl, rfl⟩ := h3
      have hyo : ∀ v, yieldOut X.env v = yieldValue v := fun v => by simp only [yieldOut, hco, Bool.false_eq_true, if_false]
      refine seg_bind_wrap (wpAny_of_eq (a := true) rfl ?_)
      simp only [if_true, hyo]
      rw [Sem.bind_eq_wrap', Sem.bind_eq_wrap', Sem.wrap_wrap, Sem.wrap_wrap]
      refine seg_wrap ?_
      rw [hA]
      refine wpAny_mono (hel.run _ s3 (some xv :: ws) H3 _ I3 te2) (fun y s4 h4 => ?_) fun y s' hy => ?_
      · obtain ⟨v, H4, I4, r4, b, rfl, q1, q2⟩ := h4
        obtain rfl : y = Value.bool b := r4
        have g4 : GSt X pins fp tn (i + 1) (some xv :: ws) H4 s4 := by
          refine ⟨I4.unpinned, T.keep _ _ _ t2 fun b hb o e => (I4.pin (b, o) (List.mem_append_right _ (List.mem_append_right _ (mem_pinsAt hb e)))).1, fun b hb => ?_⟩
          obtain ⟨o, e, _⟩ := T.obj _ _ t2 b hb
          exact ⟨(I4.pin (b, o) (List.mem_append_right _ (List.mem_append_right _ (mem_pinsAt hb e)))).2.1, (g.f b hb).2⟩
        exact seg_at (seg_yield rfl rfl rfl ⟨b, i + 1, _, H4, rfl, g4, q1, fun hb s' z => seg_again rfl (ih (i + 1) s' s' (some xv) H4 (g4.wok T z) (q2 hb))⟩)
      · rw [hxe] at hy
        exact hy.elim
    · rw [hxe] at hy
      exact hy.elim
theorem seg_GS {pr : Program} {wd : World} {A0 : Around} {elt iter : Expr} {px gpos : Pos} {it : Addr} {J : It} {tn : Nat → Heap → Prop} {te : TE} {stp : Bool} {Q : VK} {cenv : Env}
    (hp : X.prog = pr) (hw : X.w = wd) (hc : X.calm = true) (hN : X.N = x :: fr) (hnd : (x :: fr).Nodup) (henv : X.env = cenv) (hA : A0.over (.compLoop (.GeneratorExp elt [⟨.Name x px, iter, [], 0⟩] scope gpos) 0 (.ref it) .none cenv) [] = X.A) (hx : X.env.scope.names.lookup x = some .local) (hco : cenv.scope.isCoroutine = false)
    (hxe : X.xe = fun _ _ => False) (T : Turn pr wd X.K (.Name x px) J fp it tn) (hel : PE X elt te) (n : Nat) (s₀ s : Shared) (o0 : Option V) (H : Hp) (g : GSt X pins fp tn 0 (o0 :: ws) H s) (ht : tG te J ws stp Q n 0 H) :
    Seg (model pr wd) A0 (fun n s₀ r s₁ => r = .ok .next ∧ GR X pins stp Q n s₀ s₁) (GY X pins fp tn te J ws stp Q) n s₀
      (.compStart (.GeneratorExp elt [⟨.Name x px, iter, [], 0⟩] scope gpos) 0 (.ref it) .none cenv)
      ((model pr wd).den (.compStart (.GeneratorExp elt [⟨.Name x px, iter, [], 0⟩] scope gpos) 0 (.ref it) .none cenv)) [] s := by
  have loop := seg_G (iter := iter) (px := px) (gpos := gpos) hp hw hc hN hnd henv hA hx hco hxe T hel n 0 s₀ s o0 H g ht
  show Seg _ A0 _ _ _ s₀ _ ((compStart (.GeneratorExp elt [⟨.Name x px, iter, [], 0⟩] scope gpos) 0 (.ref it) .none cenv).onRaise (leaving cenv)) [] s
  unfold compStart
  rw [Sem.onRaise_eq_wrap]
  show Seg _ A0 _ _ _ s₀ _ ((ask >>= _).wrap _ _ _ _) [] s
  refine seg_bind_wrap (wpAny_askSetting ?_)
  split
  · exact seg_again rfl loop
  · first
      | exact seg_bind_wrap (wpAny_rule (seg_bind_wrap (wpAny_standAt (seg_bind_wrap (T.self _ 0 s _ _ g.t (seg_again rfl loop))))))
      | (refine seg_bind_wrap (wpAny_rule ?_); show Seg _ A0 _ _ _ s₀ _ ((standAt iter.pos >>= _).wrap _ _ _ _) [] s; exact seg_bind_wrap (wpAny_standAt (seg_bind_wrap (T.self _ 0 s _ _ g.t (seg_again rfl loop)))))
theorem bare_set {s : Shared} {g : Nat} {gs : GenState} (h : AllBare s.gens) (hb : gs.bare = true) : AllBare (s.setGen g gs).gens := by
  intro y hy
  obtain ⟨i, hi, rfl⟩ := Array.mem_iff_getElem.mp hy
  by_cases e : g = i
  · subst e
    simp [Shared.setGen] at hi ⊢
    exact hb
  · have hi2 : i < s.gens.size := by simpa [Shared.setGen] using hi
    have : (s.setGen g gs).gens[i] = s.gens[i] := by
      show (s.gens.setIfInBounds g gs)[i] = s.gens[i]
      exact Array.getElem_setIfInBounds_ne (h := e) ..
    rw [this]
    exact h _ (Array.getElem_mem hi2)
theorem set_at {s : Shared} {g : Nat} {gs : GenState} (h : g + 1 ≤ (s.setGen g gs).gens.size) : (s.setGen g gs).gens[g]? = some gs := by
  have h2 : g + 1 ≤ s.gens.size := by simpa [Shared.setGen] using h
  have h2 : g < s.gens.size := h2
  simp [Shared.setGen, h2]
theorem wok_set {s : Shared} {g : Nat} {gs : GenState} (h : AllBare s.gens) (hb : gs.bare = true) : Wok s (s.setGen g gs) := ⟨rfl, bare_set h hb, fun _ _ e => e⟩
theorem wok_fin {s : Shared} {g : Nat} {h' : Heap} (h : AllBare s.gens) (hk : ∀ b o, s.heap.get? b = some o → h'.get? b = some o) : Wok s { s.setGen g .finished with heap := h' } := ⟨rfl, bare_set h rfl, hk⟩
theorem Wok.trans {s s' s'' : Shared} (a : Wok s s') (b : Wok s' s'') : Wok s s'' := ⟨b.1.trans a.1, b.2.1, fun c o e => b.2.2 c o (a.2.2 c o e)⟩
theorem all_loopG {pr : Program} {wd : World} {A0 : Around} {a : Addr} {go : Obj} {g : Nat} {nm qn : Value} {tg : Expr} {it : Addr} {J : It} {tn : Nat → Heap → Prop} {te : TE} {Q : VK}
    (hp : X.prog = pr) (hw : X.w = wd) (hh : A0.handled = none) (hd : A0.depth < recursionLimit) (hc1 : go.cls = .type "generator") (hc2 : go.data = .fields #[.int g 0, nm, qn]) (hc3 : go.slots = #[]) (T : Turn pr wd X.K tg J fp it tn) :
    ∀ (n : Nat) (s : Shared) (gs : GenState), s.gens[g]? = some gs → (∃ i σ H, GSt X [(a, go)] fp tn i σ H s) → (∀ s', Wok s s' → gs.Goes (model pr wd) A0.in1.in1 (fun n s₀ r s₁ => r = .ok .next ∧ GR X [(a, go)] false Q n s₀ s₁) (GY X [(a, go)] fp tn te J ws false Q) n (.send .none) s') →
      codeAny (model pr wd) A0 (.builtin "all.loop" ⟨[.ref a], []⟩) (fun r s' => ∃ b, r = .ok (.ret (.bool b)) ∧ ∃ σ H, Inv X [(a, go)] σ H s' ∧ Q (.bl b) H) s := by
  subst hp hw
  intro n
  induction n with
  | zero =>
    intro s gs hgs hI hgo
    obtain ⟨i, σ, H, gst⟩ := hI
    have hlt : g < s.gens.size := (Array.getElem?_eq_some_iff.mp hgs).1
    have hgen : s.heap.IsGen a g := ⟨go, nm, qn, (gst.inv.pin (a, go) (List.mem_append_right _ List.mem_cons_self)).1, hc1, hc2, hc3⟩
    refine codeAny_builtin PySem.F.entry_all_loop ?_
    rw [Around.under_plainId PySem.F.plain_all_loop _]
    show wpAny _ A0.in1 (pyNext (.ref a) >>= _) _ _ s
    refine wpAny_bind (GenW.wpAny_gsz (n := g + 1) hlt (wpAny_pyNext_genexpQ (A := A0.in1) (P := GR X [(a, go)] false Q) (Y := GY X [(a, go)] fp tn te J ws false Q) (n := 0) hh gst.inv.nolimit hd hgen hgs (hgo _ (wok_set gst.inv.bare rfl)) (fun v s₁ gs' hb hv hsz => ?_) (fun s₁ hp h' hk hsz => ?_)))
    · obtain ⟨b, i', σ', H', rfl, g4, q1, q2⟩ := hv
      have z := wok_set (g := g) (gs := gs') g4.inv.bare hb
      refine wpAny_bind (wpAny_holding (wpAny_truthy_bool ?_))
      refine wpAny_bind (wpAny_letGo ?_)
      cases b with
      | false =>
        simp only [if_true, Bool.false_eq_true, if_false]
        refine wpAny_bind (wpAny_rule (wpAny_pure ?_))
        exact ⟨false, rfl, σ', H', inv_wok g4.inv z, q1 rfl⟩
      | true => exact (q2 (by simp) s₁ ⟨rfl, g4.inv.bare, fun _ _ e => e⟩).elim
    · obtain ⟨_, σ', H', I', q⟩ := hp
      refine wpAny_bind (wpAny_rule (wpAny_pure ?_))
      exact ⟨true, rfl, σ', H', inv_wok I' (wok_fin I'.bare hk), q⟩
  | succ n ih =>
    intro s gs hgs hI hgo
    obtain ⟨i, σ, H, gst⟩ := hI
    have hlt : g < s.gens.size := (Array.getElem?_eq_some_iff.mp hgs).1
    have hgen : s.heap.IsGen a g := ⟨go, nm, qn, (gst.inv.pin (a, go) (List.mem_append_right _ List.mem_cons_self)).1, hc1, hc2, hc3⟩
    refine codeAny_builtin PySem.F.entry_all_loop ?_
    rw [Around.under_plainId PySem.F.plain_all_loop _]
    show wpAny _ A0.in1 (pyNext (.ref a) >>= _) _ _ s
    refine wpAny_bind (GenW.wpAny_gsz (n := g + 1) hlt (wpAny_pyNext_genexpQ (A := A0.in1) (P := GR X [(a, go)] false Q) (Y := GY X [(a, go)] fp tn te J ws false Q) (n := n + 1) hh gst.inv.nolimit hd hgen hgs (hgo _ (wok_set gst.inv.bare rfl)) (fun v s₁ gs' hb hv hsz => ?_) (fun s₁ hp h' hk hsz => ?_)))
    · obtain ⟨b, i', σ', H', rfl, g4, q1, q2⟩ := hv
      have z := wok_set (g := g) (gs := gs') g4.inv.bare hb
      refine wpAny_bind (wpAny_holding (wpAny_truthy_bool ?_))
      refine wpAny_bind (wpAny_letGo ?_)
      cases b with
      | false =>
        simp only [if_true, Bool.false_eq_true, if_false]
        refine wpAny_bind (wpAny_rule (wpAny_pure ?_))
        exact ⟨false, rfl, σ', H', inv_wok g4.inv z, q1 rfl⟩
      | true =>
        simp only [if_true, Bool.false_eq_true, if_false]
        exact wpAny_pure ⟨plainId_quiet PySem.F.plain_all_loop _, ih (s₁.setGen g gs') gs' (set_at hsz) ⟨i', σ', H', g4.wok T z⟩ fun s' z' => q2 (by simp) s' (z.trans z')⟩
    · exact absurd hp.1 (Nat.succ_ne_zero n)
theorem any_loopG {pr : Program} {wd : World} {A0 : Around} {a : Addr} {go : Obj} {g : Nat} {nm qn : Value} {tg : Expr} {it : Addr} {J : It} {tn : Nat → Heap → Prop} {te : TE} {Q : VK}
    (hp : X.prog = pr) (hw : X.w = wd) (hh : A0.handled = none) (hd : A0.depth < recursionLimit) (hc1 : go.cls = .type "generator") (hc2 : go.data = .fields #[.int g 0, nm, qn]) (hc3 : go.slots = #[]) (T : Turn pr wd X.K tg J fp it tn) :
    ∀ (n : Nat) (s : Shared) (gs : GenState), s.gens[g]? = some gs → (∃ i σ H, GSt X [(a, go)] fp tn i σ H s) → (∀ s', Wok s s' → gs.Goes (model pr wd) A0.in1.in1 (fun n s₀ r s₁ => r = .ok .next ∧ GR X [(a, go)] true Q n s₀ s₁) (GY X [(a, go)] fp tn te J ws true Q) n (.send .none) s') →
      codeAny (model pr wd) A0 (.builtin "any.loop" ⟨[.ref a], []⟩) (fun r s' => ∃ b, r = .ok (.ret (.bool b)) ∧ ∃ σ H, Inv X [(a, go)] σ H s' ∧ Q (.bl b) H) s := by
  subst hp hw
  intro n
  induction n with
  | zero =>
    intro s gs hgs hI hgo
    obtain ⟨i, σ, H, gst⟩ := hI
    have hlt : g < s.gens.size := (Array.getElem?_eq_some_iff.mp hgs).1
    have hgen : s.heap.IsGen a g := ⟨go, nm, qn, (gst.inv.pin (a, go) (List.mem_append_right _ List.mem_cons_self)).1, hc1, hc2, hc3⟩
    refine codeAny_builtin PySem.F.entry_any_loop ?_
    rw [Around.under_plainId PySem.F.plain_any_loop _]
    show wpAny _ A0.in1 (pyNext (.ref a) >>= _) _ _ s
    refine wpAny_bind (GenW.wpAny_gsz (n := g + 1) hlt (wpAny_pyNext_genexpQ (A := A0.in1) (P := GR X [(a, go)] true Q) (Y := GY X [(a, go)] fp tn te J ws true Q) (n := 0) hh gst.inv.nolimit hd hgen hgs (hgo _ (wok_set gst.inv.bare rfl)) (fun v s₁ gs' hb hv hsz => ?_) (fun s₁ hp h' hk hsz => ?_)))
    · obtain ⟨b, i', σ', H', rfl, g4, q1, q2⟩ := hv
      have z := wok_set (g := g) (gs := gs') g4.inv.bare hb
      refine wpAny_bind (wpAny_holding (wpAny_truthy_bool ?_))
      refine wpAny_bind (wpAny_letGo ?_)
      cases b with
      | false => exact (q2 (by simp) s₁ ⟨rfl, g4.inv.bare, fun _ _ e => e⟩).elim
      | true =>
        simp only [if_true, Bool.false_eq_true, if_false]
        refine wpAny_bind (wpAny_rule (wpAny_pure ?_))
        exact ⟨true, rfl, σ', H', inv_wok g4.inv z, q1 rfl⟩
    · obtain ⟨_, σ', H', I', q⟩ := hp
      refine wpAny_bind (wpAny_rule (wpAny_pure ?_))
      exact ⟨false, rfl, σ', H', inv_wok I' (wok_fin I'.bare hk), q⟩
  | succ n ih =>
    intro s gs hgs hI hgo
    obtain ⟨i, σ, H, gst⟩ := hI
    have hlt : g < s.gens.size := (Array.getElem?_eq_some_iff.mp hgs).1
    have hgen : s.heap.IsGen a g := ⟨go, nm, qn, (gst.inv.pin (a, go) (List.mem_append_right _ List.mem_cons_self)).1, hc1, hc2, hc3⟩
    refine codeAny_builtin PySem.F.entry_any_loop ?_
    rw [Around.under_plainId PySem.F.plain_any_loop _]
    show wpAny _ A0.in1 (pyNext (.ref a) >>= _) _ _ s
    refine wpAny_bind (GenW.wpAny_gsz (n := g + 1) hlt (wpAny_pyNext_genexpQ (A := A0.in1) (P := GR X [(a, go)] true Q) (Y := GY X [(a, go)] fp tn te J ws true Q) (n := n + 1) hh gst.inv.nolimit hd hgen hgs (hgo _ (wok_set gst.inv.bare rfl)) (fun v s₁ gs' hb hv hsz => ?_) (fun s₁ hp h' hk hsz => ?_)))
    · obtain ⟨b, i', σ', H', rfl, g4, q1, q2⟩ := hv
      have z := wok_set (g := g) (gs := gs') g4.inv.bare hb
      refine wpAny_bind (wpAny_holding (wpAny_truthy_bool ?_))
      refine wpAny_bind (wpAny_letGo ?_)
      cases b with
      | false =>
        simp only [if_true, Bool.false_eq_true, if_false]
        exact wpAny_pure ⟨plainId_quiet PySem.F.plain_any_loop _, ih (s₁.setGen g gs') gs' (set_at hsz) ⟨i', σ', H', g4.wok T z⟩ fun s' z' => q2 (by simp) s' (z.trans z')⟩
      | true =>
        simp only [if_true, Bool.false_eq_true, if_false]
        refine wpAny_bind (wpAny_rule (wpAny_pure ?_))
        exact ⟨true, rfl, σ', H', inv_wok g4.inv z, q1 rfl⟩
    · exact absurd hp.1 (Nat.succ_ne_zero n)
end
section
variable {X : Cx} {scope : Scope} {x : Str} {fr : List Str} {js : List Nat} {c P : Addr} {elt iter : Expr} {px p pos gpos : Pos} {k : Nat} {wi : TI}
/-- the reading: wi, the walked thing; then the table may have grown; then turn by turn -/
def tAG (X : Cx) (scope : Scope) (x : Str) (fr : List Str) (js : List Nat) (k : Nat) (P : Addr) (elt : Expr) (wi : TI) (stp : Bool) : TE := fun σ H Q => wi σ H fun J H1 => TabG H1 P ∧ ∀ H2, Tabbed P H1 H2 →
  ∀ (s : Shared) (code : Value) (fp : List Addr) (A : Around), Room k A → ∃ te n, PE (gcx X scope (x :: fr) s H2 code fp A) elt te ∧ tG te J (js.map (slotAt σ)) stp Q n 0 H2
/-- the generator is made: what is known then -/
def Made (X : Cx) (pins : List (Addr × Obj)) (σ : L2.St) (scope : Scope) (x : Str) (px : Pos) (iter elt : Expr) (gpos : Pos) (fr : List Str) (js : List Nat) (k : Nat) (stp : Bool) (Q : VK) (ga : Value) (s' : Shared) : Prop :=
  ∃ (s : Shared) (H : Hp) (code : Value) (it : Addr) (fp : List Addr) (J : It) (tn : Nat → Heap → Prop) (a : Addr) (go : Obj) (g : Nat) (nm qn : Value),
    ga = .ref a ∧ Inv X pins σ H s ∧ (∀ b ∈ fp, FpOk X pins H b) ∧ Turn X.prog X.w X.K (.Name x px) J fp it tn ∧
    (∀ A, Room k A → A.frames = some (genv X scope s.heap.objs.size code :: X.stack) → A = (X.A.in1.in1).over (.compLoop (.GeneratorExp elt [⟨.Name x px, iter, [], 0⟩] scope gpos) 0 (.ref it) .none (genv X scope s.heap.objs.size code)) [] → ∃ te n, PE (gcx X scope (x :: fr) s H code fp A) elt te ∧ tG te J (js.map (slotAt σ)) stp Q n 0 H ∧
      GSt (gcx X scope (x :: fr) s H code fp A) [(a, go)] fp tn 0 (none :: js.map (slotAt σ)) H s') ∧
    go.cls = .type "generator" ∧ go.data = .fields #[.int g 0, nm, qn] ∧ go.slots = #[] ∧ s'.gens[g]? = some (.fresh (.compStart (.GeneratorExp elt [⟨.Name x px, iter, [], 0⟩] scope gpos) 0 (.ref it) .none (genv X scope s.heap.objs.size code)))
theorem gen_made {pins : List (Addr × Obj)} {σ : L2.St} {H : Hp} {s : Shared} {Q : VK} {stp : Bool} (hr : Room (k + 1) X.A) (TB : LamX.TabB X.base X.mg c P) (hcode : X.env.code = .ref c) (S : GSc X.env.scope scope x fr) (hi : PI X (.Name x px) iter wi) (cp : X.Ok → Caps X (cloFrom X.env.cells scope.names []) fr js)
    (hs : ∀ v, genFold iter X.env v = pure v) (I : Inv X pins σ H s) (h : tAG X scope x fr js k P elt wi stp σ H Q) :
    wpAny (model X.prog X.w) X.A (eval (.GeneratorExp elt [⟨.Name x px, iter, [], 0⟩] scope gpos) X.env) (Made X pins σ scope x px iter elt gpos fr js k stp Q) X.xe s := by
  refine wpAny_GeneratorExp_make S.co (closure_ok fun y hy e => I.ok.has y.1 (S.out y hy e)) S.cell S.dot S.kind (by have := hr.dp; omega) ?_ hs
  refine wpAny_mono (hi.run pins s σ H _ I h) (fun xv s1 h1 => wpAny_mono h1 (fun itv s2 h2 => ?_) fun _ _ e => e) fun _ _ e => e
  obtain ⟨it, fp, tn, J, H1, rfl, I1, T, t0, ff, ⟨ps, hP, ht⟩, q1⟩ := h2
  have hPs : s2.heap.get? P = some { cls := .none, data := .fields ps } := I1.hok P _ hP
  have hPlt : P < s2.heap.objs.size := Heap.lt_size hPs
  have cd : PySem.W.CodeHd s2.heap c P := TB.code.keeps fun b u e => I1.bk b u e
  refine ⟨I1.nolimit, ?_⟩
  have cont : ∀ (code : Value) (h3 : Heap) (tk : Nat) (ps' : Array Value), Heap.ExtBut P s2.heap h3 → s2.heap.objs.size ≤ h3.objs.size → h3.get? P = some { cls := .none, data := .fields ps' } → (∃ more, ps' = ps ++ more) → TriplesOk ps'.toList →
      wpAny (model X.prog X.w) X.A (builtinsFor X.env.globals X.env.builtins) (fun bi s₄ => ∀ h', h'.Ns s₄.heap.objs.size (fun y => if y = ".0" then some (.ref it) else none) → Heap.SameBut s₄.heap.objs.size (s₄.heap.push { cls := .type "frame", data := .dict #[] }) h' →
          Made X pins σ scope x px iter elt gpos fr js k stp Q (.ref h'.objs.size) { s₄ with
            gens := s₄.gens.push (.fresh (.compStart (.GeneratorExp elt [⟨.Name x px, iter, [], 0⟩] scope gpos) 0 (.ref it) .none (genEnv scope (cloFrom X.env.cells scope.names []) s₄.heap.objs.size code bi X.env))),
            toks := s₄.toks + 1 + 1 + 1,
            heap := h'.push { cls := .type "generator", data := .fields #[.int s₄.gens.size 0, .str "<genexpr>" (s₄.toks + 1), .str (X.env.qual ++ "<genexpr>") (s₄.toks + 1 + 1)] } }) X.xe { s2 with heap := h3, toks := tk } := by
    intro code h3 tk ps' hx hsz hP3 hmore ht3
    obtain ⟨more, em⟩ := hmore
    have I3 : Inv X pins σ (upd H1 P (.tbl (ps ++ more))) { s2 with heap := h3, gens := s2.gens, drawn := s2.drawn, toks := tk } := inv_tab I1 hP (fun b o hb e => hx b o hb e) (by rw [← em]; exact hP3) I1.bare
    have I3 : Inv X pins σ (upd H1 P (.tbl (ps ++ more))) { s2 with heap := h3, toks := tk } := I3
    obtain ⟨bm, ob, e1, e2, e3, e4, e5, e6, e7, e8⟩ := TB.bm
    have keep3 : ∀ b u, b ≠ P → s2.heap.get? b = some u → h3.get? b = some u := fun b u hb e => hx b u hb e
    refine wpAny_builtinsFor (m := X.mg) (by rw [I1.ok.glob]; exact (I1.mod.glob.keeps I1.bk).extBut hx TB.gP) e1 e2 (keep3 _ _ e4 (I1.bk _ _ e5)) e6 e7 e8 ?_
    intro h' hns' hs'
    have I4 := I3
    have nP : ∀ b ∈ fp, b ≠ P := fun b hb z => by
      have := (ff b hb).1
      rw [z, hP] at this
      cases this
    have ff4 : ∀ b ∈ fp, FpOk X pins (upd H1 P (.tbl (ps ++ more))) b := fun b hb => ⟨(upd_ne (nP b hb)).trans (ff b hb).1, (ff b hb).2⟩
    have ob3 : ∀ b ∈ fp, ∃ o, h3.get? b = some o ∧ ∀ v, o.data ≠ .cell v := fun b hb => by
      obtain ⟨o, e, hn⟩ := T.obj 0 s2.heap t0 b hb
      exact ⟨o, keep3 b o (nP b hb) e, hn⟩
    have hszh : h'.objs.size = h3.objs.size + 1 := by rw [hs'.1, Heap.size_push]
    have keep5 : ∀ (go : Obj) b o, h3.get? b = some o → (h'.push go).get? b = some o := fun go b o e => Heap.get?_push_of_some _ (hs'.extBut b o (Nat.ne_of_lt (Heap.lt_size e)) (Heap.get?_push_of_some _ e))
    refine ⟨{ s2 with heap := h3, toks := tk }, _, code, it, fp, J, tn, h'.objs.size, { cls := .type "generator", data := .fields #[.int s2.gens.size 0, .str "<genexpr>" (tk + 1), .str (X.env.qual ++ "<genexpr>") (tk + 1 + 1)] }, s2.gens.size, _, _, rfl, I4, ff4, T, fun A hRA hfr hA => ?_, rfl, rfl, rfl, Array.getElem?_push_size⟩
    obtain ⟨te, n, hpe, htg⟩ := q1 _ ⟨⟨ps ++ more, upd_same, by rw [← em]; exact ht3⟩, fun b hb => upd_ne hb⟩ { s2 with heap := h3, toks := tk } code fp A hRA
    have C := cells_of I4 (cp I.ok)
    have J0 := inv_startG (s := { s2 with heap := h3, toks := tk }) (fp := fp) (A := A) (code := code) (a := h'.objs.size) (go := { cls := .type "generator", data := .fields #[.int s2.gens.size 0, .str "<genexpr>" (tk + 1), .str (X.env.qual ++ "<genexpr>") (tk + 1 + 1)] }) (g' := s2.gens.push (.fresh (.compStart (.GeneratorExp elt [⟨.Name x px, iter, [], 0⟩] scope gpos) 0 (.ref it) .none (genEnv scope (cloFrom X.env.cells scope.names []) h3.objs.size code builtinsNs X.env)))) (tk := tk + 1 + 1 + 1) I4 S C ff4 ob3 hRA.hd hfr (hns'.push _) (keep5 _) (I1.bare.push rfl) (Heap.get?_push_size _ rfl) (by show h3.objs.size < h'.objs.size; omega) (fun v q => by cases q)
    refine ⟨te, n, hpe, htg, J0, T.keep 0 _ _ t0 fun b hb o e => keep5 _ b o (keep3 b o (nP b hb) e), fun b hb => ?_⟩
    obtain ⟨o, eo, _⟩ := ob3 b hb
    have hbl := Heap.lt_size eo
    refine ⟨(ff4 b hb).1, Nat.ne_of_lt hbl, J0.ok.exfs b hb, .inl hb, fun y c e => (J0.ok.exf b hb).2 y c e, fun q hq => ?_⟩
    have hq : q ∈ ([] : List (Addr × Obj)) ++ [_] := hq
    rw [List.nil_append, List.mem_singleton] at hq
    subst hq
    show h'.objs.size ≠ b
    intro z
    rw [← z, hszh] at hbl
    exact Nat.lt_irrefl _ (Nat.lt_trans (Nat.lt_succ_self _) hbl)
  cases hf : codeAmong gpos ps.toList with
  | none =>
    refine wpAny_genexprCodeX hcode (cd.code hPs ht) (cd.tab hPs) hf fun c' h' tk hx hge hlt hco' _ htab' _ => ?_
    obtain ⟨o1, vs, f1, tf, fl, tg, inF, tx, tt, op, _, _, _, _, _, _, _, _, _, htr, _⟩ := hco'
    exact cont _ h' tk _ hx (Nat.le_trans hge (Nat.le_of_lt hlt)) htab'.2 ⟨_, rfl⟩ htr
  | some cv =>
    refine wpAny_genexprCode_hit hcode (cd.code hPs ht) hf ?_
    exact cont cv s2.heap s2.toks ps (Heap.ExtBut.refl _ _) (Nat.le_refl _) hPs ⟨#[], by simp⟩ ht
theorem room_over {A : Around} {elt : Expr} {it : Addr} {cenv : Env} (hr : Room (k + 1) A) : Room k ((A.in1.in1).over (.compLoop (.GeneratorExp elt [⟨.Name x px, iter, [], 0⟩] scope gpos) 0 (.ref it) .none cenv) []) := by
  have h1 := hr.dp
  have h2 := hr.un
  refine ⟨hr.hd, ?_, ?_⟩
  · show A.depth + 0 + 1 + 3 * k + 5 < recursionLimit
    omega
  · show A.units + 1 + 1 + 0 + 3 + 16 * k + 200 < cLine
    omega
theorem frames_over {A : Around} {elt : Expr} {it : Addr} {cenv : Env} {l : List Env} (hf : A.frames = some l) (he : cenv.frame = some cenv.locals) : ((A.in1.in1).over (.compLoop (.GeneratorExp elt [⟨.Name x px, iter, [], 0⟩] scope gpos) 0 (.ref it) .none cenv) []).frames = some (cenv :: l) := by
  show pushEnvs [cenv] (pushEnvs [] A.frames) = some (cenv :: l)
  rw [hf]
  rfl
theorem pe_allG (hr : Room (k + 1) X.A) (hg : Gl X "all") (hm : X.mg "all" = none) (hb : bootBuiltins "all" = some (.builtin "all")) (TB : LamX.TabB X.base X.mg c P) (hcode : X.env.code = .ref c) (S : GSc X.env.scope scope x fr) (hi : PI X (.Name x px) iter wi)
    (cp : X.Ok → Caps X (cloFrom X.env.cells scope.names []) fr js) (hs : ∀ v, genFold iter X.env v = pure v)
    (he : starEach [.GeneratorExp elt [⟨.Name x px, iter, [], 0⟩] scope gpos] X.env = (false, eval (.GeneratorExp elt [⟨.Name x px, iter, [], 0⟩] scope gpos) X.env) :: starEach [] X.env := by rfl) :
    PE X (.Call (.Name "all" p) [.GeneratorExp elt [⟨.Name x px, iter, [], 0⟩] scope gpos] [] pos) (tAG X scope x fr js k P elt wi false) := by
  refine ⟨fun pins s σ H Q I h => ?_⟩
  refine wpAny_Call_Name_kw (ld_blt I hg hm hb ?_)
  refine PyProof.Rows.callWith_builtin1 ?_ he (by rfl)
  rw [he]
  show wpAny _ _ (spliced ((false, eval (.GeneratorExp elt [⟨.Name x px, iter, [], 0⟩] scope gpos) X.env) :: backTo pos (starEach [] X.env))) _ _ s
  refine Calls.spliced_cons (wpAny_mono (gen_made hr TB hcode S hi cp hs I h) (fun ga s' hM => ?_) fun _ _ e => e)
  obtain ⟨s4, H4, code, it, fp, J, tn, a, go, g, nm, qn, rfl, I4, ff, T, hA, c1, c2, c3, hgs⟩ := hM
  obtain ⟨te, n, hpe, htg, gst⟩ := hA _ (room_over hr) (frames_over I4.ok.frames rfl) rfl
  refine Calls.spliced_nil ?_
  have hgen : s'.heap.IsGen a g := ⟨go, nm, qn, (gst.inv.pin (a, go) (List.mem_append_right _ List.mem_cons_self)).1, c1, c2, c3⟩
  refine call_function_tree PySem.F.kind_all PySem.F.plain_all PySem.F.entry_all (PySem.F.args_all1 _) ?_
  unfold Builtin.«all»
  refine wpAny_bind (m := oneArg "all" _) (wpAny_pure ?_)
  refine wpAny_bind (wpAny_pyIter_gen hgen ?_)
  refine wpAny_pure ⟨plainId_quiet PySem.F.plain_all_loop _, codeAny_mono (all_loopG (X := gcx X scope (x :: fr) s4 H4 code fp _) (te := te) (J := J) (Q := Q) (ws := js.map (slotAt σ)) rfl rfl hr.hd (by have := hr.dp; show X.A.depth < _; omega) c1 c2 c3 T n s' _ hgs ⟨0, _, H4, gst⟩ fun s'' z => ⟨rfl, ?_⟩) fun r s'' hr2 => ?_⟩
  · exact seg_GS (X := gcx X scope (x :: fr) s4 H4 code fp _) (fr := fr) (iter := iter) (px := px) (gpos := gpos) rfl rfl rfl rfl S.nd rfl rfl S.loc S.co rfl T hpe n s'' s'' none H4 (gst.wok T z) htg
  · obtain ⟨b, rfl, σ', H', J', q⟩ := hr2
    exact ⟨.bl b, H', I4.call' (ch := fp) J'.os J'.base J'.hok J'.bare fun b hb => ⟨(ff b hb).2.2.2.1, (ff b hb).2.1, (ff b hb).2.2.2.2.1, (ff b hb).2.2.2.2.2⟩, rfl, q⟩
theorem pe_anyG (hr : Room (k + 1) X.A) (hg : Gl X "any") (hm : X.mg "any" = none) (hb : bootBuiltins "any" = some (.builtin "any")) (TB : LamX.TabB X.base X.mg c P) (hcode : X.env.code = .ref c) (S : GSc X.env.scope scope x fr) (hi : PI X (.Name x px) iter wi)
    (cp : X.Ok → Caps X (cloFrom X.env.cells scope.names []) fr js) (hs : ∀ v, genFold iter X.env v = pure v)
    (he : starEach [.GeneratorExp elt [⟨.Name x px, iter, [], 0⟩] scope gpos] X.env = (false, eval (.GeneratorExp elt [⟨.Name x px, iter, [], 0⟩] scope gpos) X.env) :: starEach [] X.env := by rfl) :
    PE X (.Call (.Name "any" p) [.GeneratorExp elt [⟨.Name x px, iter, [], 0⟩] scope gpos] [] pos) (tAG X scope x fr js k P elt wi true) := by
  refine ⟨fun pins s σ H Q I h => ?_⟩
  refine wpAny_Call_Name_kw (ld_blt I hg hm hb ?_)
  refine PyProof.Rows.callWith_builtin1 ?_ he (by rfl)
  rw [he]
  show wpAny _ _ (spliced ((false, eval (.GeneratorExp elt [⟨.Name x px, iter, [], 0⟩] scope gpos) X.env) :: backTo pos (starEach [] X.env))) _ _ s
  refine Calls.spliced_cons (wpAny_mono (gen_made hr TB hcode S hi cp hs I h) (fun ga s' hM => ?_) fun _ _ e => e)
  obtain ⟨s4, H4, code, it, fp, J, tn, a, go, g, nm, qn, rfl, I4, ff, T, hA, c1, c2, c3, hgs⟩ := hM
  obtain ⟨te, n, hpe, htg, gst⟩ := hA _ (room_over hr) (frames_over I4.ok.frames rfl) rfl
  refine Calls.spliced_nil ?_
  have hgen : s'.heap.IsGen a g := ⟨go, nm, qn, (gst.inv.pin (a, go) (List.mem_append_right _ List.mem_cons_self)).1, c1, c2, c3⟩
  refine call_function_tree PySem.F.kind_any PySem.F.plain_any PySem.F.entry_any (PySem.F.args_any1 _) ?_
  unfold Builtin.«any»
  refine wpAny_bind (m := oneArg "any" _) (wpAny_pure ?_)
  refine wpAny_bind (wpAny_pyIter_gen hgen ?_)
  refine wpAny_pure ⟨plainId_quiet PySem.F.plain_any_loop _, codeAny_mono (any_loopG (X := gcx X scope (x :: fr) s4 H4 code fp _) (te := te) (J := J) (Q := Q) (ws := js.map (slotAt σ)) rfl rfl hr.hd (by have := hr.dp; show X.A.depth < _; omega) c1 c2 c3 T n s' _ hgs ⟨0, _, H4, gst⟩ fun s'' z => ⟨rfl, ?_⟩) fun r s'' hr2 => ?_⟩
  · exact seg_GS (X := gcx X scope (x :: fr) s4 H4 code fp _) (fr := fr) (iter := iter) (px := px) (gpos := gpos) rfl rfl rfl rfl S.nd rfl rfl S.loc S.co rfl T hpe n s'' s'' none H4 (gst.wok T z) htg
  · obtain ⟨b, rfl, σ', H', J', q⟩ := hr2
    exact ⟨.bl b, H', I4.call' (ch := fp) J'.os J'.base J'.hok J'.bare fun b hb => ⟨(ff b hb).2.2.2.1, (ff b hb).2.1, (ff b hb).2.2.2.2.1, (ff b hb).2.2.2.2.2⟩, rfl, q⟩
end
end GxD

set_option linter.all false
set_option Elab.async false
set_option maxRecDepth 100000
set_option maxHeartbeats 1000000
/-! DLRules30: all and any of a generator expression, over data. -/
namespace DL
open PySem L2
variable [Tabs]
/-- turn by turn; stp: the truth that ends it -/
def allL (me : ME D) (ρc : Rho) (stp : Bool) : List D → Sto → RE D
  | [], O => .ok (.bl (!stp)) O
  | d :: ds, O => match me (some (.shr d) :: ρc) O with
    | .ok (.bl b) O' => if b = stp then .ok (.bl stp) O' else allL me ρc stp ds O'
    | _ => .bad
/-- the captured slots -/
def capS : Option (Option SD) → Option SD
  | some (some (.shr d)) => some (.shr d)
  | _ => none
def capR (js : List Nat) (ρ : Rho) : Rho := js.map fun j => capS ρ[j]?
def allGM (mi : ME (List D)) (me : ME D) (js : List Nat) (stp : Bool) : ME D := bindE mi fun ds => fun ρ O => allL me (capR js ρ) stp ds O
section
variable {K : PySem.W.Frag} {mg : Mg} {e : Ent} {ι : List Addr} {B H H2 : Hp} {ρ : Rho} {O : Sto} {σ : St} {P : Addr}
/-- a table has grown -/
theorem Rel.tabbed (r : Rel K mg e ι B H ρ O σ) (hm : P ∈ Tabs.ts) (T : GxR.Tabbed P H H2) : Rel K mg e ι B H2 ρ O σ := by
  have hB := (r.tb P hm).1
  have nH : ∀ b o, H b = some o → b ∉ Tabs.ts → H2 b = some o := fun b o q hn => by
    rw [T.2 b fun z => hn (by rw [z]; exact hm)]
    exact q
  have nC : ∀ {a : Addr} {c : Cell}, CA K mg ι B H a c → CA K mg ι B H2 a c := fun {a c} h => h.mono (Same.refl _) (Pre.refl _) (T.2 a fun z => CA.nt r h (by rw [z]; exact hm))
  refine ⟨fun b o q => ?_, r.eB, r.ei, r.fB, fun a o h m mt => nH a o (r.fH a o h m mt) mt, r.fi, r.len, fun i x h => ?_, r.sep, r.lo, fun n c a h1 h2 => ⟨nC (r.ob n c a h1 h2).1, (r.ob n c a h1 h2).2⟩, r.nd, fun P' m => ?_⟩
  · have hb : b ∉ Tabs.ts := fun m => by
      rw [(r.tb b m).1] at q
      cases q
    exact nH b o (r.sub _ _ q) hb
  · obtain ⟨v, h1, h2⟩ := r.sl i x h
    refine ⟨v, h1, ?_⟩
    cases x with
    | shr d => exact h2
    | hot c p => exact h2
    | own c =>
      obtain ⟨a, e1, e2, e3, e4, e5⟩ := h2
      exact ⟨a, e1, nC e2, e3, e4, e5⟩
  · refine ⟨(r.tb P' m).1, ?_⟩
    by_cases h : P' = P
    · rw [h]; exact T.1
    · obtain ⟨ps, q, k⟩ := (r.tb P' m).2
      exact ⟨ps, (T.2 P' h).trans q, k⟩
/-- slots of data, over none -/
theorem Rel.slots (r : Rel K mg e ι B H [] O []) (hl : σ.length = ρ.length) (h : ∀ (i : Nat) (x : SD), ρ[i]? = some (some x) → ∃ d v, x = .shr d ∧ σ[i]? = some (some v) ∧ DA K ι B v d) : Rel K mg e ι B H ρ O σ := by
  refine ⟨r.sub, r.eB, r.ei, r.fB, r.fH, r.fi, hl, fun i x q => ?_, fun i j a c c' q => ?_, r.lo, r.ob, r.nd, r.tb⟩
  · obtain ⟨d, v, rfl, h1, h2⟩ := h i x q
    exact ⟨v, h1, h2⟩
  · obtain ⟨d, v, z, _⟩ := h i _ q
    cases z
end
section
variable {X : Cx} {Wx : WX} {scope : Scope} {x : Str} {fr : List Str} {js : List Nat} {c P : Addr} {elt iter : Expr} {px p pos gpos : Pos} {k : Nat} {mi : ME (List D)} {me : ME D}
/-- the element does what me says -/
def ElG (X : Cx) (scope : Scope) (x : Str) (fr : List Str) (k : Nat) (elt : Expr) (me : ME D) : Prop :=
  ∀ (s : Shared) (H : Hp) (code : Value) (fp : List Addr) (A : Around), Room k A → EX (GxD.gcx X scope (x :: fr) s H code fp A) (fun _ _ _ _ => False) elt me
theorem evG {wi : TI} (stp : Bool) (hc : X.calm = true) (hm : P ∈ Tabs.ts) (ei : EvI X Wx wi mi) (hel : ElG X scope x fr k elt me) (hjs : js.length = fr.length) : Ev X Wx (rD X) (GxD.tAG X scope x fr js k P elt wi stp) (allGM mi me js stp) := by
  intro e ι B H ρ O σ Q r q
  have hen : ∀ e : Ent, en X e = { e with hot := none } := fun e => by
    unfold en
    rw [hc]
    rfl
  refine ei e ι B H ρ O σ _ r ?_
  simp only [allGM, bindE] at q
  cases z : mi ρ O with
  | bad => rw [z] at q; exact q
  | err c p O' => rw [z] at q; exact q
  | ok ds O' =>
    rw [z] at q
    dsimp only at q
    intro ι1 B1 H1 J r1 i1 b1 hw
    refine ⟨(r1.tb P hm).2, fun H2 hT s code fp A hR => ?_⟩
    have r2 := r1.tabbed hm hT
    obtain ⟨te, pte, ete⟩ := hel s H2 code fp A hR
    refine ⟨te, ds.length, pte, ?_⟩
    have r0 : Rel X.K X.mg ⟨ι1, B1, H2, none⟩ ι1 B1 H2 (none :: capR js ρ) O' (none :: js.map (NdefX.slotAt σ)) := by
      refine (r2.enter (hot := none)).slots (by unfold capR; simp) fun i x h => ?_
      cases i with
      | zero => cases h
      | succ i =>
        have h : (capR js ρ)[i]? = some (some x) := h
        unfold capR at h
        rw [List.getElem?_map] at h
        cases hj : js[i]? with
        | none => rw [hj] at h; cases h
        | some j =>
          rw [hj] at h
          have h : capS ρ[j]? = some x := Option.some.inj h
          unfold capS at h
          split at h
          · rename_i d hd
            cases h
            obtain ⟨v, h1, h2⟩ := r2.sl j _ hd
            refine ⟨d, v, rfl, ?_, h2⟩
            show (js.map (NdefX.slotAt σ))[i]? = _
            rw [List.getElem?_map, hj]
            exact congrArg some (NdefX.slotAt_of h1)
          · cases h
    have claim : ∀ (rest : List D) (i : Nat) (O : Sto) (o0 : Option SD) (ov : Option V) (ι2 : List Addr) (B2 H3 : Hp), ds.drop i = rest → Rel X.K X.mg ⟨ι1, B1, H2, none⟩ ι2 B2 H3 (o0 :: capR js ρ) O (ov :: js.map (NdefX.slotAt σ)) → Pre ι1 ι2 → Same B1 B2 →
        EvP X Wx (rD X) e ι B ρ σ Q (allL me (capR js ρ) stp rest O) → GxD.tG te J (js.map (NdefX.slotAt σ)) stp Q rest.length i H3 := by
      intro rest
      induction rest with
      | nil =>
        intro i O o0 ov ι2 B2 H3 hd r i2 b2 q
        have r' : Rel X.K X.mg (en X ⟨ι1, B1, H2, none⟩) ι2 B2 H3 (o0 :: capR js ρ) O (ov :: js.map (NdefX.slotAt σ)) := by rw [hen]; exact r
        exact ⟨(hw _ ι2 B2 H3 _ O _ i r' i2 b2).2 (List.drop_eq_nil_iff.mp hd), q ι2 B2 H3 _ (r2.after r.bare) (i1.trans i2) (b1.trans b2) (.bl _)⟩
      | cons d rest ih =>
        intro i O o0 ov ι2 B2 H3 hd r i2 b2 q
        have r' : Rel X.K X.mg (en X ⟨ι1, B1, H2, none⟩) ι2 B2 H3 (o0 :: capR js ρ) O (ov :: js.map (NdefX.slotAt σ)) := by rw [hen]; exact r
        have hdi : ds[i]? = some d := by
          have := congrArg (fun l => l[0]?) hd
          rwa [List.getElem?_drop] at this
        have hdn : ds.drop (i + 1) = rest := by
          have := congrArg List.tail hd
          rwa [List.tail_drop] at this
        obtain ⟨hgo, step⟩ := (hw _ ι2 B2 H3 _ O _ i r' i2 b2).1 d hdi
        refine ⟨hgo, fun xv H' hy => ?_⟩
        obtain ⟨B3, r3, b3, s3, hx⟩ := step xv H' hy
        have r4 := r3.set' (i := 0) hx
        refine ete ⟨ι1, B1, H2, none⟩ ι2 B3 H' (some (.shr d) :: capR js ρ) O (some xv :: js.map (NdefX.slotAt σ)) _ (by rw [hen] at r4; exact r4) ?_
        unfold allL at q
        cases zz : me (some (.shr d) :: capR js ρ) O with
        | bad => rw [zz] at q; exact q.elim
        | err c p O2 => rw [zz] at q; exact q.elim
        | ok y O2 =>
          rw [zz] at q
          cases y with
          | bl b =>
            dsimp only at q
            intro ι5 B5 H5 v r5 i5 b5 hv
            cases hv
            refine ⟨b, rfl, fun hb => ?_, fun hb => ?_⟩
            · rw [if_pos hb] at q
              exact q ι5 B5 H5 _ (r2.after r5.bare) ((i1.trans i2).trans i5) (((b1.trans b2).trans b3).trans b5) (.bl _)
            · rw [if_neg hb] at q
              exact ih (i + 1) O2 _ _ ι5 B5 H5 hdn r5 (i2.trans i5) ((b2.trans b3).trans b5) q
          | _ => exact q.elim
    exact claim ds 0 O' none none ι1 B1 H2 rfl r0 (Pre.refl _) (Same.refl _) q
theorem ex_allG (hc : X.calm = true) (hr : Room (k + 1) X.A) (hm0 : X.mg "all" = none) (hm : P ∈ Tabs.ts) (TB : LamX.TabB X.base X.mg c P) (hcode : X.env.code = .ref c) (S : GxD.GSc X.env.scope scope x fr) (cp : X.Ok → NdefX.Caps X (cloFrom X.env.cells scope.names []) fr js) (hjs : js.length = fr.length) (hi : EI X Wx (.Name x px) iter mi) (hel : ElG X scope x fr k elt me)
    (hs : ∀ v, genFold iter X.env v = pure v := by intro v; rfl) (hg : Gl X "all" := by rfl)
    (he : starEach [.GeneratorExp elt [⟨.Name x px, iter, [], 0⟩] scope gpos] X.env = (false, eval (.GeneratorExp elt [⟨.Name x px, iter, [], 0⟩] scope gpos) X.env) :: starEach [] X.env := by rfl) :
    EX X Wx (.Call (.Name "all" p) [.GeneratorExp elt [⟨.Name x px, iter, [], 0⟩] scope gpos] [] pos) (allGM mi me js false) := by
  obtain ⟨wi, pi, ei⟩ := hi
  exact ⟨_, GxD.pe_allG hr hg hm0 rfl TB hcode S pi cp hs he, evG false hc hm ei hel hjs⟩
theorem ex_anyG (hc : X.calm = true) (hr : Room (k + 1) X.A) (hm0 : X.mg "any" = none) (hm : P ∈ Tabs.ts) (TB : LamX.TabB X.base X.mg c P) (hcode : X.env.code = .ref c) (S : GxD.GSc X.env.scope scope x fr) (cp : X.Ok → NdefX.Caps X (cloFrom X.env.cells scope.names []) fr js) (hjs : js.length = fr.length) (hi : EI X Wx (.Name x px) iter mi) (hel : ElG X scope x fr k elt me)
    (hs : ∀ v, genFold iter X.env v = pure v := by intro v; rfl) (hg : Gl X "any" := by rfl)
    (he : starEach [.GeneratorExp elt [⟨.Name x px, iter, [], 0⟩] scope gpos] X.env = (false, eval (.GeneratorExp elt [⟨.Name x px, iter, [], 0⟩] scope gpos) X.env) :: starEach [] X.env := by rfl) :
    EX X Wx (.Call (.Name "any" p) [.GeneratorExp elt [⟨.Name x px, iter, [], 0⟩] scope gpos] [] pos) (allGM mi me js true) := by
  obtain ⟨wi, pi, ei⟩ := hi
  exact ⟨_, GxD.pe_anyG hr hg hm0 rfl TB hcode S pi cp hs he, evG true hc hm ei hel hjs⟩
end
end DL

set_option linter.all false
set_option Elab.async false
set_option maxRecDepth 100000
set_option maxHeartbeats 1000000
/-! DLRules31: defs whose own code object is known (it holds the table of their generator expressions); the end with tables. -/
namespace GxD
open PySem PySem.Spec PyProof.Rows L2 GxR LamX NdefX
def gscB (osc scope : Scope) (x : Str) (fr : List Str) : Bool :=
  decide (scope.kind = .function) && !scope.isCoroutine && scope.names.all (fun y => !decide (y.2 = .cell)) && decide (scope.names.lookup (".0" : Str) = some NameKind.local) && decide (scope.names.lookup x = some .local) &&
    scope.names.all (fun y => !decide (y.2 = .free) || (decide (y.1 ∈ fr) && (decide (osc.names.lookup y.1 = some .cell) || decide (osc.names.lookup y.1 = some .free)))) && fr.all (fun y => decide ((y, NameKind.free) ∈ scope.names) && decide (scope.names.lookup y = some .free)) && decide ((x :: fr).Nodup)
theorem gsc_by {osc scope : Scope} {x : Str} {fr : List Str} (h : gscB osc scope x fr = true) : GSc osc scope x fr := by
  unfold gscB at h
  simp only [Bool.and_eq_true, Bool.not_eq_true', decide_eq_true_eq, List.all_eq_true, Bool.or_eq_true, decide_eq_false_iff_not] at h
  obtain ⟨⟨⟨⟨⟨⟨⟨h1, h2⟩, h3⟩, h4⟩, h5⟩, h6⟩, h7⟩, h8⟩ := h
  exact ⟨h1, h2, h3, h4, h5, fun y hy e => ((h6 y hy).elim (fun z => absurd e z) id).1, fun y hy e => ((h6 y hy).elim (fun z => absurd e z) id).2, fun y hy => (h7 y hy).1, fun y hy => (h7 y hy).2, h8⟩
theorem walk_tabs {l : PySem.W.OpenLaw} {n k : Nat} {q : Program} {loose : List Str} {XP : (Str → Option Value) → Heap → Prop} {YP : World → Heap → Prop} {d : DefRec} {K : Params → PySem.W.Frag} {CX : World → CXT} {x : Str}
    (hn : l.most = some n) (hn2 : n ≤ sizeLine) (hdf : d.params.defaults = []) (hr : Room k callerA) (hY : ∀ (w : World) (h : Heap), YP w h → (K w.params).In h)
    (F : ∀ (w : World) (mg : Str → Option Value) (fa : Addr) (h : Heap), YP w h → (K w.params).In h → h.Ns mainGlobals mg → mg d.name = some (.ref fa) →
      (∀ (y : Str) (d' : DefRec) (c P : Addr), (recsOf q).find? (fun e => e.name == y) = some d' → PySem.W.tabIn (K w.params) y = some (c, P) → PySem.W.CodeHd h c P ∧ h.get? P = some { cls := .none, data := .fields #[] }) → LawAtS l w (K w.params) (CX w) k n x mg fa h)
    (hCX : ∀ (w : World) (H : Hp) (s : Shared) (e : Value) (s' : Shared), CX w [] H s (fun _ _ _ => False) e s' → False) :
    PySem.W.WalkO q loose XP YP l.row.toRowW d [] (fun f vs => PySem.call f vs) := by
  refine Att.attach_callB hn hdf fun w s₀ s₁ mg mb fa o pm cd doc a vs ns G Y ho hd hcd hmg hobj hints hlen hbits hg => ?_
  have KX := hY w _ Y
  obtain ⟨fd, cs, sp, hT, nT, C, hb, hsp, hF⟩ := F w mg fa _ Y KX G.T.g hmg fun y d' c P h1 h2 => PySem.W.tab_of G.T KX h1 h2
  exact law_callTs KX G.T.g G.T.b G.T.builtins G.T.nolimit hg hT nT C G.T.bmain hobj hints (Nat.le_trans hlen hn2) hr hF hb (fun H hH hS => hsp H a ns hlen hbits hH hS) fun H e s' => hCX w H s₁ e s'
end GxD
namespace DL
open PySem L2
variable [Tabs]
/-- .. where its code object is known -/
def DfC (K : PySem.W.Frag) (mg : Mg) (x qual : Str) (st : Stmt) (ps : List Str) (c : Addr) : Prop := ∃ (a : Addr) (oc : Value) (od an : Option Addr) (kV doc pm ct : Value) (osl : Array (Option Value)), mg x = some (.ref a) ∧
  K.lookup a = some ⟨oc, od, .func (PySem.W.fnOf x qual (defArgs st) (defBody st) (defScope st) .none kV doc pm an (.ref c) ct), osl⟩ ∧ PySem.W.codeIn K (.ref c) qual = true ∧ PySem.W.keepIn K (.ref a) = true ∧
  ∀ (s : Shared) (us : List Value), us.length = ps.length → BindsTo s (PySem.W.fnOf x qual (defArgs st) (defBody st) (defScope st) .none kV doc pm an (.ref c) ct) ⟨us, []⟩ (ps.zip us)
def BodC (P : Program) (w : World) (K : PySem.W.Frag) (mg : Mg) (base : Heap) (qual : Str) (st : Stmt) (N : List Str) (k : Nat) (c : Addr) (m : MS) : Prop :=
  ∀ (f : Addr) (A : Around) (outer : List Env) (s : Shared) (H : Hp) (E : XK), Room k (A.deeper (PyProof.Rows.envOfC qual (defScope st) s.heap.objs.size f (.ref c))) →
      EB (cxOf (L2.CX P w) P w K mg base N qual (defScope st) f (.ref c) A outer s H E) (fun cls d _ H => E cls d H) (defBody st) m
theorem cal_ofC {P : Program} {w : World} {K : PySem.W.Frag} {mg : Mg} {base : Heap} {x qual : Str} {st : Stmt} {N ps : List Str} {k : Nat} {c : Addr} {m : MS} (D : DfC K mg x qual st ps c) (S : FnScope N ps (defScope st)) (b : BodC P w K mg base qual st N k c m) : Cal P w K mg base (k + 1) x ps.length (runF N.length m) := by
  obtain ⟨a, oc, od, an, kV, doc, pm, ct, osl, hm, lk, hcd, kp, hb⟩ := D
  refine ⟨a, _, ps, hm, kp, fun s us _ h => by rw [List.append_nil] at h ⊢; exact hb s us h, ?_⟩
  refine fn_of lk hcd S (fun vs H Q E h => ?_) fun A outer s H vs Q E hr h => ?_
  · obtain ⟨ds, ι, B, O, _, h1, h2, _⟩ := h
    rw [paired_len h1, h2]
  · obtain ⟨ds, ι, B, O, r, h1, h2, q⟩ := h
    obtain ⟨t, pt, et⟩ := b a A outer s H E hr
    refine ⟨t, pt, et ⟨ι, B, H, none⟩ ι B H _ O (L2.start N vs) _ (start_rel r h1) ?_⟩
    unfold runF at q
    cases z : m (ds.map (fun d => some (.shr d)) ++ List.replicate (N.length - ds.length) none) O with
    | nx ρ' O' =>
      rw [z] at q
      exact fun ι' B' H' σ' r' i' b' => q ι' B' H' .non r'.bare .non
    | bk ρ' O' => rw [z] at q; exact q.elim
    | ct ρ' O' => rw [z] at q; exact q.elim
    | ret x O' =>
      rw [z] at q
      exact fun ι' B' H' v r' i' b' hv => q ι' B' H' v r' hv
    | err c p ρ' O' =>
      rw [z] at q
      exact fun ι' B' H' σ' C dx r' i' b' h => q ι' B' H' C dx r'.bare h
    | bad => rw [z] at q; exact q.elim
theorem dfC_mk {K : PySem.W.Frag} {h : Heap} {mg : Mg} {x qual : Str} {st : Stmt} {ps : List Str} {f c P : Addr} (X : K.In h) (G : h.Ns mainGlobals mg)
    {od an dd : Option Addr} {sl sl' : Array (Option Value)} {oc kV dc pm ct e : Value} {vs : Array Value}
    (a : PySem.W.nsIn K mainGlobals x = some (some (.ref f))) (l : K.lookup f = some ⟨oc, od, .func (PySem.W.fnOf x qual (defArgs st) (defBody st) (defScope st) .none kV dc pm an (.ref c) ct), sl⟩) (cd : PySem.W.codeIn K (.ref c) qual = true) (k : PySem.W.keepIn K (.ref f) = true)
    (lc : K.lookup c = some ⟨e, dd, .fields vs, sl'⟩) (v : vs[11]? = some (.ref P)) (np : K.lookup P = none)
    (b : ∀ (kV doc pm : Value) (an : Option Addr) (cdv ct : Value) (us : List Value), us.length = ps.length → bindArgs (PySem.W.fnOf x qual (defArgs st) (defBody st) (defScope st) .none kV doc pm an cdv ct) ⟨us, []⟩ = pure (ps.zip us)) :
    ∃ c P : Addr, PySem.W.tabIn K x = some (c, P) ∧ K.lookup P = none ∧ DfC K mg x qual st ps c := by
  refine ⟨c, P, ?_, np, f, oc, od, an, kV, dc, pm, ct, sl, PySem.W.mg_of X G a, l, cd, k, fun s us h => .of_eq (b _ _ _ _ _ _ us h)⟩
  unfold PySem.W.tabIn
  rw [a]
  dsimp only
  rw [l]
  dsimp only [PySem.W.fnOf]
  rw [lc]
  dsimp only
  rw [v]
section
variable {X : Cx} {Wx : WX} {scope : Scope} {x : Str} {c P : Addr} {elt iter : Expr} {px p pos gpos : Pos} {k : Nat} {mi : ME (List D)} {me : ME D}
theorem ex_allC (fr : List Str) (js : List Nat) (hr : Room (k + 1) X.A) (hm0 : X.mg "all" = none) (hm : P ∈ Tabs.ts) (TB : LamX.TabB X.base X.mg c P) (hi : EI X Wx (.Name x px) iter mi) (hel : ElG X scope x fr k elt me)
    (hc : X.calm = true := by rfl) (hcode : X.env.code = .ref c := by rfl) (hS : GxD.gscB X.env.scope scope x fr = true := by decide +kernel) (hN : js.map (fun j => X.N[j]?) = fr.map some := by rfl)
    (hs : ∀ v, genFold iter X.env v = pure v := by intro v; rfl) (hg : Gl X "all" := by rfl)
    (he : starEach [.GeneratorExp elt [⟨.Name x px, iter, [], 0⟩] scope gpos] X.env = (false, eval (.GeneratorExp elt [⟨.Name x px, iter, [], 0⟩] scope gpos) X.env) :: starEach [] X.env := by rfl) :
    EX X Wx (.Call (.Name "all" p) [.GeneratorExp elt [⟨.Name x px, iter, [], 0⟩] scope gpos] [] pos) (allGM mi me js false) :=
  ex_allG hc hr hm0 hm TB hcode (GxD.gsc_by hS) (fun ok => NdefX.Caps.made ok (GxD.gsc_by hS).out (GxD.gsc_by hS).frk hN) (by have := congrArg List.length hN; simpa using this) hi hel hs hg he
theorem ex_anyC (fr : List Str) (js : List Nat) (hr : Room (k + 1) X.A) (hm0 : X.mg "any" = none) (hm : P ∈ Tabs.ts) (TB : LamX.TabB X.base X.mg c P) (hi : EI X Wx (.Name x px) iter mi) (hel : ElG X scope x fr k elt me)
    (hc : X.calm = true := by rfl) (hcode : X.env.code = .ref c := by rfl) (hS : GxD.gscB X.env.scope scope x fr = true := by decide +kernel) (hN : js.map (fun j => X.N[j]?) = fr.map some := by rfl)
    (hs : ∀ v, genFold iter X.env v = pure v := by intro v; rfl) (hg : Gl X "any" := by rfl)
    (he : starEach [.GeneratorExp elt [⟨.Name x px, iter, [], 0⟩] scope gpos] X.env = (false, eval (.GeneratorExp elt [⟨.Name x px, iter, [], 0⟩] scope gpos) X.env) :: starEach [] X.env := by rfl) :
    EX X Wx (.Call (.Name "any" p) [.GeneratorExp elt [⟨.Name x px, iter, [], 0⟩] scope gpos] [] pos) (allGM mi me js true) :=
  ex_anyG hc hr hm0 hm TB hcode (GxD.gsc_by hS) (fun ok => NdefX.Caps.made ok (GxD.gsc_by hS).out (GxD.gsc_by hS).frk hN) (by have := congrArg List.length hN; simpa using this) hi hel hs hg he
end
end DL
namespace DL
open PySem L2
theorem law_endT {l : PySem.W.OpenLaw} {q : Program} {loose : List Str} {XP : (Str → Option Value) → Heap → Prop} {YP : World → Heap → Prop} {d : DefRec} {K : Params → PySem.W.Frag} {qual : Str} {st : Stmt} {N : List Str} {x : Str} {k : Nat} {m : MS} (hn : l.most = some 63) (hdf : d.params.defaults = [])
    (S : FnScope N [x] (defScope st)) (hr : Room (k + 1) callerA)
    (hY : ∀ (w : World) (h : Heap), YP w h → (K w.params).In h)
    (hD : ∀ (w : World) (mg : Mg) (h : Heap), (K w.params).In h → h.Ns mainGlobals mg → Df (K w.params) mg d.name qual st [x])
    (hb : ∀ (w : World) (mg : Mg) (h : Heap), (K w.params).In h → h.Ns mainGlobals mg → ∃ cs : List (Addr × Addr), (∀ p ∈ cs, ∃ (y : Str) (d' : DefRec), (PyProof.Rows.recsOf q).find? (fun e => e.name == y) = some d' ∧ PySem.W.tabIn (K w.params) y = some p) ∧ (∀ p ∈ cs, (K w.params).lookup p.2 = none) ∧
      ∀ base : Heap, (∀ p ∈ cs, LamX.TabB base mg p.1 p.2) → @Bod ⟨cs.map (·.2)⟩ l.prog w (K w.params) mg base qual st N k m)
    (true_ : LawTrue (runF N.length m)) :
    PySem.W.WalkO q loose XP YP l.row.toRowW d [] (fun f vs => PySem.call f vs) := by
  refine GxD.walk_tabs (n := 63) (k := k + 1) (x := x) (CX := fun w => L2.CX l.prog w) hn (by decide) hdf hr hY (fun w mg fa h _ KX G hmg hT => ?_) fun w H s e s' z => ?_
  · obtain ⟨a, fd, hm, F, hbi⟩ := hD w mg h KX G
    rw [hmg] at hm
    cases hm
    obtain ⟨cs, h1, h2, h3⟩ := hb w mg h KX G
    letI : Tabs := ⟨cs.map (·.2)⟩
    refine ⟨fd, cs, spLaw (K w.params), fun p hp => ?_, h2, fun p hp => ?_, fun s u => hbi s [u] rfl, fun H a ns hl _ hH hS => ⟨a, ns, rfl, hS, hl, fun P m => ?_, fun _ => rfl⟩, fun base _ _ TB => (fn_ok F S (h3 base TB fa)).imp (spLaw_of true_)⟩
    · obtain ⟨y, d', e1, e2⟩ := h1 p hp
      exact (hT y d' p.1 p.2 e1 e2).2
    · obtain ⟨y, d', e1, e2⟩ := h1 p hp
      exact (hT y d' p.1 p.2 e1 e2).1
    · obtain ⟨p, hp, rfl⟩ := List.mem_map.mp m
      exact hH p hp
  · obtain ⟨_, _, _, _, _, _, _, _, _, _, _, _, z⟩ := z
    exact z.elim
/-- texts that know no tables -/
instance (priority := low) noTabs : Tabs := ⟨[]⟩
end DL

set_option linter.all false
set_option Elab.async false
set_option maxRecDepth 100000
/-! DLRules32: wishes for all and any of a generator expression. -/
namespace DL
open PySem L2
section
variable (ρ : Rho) (kd : D → Sto → Prop) (E : Str → D → Sto → Prop)
def wAE (r : RE D) : Prop := match r with
  | .ok d O => kd d O
  | .err c p O => E c p O
  | .bad => False
theorem wAE_ok (d : D) (O : Sto) : wAE kd E (.ok d O) = kd d O := q_ rfl
def cAllG (me : ME D) (js : List Nat) (stp : Bool) (ds : List D) (O1 : Sto) : Prop := wAE kd E (allL me (capR js ρ) stp ds O1)
theorem cAllG_ap (me : ME D) (js : List Nat) (stp : Bool) (ds : List D) (O1 : Sto) : cAllG ρ kd E me js stp ds O1 = wAE kd E (allL me (capR js ρ) stp ds O1) := q_ rfl
theorem wE_allG (O : Sto) (mi : ME (List D)) (me : ME D) (js : List Nat) (stp : Bool) : wE (allGM mi me js stp) ρ O kd E = wE mi ρ O (cAllG ρ kd E me js stp) E := wE_bindF ρ O kd E mi _ _ fun ds O1 => by
  rw [cAllG_ap]
  unfold wE wAE
  dsimp only
  cases allL me (capR js ρ) stp ds O1 <;> rfl
end
theorem capR_nil (ρ : Rho) : capR [] ρ = [] := rfl
/-- elements that change nothing -/
theorem all_map {τ : Type} {me : ME D} {ρc : Rho} {O : Sto} (enc : τ → D) (p : τ → Bool) : ∀ (xs : List τ), (∀ x ∈ xs, wE me (some (.shr (enc x)) :: ρc) O (fun d O' => d = .bl (p x) ∧ O' = O) (fun _ _ _ => False)) → allL me ρc false (xs.map enc) O = .ok (.bl (xs.all p)) O
  | [], _ => rfl
  | x :: xs, h => by
    have h1 := h x List.mem_cons_self
    have h2 := all_map enc p xs fun y hy => h y (List.mem_cons_of_mem _ hy)
    rw [List.map_cons]
    unfold allL
    unfold wE at h1
    cases z : me (some (.shr (enc x)) :: ρc) O with
    | ok d O' =>
      rw [z] at h1
      obtain ⟨rfl, rfl⟩ := h1
      dsimp only
      rw [List.all_cons]
      cases hp : p x with
      | false => rfl
      | true => rw [if_neg (by simp), h2, Bool.true_and]
    | err c q O' => rw [z] at h1; exact h1.elim
    | bad => rw [z] at h1; exact h1.elim
theorem any_map {τ : Type} {me : ME D} {ρc : Rho} {O : Sto} (enc : τ → D) (p : τ → Bool) : ∀ (xs : List τ), (∀ x ∈ xs, wE me (some (.shr (enc x)) :: ρc) O (fun d O' => d = .bl (p x) ∧ O' = O) (fun _ _ _ => False)) → allL me ρc true (xs.map enc) O = .ok (.bl (xs.any p)) O
  | [], _ => rfl
  | x :: xs, h => by
    have h1 := h x List.mem_cons_self
    have h2 := any_map enc p xs fun y hy => h y (List.mem_cons_of_mem _ hy)
    rw [List.map_cons]
    unfold allL
    unfold wE at h1
    cases z : me (some (.shr (enc x)) :: ρc) O with
    | ok d O' =>
      rw [z] at h1
      obtain ⟨rfl, rfl⟩ := h1
      dsimp only
      rw [List.any_cons]
      cases hp : p x with
      | true => rfl
      | false => rw [if_neg (by simp), h2, Bool.false_or]
    | err c q O' => rw [z] at h1; exact h1.elim
    | bad => rw [z] at h1; exact h1.elim
end DL

set_option Elab.async false
set_option linter.all false
set_option maxRecDepth 100000
namespace Gen
open PySem L2 DL
variable [Tabs]
noncomputable section
def top (i : Nat) : Stmt := PySem.Challenge.pw_formkeeper_k04_names.main.body.getD i (.Pass ⟨0, 0, 0, 0⟩)
abbrev s_L_draw : Stmt := top 7
abbrev s_L_simple : Stmt := top 8
abbrev s_L_full : Stmt := top 9
abbrev s_is_simple_name : Stmt := top 4
abbrev s_is_full_name : Stmt := top 5
abbrev s_law : Stmt := top 10
def v_DIGITS : Str := "0123456789"
def v_LETTERS : Str := "ABCDEFGHIJKLMNOPQRSTUVWXYZabcdefghijklmnopqrstuvwxyz_"
def cs : List Str := []
def TT : List (Str × List Str) := []
structure Txt (P : Program) (w : World) (K : PySem.W.Frag) (mg : Mg) : Prop where
  b_all : mg "all" = none
  b_bool : mg "bool" = none
  b_int : mg "int" = none
  b_isinstance : mg "isinstance" = none
  b_len : mg "len" = none
  b_range : mg "range" = none
  c_DIGITS : ∃ t, mg "DIGITS" = some (.str v_DIGITS t)
  c_LETTERS : ∃ t, mg "LETTERS" = some (.str v_LETTERS t)
  c_LONGEST_NAME : ∃ t, mg "LONGEST_NAME" = some (.int 40 t)
  ok : True
/-! draw -/
/- slots: 0 ~cell, 1 ~many, 2 ~bound, 3 ~numbers, 4 ~k, 5 ~seed, 6 ~mixed -/
def l_L_draw_1 : MS :=
 (seqS (appS' 3 (binM modD (callM intF (consA (rdM 0) nilA)) (rdM 2)))
 (setS 0 (binM fdivD (rdM 0) (rdM 2))))
def l_L_draw_2 : MS :=
 (seqS (setS 5 (binM modD (callM intF (consA (binM addD (binM addD (binM mulD (rdM 5) (cM (.int 48271))) (cM (.int 12345))) (rdM 4)) nilA)) (cM (.int 2147483647))))
 (seqS (setS 6 (binM modD (callM intF (consA (binM addD (binM mulD (rdM 5) (cM (.int 69621))) (binM mulD (cM (.int 977)) (rdM 4))) nilA)) (cM (.int 2147483629))))
 (appS' 3 (binM modD (callM intF (consA (binM fdivD (rdM 6) (cM (.int 3))) nilA)) (rdM 2)))))
def m_L_draw : MS :=
 (seqS (newS 3 (mapE .lst (bindE nilA fun ds => if ds.length ≤ sizeLine then pureE ds else badE)))
 (seqS (ifS (boolM (binM geD (rdM 0) (binM powD (cM (.int 10)) (cM (.int 18)))))
 (seqS (forS (rngM (consA (rdM 1) nilA)) (nameG 4)
 l_L_draw_1)
 (retO 3))
 skipS)
 (seqS (setS 5 (binM modD (callM intF (consA (rdM 0) nilA)) (cM (.int 2147483647))))
 (seqS (forS (rngM (consA (rdM 1) nilA)) (nameG 4)
 l_L_draw_2)
 (retO 3)))))
def f_L_draw : MF := runF 7 m_L_draw
theorem sc_L_draw : FnScope ["_law_cell", "_law_many", "_law_bound", "_law_numbers", "_law_k", "_law_seed", "_law_mixed"] ["_law_cell", "_law_many", "_law_bound"] (defScope s_L_draw) := ⟨rfl, rfl, rfl, by decide +kernel, rfl, by decide +kernel, by decide +kernel⟩
theorem b_L_draw {P : Program} {w : World} {K : PySem.W.Frag} {mg : Mg} {base : Heap} (T : Txt P w K mg)  : Bod P w K mg base "_law_draw" s_L_draw ["_law_cell", "_law_many", "_law_bound", "_law_numbers", "_law_k", "_law_seed", "_law_mixed"] 0 m_L_draw := by
  intro f cdv A outer s H E hr
  have hu := hr.units
  have tk : Takes (cxOf (L2.CX P w) P w K mg base ["_law_cell", "_law_many", "_law_bound", "_law_numbers", "_law_k", "_law_seed", "_law_mixed"] "_law_draw" (defScope s_L_draw) f cdv A outer s H E) (fun cls d _ H => E cls d H) := takes_of rfl rfl rfl rfl
  exact (eb_cons (es_new 3 (EL.n (el_disp ea_nil)) sc_L_draw.nd)
 (eb_cons (es_if (et_ge (EX.z (ex_var 0)) (EX.z (ex_pow (EX.z ex_int) (EX.z ex_int)))) (eb_cons (es_for (passes_of rfl) rfl (ei_range1 T.b_range (eaz_cons (EX.z (ex_var 1)) eaz_nil) (lenA_cons lenA_nil)) (eg_name 4 sc_L_draw.nd) (eb_cons (es_app 3 (ex_mod (EX.z (ex_intc T.b_int (eaz_cons (EX.z (ex_var 0)) eaz_nil))) (EX.z (ex_var 2))))
 (eb_one (es_set 0 (ex_fdiv (EX.z (ex_var 0)) (EX.z (ex_var 2))) sc_L_draw.nd))))
 (eb_one (es_retO 3))) eb_nil)
 (eb_cons (es_set 5 (ex_mod (EX.z (ex_intc T.b_int (eaz_cons (EX.z (ex_var 0)) eaz_nil))) (EX.z ex_int)) sc_L_draw.nd)
 (eb_cons (es_for (passes_of rfl) rfl (ei_range1 T.b_range (eaz_cons (EX.z (ex_var 1)) eaz_nil) (lenA_cons lenA_nil)) (eg_name 4 sc_L_draw.nd) (eb_cons (es_set 5 (ex_mod (EX.z (ex_intc T.b_int (eaz_cons (EX.z (ex_add (EX.z (ex_add (EX.z (ex_mul (EX.z (ex_var 5)) (EX.z ex_int))) (EX.z ex_int))) (EX.z (ex_var 4)))) eaz_nil))) (EX.z ex_int)) sc_L_draw.nd)
 (eb_cons (es_set 6 (ex_mod (EX.z (ex_intc T.b_int (eaz_cons (EX.z (ex_add (EX.z (ex_mul (EX.z (ex_var 5)) (EX.z ex_int))) (EX.z (ex_mul (EX.z ex_int) (EX.z (ex_var 4)))))) eaz_nil))) (EX.z ex_int)) sc_L_draw.nd)
 (eb_one (es_app 3 (ex_mod (EX.z (ex_intc T.b_int (eaz_cons (EX.z (ex_fdiv (EX.z (ex_var 6)) (EX.z ex_int))) eaz_nil))) (EX.z (ex_var 2))))))))
 (eb_one (es_retO 3))))))
/-! simple -/
/- slots: 0 ~text, 1 ~letters, 2 ~sign -/
def l_L_simple_1 : MS :=
 (ifS (andT (boolM (binM (inDb true) (rdM 2) (rdM 1))) (boolM (binM (inDb true) (rdM 2) (cM (.str "0123456789")))))
 (retS (cM (.bl false)))
 skipS)
def m_L_simple : MS :=
 (seqS (setS 1 (cM (.str "abcdefghijklmnopqrstuvwxyzABCDEFGHIJKLMNOPQRSTUVWXYZ_")))
 (seqS (ifS (orT (boolM (binM ltD (callM lenD (consA (rdM 0) nilA)) (cM (.int 1)))) (orT (boolM (binM gtD (callM lenD (consA (rdM 0) nilA)) (cM (.int 40)))) (boolM (binM (inDb true) (binM ixD (rdM 0) (cM (.int 0))) (rdM 1)))))
 (retS (cM (.bl false)))
 skipS)
 (seqS (forS (itM' (rdM 0)) (nameG 2)
 l_L_simple_1)
 (retS (cM (.bl true))))))
def f_L_simple : MF := runF 3 m_L_simple
theorem sc_L_simple : FnScope ["_law_text", "_law_letters", "_law_sign"] ["_law_text"] (defScope s_L_simple) := ⟨rfl, rfl, rfl, by decide +kernel, rfl, by decide +kernel, by decide +kernel⟩
theorem b_L_simple {P : Program} {w : World} {K : PySem.W.Frag} {mg : Mg} {base : Heap} (T : Txt P w K mg)  : Bod P w K mg base "_law_simple" s_L_simple ["_law_text", "_law_letters", "_law_sign"] 0 m_L_simple := by
  intro f cdv A outer s H E hr
  have hu := hr.units
  have tk : Takes (cxOf (L2.CX P w) P w K mg base ["_law_text", "_law_letters", "_law_sign"] "_law_simple" (defScope s_L_simple) f cdv A outer s H E) (fun cls d _ H => E cls d H) := takes_of rfl rfl rfl rfl
  exact (eb_cons (es_set 1 ex_str sc_L_simple.nd)
 (eb_cons (es_if (EW.t (ew_or (et_lt (EX.z (ex_len T.b_len (eaz_cons (EX.z (ex_var 0)) eaz_nil))) (EX.z ex_int)) (ew_or (et_gt (EX.z (ex_len T.b_len (eaz_cons (EX.z (ex_var 0)) eaz_nil))) (EX.z ex_int)) (ew_or1 (et_notin hu (EX.z (ex_ix hu (EX.z (ex_var 0)) (EX.z ex_int))) (EX.z (ex_var 1))))))) (eb_one (es_ret ex_bl)) eb_nil)
 (eb_cons (es_for (passes_of rfl) rfl (ei_any' (ex_var 0)) (eg_name 2 sc_L_simple.nd) (eb_one (es_if (EW.t (ew_and (et_notin hu (EX.z (ex_var 2)) (EX.z (ex_var 1))) (ew_and1 (et_notin hu (EX.z (ex_var 2)) (EX.z ex_str))))) (eb_one (es_ret ex_bl)) eb_nil)))
 (eb_one (es_ret ex_bl)))))
/-! full -/
/- slots: 0 ~text, 1 ~part -/
def l_L_full_1 : MS :=
 (ifS (notT (truM (callF f_L_simple [] (consA (rdM 1) nilA))))
 (retS (cM (.bl false)))
 skipS)
def m_L_full : MS :=
 (seqS (ifS (boolM (binM gtD (callM lenD (consA (rdM 0) nilA)) (cM (.int 40))))
 (retS (cM (.bl false)))
 skipS)
 (seqS (forS (itM' (str1M splitF (rdM 0) (cM (.str ".")))) (nameG 1)
 l_L_full_1)
 (retS (cM (.bl true)))))
def f_L_full : MF := runF 2 m_L_full
theorem sc_L_full : FnScope ["_law_text", "_law_part"] ["_law_text"] (defScope s_L_full) := ⟨rfl, rfl, rfl, by decide +kernel, rfl, by decide +kernel, by decide +kernel⟩
theorem b_L_full {P : Program} {w : World} {K : PySem.W.Frag} {mg : Mg} {base : Heap} (T : Txt P w K mg) (C_L_simple : Cal P w K mg base 1 "_law_simple" 1 f_L_simple) : Bod P w K mg base "_law_full" s_L_full ["_law_text", "_law_part"] 1 m_L_full := by
  intro f cdv A outer s H E hr
  have hu := hr.units
  have tk : Takes (cxOf (L2.CX P w) P w K mg base ["_law_text", "_law_part"] "_law_full" (defScope s_L_full) f cdv A outer s H E) (fun cls d _ H => E cls d H) := takes_of rfl rfl rfl rfl
  exact (eb_cons (es_if (et_gt (EX.z (ex_len T.b_len (eaz_cons (EX.z (ex_var 0)) eaz_nil))) (EX.z ex_int)) (eb_one (es_ret ex_bl)) eb_nil)
 (eb_cons (es_for (passes_of rfl) rfl (ei_any' (ex_split (EX.z (ex_var 0)) (EX.z ex_str))) (eg_name 1 sc_L_full.nd) (eb_one (es_if (et_not (et_tru (EX.z (ex_cal tk C_L_simple hr (ea_cons (ex_var 1) ea_nil) (lenA_cons lenA_nil))))) (eb_one (es_ret ex_bl)) eb_nil)))
 (eb_one (es_ret ex_bl))))
/-! is_simple_name -/
/- slots: 0 text -/
def e_is_simple_name_1 : ME D :=
 (orV (binM (inDb false) (rdM 0) (cM (.str v_LETTERS))) (binM (inDb false) (rdM 0) (cM (.str v_DIGITS))))
def m_is_simple_name : MS :=
 (seqS (ifS (orT (boolM (binM eqD (rdM 0) (cM (.str "")))) (orT (boolM (binM gtD (callM lenD (consA (rdM 0) nilA)) (cM (.int 40)))) (boolM (binM (inDb true) (binM ixD (rdM 0) (cM (.int 0))) (cM (.str v_LETTERS))))))
 (retS (cM (.bl false)))
 skipS)
 (retS (allGM (itM' (rdM 0)) e_is_simple_name_1 [] false)))
def f_is_simple_name : MF := runF 1 m_is_simple_name
theorem sc_is_simple_name : FnScope ["text"] ["text"] (defScope s_is_simple_name) := ⟨rfl, rfl, rfl, by decide +kernel, rfl, by decide +kernel, by decide +kernel⟩
theorem b_is_simple_name {P : Program} {w : World} {K : PySem.W.Frag} {mg : Mg} {base : Heap} (T : Txt P w K mg) {cc PP : Addr} (hPP : PP ∈ Tabs.ts) (TB : LamX.TabB base mg cc PP)  : BodC P w K mg base "is_simple_name" s_is_simple_name ["text"] 1 cc m_is_simple_name := by
  intro f A outer s H E hr
  have hu := hr.units
  have tk : Takes (cxOf (L2.CX P w) P w K mg base ["text"] "is_simple_name" (defScope s_is_simple_name) f (.ref cc) A outer s H E) (fun cls d _ H => E cls d H) := takes_of rfl rfl rfl rfl
  exact (eb_cons (es_if (EW.t (ew_or (et_eq hu (EX.z (ex_var 0)) (EX.z ex_str)) (ew_or (et_gt (EX.z (ex_len T.b_len (eaz_cons (EX.z (ex_var 0)) eaz_nil))) (EX.z (ex_gint' T.c_LONGEST_NAME))) (ew_or1 (et_notin hu (EX.z (ex_ix hu (EX.z (ex_var 0)) (EX.z ex_int))) (EX.z (ex_gstr' T.c_LETTERS))))))) (eb_one (es_ret ex_bl)) eb_nil)
 (eb_one (es_ret (ex_allC (k := 0) [] [] hr T.b_all hPP TB (ei_any' (ex_var 0)) (fun _ _ _ _ _ hr => by have hu := hr.units; exact (ex_or' (ex_in hu (EX.z (ex_var 0)) (EX.z (ex_gstr' T.c_LETTERS))) (ex_one (ex_in hu (EX.z (ex_var 0)) (EX.z (ex_gstr' T.c_DIGITS)))))) (hS := (show GxD.gscB (defScope s_is_simple_name) _ _ _ = true from by decide +kernel))))))
/-! is_full_name -/
/- slots: 0 text -/
def e_is_full_name_1 : ME D :=
 (callF f_is_simple_name [] (consA (rdM 0) nilA))
def m_is_full_name : MS :=
 (seqS (ifS (boolM (binM gtD (callM lenD (consA (rdM 0) nilA)) (cM (.int 40))))
 (retS (cM (.bl false)))
 skipS)
 (retS (allGM (itM' (str1M splitF (rdM 0) (cM (.str ".")))) e_is_full_name_1 [] false)))
def f_is_full_name : MF := runF 1 m_is_full_name
theorem sc_is_full_name : FnScope ["text"] ["text"] (defScope s_is_full_name) := ⟨rfl, rfl, rfl, by decide +kernel, rfl, by decide +kernel, by decide +kernel⟩
theorem b_is_full_name {P : Program} {w : World} {K : PySem.W.Frag} {mg : Mg} {base : Heap} (T : Txt P w K mg) {cc PP : Addr} (hPP : PP ∈ Tabs.ts) (TB : LamX.TabB base mg cc PP) (C_is_simple_name : Cal P w K mg base 2 "is_simple_name" 1 f_is_simple_name) : BodC P w K mg base "is_full_name" s_is_full_name ["text"] 3 cc m_is_full_name := by
  intro f A outer s H E hr
  have hu := hr.units
  have tk : Takes (cxOf (L2.CX P w) P w K mg base ["text"] "is_full_name" (defScope s_is_full_name) f (.ref cc) A outer s H E) (fun cls d _ H => E cls d H) := takes_of rfl rfl rfl rfl
  exact (eb_cons (es_if (et_gt (EX.z (ex_len T.b_len (eaz_cons (EX.z (ex_var 0)) eaz_nil))) (EX.z (ex_gint' T.c_LONGEST_NAME))) (eb_one (es_ret ex_bl)) eb_nil)
 (eb_one (es_ret (ex_allC (k := 2) [] [] hr T.b_all hPP TB (ei_any' (ex_split (EX.z (ex_var 0)) (EX.z ex_str))) (fun _ _ _ _ _ hr => by have hu := hr.units; exact (ex_cal takes0 C_is_simple_name hr (ea_cons (ex_var 0) ea_nil) (lenA_cons lenA_nil))) (hS := (show GxD.gscB (defScope s_is_full_name) _ _ _ = true from by decide +kernel))))))
/-! law -/
/- slots: 0 ~script, 1 ~cell, 2 ~numbers, 3 ~size, 4 ~signs, 5 ~text, 6 ~words, 7 ~told, 8 ~whole, 9 ~number -/
def k_law_1 : MS :=
 (seqS (ifS (boolM (binM eqD (binM modD (binM ixD (rdM 2) (cM (.int 1))) (cM (.int 7))) (cM (.int 1))))
 (setS 5 (binM ixD (rdM 6) (binM modD (binM ixD (rdM 2) (cM (.int 0))) (callM lenD (consA (rdM 6) nilA)))))
 skipS)
 (seqS (setS 7 (callF f_is_simple_name [] (consA (rdM 5) nilA)))
 (seqS (setS 8 (callF f_is_full_name [] (consA (rdM 5) nilA)))
 (seqS (ifS (orT (notT (truM (un1 (isiD "bool") (rdM 7)))) (notT (truM (un1 (isiD "bool") (rdM 8)))))
 (retS (cM (.bl false)))
 skipS)
 (ifS (orT (boolM (binM neD (rdM 7) (callF f_L_simple [] (consA (rdM 5) nilA)))) (boolM (binM neD (rdM 8) (callF f_L_full [] (consA (rdM 5) nilA)))))
 (retS (cM (.bl false)))
 skipS)))))
def l_law_1 : MS :=
 (seqS (setS 2 (callF f_L_draw [] (consA (rdM 1) (consA (cM (.int 48)) (consA (binM shlD (cM (.int 1)) (cM (.int 20))) nilA)))))
 (seqS (setS 3 (binM modD (binM ixD (rdM 2) (cM (.int 0))) (cM (.int 6))))
 (seqS (ifS (boolM (binM eqD (binM modD (binM ixD (rdM 2) (cM (.int 1))) (cM (.int 5))) (cM (.int 0))))
 (setS 3 (binM addD (cM (.int 36)) (binM modD (binM ixD (rdM 2) (cM (.int 0))) (cM (.int 9)))))
 skipS)
 (seqS (setS 4 (binM ixD (lstM (consA (cM (.str "aZ_b09")) (consA (cM (.str "aZ_b0.9")) (consA (cM (.str "ab.")) (consA (cM (.str "a- ")) (consA (cM (.str "Qx7~")) nilA)))))) (binM modD (binM ixD (rdM 2) (cM (.int 2))) (cM (.int 5)))))
 (seqS (setS 5 (str1M joinF (cM (.str "")) (thawM (compM [9] (itM' (slM (rdM 2) (partM (cM (.int 3))) (partM (binM addD (cM (.int 3)) (rdM 3))))) (nameG 9) (pureE true) (binM ixD (rdM 4) (binM modD (rdM 9) (callM lenD (consA (rdM 4) nilA))))))))
 (seqS (setS 6 (lstM (consA (cM (.str "null")) (consA (cM (.str "record")) (consA (cM (.str "choice")) (consA (cM (.str "int")) (consA (cM (.str "map")) (consA (cM (.str "union")) (consA (cM (.str "string")) (consA (cM (.str "x.int")) (consA (cM (.str "long")) (consA (cM (.str "fixed")) (consA (cM (.str "bytes")) nilA)))))))))))))
 k_law_1))))))
def m_law : MS :=
 (seqS (forS (itM' (binM addD (slM (rdM 0) noPart (partM (cM (.int 20)))) (lstM (consA (cM (.int 0)) nilA)))) (nameG 1)
 l_law_1)
 (retS (andV (un1 (isCB false) (callF f_is_simple_name [] (consA (cM (.str "")) nilA))) (un1 (isCB false) (callF f_is_full_name [] (consA (cM (.str "")) nilA))))))
def f_law : MF := runF 10 m_law
theorem sc_law : FnScope ["_law_script", "_law_cell", "_law_numbers", "_law_size", "_law_signs", "_law_text", "_law_words", "_law_told", "_law_whole", "_law_number"] ["_law_script"] (defScope s_law) := ⟨rfl, rfl, rfl, by decide +kernel, rfl, by decide +kernel, by decide +kernel⟩
theorem b_law {P : Program} {w : World} {K : PySem.W.Frag} {mg : Mg} {base : Heap} (T : Txt P w K mg) (C_L_draw : Cal P w K mg base 1 "_law_draw" 3 f_L_draw) (C_L_full : Cal P w K mg base 2 "_law_full" 1 f_L_full) (C_L_simple : Cal P w K mg base 1 "_law_simple" 1 f_L_simple) (C_is_full_name : Cal P w K mg base 4 "is_full_name" 1 f_is_full_name) (C_is_simple_name : Cal P w K mg base 2 "is_simple_name" 1 f_is_simple_name) : Bod P w K mg base "law" s_law ["_law_script", "_law_cell", "_law_numbers", "_law_size", "_law_signs", "_law_text", "_law_words", "_law_told", "_law_whole", "_law_number"] 4 m_law := by
  intro f cdv A outer s H E hr
  have hu := hr.units
  have tk : Takes (cxOf (L2.CX P w) P w K mg base ["_law_script", "_law_cell", "_law_numbers", "_law_size", "_law_signs", "_law_text", "_law_words", "_law_told", "_law_whole", "_law_number"] "law" (defScope s_law) f cdv A outer s H E) (fun cls d _ H => E cls d H) := takes_of rfl rfl rfl rfl
  exact (eb_cons (es_for (passes_of rfl) rfl (ei_any' (ex_add (EX.z (ex_sl sl_all (EX.z (ex_var 0)) eo_none (eo_some (EX.z ex_int)))) (EX.z (ex_lst (ea_cons ex_int ea_nil))))) (eg_name 1 sc_law.nd) (eb_cons (es_set 2 (ex_cal tk C_L_draw hr (ea_cons (ex_var 1) (ea_cons ex_int (ea_cons (ex_shl (EX.z ex_int) (EX.z ex_int)) ea_nil))) (lenA_cons (lenA_cons (lenA_cons lenA_nil)))) sc_law.nd)
 (eb_cons (es_set 3 (ex_mod (EX.z (ex_ix hu (EX.z (ex_var 2)) (EX.z ex_int))) (EX.z ex_int)) sc_law.nd)
 (eb_cons (es_if (et_eq hu (EX.z (ex_mod (EX.z (ex_ix hu (EX.z (ex_var 2)) (EX.z ex_int))) (EX.z ex_int))) (EX.z ex_int)) (eb_one (es_set 3 (ex_add (EX.z ex_int) (EX.z (ex_mod (EX.z (ex_ix hu (EX.z (ex_var 2)) (EX.z ex_int))) (EX.z ex_int)))) sc_law.nd)) eb_nil)
 (eb_cons (es_set 4 (ex_ix hu (EX.z (ex_lst (ea_cons ex_str (ea_cons ex_str (ea_cons ex_str (ea_cons ex_str (ea_cons ex_str ea_nil))))))) (EX.z (ex_mod (EX.z (ex_ix hu (EX.z (ex_var 2)) (EX.z ex_int))) (EX.z ex_int)))) sc_law.nd)
 (eb_cons (es_set 5 (ex_join (EX.z ex_str) (EX.z (EN.frz (en_comp (own := [("_law_number", 9)]) rfl sc_law.nd (ei_any' (ex_sl sl_all (EX.z (ex_var 2)) (eo_some (EX.z ex_int)) (eo_some (EX.z (ex_add (EX.z ex_int) (EX.z (ex_var 3))))))) (blkOk_by (own := [("_law_number", 9)]) (N := ["_law_script", "_law_cell", "_law_numbers", "_law_size", "_law_signs", "_law_text", "_law_words", "_law_told", "_law_whole", "_law_number"]) (sc := defScope s_law) (by decide +kernel)) (fun _ _ _ _ _ => pg_name (i := 9) sc_law.nd rfl (Or.inl rfl)) (evgw_name 9) (fun _ _ _ _ _ => ets_nil) (fun _ _ _ _ _ => (ex_ix hu (EX.z (ex_var 4)) (EX.z (ex_mod (EX.z (ex_var 9)) (EX.z (ex_len T.b_len (eaz_cons (EX.z (ex_var 4)) eaz_nil))))))))))) sc_law.nd)
 (eb_cons (es_set 6 (ex_lst (ea_cons ex_str (ea_cons ex_str (ea_cons ex_str (ea_cons ex_str (ea_cons ex_str (ea_cons ex_str (ea_cons ex_str (ea_cons ex_str (ea_cons ex_str (ea_cons ex_str (ea_cons ex_str ea_nil)))))))))))) sc_law.nd)
 (eb_cons (es_if (et_eq hu (EX.z (ex_mod (EX.z (ex_ix hu (EX.z (ex_var 2)) (EX.z ex_int))) (EX.z ex_int))) (EX.z ex_int)) (eb_one (es_set 5 (ex_ix hu (EX.z (ex_var 6)) (EX.z (ex_mod (EX.z (ex_ix hu (EX.z (ex_var 2)) (EX.z ex_int))) (EX.z (ex_len T.b_len (eaz_cons (EX.z (ex_var 6)) eaz_nil)))))) sc_law.nd)) eb_nil)
 (eb_cons (es_set 7 (ex_cal tk C_is_simple_name hr (ea_cons (ex_var 5) ea_nil) (lenA_cons lenA_nil)) sc_law.nd)
 (eb_cons (es_set 8 (ex_cal tk C_is_full_name hr (ea_cons (ex_var 5) ea_nil) (lenA_cons lenA_nil)) sc_law.nd)
 (eb_cons (es_if (EW.t (ew_or (et_not (et_tru (EX.z (ex_isi T.b_isinstance T.b_bool (by decide +kernel) (EX.z (ex_var 7)))))) (ew_or1 (et_not (et_tru (EX.z (ex_isi T.b_isinstance T.b_bool (by decide +kernel) (EX.z (ex_var 8))))))))) (eb_one (es_ret ex_bl)) eb_nil)
 (eb_one (es_if (EW.t (ew_or (et_ne hu (EX.z (ex_var 7)) (EX.z (ex_cal tk C_L_simple hr (ea_cons (ex_var 5) ea_nil) (lenA_cons lenA_nil)))) (ew_or1 (et_ne hu (EX.z (ex_var 8)) (EX.z (ex_cal tk C_L_full hr (ea_cons (ex_var 5) ea_nil) (lenA_cons lenA_nil))))))) (eb_one (es_ret ex_bl)) eb_nil)))))))))))))
 (eb_one (es_ret (ex_and' (ex_isC (EX.z (ex_cal tk C_is_simple_name hr (ea_cons ex_str ea_nil) (lenA_cons lenA_nil)))) (ex_one (ex_isC (EX.z (ex_cal tk C_is_full_name hr (ea_cons ex_str ea_nil) (lenA_cons lenA_nil)))))))))
end
theorem lit_0 : Str.ofString "" = SX.S [] := by decide +kernel
theorem lit_1 : Str.ofString "." = SX.S [46] := by decide +kernel
def w_2 : List Nat := [48, 49, 50, 51, 52, 53, 54, 55, 56, 57]
theorem lit_2 : Str.ofString "0123456789" = SX.S w_2 := by decide +kernel
theorem lit_2_len : w_2.length = 10 := by decide +kernel
def w_3 : List Nat := [81, 120, 55, 126]
theorem lit_3 : Str.ofString "Qx7~" = SX.S w_3 := by decide +kernel
theorem lit_3_len : w_3.length = 4 := by decide +kernel
theorem lit_4 : Str.ofString "a- " = SX.S [97, 45, 32] := by decide +kernel
def w_5 : List Nat := [97, 90, 95, 98, 48, 46, 57]
theorem lit_5 : Str.ofString "aZ_b0.9" = SX.S w_5 := by decide +kernel
theorem lit_5_len : w_5.length = 7 := by decide +kernel
def w_6 : List Nat := [97, 90, 95, 98, 48, 57]
theorem lit_6 : Str.ofString "aZ_b09" = SX.S w_6 := by decide +kernel
theorem lit_6_len : w_6.length = 6 := by decide +kernel
theorem lit_7 : Str.ofString "ab." = SX.S [97, 98, 46] := by decide +kernel
def w_8 : List Nat := [97, 98, 99, 100, 101, 102, 103, 104, 105, 106, 107, 108, 109, 110, 111, 112, 113, 114, 115, 116, 117, 118, 119, 120, 121, 122, 65, 66, 67, 68, 69, 70, 71, 72, 73, 74, 75, 76, 77, 78, 79, 80, 81, 82, 83, 84, 85, 86, 87, 88, 89, 90, 95]
theorem lit_8 : Str.ofString "abcdefghijklmnopqrstuvwxyzABCDEFGHIJKLMNOPQRSTUVWXYZ_" = SX.S w_8 := by decide +kernel
theorem lit_8_len : w_8.length = 53 := by decide +kernel
def w_9 : List Nat := [98, 121, 116, 101, 115]
theorem lit_9 : Str.ofString "bytes" = SX.S w_9 := by decide +kernel
theorem lit_9_len : w_9.length = 5 := by decide +kernel
def w_10 : List Nat := [99, 104, 111, 105, 99, 101]
theorem lit_10 : Str.ofString "choice" = SX.S w_10 := by decide +kernel
theorem lit_10_len : w_10.length = 6 := by decide +kernel
def w_11 : List Nat := [102, 105, 120, 101, 100]
theorem lit_11 : Str.ofString "fixed" = SX.S w_11 := by decide +kernel
theorem lit_11_len : w_11.length = 5 := by decide +kernel
theorem lit_12 : Str.ofString "int" = SX.S [105, 110, 116] := by decide +kernel
def w_13 : List Nat := [108, 111, 110, 103]
theorem lit_13 : Str.ofString "long" = SX.S w_13 := by decide +kernel
theorem lit_13_len : w_13.length = 4 := by decide +kernel
theorem lit_14 : Str.ofString "map" = SX.S [109, 97, 112] := by decide +kernel
def w_15 : List Nat := [110, 117, 108, 108]
theorem lit_15 : Str.ofString "null" = SX.S w_15 := by decide +kernel
theorem lit_15_len : w_15.length = 4 := by decide +kernel
def w_16 : List Nat := [114, 101, 99, 111, 114, 100]
theorem lit_16 : Str.ofString "record" = SX.S w_16 := by decide +kernel
theorem lit_16_len : w_16.length = 6 := by decide +kernel
def w_17 : List Nat := [115, 116, 114, 105, 110, 103]
theorem lit_17 : Str.ofString "string" = SX.S w_17 := by decide +kernel
theorem lit_17_len : w_17.length = 6 := by decide +kernel
def w_18 : List Nat := [117, 110, 105, 111, 110]
theorem lit_18 : Str.ofString "union" = SX.S w_18 := by decide +kernel
theorem lit_18_len : w_18.length = 5 := by decide +kernel
def w_19 : List Nat := [120, 46, 105, 110, 116]
theorem lit_19 : Str.ofString "x.int" = SX.S w_19 := by decide +kernel
theorem lit_19_len : w_19.length = 5 := by decide +kernel
def w_DIGITS : List Nat := [48, 49, 50, 51, 52, 53, 54, 55, 56, 57]
theorem lit_DIGITS : v_DIGITS = SX.S w_DIGITS := by decide +kernel
theorem lit_DIGITS_len : w_DIGITS.length = 10 := by decide +kernel
def w_LETTERS : List Nat := [65, 66, 67, 68, 69, 70, 71, 72, 73, 74, 75, 76, 77, 78, 79, 80, 81, 82, 83, 84, 85, 86, 87, 88, 89, 90, 97, 98, 99, 100, 101, 102, 103, 104, 105, 106, 107, 108, 109, 110, 111, 112, 113, 114, 115, 116, 117, 118, 119, 120, 121, 122, 95]
theorem lit_LETTERS : v_LETTERS = SX.S w_LETTERS := by decide +kernel
theorem lit_LETTERS_len : w_LETTERS.length = 53 := by decide +kernel
end Gen

set_option linter.all false
set_option Elab.async false
set_option maxRecDepth 100000
set_option maxHeartbeats 400000
namespace My
open PySem L2 DL Gen
open SX (S)
local macro_rules
  | `(tactic| simp? only [$xs,*]) => `(tactic| simp -implicitDefEqProofs (disch := first | omega | assumption) only [↓wS_seq, ↓wS_set, ↓wS_new, ↓wS_expr, ↓wS_retS, ↓wS_retN, ↓wS_retO, ↓wS_raise, ↓wS_if, ↓wS_for, ↓wS_skip, ↓wS_bad, ↓wS_brk, ↓wS_retNon, ↓wS_name, ↓wS_turn, ↓wS_try, ↓wS_frz, ↓wS_frzD, ↓wS_asg, ↓wS_fldG', ↓wS_aug, ↓wS_app, ↓wS_putOwn, ↓wS_putObj, ↓wE_pure, ↓wE_bad, ↓wE_opt, ↓wE_bind, ↓wE_ite, ↓wE_rd0, ↓wE_rdS, ↓wE_rz0, ↓wE_rz0l, ↓wE_rz0d, ↓wE_rzS, ↓wE_bin, ↓wE_un1, ↓wE_bool, ↓wE_tru, ↓wE_notT, ↓wE_notV, ↓wE_andT, ↓wE_orT, ↓wE_orTV, ↓wE_eqO, ↓wE_andV, ↓wE_orV, ↓wE_chain, ↓wE_ifM, ↓wE_nil, ↓wE_cons, ↓wE_lst, ↓wE_tup, ↓wE_callM, ↓wE_callF, ↓wE_callN, ↓wE_map, ↓wE_thaw, ↓wE_part, ↓wE_noPart, ↓wE_sl, ↓wE_binL, ↓wE_listM, ↓wE_str1, ↓wE_cell, ↓wE_optO, ↓wE_comp, ↓wE_callR, ↓wE_frzSD, ↓wE_stoSD, ↓wE_ownSD, ↓wE_fld, ↓wS_fld, ↓wS_fldAug, ↓wE_methR, ↓wE_make, ↓wE_lm, ↓wS_unp, ↓wS_delOwn, ↓wE_sort, ↓wE_sortK, ↓wE_compD, ↓wE_objM, ↓wE_compO, ↓wE_frzcall, ↓wE_disp, ↓wE_kv, ↓wE_listM', ↓wE_vals, ↓wE_lidx, ↓wE_hp0, ↓wE_hpS, ↓wE_hn0, ↓wE_hnS, ↓wE_hi0, ↓wE_hiS, ↓wS_retR, ↓cRetR_ap, ↓wS_setR, ↓cSetR_ap, ↓wE_ins, ↓cIns_ap, ↓cO_ap, ↓cBind_ap, ↓cBin2_ap, ↓cBin_ap, ↓cUn_ap, ↓cBool_ap, ↓cNotT_ap, ↓cNb_ap, ↓cNotV_ap, ↓cAndT_ap, ↓cOrT_ap, ↓cAndB_ap, ↓cOrB_ap, ↓cAndV_ap, ↓cOrV_ap, ↓cCh5_ap, ↓cCh4_ap, ↓cCh3_ap, ↓cCh2_ap, ↓cCh_ap, ↓cIfM_ap, ↓cCons2_ap, ↓cCons_ap, ↓cLst_ap, ↓cTup_ap, ↓cCall_ap, ↓cCallN_ap, ↓cMap_ap, ↓cLs_ap, ↓cThaw_ap, ↓cSm_ap, ↓cPart_ap, ↓cSl3_ap, ↓cSl2_ap, ↓cSl_ap, ↓cYs_ap, ↓cComp_ap, ↓cBl_ap, ↓cEq_ap, ↓cNe_ap, ↓cSet_ap, ↓cNew_ap, ↓cExpr_ap, ↓cRet_ap, ↓cRetN_ap, ↓cErr_ap, ↓cRaise_ap, ↓cIf_ap, ↓cFor_ap, ↓cRo_ap, ↓cFrL_ap, ↓cFr_ap, ↓cFrD1_ap, ↓cFrD_ap, ↓cOrT2_ap, ↓cOrT1_ap, ↓cEqO2_ap, ↓cEqO1_ap, ↓cAsg_ap, ↓cFg_ap, ↓cAuZ_ap, ↓cAu2_ap, ↓cAu_ap, ↓cAp3_ap, ↓cAp2_ap, ↓cAp_ap, ↓cUn1_ap, ↓cTru_ap, ↓cCallM_ap, ↓cListM_ap, ↓cBinL2_ap, ↓cBinL_ap, ↓cStr3_ap, ↓cStr2_ap, ↓cStr1_ap, ↓cCell_ap, ↓cPoZ_ap, ↓cPoC_ap, ↓cPoI_ap, ↓cPoV_ap, ↓cPo0_ap, ↓cCR_ap, ↓cOwn_ap, ↓cFld_ap, ↓cFp3_ap, ↓cFp2_ap, ↓cFp1_ap, ↓cFa4_ap, ↓cFa3_ap, ↓cFa2_ap, ↓cFa1_ap, ↓cMe4_ap, ↓cMe3_ap, ↓cMe2_ap, ↓cMe1_ap, ↓cMk2_ap, ↓cMk1_ap, ↓cLm5_ap, ↓cLm4_ap, ↓cLm3_ap, ↓cLm2_ap, ↓cLm1_ap, ↓cUn3_ap, ↓cDlZ_ap, ↓cDlC_ap, ↓cDlI_ap, ↓cDl0_ap, ↓cSort_ap, ↓cSortK_ap, ↓cCompD_ap, ↓cObj_ap, ↓cCompO_ap, ↓cCallZ_ap, ↓cDisp_ap, ↓cKv4_ap, ↓cKv3_ap, ↓cKv2_ap, ↓cKv1_ap, ↓cListM'_ap, ↓cVals_ap, ↓cLi2_ap, ↓cLi1_ap, ↓cQoZ_ap, ↓cQoC_ap, ↓cQoI_ap, ↓cQoO_ap, ↓cQoV_ap, ↓cWh_ap, ↓cWhl_ap, ↓wIf_true, ↓wIf_false, ↓wIf_dec, ↓wIf_not, ↓wIf_and, ↓wIf_or, ↓wIf_bne, ↓wIf_emp, ↓wB_bl, ↓wI_int, ↓wCL_lst, ↓wCD_dct, ↓tupT_ap, ↓runT_nil, ↓runT_cons, ↓wD_0, ↓wD_S, ↓wW_0, ↓wW_S, ↓lkK_t, ↓lkK_f, ↓reduceIte, seqK_nx, seqK_bk, seqK_ct, seqK_ret, seqK_err, ctK_nx, ctK_bk, ctK_ct, ctK_ret, ctK_err, turnK_nx, tryK_nx, tryK_bk, tryK_ct, tryK_ret, tryK_err, hotS_some, hotS_none, offK_nx, offK_nx', offK_bk, offK_bk', offK_ct, offK_ct', offK_ret, offK_own, coolR_nil, coolR_no, coolR_shr, coolR_own, coolR_hot, lpK_nx, lpK_bk, lpK_ret, lpK_err, retK_nx, retK_ret, retK_err, wO_add, wO_addA, wO_sub, wO_neg, wO_rel, wO_int, wO_mul, wO_eq, wO_ne, wO_addS, wO_addAS, wO_cat, wO_catL, wO_repL, wO_lenL, wO_lenA, wO_lenT, wO_lenS, wO_intF, wO_intB, wO_absF, wO_max, wO_min, wO_listL, wO_listA, wO_listT, wO_range1, wO_range2, wO_walkL, wO_walkA, wO_walkT, wO_walkS, wO_truI, wO_truB, wO_truN, wO_truS, wO_truL, wO_truA, wO_truT, wO_slL, wO_slA, wO_slT, wO_slS, wO_ixT0, wO_ixT1, wO_ixT2, wO_ixT3, wO_ixT4, wO_ixT5, wO_ixT6, wO_ixT7, wO_ixL0, wO_ixL1, wO_ixL2, wO_ixL3, wO_ixL4, wO_ixL5, wO_ixL6, wO_ixL7, wO_eqI, wO_eqS, wO_eqBb, wO_eqNs, wO_putL, wO_putS, wO_putI, wO_ixS, wO_ixI, wO_inS, wO_notinS, wO_str0, wO_join, wO_ord, wSt_str, wCe_some, wObj_obj, drO_lst, drO_dct, drO_ins, dr_non, dr_bl, dr_int, dr_str, dr_lst, dr_sea, dr_tup, dr_dct, dr_obj, wO_some, wO_none, wRE_ok, wRE_err, cFz_shr, cFz_lst, cFz_dct, cSt_shr, cSt_own, wNon_non, cUnp_tup, unp_nil, unp_cons, wO_appG, wO_iAdd, wO_iSub, wO_walk'L, wO_walk'A, wO_walk'T, wO_walk'D, walk'_S, wDK_ok, wO_delC, wO_insO, wO_lstO, wZ_shr, wZ_lst, wZ_dct, wZ_err, wO_keyS, wO_keyI, wO_listL'L, wO_listL'A, wO_listL'T, wO_listL'D, wO_valsD, isLs_lst, wO_ixDs, wO_ixDi, wCe_putDs, wCe_putDi, wC_shr, wC_own, wC_err, wN_own, wN_err, wL_ok, wO_ixE, wO_inG, wO_ixG, wO_strI, wO_tupL, wO_tupLs, wO_isCb, wO_isCn, wO_isCi, wO_isCs, wO_isCl, wO_isCt, wO_addT, wO_mulS, wO_isdig, wO_starts, wO_ends, wO_split, wO_isdig, wO_starts, wO_ends, wO_split, cMod_iff, cShr_iff, cMul_iff, cPow_iff, cRng_iff, bne_dec, List.map_cons, List.map_nil, List.length_cons, List.length_nil, List.length_map, List.length_append, List.length_range, List.cons_append, List.nil_append, List.append_nil, List.set_cons_succ, List.set_cons_zero, and_true, true_and, and_self, true_or, or_true, eq_self, Int.reduceLT, Int.reduceLE, Nat.reduceLT, Nat.reduceLeDiff, Nat.reduceAdd, Nat.reduceSub, Int.reduceAdd, Int.reduceSub, Int.reduceMul, Int.reduceNeg, Int.reduceToNat, Int.reduceMod, Int.reduceDiv, Int.reducePow, Nat.reducePow, Int.reduceEq, Int.reduceNe, not_true_eq_false, not_false_eq_true, false_and, and_false, forall_eq', forall_eq, reduceCtorEq, exists_false, or_false, false_or, Int.zero_add, Bool.not_true, Bool.not_false, iN_non, iN_bl, iN_int, iN_str, iN_lst, iN_tup, iN_dct, iN_obj, wO_joinC, wO_ixEs, wO_ixEt, wO_ixM, wO_ixMs, wO_ixMt, wO_ixMS, List.map_eq_nil_iff, Int.toNat_natCast, Int.cast_ofNat_Int, rep_noS, rep_no0, dr_non, List.getElem?_cons_zero, List.getElem?_cons_succ, ch_S, S_tl, S_len, S_cat, S_eq, cut_map, cut_S, wO_ixSt, walk_S, inS_S, Option.some.injEq, List.cons.injEq, cpE_ap, cpT_ap, cpK_nx, bareR, wipeR, shrO, Gen.lit_0, Gen.lit_1, Gen.lit_2_len, Gen.lit_2, Gen.lit_3_len, Gen.lit_3, Gen.lit_4, Gen.lit_5_len, Gen.lit_5, Gen.lit_6_len, Gen.lit_6, Gen.lit_7, Gen.lit_8_len, Gen.lit_8, Gen.lit_9_len, Gen.lit_9, Gen.lit_10_len, Gen.lit_10, Gen.lit_11_len, Gen.lit_11, Gen.lit_12, Gen.lit_13_len, Gen.lit_13, Gen.lit_14, Gen.lit_15_len, Gen.lit_15, Gen.lit_16_len, Gen.lit_16, Gen.lit_17_len, Gen.lit_17, Gen.lit_18_len, Gen.lit_18, Gen.lit_19_len, Gen.lit_19, Gen.lit_DIGITS, Gen.lit_DIGITS_len, Gen.lit_LETTERS, Gen.lit_LETTERS_len, $xs,*])
  | `(tactic| simp? only [$xs,*] at $h:ident) => `(tactic| simp -implicitDefEqProofs (disch := first | omega | assumption) only [↓wS_seq, ↓wS_set, ↓wS_new, ↓wS_expr, ↓wS_retS, ↓wS_retN, ↓wS_retO, ↓wS_raise, ↓wS_if, ↓wS_for, ↓wS_skip, ↓wS_bad, ↓wS_brk, ↓wS_retNon, ↓wS_name, ↓wS_turn, ↓wS_try, ↓wS_frz, ↓wS_frzD, ↓wS_asg, ↓wS_fldG', ↓wS_aug, ↓wS_app, ↓wS_putOwn, ↓wS_putObj, ↓wE_pure, ↓wE_bad, ↓wE_opt, ↓wE_bind, ↓wE_ite, ↓wE_rd0, ↓wE_rdS, ↓wE_rz0, ↓wE_rz0l, ↓wE_rz0d, ↓wE_rzS, ↓wE_bin, ↓wE_un1, ↓wE_bool, ↓wE_tru, ↓wE_notT, ↓wE_notV, ↓wE_andT, ↓wE_orT, ↓wE_orTV, ↓wE_eqO, ↓wE_andV, ↓wE_orV, ↓wE_chain, ↓wE_ifM, ↓wE_nil, ↓wE_cons, ↓wE_lst, ↓wE_tup, ↓wE_callM, ↓wE_callF, ↓wE_callN, ↓wE_map, ↓wE_thaw, ↓wE_part, ↓wE_noPart, ↓wE_sl, ↓wE_binL, ↓wE_listM, ↓wE_str1, ↓wE_cell, ↓wE_optO, ↓wE_comp, ↓wE_callR, ↓wE_frzSD, ↓wE_stoSD, ↓wE_ownSD, ↓wE_fld, ↓wS_fld, ↓wS_fldAug, ↓wE_methR, ↓wE_make, ↓wE_lm, ↓wS_unp, ↓wS_delOwn, ↓wE_sort, ↓wE_sortK, ↓wE_compD, ↓wE_objM, ↓wE_compO, ↓wE_frzcall, ↓wE_disp, ↓wE_kv, ↓wE_listM', ↓wE_vals, ↓wE_lidx, ↓wE_hp0, ↓wE_hpS, ↓wE_hn0, ↓wE_hnS, ↓wE_hi0, ↓wE_hiS, ↓wS_retR, ↓cRetR_ap, ↓wS_setR, ↓cSetR_ap, ↓wE_ins, ↓cIns_ap, ↓cO_ap, ↓cBind_ap, ↓cBin2_ap, ↓cBin_ap, ↓cUn_ap, ↓cBool_ap, ↓cNotT_ap, ↓cNb_ap, ↓cNotV_ap, ↓cAndT_ap, ↓cOrT_ap, ↓cAndB_ap, ↓cOrB_ap, ↓cAndV_ap, ↓cOrV_ap, ↓cCh5_ap, ↓cCh4_ap, ↓cCh3_ap, ↓cCh2_ap, ↓cCh_ap, ↓cIfM_ap, ↓cCons2_ap, ↓cCons_ap, ↓cLst_ap, ↓cTup_ap, ↓cCall_ap, ↓cCallN_ap, ↓cMap_ap, ↓cLs_ap, ↓cThaw_ap, ↓cSm_ap, ↓cPart_ap, ↓cSl3_ap, ↓cSl2_ap, ↓cSl_ap, ↓cYs_ap, ↓cComp_ap, ↓cBl_ap, ↓cEq_ap, ↓cNe_ap, ↓cSet_ap, ↓cNew_ap, ↓cExpr_ap, ↓cRet_ap, ↓cRetN_ap, ↓cErr_ap, ↓cRaise_ap, ↓cIf_ap, ↓cFor_ap, ↓cRo_ap, ↓cFrL_ap, ↓cFr_ap, ↓cFrD1_ap, ↓cFrD_ap, ↓cOrT2_ap, ↓cOrT1_ap, ↓cEqO2_ap, ↓cEqO1_ap, ↓cAsg_ap, ↓cFg_ap, ↓cAuZ_ap, ↓cAu2_ap, ↓cAu_ap, ↓cAp3_ap, ↓cAp2_ap, ↓cAp_ap, ↓cUn1_ap, ↓cTru_ap, ↓cCallM_ap, ↓cListM_ap, ↓cBinL2_ap, ↓cBinL_ap, ↓cStr3_ap, ↓cStr2_ap, ↓cStr1_ap, ↓cCell_ap, ↓cPoZ_ap, ↓cPoC_ap, ↓cPoI_ap, ↓cPoV_ap, ↓cPo0_ap, ↓cCR_ap, ↓cOwn_ap, ↓cFld_ap, ↓cFp3_ap, ↓cFp2_ap, ↓cFp1_ap, ↓cFa4_ap, ↓cFa3_ap, ↓cFa2_ap, ↓cFa1_ap, ↓cMe4_ap, ↓cMe3_ap, ↓cMe2_ap, ↓cMe1_ap, ↓cMk2_ap, ↓cMk1_ap, ↓cLm5_ap, ↓cLm4_ap, ↓cLm3_ap, ↓cLm2_ap, ↓cLm1_ap, ↓cUn3_ap, ↓cDlZ_ap, ↓cDlC_ap, ↓cDlI_ap, ↓cDl0_ap, ↓cSort_ap, ↓cSortK_ap, ↓cCompD_ap, ↓cObj_ap, ↓cCompO_ap, ↓cCallZ_ap, ↓cDisp_ap, ↓cKv4_ap, ↓cKv3_ap, ↓cKv2_ap, ↓cKv1_ap, ↓cListM'_ap, ↓cVals_ap, ↓cLi2_ap, ↓cLi1_ap, ↓cQoZ_ap, ↓cQoC_ap, ↓cQoI_ap, ↓cQoO_ap, ↓cQoV_ap, ↓cWh_ap, ↓cWhl_ap, ↓wIf_true, ↓wIf_false, ↓wIf_dec, ↓wIf_not, ↓wIf_and, ↓wIf_or, ↓wIf_bne, ↓wIf_emp, ↓wB_bl, ↓wI_int, ↓wCL_lst, ↓wCD_dct, ↓tupT_ap, ↓runT_nil, ↓runT_cons, ↓wD_0, ↓wD_S, ↓wW_0, ↓wW_S, ↓lkK_t, ↓lkK_f, ↓reduceIte, seqK_nx, seqK_bk, seqK_ct, seqK_ret, seqK_err, ctK_nx, ctK_bk, ctK_ct, ctK_ret, ctK_err, turnK_nx, tryK_nx, tryK_bk, tryK_ct, tryK_ret, tryK_err, hotS_some, hotS_none, offK_nx, offK_nx', offK_bk, offK_bk', offK_ct, offK_ct', offK_ret, offK_own, coolR_nil, coolR_no, coolR_shr, coolR_own, coolR_hot, lpK_nx, lpK_bk, lpK_ret, lpK_err, retK_nx, retK_ret, retK_err, wO_add, wO_addA, wO_sub, wO_neg, wO_rel, wO_int, wO_mul, wO_eq, wO_ne, wO_addS, wO_addAS, wO_cat, wO_catL, wO_repL, wO_lenL, wO_lenA, wO_lenT, wO_lenS, wO_intF, wO_intB, wO_absF, wO_max, wO_min, wO_listL, wO_listA, wO_listT, wO_range1, wO_range2, wO_walkL, wO_walkA, wO_walkT, wO_walkS, wO_truI, wO_truB, wO_truN, wO_truS, wO_truL, wO_truA, wO_truT, wO_slL, wO_slA, wO_slT, wO_slS, wO_ixT0, wO_ixT1, wO_ixT2, wO_ixT3, wO_ixT4, wO_ixT5, wO_ixT6, wO_ixT7, wO_ixL0, wO_ixL1, wO_ixL2, wO_ixL3, wO_ixL4, wO_ixL5, wO_ixL6, wO_ixL7, wO_eqI, wO_eqS, wO_eqBb, wO_eqNs, wO_putL, wO_putS, wO_putI, wO_ixS, wO_ixI, wO_inS, wO_notinS, wO_str0, wO_join, wO_ord, wSt_str, wCe_some, wObj_obj, drO_lst, drO_dct, drO_ins, dr_non, dr_bl, dr_int, dr_str, dr_lst, dr_sea, dr_tup, dr_dct, dr_obj, wO_some, wO_none, wRE_ok, wRE_err, cFz_shr, cFz_lst, cFz_dct, cSt_shr, cSt_own, wNon_non, cUnp_tup, unp_nil, unp_cons, wO_appG, wO_iAdd, wO_iSub, wO_walk'L, wO_walk'A, wO_walk'T, wO_walk'D, walk'_S, wDK_ok, wO_delC, wO_insO, wO_lstO, wZ_shr, wZ_lst, wZ_dct, wZ_err, wO_keyS, wO_keyI, wO_listL'L, wO_listL'A, wO_listL'T, wO_listL'D, wO_valsD, isLs_lst, wO_ixDs, wO_ixDi, wCe_putDs, wCe_putDi, wC_shr, wC_own, wC_err, wN_own, wN_err, wL_ok, wO_ixE, wO_inG, wO_ixG, wO_strI, wO_tupL, wO_tupLs, wO_isCb, wO_isCn, wO_isCi, wO_isCs, wO_isCl, wO_isCt, wO_addT, wO_mulS, wO_isdig, wO_starts, wO_ends, wO_split, wO_isdig, wO_starts, wO_ends, wO_split, cMod_iff, cShr_iff, cMul_iff, cPow_iff, cRng_iff, bne_dec, List.map_cons, List.map_nil, List.length_cons, List.length_nil, List.length_map, List.length_append, List.length_range, List.cons_append, List.nil_append, List.append_nil, List.set_cons_succ, List.set_cons_zero, and_true, true_and, and_self, true_or, or_true, eq_self, Int.reduceLT, Int.reduceLE, Nat.reduceLT, Nat.reduceLeDiff, Nat.reduceAdd, Nat.reduceSub, Int.reduceAdd, Int.reduceSub, Int.reduceMul, Int.reduceNeg, Int.reduceToNat, Int.reduceMod, Int.reduceDiv, Int.reducePow, Nat.reducePow, Int.reduceEq, Int.reduceNe, not_true_eq_false, not_false_eq_true, false_and, and_false, forall_eq', forall_eq, reduceCtorEq, exists_false, or_false, false_or, Int.zero_add, Bool.not_true, Bool.not_false, iN_non, iN_bl, iN_int, iN_str, iN_lst, iN_tup, iN_dct, iN_obj, wO_joinC, wO_ixEs, wO_ixEt, wO_ixM, wO_ixMs, wO_ixMt, wO_ixMS, List.map_eq_nil_iff, Int.toNat_natCast, Int.cast_ofNat_Int, rep_noS, rep_no0, dr_non, List.getElem?_cons_zero, List.getElem?_cons_succ, ch_S, S_tl, S_len, S_cat, S_eq, cut_map, cut_S, wO_ixSt, walk_S, inS_S, Option.some.injEq, List.cons.injEq, cpE_ap, cpT_ap, cpK_nx, bareR, wipeR, shrO, Gen.lit_0, Gen.lit_1, Gen.lit_2_len, Gen.lit_2, Gen.lit_3_len, Gen.lit_3, Gen.lit_4, Gen.lit_5_len, Gen.lit_5, Gen.lit_6_len, Gen.lit_6, Gen.lit_7, Gen.lit_8_len, Gen.lit_8, Gen.lit_9_len, Gen.lit_9, Gen.lit_10_len, Gen.lit_10, Gen.lit_11_len, Gen.lit_11, Gen.lit_12, Gen.lit_13_len, Gen.lit_13, Gen.lit_14, Gen.lit_15_len, Gen.lit_15, Gen.lit_16_len, Gen.lit_16, Gen.lit_17_len, Gen.lit_17, Gen.lit_18_len, Gen.lit_18, Gen.lit_19_len, Gen.lit_19, Gen.lit_DIGITS, Gen.lit_DIGITS_len, Gen.lit_LETTERS, Gen.lit_LETTERS_len, $xs,*] at $h:ident)
/-! the law's draws -/
theorem dN_cat (bs : List Nat) {x : Int} (h : 0 ≤ x) : dN bs ++ [.int x] = dN (bs ++ [x.toNat]) := by
  simp only [List.map_append, List.map_cons, List.map_nil, Int.toNat_of_nonneg h]
theorem draw_eq (c : Int) (n : Nat) (hn : n ≤ 1000) (O : Sto) : ∃ bs : List Nat, bs.length = n ∧ f_L_draw [.int c, .int n, .int 1048576] O = .ok (.own (.lst (dN bs))) O := by
  refine run_by (K := fun x => ∃ bs : List Nat, bs.length = n ∧ x = .ok (.own (.lst (dN bs))) O) ?_
  have e : ∀ x : Int, 0 ≤ x % 1048576 := fun x => Int.emod_nonneg _ (by omega)
  have d : ∀ x, cDivW x 1048576 = true := fun x => cDivW_mk (by omega) (by omega)
  have d3 : ∀ x, cDivW x 3 = true := fun x => cDivW_mk (by omega) (by omega)
  simp? only [m_L_draw]
  split
  · refine ⟨Nat.zero_le _, ⟨by omega, by omega⟩, ?_⟩
    refine wS_range0 (fun i ρ O' => O' = O ∧ ∃ (c : Int) (bs : List Nat) (k : Option SD), bs.length = i ∧ ρ = [some (.shr (.int c)), some (.shr (.int n)), some (.shr (.int 1048576)), some (.own (.lst (dN bs))), k, none, none]) ?_ ⟨rfl, c, [], none, rfl, by rfl⟩ ?_
    · rintro i ρ O' hi ⟨rfl, c, bs, k, hb, rfl⟩
      simp? only [l_L_draw_1, d, dN_cat bs (e _)]
      refine ⟨by rw [sizeLine_v]; omega, _, bs ++ [_], _, by simp; omega, rfl, rfl, rfl⟩
    · rintro ρ O' ⟨rfl, c, bs, k, hb, rfl⟩
      simp? only []
      exact ⟨bs, hb, rfl⟩
  · refine ⟨Nat.zero_le _, ⟨by omega, by omega⟩, ?_⟩
    refine wS_range0 (fun i ρ O' => O' = O ∧ ∃ (s : Int) (bs : List Nat) (k x6 : Option SD), 0 ≤ s ∧ s < 2147483647 ∧ bs.length = i ∧ ρ = [some (.shr (.int c)), some (.shr (.int n)), some (.shr (.int 1048576)), some (.own (.lst (dN bs))), k, some (.shr (.int s)), x6]) ?_ ⟨rfl, _, [], none, none, Int.emod_nonneg _ (by omega), Int.emod_lt_of_pos _ (by omega), rfl, by rfl⟩ ?_
    · rintro i ρ O' hi ⟨rfl, s, bs, k, x6, s0, s1, hb, rfl⟩
      simp? only [l_L_draw_2, d3, dN_cat bs (e _)]
      exact ⟨by rw [sizeLine_v]; omega, _, bs ++ [_], _, _, Int.emod_nonneg _ (by omega), Int.emod_lt_of_pos _ (by omega), by simp; omega, rfl, rfl, rfl, rfl⟩
    · rintro ρ O' ⟨rfl, s, bs, k, x6, s0, s1, hb, rfl⟩
      simp? only []
      exact ⟨bs, hb, rfl⟩
/-! simple names, as the law reads them -/
def letB (c : Nat) : Bool := decide (c ∈ w_8)
def digB (c : Nat) : Bool := decide (c ∈ w_2)
def simB (l : List Nat) : Bool := decide (1 ≤ l.length ∧ l.length ≤ 40) && (letB (l.getD 0 0) && l.all fun c => letB c || digB c)
theorem mem_let (c : Nat) : (c ∈ w_LETTERS) = (c ∈ w_8) := by
  have h1 : w_LETTERS.all (fun c => decide (c ∈ w_8)) = true := by decide +kernel
  have h2 : w_8.all (fun c => decide (c ∈ w_LETTERS)) = true := by decide +kernel
  exact propext ⟨fun h => of_decide_eq_true (List.all_eq_true.mp h1 c h), fun h => of_decide_eq_true (List.all_eq_true.mp h2 c h)⟩
theorem mem_dig : w_DIGITS = w_2 := by decide +kernel
theorem simB_short {l : List Nat} (h : l.length < 1 ∨ 40 < l.length) : simB l = false := by
  unfold simB
  rw [decide_eq_false (by omega), Bool.false_and]
theorem simB_head {l : List Nat} {c : Nat} (h0 : l[0]? = some c) (h : ¬ c ∈ w_8) : simB l = false := by
  have e : l.getD 0 0 = c := by rw [List.getD_eq_getElem?_getD, h0]; rfl
  unfold simB
  rw [e, show letB c = false from decide_eq_false h, Bool.false_and, Bool.and_false]
theorem simB_rest {l : List Nat} {c : Nat} (h1 : ¬ l.length < 1) (h2 : ¬ 40 < l.length) (h0 : l[0]? = some c) (h : c ∈ w_8) : simB l = l.all fun c => letB c || digB c := by
  have e : l.getD 0 0 = c := by rw [List.getD_eq_getElem?_getD, h0]; rfl
  unfold simB
  rw [e, show letB c = true from decide_eq_true h, decide_eq_true (by omega), Bool.true_and, Bool.true_and]
theorem simple_eq (l : List Nat) (O : Sto) (hl : l.length ≤ 100) : f_L_simple [.str (S l)] O = .ok (.shr (.bl (simB l))) O := by
  refine run_by (K := fun x => x = .ok (.shr (.bl (simB l))) O) ?_
  simp? only [szLe, szLt, m_L_simple]
  split
  · rw [simB_short (.inl (by omega))]
  split
  · rw [simB_short (.inr (by omega))]
  refine ⟨by omega, fun c hc => ?_⟩
  split
  · rename_i n1 n2 hm
    rw [simB_rest (by omega) (by omega) hc hm]
    refine wS_loop chD l (fun pre ρ O' => O' = O ∧ (pre.all fun c => letB c || digB c) = true ∧ ∃ x, ρ = [some (.shr (.str (S l))), some (.shr (.str (S w_8))), x]) ?_ ⟨rfl, rfl, _, rfl⟩ ?_
    · rintro pre d post ρ O' e ⟨rfl, hp, x, rfl⟩
      have good : (letB d || digB d) = true → (O' = O' ∧ ((pre ++ [d]).all fun c => letB c || digB c) = true) := fun h => ⟨rfl, by rw [List.all_append, hp, List.all_cons, h]; rfl⟩
      simp? only [szLe, szLt, l_L_simple_1]
      subst e
      split
      · exact ⟨(good (by unfold letB; rw [decide_eq_true (by assumption), Bool.true_or])).2, _, rfl⟩
      · rename_i h1
        split
        · exact ⟨(good (by unfold digB; rw [decide_eq_true (by assumption), Bool.or_true])).2, _, rfl⟩
        · rename_i h2
          rw [List.all_append, hp, List.all_cons, show letB d = false from decide_eq_false h1, show digB d = false from decide_eq_false h2]
          rfl
    · rintro ρ O' ⟨rfl, hp, x, rfl⟩
      simp? only [szLe, szLt]
      rw [hp]
  · rename_i hm
    rw [simB_head hc hm]
/-- .. and as the program does -/
theorem isimple_eq (l : List Nat) (O : Sto) (hl : l.length ≤ 100) : f_is_simple_name [.str (S l)] O = .ok (.shr (.bl (simB l))) O := by
  refine run_by (K := fun x => x = .ok (.shr (.bl (simB l))) O) ?_
  simp? only [szLe, szLt, m_is_simple_name, ↓wE_allG, cAllG_ap, wAE_ok, capR_nil, mem_let]
  split
  · rename_i h
    subst h
    rfl
  rename_i h0
  split
  · rw [simB_short (.inr (by omega))]
  have h1 : 0 < l.length := List.length_pos_iff.mpr h0
  refine ⟨by omega, fun c hc => ?_⟩
  split
  · rename_i n2 hm
    rw [simB_rest (by omega) (by omega) hc hm, all_map chD (fun c => letB c || digB c) l fun c hc => ?_]
    · simp? only [szLe, szLt, wAE_ok]
    simp? only [szLe, szLt, e_is_simple_name_1, mem_let, mem_dig]
    split
    · rw [show letB c = true from decide_eq_true (by assumption), Bool.true_or]
    · rw [show letB c = false from decide_eq_false (by assumption), Bool.false_or]
      rfl
  · rename_i hm
    rw [simB_head hc hm]

set_option linter.all false
set_option Elab.async false
set_option maxRecDepth 100000
set_option maxHeartbeats 400000
open PySem L2 DL Gen
open SX (S)
/-! full names -/
def simS (p : Str) : Bool := simB p.cps.toList
theorem S_tlS (p : Str) : S p.cps.toList = p := q_ rfl
theorem simple_eqS (p : Str) (O : Sto) (hl : p.length ≤ 100) : f_L_simple [.str p] O = .ok (.shr (.bl (simS p))) O := by
  have h := simple_eq p.cps.toList O (by rw [← S_len, S_tlS]; exact hl)
  rw [S_tlS] at h
  exact h
theorem isimple_eqS (p : Str) (O : Sto) (hl : p.length ≤ 100) : f_is_simple_name [.str p] O = .ok (.shr (.bl (simS p))) O := by
  have h := isimple_eq p.cps.toList O (by rw [← S_len, S_tlS]; exact hl)
  rw [S_tlS] at h
  exact h
def fulB (l : List Nat) : Bool := if 40 < l.length then false else (Txt.split (S l) (S [46])).all simS
theorem parts_len {l : List Nat} {p : Str} (h : p ∈ Txt.split (S l) (S [46])) : p.length ≤ l.length := by
  have := PyProof.Rows.part_short h
  rwa [S_len] at this
theorem full_eq (l : List Nat) (O : Sto) (hl : l.length ≤ 100) : f_L_full [.str (S l)] O = .ok (.shr (.bl (fulB l))) O := by
  refine run_by (K := fun x => x = .ok (.shr (.bl (fulB l))) O) ?_
  simp? only [szLe, szLt, m_L_full]
  unfold fulB
  split
  · rw [if_pos (by omega)]
  rw [if_neg (by omega)]
  refine ⟨by omega, ?_⟩
  refine wS_loop D.str (Txt.split (S l) (S [46])) (fun pre ρ O' => O' = O ∧ pre.all simS = true ∧ ∃ x, ρ = [some (.shr (.str (S l))), x]) ?_ ⟨rfl, rfl, _, rfl⟩ ?_
  · rintro pre p post ρ O' e ⟨rfl, hp, x, rfl⟩
    have hm := parts_len (l := l) (p := p) (by rw [e]; simp)
    rw [e]
    simp? only [szLe, szLt, l_L_full_1, simple_eqS p O' (by omega)]
    cases h : simS p with
    | false =>
      simp? only [szLe, szLt, List.all_append, List.all_cons, h]
      simp
    | true =>
      simp? only [szLe, szLt]
      exact ⟨by rw [List.all_append, List.all_cons, h, hp]; rfl, _, rfl⟩
  · rintro ρ O' ⟨rfl, hp, x, rfl⟩
    simp? only [szLe, szLt]
    rw [hp]
theorem ifull_eq (l : List Nat) (O : Sto) (hl : l.length ≤ 100) : f_is_full_name [.str (S l)] O = .ok (.shr (.bl (fulB l))) O := by
  refine run_by (K := fun x => x = .ok (.shr (.bl (fulB l))) O) ?_
  simp? only [szLe, szLt, m_is_full_name, ↓wE_allG, cAllG_ap, wAE_ok, capR_nil]
  unfold fulB
  split
  · rw [if_pos (by omega)]
  rw [if_neg (by omega)]
  refine ⟨by omega, ?_⟩
  rw [all_map D.str simS (Txt.split (S l) (S [46])) fun p hp => ?_]
  · simp? only [szLe, szLt, wAE_ok]
  have hm := parts_len (l := l) hp
  simp? only [szLe, szLt, e_is_full_name_1, isimple_eqS p O (by omega)]

set_option linter.all false
set_option Elab.async false
set_option maxRecDepth 100000
set_option maxHeartbeats 400000
open PySem L2 DL Gen
open SX (S)
/-! the law -/
theorem isi_b (b : Bool) : isiD "bool" (.bl b) = some (.bl true) := by cases b <;> rfl
def signL : List (List Nat) := [w_6, w_5, [97, 98, 46], [97, 45, 32], w_3]
def wordL : List (List Nat) := [w_15, w_16, w_10, [105, 110, 116], [109, 97, 112], w_18, w_17, w_19, w_13, w_11, w_9]
abbrev strD (l : List Nat) : D := .str (S l)
theorem sign_map : [D.str (S w_6), D.str (S w_5), D.str (S [97, 98, 46]), D.str (S [97, 45, 32]), D.str (S w_3)] = signL.map strD := rfl
theorem word_map : [D.str (S w_15), D.str (S w_16), D.str (S w_10), D.str (S [105, 110, 116]), D.str (S [109, 97, 112]), D.str (S w_18), D.str (S w_17), D.str (S w_19), D.str (S w_13), D.str (S w_11), D.str (S w_9)] = wordL.map strD := rfl
theorem signL_ok : ∀ l ∈ signL, 0 < l.length ∧ l.length ≤ 10 := by decide +kernel
theorem wordL_ok : ∀ l ∈ wordL, l.length ≤ 10 := by decide +kernel
theorem tail_ok (l : List Nat) (bs : List Nat) (ns : List Int) (c : Int) (z sg : D) (x7 x8 x9 : Option SD) (O : Sto) (Q : RS → Prop) (hl : l.length ≤ 100) (hb : bs.length = 48)
    (h : ∀ x2 x3 x4 x5 x6 x7 x8, Q (.nx [some (.shr (.sea (dI ns))), some (.shr (.int c)), x2, x3, x4, x5, x6, x7, x8, x9] O)) :
    wS k_law_1 [some (.shr (.sea (dI ns))), some (.shr (.int c)), some (.shr (.lst (dN bs))), some (.shr z), some (.shr sg), some (.shr (.str (S l))), some (.shr (.lst (wordL.map strD))), x7, x8, x9] O Q := by
  have e1 := fun (l : List Nat) (hl : l.length ≤ 100) => isimple_eq l O hl
  have e2 := fun (l : List Nat) (hl : l.length ≤ 100) => ifull_eq l O hl
  have e3 := fun (l : List Nat) (hl : l.length ≤ 100) => simple_eq l O hl
  have e4 := fun (l : List Nat) (hl : l.length ≤ 100) => full_eq l O hl
  have hw : wordL.length = 11 := rfl
  simp? only [szLe, szLt, k_law_1]
  refine ⟨by omega, fun v hv => ?_⟩
  split
  · refine ⟨by omega, fun v1 hv1 => ?_⟩
    refine ⟨by omega, by rw [hw]; omega, fun w hw1 => ?_⟩
    have hwl := wordL_ok w (List.mem_of_getElem? hw1)
    have f1 := e1 w (by omega)
    have f2 := e2 w (by omega)
    have f3 := e3 w (by omega)
    have f4 := e4 w (by omega)
    simp? only [szLe, szLt, f1, f2, f3, f4, isi_b]
    exact h _ _ _ _ _ _ _
  · have f1 := e1 l hl
    have f2 := e2 l hl
    have f3 := e3 l hl
    have f4 := e4 l hl
    simp? only [szLe, szLt, f1, f2, f3, f4, isi_b]
    exact h _ _ _ _ _ _ _
theorem simB_nil : simB [] = false := by decide +kernel
theorem fulB_nil : fulB [] = false := by decide +kernel
theorem drop_len {bs : List Nat} (i j : Int) : (cutL bs (some i) (some j)).length ≤ bs.length := cutL_len _ _ _
theorem text_ok (sg : List Nat) (xs : List Nat) (s0 s1 s2 s3 s5 s6 s7 s8 s9 : Option SD) (O : Sto) (k : List D → Sto → Prop) (h0 : 0 < sg.length) (h1 : sg.length ≤ 10) (hx : xs.length ≤ 100) (h : ∀ cs : List Nat, cs.length = xs.length → k (cs.map chD) O) :
    wL (compL [9] (nameG 9) (pureE true) (binM ixD (rdM 4) (binM modD (rdM 9) (callM lenD (consA (rdM 4) nilA)))) (List.map (fun (n : Nat) => D.int (n : Int)) xs) [] [s0, s1, s2, s3, some (.shr (strD sg)), s5, s6, s7, s8, s9] O) k := by
  refine wL_comp (fun (n : Nat) => D.int (n : Int)) xs (fun pre acc O' => O' = O ∧ ∃ cs : List Nat, cs.length = pre.length ∧ acc = cs.map chD) ?_ ⟨rfl, [], rfl, rfl⟩ ?_
  · rintro pre x post acc O' e ⟨rfl, cs, hc, rfl⟩
    have hl := congrArg List.length e
    rw [List.length_append, List.length_cons] at hl
    have d : ∀ x, cDivW x (sg.length : Nat) = true := fun x => cDivW_mk (by omega) (by omega)
    simp? only [szLe, szLt, d]
    refine ⟨by omega, Int.emod_lt_of_pos _ (by omega), fun c hcc => ?_⟩
    exact ⟨cs ++ [c], by rw [List.length_append, hc]; rfl, by rw [List.map_append]; rfl⟩
  · rintro acc O' ⟨rfl, cs, hc, rfl⟩
    exact h cs hc
theorem turn_ok (ns : List Int) (c : Int) (x1 x2 x3 x4 x5 x6 x7 x8 x9 : Option SD) (O : Sto) (Q : RS → Prop)
    (h : ∀ x1 x2 x3 x4 x5 x6 x7 x8 x9, Q (.nx [some (.shr (.sea (dI ns))), x1, x2, x3, x4, x5, x6, x7, x8, x9] O)) :
    wS l_law_1 [some (.shr (.sea (dI ns))), some (.shr (.int c)), x2, x3, x4, x5, x6, x7, x8, x9] O Q := by
  obtain ⟨q, hq⟩ : ∃ q, q = k_law_1 := ⟨_, rfl⟩
  obtain ⟨bs, hb, e1⟩ := draw_eq c 48 (by omega) O
  have e1 : f_L_draw [.int c, .int 48, .int 1048576] O = .ok (.own (.lst (dN bs))) O := e1
  have hs : signL.length = 5 := rfl
  simp? only [szLe, szLt, l_law_1, hq.symm, e1]
  refine ⟨by omega, fun v0 _ => ⟨by omega, fun v1 _ => ?_⟩⟩
  split
  · refine ⟨by omega, fun v3 _ => ⟨by omega, fun v2 _ => ?_⟩⟩
    rw [sign_map, wO_ixE _ _ _ _ (by omega)]
    refine ⟨by rw [hs]; omega, fun sg hsg => ?_⟩
    have hsl := signL_ok sg (List.mem_of_getElem? hsg)
    simp? only [szLe, szLt]
    have hc := fun i j => cutL_len bs i j
    refine text_ok sg _ _ _ _ _ _ _ _ _ _ O _ hsl.1 hsl.2 (by have := hc (some 3) (some (3 + (36 + ↑v3 % 9))); omega) fun cs hcs => ?_
    have hcl := hc (some 3) (some (3 + (36 + ↑v3 % 9)))
    simp? only [szLe, szLt]
    refine ⟨by omega, ?_⟩
    rw [word_map, hq]
    exact tail_ok cs bs ns c _ _ _ _ _ O Q (by omega) hb fun _ _ _ _ _ _ _ => h _ _ _ _ _ _ _ _ _
  · refine ⟨by omega, fun v2 _ => ?_⟩
    rw [sign_map, wO_ixE _ _ _ _ (by omega)]
    refine ⟨by rw [hs]; omega, fun sg hsg => ?_⟩
    have hsl := signL_ok sg (List.mem_of_getElem? hsg)
    simp? only [szLe, szLt]
    have hc := fun i j => cutL_len bs i j
    refine text_ok sg _ _ _ _ _ _ _ _ _ _ O _ hsl.1 hsl.2 (by have := hc (some 3) (some (3 + ↑v0 % 6)); omega) fun cs hcs => ?_
    have hcl := hc (some 3) (some (3 + ↑v0 % 6))
    simp? only [szLe, szLt]
    refine ⟨by omega, ?_⟩
    rw [word_map, hq]
    exact tail_ok cs bs ns c _ _ _ _ _ O Q (by omega) hb fun _ _ _ _ _ _ _ => h _ _ _ _ _ _ _ _ _
theorem law_true : LawTrue (runF ["_law_script", "_law_cell", "_law_numbers", "_law_size", "_law_signs", "_law_text", "_law_words", "_law_told", "_law_whole", "_law_number"].length Gen.m_law) := by
  intro ns hns
  refine run_by (K := fun x => ∃ O', x = .ok (.shr (.bl true)) O') ?_
  obtain ⟨lp, hlp⟩ : ∃ lp, lp = l_law_1 := ⟨_, rfl⟩
  simp? only [szLe, szLt, m_law, hlp.symm]
  have hc := cutL_len ns none (some 20)
  refine ⟨by rw [sizeLine_v]; omega, ?_⟩
  rw [show List.map D.int (cutL ns none (some 20)) ++ [D.int 0] = List.map D.int (cutL ns none (some 20) ++ [0]) by rw [List.map_append]; rfl]
  refine wS_loop D.int _ (fun pre ρ O' => ∃ x1 x2 x3 x4 x5 x6 x7 x8 x9, ρ = [some (.shr (.sea (dI ns))), x1, x2, x3, x4, x5, x6, x7, x8, x9]) ?_ ⟨_, _, _, _, _, _, _, _, _, rfl⟩ ?_
  · rintro pre c post ρ O' e ⟨x1, x2, x3, x4, x5, x6, x7, x8, x9, rfl⟩
    simp? only [szLe, szLt]
    rw [hlp]
    refine turn_ok ns c x1 x2 x3 x4 x5 x6 x7 x8 x9 O' _ fun x1 x2 x3 x4 x5 x6 x7 x8 x9 => ?_
    simp? only [szLe, szLt]
    exact ⟨_, _, _, _, _, _, _, _, _, rfl, rfl, rfl, rfl, rfl, rfl, rfl, rfl, rfl⟩
  · rintro ρ O' ⟨x1, x2, x3, x4, x5, x6, x7, x8, x9, rfl⟩
    have f1 := isimple_eq [] O' (by simp)
    have f2 := ifull_eq [] O' (by simp)
    simp? only [szLe, szLt, f1, f2, simB_nil, fulB_nil]
    exact ⟨_, rfl⟩
end My

open PySem PySem.W PyProof.Rows
set_option maxRecDepth 100000 in
set_option maxHeartbeats 0 in
theorem PySem.Challenge.cw_formkeeper_k04_names_holds : PySem.Challenge.rw_formkeeper_k04_names.Holds := by
  w_on; o_law; k_head; (case hw => w_witness2)
  k_fill
  refine DL.law_endT (l := PySem.Challenge.rw_formkeeper_k04_names) (qual := "law") (st := Gen.s_law) (N := ["_law_script", "_law_cell", "_law_numbers", "_law_size", "_law_signs", "_law_text", "_law_words", "_law_told", "_law_whole", "_law_number"]) (x := "_law_script") (k := 4) (m := Gen.m_law) rfl rfl Gen.sc_law ⟨rfl, by decide, by decide⟩ (fun w h Y => PySem.W.kIn_of Y) ?D ?B My.law_true
  case D =>
    intro w mg h KX G
    try delta L2.KOf
    refine' DL.df_mk (x := "law") (qual := "law") (st := Gen.s_law) (ps := ["_law_script"]) KX G ?a ?l ?c ?k (fun _ _ _ _ _ _ us hl => match us, hl with | [_], _ => rfl)
    (case a => k_is); (case l => k_is); (case c => k_is); (case k => k_is)
  case B =>
    intro w mg h KX G
    have A_is_simple_name : ∃ c P : PySem.Addr, PySem.W.tabIn (L2.KOf KX) "is_simple_name" = some (c, P) ∧ (L2.KOf KX).lookup P = none ∧ DL.DfC (L2.KOf KX) mg "is_simple_name" "is_simple_name" Gen.s_is_simple_name ["text"] c := by
      try delta L2.KOf
      refine' DL.dfC_mk (x := "is_simple_name") (qual := "is_simple_name") (st := Gen.s_is_simple_name) (ps := ["text"]) KX G ?a ?l ?cd ?k ?lc ?v ?np (fun _ _ _ _ _ _ us hl => match us, hl with | [_], _ => rfl)
      (case a => k_is); (case l => k_is); (case cd => k_is); (case k => k_is); (case lc => k_is); (case v => rfl); (case np => rfl)
    obtain ⟨c_is_simple_name, P_is_simple_name, t_is_simple_name, n_is_simple_name, D_is_simple_name⟩ := A_is_simple_name
    have A_is_full_name : ∃ c P : PySem.Addr, PySem.W.tabIn (L2.KOf KX) "is_full_name" = some (c, P) ∧ (L2.KOf KX).lookup P = none ∧ DL.DfC (L2.KOf KX) mg "is_full_name" "is_full_name" Gen.s_is_full_name ["text"] c := by
      try delta L2.KOf
      refine' DL.dfC_mk (x := "is_full_name") (qual := "is_full_name") (st := Gen.s_is_full_name) (ps := ["text"]) KX G ?a ?l ?cd ?k ?lc ?v ?np (fun _ _ _ _ _ _ us hl => match us, hl with | [_], _ => rfl)
      (case a => k_is); (case l => k_is); (case cd => k_is); (case k => k_is); (case lc => k_is); (case v => rfl); (case np => rfl)
    obtain ⟨c_is_full_name, P_is_full_name, t_is_full_name, n_is_full_name, D_is_full_name⟩ := A_is_full_name
    refine ⟨[(c_is_simple_name, P_is_simple_name), (c_is_full_name, P_is_full_name)], fun p hp => ?zc, fun p hp => ?zn, fun base TB => ?zb⟩
    case zc =>
      simp only [List.mem_cons, List.not_mem_nil, or_false] at hp
      rcases hp with rfl | rfl
      · exact ⟨"is_simple_name", _, rfl, t_is_simple_name⟩
      · exact ⟨"is_full_name", _, rfl, t_is_full_name⟩
    case zn =>
      simp only [List.mem_cons, List.not_mem_nil, or_false] at hp
      rcases hp with rfl | rfl
      · exact n_is_simple_name
      · exact n_is_full_name
    letI : DL.Tabs := ⟨([(c_is_simple_name, P_is_simple_name), (c_is_full_name, P_is_full_name)] : List (PySem.Addr × PySem.Addr)).map (·.2)⟩
    have b_all : mg "all" = none := by refine' PySem.W.mg_none_of KX G ?z; (case z => k_is)
    have b_bool : mg "bool" = none := by refine' PySem.W.mg_none_of KX G ?z; (case z => k_is)
    have b_int : mg "int" = none := by refine' PySem.W.mg_none_of KX G ?z; (case z => k_is)
    have b_isinstance : mg "isinstance" = none := by refine' PySem.W.mg_none_of KX G ?z; (case z => k_is)
    have b_len : mg "len" = none := by refine' PySem.W.mg_none_of KX G ?z; (case z => k_is)
    have b_range : mg "range" = none := by refine' PySem.W.mg_none_of KX G ?z; (case z => k_is)
    have c_DIGITS : ∃ t, mg "DIGITS" = some (.str Gen.v_DIGITS t) := by refine' DL.gstr_mk KX G ?z; (case z => k_is)
    have c_LETTERS : ∃ t, mg "LETTERS" = some (.str Gen.v_LETTERS t) := by refine' DL.gstr_mk KX G ?z; (case z => k_is)
    have c_LONGEST_NAME : ∃ t, mg "LONGEST_NAME" = some (.int 40 t) := by refine' DL.gint_mk KX G ?z; (case z => k_is)
    have T : Gen.Txt PySem.Challenge.rw_formkeeper_k04_names.prog w (L2.KOf KX) mg := ⟨b_all, b_bool, b_int, b_isinstance, b_len, b_range, c_DIGITS, c_LETTERS, c_LONGEST_NAME, True.intro⟩
    have D_L_draw : DL.Df (L2.KOf KX) mg "_law_draw" "_law_draw" Gen.s_L_draw ["_law_cell", "_law_many", "_law_bound"] := by
      try delta L2.KOf
      refine' DL.df_mk (x := "_law_draw") (qual := "_law_draw") (st := Gen.s_L_draw) (ps := ["_law_cell", "_law_many", "_law_bound"]) KX G ?a ?l ?c ?k (fun _ _ _ _ _ _ us hl => match us, hl with | [_, _, _], _ => rfl)
      (case a => k_is); (case l => k_is); (case c => k_is); (case k => k_is)
    have C_L_draw := DL.cal_of D_L_draw Gen.sc_L_draw (Gen.b_L_draw (P := PySem.Challenge.rw_formkeeper_k04_names.prog) (w := w) (base := base) T )
    have D_L_simple : DL.Df (L2.KOf KX) mg "_law_simple" "_law_simple" Gen.s_L_simple ["_law_text"] := by
      try delta L2.KOf
      refine' DL.df_mk (x := "_law_simple") (qual := "_law_simple") (st := Gen.s_L_simple) (ps := ["_law_text"]) KX G ?a ?l ?c ?k (fun _ _ _ _ _ _ us hl => match us, hl with | [_], _ => rfl)
      (case a => k_is); (case l => k_is); (case c => k_is); (case k => k_is)
    have C_L_simple := DL.cal_of D_L_simple Gen.sc_L_simple (Gen.b_L_simple (P := PySem.Challenge.rw_formkeeper_k04_names.prog) (w := w) (base := base) T )
    have D_L_full : DL.Df (L2.KOf KX) mg "_law_full" "_law_full" Gen.s_L_full ["_law_text"] := by
      try delta L2.KOf
      refine' DL.df_mk (x := "_law_full") (qual := "_law_full") (st := Gen.s_L_full) (ps := ["_law_text"]) KX G ?a ?l ?c ?k (fun _ _ _ _ _ _ us hl => match us, hl with | [_], _ => rfl)
      (case a => k_is); (case l => k_is); (case c => k_is); (case k => k_is)
    have C_L_full := DL.cal_of D_L_full Gen.sc_L_full (Gen.b_L_full (P := PySem.Challenge.rw_formkeeper_k04_names.prog) (w := w) (base := base) T C_L_simple)
    have C_is_simple_name := DL.cal_ofC D_is_simple_name Gen.sc_is_simple_name (Gen.b_is_simple_name (P := PySem.Challenge.rw_formkeeper_k04_names.prog) (w := w) (base := base) T ((.head _) : P_is_simple_name ∈ DL.Tabs.ts) (TB (c_is_simple_name, P_is_simple_name) (.head _)) )
    have C_is_full_name := DL.cal_ofC D_is_full_name Gen.sc_is_full_name (Gen.b_is_full_name (P := PySem.Challenge.rw_formkeeper_k04_names.prog) (w := w) (base := base) T ((.tail _ (.head _)) : P_is_full_name ∈ DL.Tabs.ts) (TB (c_is_full_name, P_is_full_name) (.tail _ (.head _))) C_is_simple_name)
    exact Gen.b_law T C_L_draw C_L_full C_L_simple C_is_full_name C_is_simple_name

